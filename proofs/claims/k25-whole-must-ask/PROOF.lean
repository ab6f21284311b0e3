import PyProof.Rows.All
import Wide.All
import OpenK.AllK
import Wide.FinOn
import HandS.ForMost
import HandS.Wide
import HandS.WideBits
import HandS.Conv
import HandS.IsInst
import HandS.Walk
import HandS.TupLe
import HandS.TupAny
import HandS.DictComp
import HandS.SetKeys
import HandS.ForExc
import HandS.ExcIs
import HandS.ExcInit
import HandS.ExcField
import HandS.Defaults
import HandS.CallSlots
import HandS.MakeKwOnly
import KE.DatumOrd
import PyProof.Claim2Refuses
import KE.GoesEnum
import HandS.WordsDict
import HandS.SortInts
import HandS.Zip
import PyProof.CollectIter
import PyProof.WalksMore
import HandS.TryMany
import KE.KTryMore
import HandS.TryOnly
import HandS.TupMul
import KE.KxIndex
import KE.KeyNested
import HandS.SetFor
import HandS.Strs
import HandS.SortKw
import HandS.Deep
import HandS.DictTup
import HandS.ListItems
import KE.SortData
import HandS.ClsMeth
import HandS.More
import KE.KCallOwn
import HandS.SetBool
import PySem.Challenge.RW_fewasks_k25_whole_must_ask
set_option Elab.async false
set_option linter.all false
set_option maxRecDepth 100000
/-! My own small words over the layer: steps of readings as lemmas, heaps that keep. -/
namespace FW
open PySem L2
/-! ### heaps -/
/-- all that stood stands, but at the addresses M -/
def Kp (M : List Addr) (H H' : Hp) : Prop := ∀ b o, b ∉ M → H b = some o → H' b = some o
theorem Kp.refl {M : List Addr} {H : Hp} : Kp M H H := fun _ _ _ h => h
theorem Kp.trans {M : List Addr} {H H1 H2 : Hp} (a : Kp M H H1) (b : Kp M H1 H2) : Kp M H H2 := fun c o n h => b c o n (a c o n h)
theorem Kp.mono {M N : List Addr} {H H1 : Hp} (a : Kp M H H1) (s : ∀ x ∈ M, x ∈ N) : Kp N H H1 := fun c o n h => a c o (fun z => n (s c z)) h
theorem Kp.same {H H1 : Hp} (a : Kp [] H H1) : Same H H1 := fun c o h => a c o (by simp) h
theorem Kp.of {M : List Addr} {H H1 : Hp} (a : Same H H1) : Kp M H H1 := fun c o _ h => a c o h
theorem Kp.new {M : List Addr} {H : Hp} {p : Addr} {o : HO} (h : H p = none) : Kp M H (upd H p o) := fun b u _ e => by rw [upd_ne (ne_of_none e h)]; exact e
theorem Kp.mut {M : List Addr} {H : Hp} {p : Addr} {o : HO} (h : p ∈ M) : Kp M H (upd H p o) := fun b u n e => by
  rw [upd_ne (show b ≠ p from fun z => n (by rw [z]; exact h))]; exact e
/-- a new object that was mutated or laid since: it stood not at the start -/
theorem Kp.mutN {M : List Addr} {H H1 : Hp} {p : Addr} {o : HO} (k : Kp M H H1) (h : H p = none) : Kp M H (upd H1 p o) := fun b u n e => by
  rw [upd_ne (ne_of_none e h)]; exact k b u n e
theorem Same.new {H : Hp} {p : Addr} {o : HO} (h : H p = none) : Same H (upd H p o) := fun b u e => by rw [upd_ne (ne_of_none e h)]; exact e
theorem nofree {M : List Addr} {H H1 : Hp} {p : Addr} (k : Kp M H H1) (hM : p ∉ M) (h : H1 p = none) : H p = none := by
  cases e : H p with
  | none => rfl
  | some o => rw [k p o hM e] at h; cases h
theorem upd_get {H : Hp} {a b : Addr} {o u : HO} (h : b ≠ a) (e : H b = some u) : upd H a o b = some u := by rw [upd_ne h]; exact e
theorem upd_none {H : Hp} {a b : Addr} {o : HO} (e : upd H a o b = none) : H b = none ∧ b ≠ a := by
  by_cases h : b = a
  · subst h; rw [upd_same] at e; cases e
  · rw [upd_ne h] at e; exact ⟨e, h⟩
/-- all but p is as it was -/
def Off (p : Addr) (H H' : Hp) : Prop := ∀ b, b ≠ p → H' b = H b
theorem Off.get {p b : Addr} {H H' : Hp} {o : HO} (k : Off p H H') (n : b ≠ p) (e : H b = some o) : H' b = some o := (k b n).trans e
theorem Off.kp {p : Addr} {M : List Addr} {H H' : Hp} (k : Off p H H') (m : p ∈ M) : Kp M H H' := fun b o n e => (k b (fun z => n (by rw [z]; exact m))).trans e
theorem Off.trans {p : Addr} {H H1 H2 : Hp} (a : Off p H H1) (b : Off p H1 H2) : Off p H H2 := fun x n => (b x n).trans (a x n)
theorem Off.keep {p : Addr} {M : List Addr} {H H1 H2 : Hp} (a : Kp M H H1) (b : Off p H1 H2) (n : H p = none) : Kp M H H2 := fun x o m e => (b x (ne_of_none e n)).trans (a x o m e)
/-- a list's change keeps the tuples -/
theorem Off.tup {p b : Addr} {H H' : Hp} {xs ys : List V} (k : Off p H H') (hp : H p = some (.lst xs)) (e : H b = some (.tup ys)) : H' b = some (.tup ys) := k.get (ne_of e hp (fun z => nomatch z)) e
/-- what keeps the tuples -/
def KT (H H' : Hp) : Prop := ∀ b xs, H b = some (.tup xs) → H' b = some (.tup xs)
theorem KT.refl {H : Hp} : KT H H := fun _ _ e => e
theorem KT.of {H H' : Hp} (k : Same H H') : KT H H' := fun b xs e => k _ _ e
theorem KT.off {p : Addr} {H H' : Hp} {xs : List V} (k : Off p H H') (e : H p = some (.lst xs)) : KT H H' := fun b ys e2 => k.tup e e2
theorem KT.trans {H H1 H2 : Hp} (a : KT H H1) (b : KT H1 H2) : KT H H2 := fun c xs e => b c xs (a c xs e)
theorem KT.kp {M : List Addr} {H H' : Hp} (k : Kp M H H') (h : ∀ b ∈ M, ∃ xs, H b = some (.lst xs)) : KT H H' := fun b ys e => k b _ (fun z => by
  obtain ⟨xs, e2⟩ := h b z
  rw [e] at e2; cases e2) e
theorem KT.upd {H H1 : Hp} {D : Addr} {o : HO} (k : KT H H1) (h : H D = none) : KT H (upd H1 D o) := fun b xs e => by rw [upd_ne (ne_of_none e h)]; exact k b xs e
theorem KT.updL {H : Hp} {D : Addr} {o : HO} {ys : List V} (h : H D = some (.lst ys)) : KT H (L2.upd H D o) := fun b xs e => upd_get (ne_of e h (fun z => nomatch z)) e
/-! ### rules by names -/
/-- a new object o -/
def Nw (o : HO) (H : Hp) (Q : VK) : Prop := ∀ p, H p = none → Q (.ref p) (upd H p o)
def rLen (K : PySem.W.Frag) : List V → Hp → VK → Prop := fun xs H Q => ∃ p ys, xs = [.ref p] ∧ (SqL K H p ys ∨ SqT K H p ys) ∧ Q (.int ys.length) H
def rMin2 : List V → Hp → VK → Prop := fun xs H Q => ∃ i j, xs = [.int i, .int j] ∧ Q (.int (if j < i then j else i)) H
def rMax2 : List V → Hp → VK → Prop := fun xs H Q => ∃ i j, xs = [.int i, .int j] ∧ Q (.int (if j > i then j else i)) H
def rListOf (K : PySem.W.Frag) : List V → Hp → VK → Prop := fun xs H Q => ∃ p ys, xs = [.ref p] ∧ (SqL K H p ys ∨ SqT K H p ys) ∧ ∀ l, H l = none → Q (.ref l) (upd H l (.lst ys))
def rTupOf (K : PySem.W.Frag) : List V → Hp → VK → Prop := fun xs H Q => ∃ p ys, xs = [.ref p] ∧ ((SqL K H p ys ∧ ∀ l, H l = none → Q (.ref l) (upd H l (.tup ys))) ∨ (SqT K H p ys ∧ Q (.ref p) H))
def rRg2 (x y : V) (H : Hp) (R : Int → Int → Hp → Prop) : Prop := ∃ i j, x = .int i ∧ y = .int j ∧ R i j H
def rBits (x : V) (H : Hp) (Q : VK) : Prop := ∃ i, x = .int i ∧ Q (.int (Builtin.Int.intBits i : Nat)) H
def rRng1 (vs : List V) (H : Hp) (R : It → Hp → Prop) : Prop := ∃ j : Int, vs = [.int j] ∧ -(2 ^ 62) ≤ j ∧ j < 2 ^ 62 ∧ R (Itr 0 j.toNat) H
def rRng2 (vs : List V) (H : Hp) (R : It → Hp → Prop) : Prop := ∃ i j : Int, vs = [.int i, .int j] ∧ (-(2 ^ 62) ≤ i ∧ i < 2 ^ 62 ∧ -(2 ^ 62) ≤ j ∧ j < 2 ^ 62) ∧ R (Itr i (j - i).toNat) H
def rItL (K : PySem.W.Frag) (x : V) (H : Hp) (R : It → Hp → Prop) : Prop := ∃ a, x = .ref a ∧ (∃ xs, SqL K H a xs) ∧ R (Itl K a) H
def rItT (K : PySem.W.Frag) (x : V) (H : Hp) (R : It → Hp → Prop) : Prop := ∃ a, x = .ref a ∧ (∃ xs, SqT K H a xs) ∧ R (Itt K a) H
def rDIn (x y : V) (H : Hp) (Q : VK) : Prop := ∃ a o, x = .ref a ∧ DGet H a y o ∧ Q (.bl o.isSome) H
def rDNotIn (x y : V) (H : Hp) (Q : VK) : Prop := ∃ a o, x = .ref a ∧ DGet H a y o ∧ Q (.bl (!o.isSome)) H
def rDGet (x y : V) (H : Hp) (Q : VK) : Prop := ∃ a v, x = .ref a ∧ DGet H a y (some v) ∧ Q v H
def rDGet2 (a : Addr) (y z : V) (H : Hp) (Q : VK) : Prop := ∃ o, DGet H a y o ∧ Q (o.getD z) H
def rDPut (x y v : V) (H : Hp) (R : Hp → Prop) : Prop := ∃ a H4, x = .ref a ∧ DPut H a y v H4 ∧ R H4
def rDSetd (a : Addr) (y z : V) (H : Hp) (Q : VK) : Prop := ∃ (kvs : List (Key × V)) (k : Key), H a = some (.dK kvs) ∧ y = kV k ∧ kvs.length < sizeLine ∧ (∀ v, valV kvs k = some v → Q v H) ∧ (valV kvs k = none → Q z (upd H a (.dK (putK kvs k z))))
def rIsD (x : V) (H : Hp) (R : Addr → Hp → Prop) : Prop := ∃ a, x = .ref a ∧ IsD H a ∧ R a H
def rIsBl : R2 := fun x y H Q => ∃ a b, x = .bl a ∧ y = .bl b ∧ Q (.bl (decide (a = b))) H
def rIsNon : R2 := fun x y H Q => y = .non ∧ Q (.bl (decide (x = .non))) H
def rNotNon : R2 := fun x y H Q => y = .non ∧ Q (.bl (!decide (x = .non))) H
def rTru (K : PySem.W.Frag) (x : V) (H : Hp) (R : Bool → Hp → Prop) : Prop := ∃ k, TruV K x H k ∧ R k H
def tTru (K : PySem.W.Frag) (ta : TE) : TT := fun σ H R => ta σ H fun x H' => ∃ k, TruV K x H' k ∧ R k H'
def rSortD (xs : List V) (H : Hp) (Q : VK) : Prop := ∃ (a : Addr) (kvs : List (Key × V)) (ks : List Int), xs = [.ref a] ∧ Rd H a (.dK kvs) ∧ kvs.map (·.1) = ks.map Sum.inl ∧ ks.length < 64 ∧
    ∀ (ys : List Int) (p : Addr), ys.Perm ks → ys.Pairwise (· ≤ ·) → H p = none → Q (.ref p) (upd H p (.lst (ys.map V.int)))
section
variable {X : Cx}
theorem o_isN : OpR X (compareOp .Is) rIsNon := op_isN
theorem o_notN : OpR X (compareOp .IsNot) rNotNon := op_notN
theorem p_truth {a : Expr} {ta : TE} (ha : PE X a ta) (he : ∀ whole, isTrue a X.env whole = (do let v ← whole; standAt a.pos; holding [v] (truthy v))) : PT X a (tTru X.K ta) := pt_truth ha he
theorem c_sortD (hc : X.calm = true) : CallR X (.builtin "sorted") rSortD := call_sortedDI hc
theorem c_len : CallR X (.builtin "len") (rLen X.K) := call_len_seq
theorem c_listOf : CallR X (.type "list") (rListOf X.K) := call_list_of
theorem c_tupOf : CallR X (.type "tuple") (rTupOf X.K) := call_tuple_of
end
theorem kb_int_int : kitB "int" "int" = some true := by decide +kernel
theorem kb_int_bool : kitB "int" "bool" = some false := by decide +kernel
theorem kb_int_str : kitB "int" "str" = some false := by decide +kernel
theorem kb_int_tuple : kitB "int" "tuple" = some false := by decide +kernel
theorem kb_int_list : kitB "int" "list" = some false := by decide +kernel
theorem kb_int_dict : kitB "int" "dict" = some false := by decide +kernel
theorem kb_bool_int : kitB "bool" "int" = some true := by decide +kernel
theorem kb_bool_bool : kitB "bool" "bool" = some true := by decide +kernel
theorem kb_bool_str : kitB "bool" "str" = some false := by decide +kernel
theorem kb_bool_tuple : kitB "bool" "tuple" = some false := by decide +kernel
theorem kb_bool_list : kitB "bool" "list" = some false := by decide +kernel
theorem kb_bool_dict : kitB "bool" "dict" = some false := by decide +kernel
theorem kb_str_int : kitB "str" "int" = some false := by decide +kernel
theorem kb_str_bool : kitB "str" "bool" = some false := by decide +kernel
theorem kb_str_str : kitB "str" "str" = some true := by decide +kernel
theorem kb_str_tuple : kitB "str" "tuple" = some false := by decide +kernel
theorem kb_str_list : kitB "str" "list" = some false := by decide +kernel
theorem kb_str_dict : kitB "str" "dict" = some false := by decide +kernel
theorem kb_tuple_int : kitB "tuple" "int" = some false := by decide +kernel
theorem kb_tuple_bool : kitB "tuple" "bool" = some false := by decide +kernel
theorem kb_tuple_str : kitB "tuple" "str" = some false := by decide +kernel
theorem kb_tuple_tuple : kitB "tuple" "tuple" = some true := by decide +kernel
theorem kb_tuple_list : kitB "tuple" "list" = some false := by decide +kernel
theorem kb_tuple_dict : kitB "tuple" "dict" = some false := by decide +kernel
theorem kb_list_int : kitB "list" "int" = some false := by decide +kernel
theorem kb_list_bool : kitB "list" "bool" = some false := by decide +kernel
theorem kb_list_str : kitB "list" "str" = some false := by decide +kernel
theorem kb_list_tuple : kitB "list" "tuple" = some false := by decide +kernel
theorem kb_list_list : kitB "list" "list" = some true := by decide +kernel
theorem kb_list_dict : kitB "list" "dict" = some false := by decide +kernel
theorem kb_dict_int : kitB "dict" "int" = some false := by decide +kernel
theorem kb_dict_bool : kitB "dict" "bool" = some false := by decide +kernel
theorem kb_dict_str : kitB "dict" "str" = some false := by decide +kernel
theorem kb_dict_tuple : kitB "dict" "tuple" = some false := by decide +kernel
theorem kb_dict_list : kitB "dict" "list" = some false := by decide +kernel
theorem kb_dict_dict : kitB "dict" "dict" = some true := by decide +kernel
theorem kb_NoneType_int : kitB "NoneType" "int" = some false := by decide +kernel
theorem kb_NoneType_bool : kitB "NoneType" "bool" = some false := by decide +kernel
theorem kb_NoneType_str : kitB "NoneType" "str" = some false := by decide +kernel
theorem kb_NoneType_tuple : kitB "NoneType" "tuple" = some false := by decide +kernel
theorem kb_NoneType_list : kitB "NoneType" "list" = some false := by decide +kernel
theorem kb_NoneType_dict : kitB "NoneType" "dict" = some false := by decide +kernel
/-! ### steps -/
section
variable {K : PySem.W.Frag} {σ : St} {H : Hp} {Q : VK} {nx bk ct : St → Hp → Prop} {rt : VK} {v : V}
theorem w_seq {t u : TS} (h : t ⟨u ⟨nx, rt, bk, ct⟩, rt, bk, ct⟩ σ H) : tSeq t u ⟨nx, rt, bk, ct⟩ σ H := h
theorem w_seqA {te : TE} {g : TG} {u : TS} (h : te σ H fun x H1 => g x σ H1 (u ⟨nx, rt, bk, ct⟩)) : tSeq (tAsg te g) u ⟨nx, rt, bk, ct⟩ σ H := h
theorem w_seqD {te : TE} {u : TS} (h : te σ H fun _ H1 => u ⟨nx, rt, bk, ct⟩ σ H1) : tSeq (tDrop te) u ⟨nx, rt, bk, ct⟩ σ H := h
theorem w_seqF {wi : TI} {g : TG} {tb u : TS} (h : tFor wi g tb ⟨u ⟨nx, rt, bk, ct⟩, rt, bk, ct⟩ σ H) : tSeq (tFor wi g tb) u ⟨nx, rt, bk, ct⟩ σ H := h
theorem w_seqW {c : TT} {tb u : TS} (h : tWhile c tb ⟨u ⟨nx, rt, bk, ct⟩, rt, bk, ct⟩ σ H) : tSeq (tWhile c tb) u ⟨nx, rt, bk, ct⟩ σ H := h
theorem w_seqG {i : Nat} {te : TE} {ti : TIp} {u : TS} (h : tAug i te ti ⟨u ⟨nx, rt, bk, ct⟩, rt, bk, ct⟩ σ H) : tSeq (tAug i te ti) u ⟨nx, rt, bk, ct⟩ σ H := h
/-- a statement whose ways meet: what follows is taken as U, of which R is enough -/
theorem w_seqJ {t u : TS} (R : St → Hp → Prop) (h2 : ∀ σ' H', R σ' H' → u ⟨nx, rt, bk, ct⟩ σ' H') (h1 : ∀ U : St → Hp → Prop, (∀ σ' H', R σ' H' → U σ' H') → t ⟨U, rt, bk, ct⟩ σ H) : tSeq t u ⟨nx, rt, bk, ct⟩ σ H := h1 _ h2
theorem w_var {i : Nat} (e : σ[i]? = some (some v)) (h : Q v H) : tVar i σ H Q := ⟨v, e, h⟩
theorem w_c (h : Q v H) : tC v σ H Q := h
theorem w_asg {te : TE} {g : TG} (h : te σ H fun x H1 => g x σ H1 nx) : tAsg te g ⟨nx, rt, bk, ct⟩ σ H := h
theorem w_name {i : Nat} {R : St → Hp → Prop} (h : R (σ.set i (some v)) H) : gName i v σ H R := h
theorem w_op {r : R2} {ta tb : TE} (h : ta σ H fun x H1 => tb σ H1 fun y H2 => r x y H2 Q) : tOp r ta tb σ H Q := h
theorem w_un {r : V → Hp → VK → Prop} {ta : TE} (h : ta σ H fun x H1 => r x H1 Q) : tUn r ta σ H Q := h
theorem w_neg {i : Int} (h : Q (.int (-i)) H) : rU (fun i => .int (-i)) (.int i) H Q := ⟨i, rfl, h⟩
theorem w_i {C : Int → Int → Prop} {g : Int → Int → V} {i j : Int} (c : C i j) (h : Q (g i j) H) : rI C g (.int i) (.int j) H Q := ⟨i, j, rfl, rfl, c, h⟩
theorem w_i0 {g : Int → Int → V} {i j : Int} (h : Q (g i j) H) : rI0 g (.int i) (.int j) H Q := ⟨i, j, rfl, rfl, h⟩
theorem w_eqI {i j : Int} (h : Q (.bl (decide (i = j))) H) : rEq (.int i) (.int j) H Q := ⟨rfl, by
  have e : decide (V.int i = V.int j) = decide (i = j) := by
    by_cases q : i = j
    · subst q; rw [decide_eq_true rfl, decide_eq_true rfl]
    · rw [decide_eq_false q, decide_eq_false (fun z => q (V.int.inj z))]
  rw [e]; exact h⟩
theorem w_neI {i j : Int} (h : Q (.bl (!decide (i = j))) H) : rNe (.int i) (.int j) H Q := ⟨rfl, by
  have e : decide (V.int i = V.int j) = decide (i = j) := by
    by_cases q : i = j
    · subst q; rw [decide_eq_true rfl, decide_eq_true rfl]
    · rw [decide_eq_false q, decide_eq_false (fun z => q (V.int.inj z))]
  rw [e]; exact h⟩
theorem w_ixL {p : Addr} {xs : List V} {i : Int} (h1 : SqL K H p xs) (h2 : atI xs i = some v) (h : Q v H) : rIxL K (.ref p) (.int i) H Q := ⟨p, xs, i, v, rfl, rfl, h1, h2, h⟩
theorem w_ixT {p : Addr} {xs : List V} {i : Int} (h1 : SqT K H p xs) (h2 : atI xs i = some v) (h : Q v H) : rIxT K (.ref p) (.int i) H Q := ⟨p, xs, i, v, rfl, rfl, h1, h2, h⟩
theorem w_ixSL {p : Addr} {xs : List V} {i : Int} (h1 : SqL K H p xs) (h2 : atI xs i = some v) (h : Q v H) : rIx K (.ref p) (.int i) H Q := .inl ⟨p, xs, i, v, rfl, rfl, h1, h2, h⟩
theorem w_ixST {p : Addr} {xs : List V} {i : Int} (h1 : SqT K H p xs) (h2 : atI xs i = some v) (h : Q v H) : rIx K (.ref p) (.int i) H Q := .inr (.inl ⟨p, xs, i, v, rfl, rfl, h1, h2, h⟩)
theorem w_neB {x y : Bool} (h : Q (.bl (!decide (x = y))) H) : rNe (.bl x) (.bl y) H Q := ⟨rfl, by
  have e : decide (V.bl x = V.bl y) = decide (x = y) := by
    by_cases q : x = y
    · subst q; rw [decide_eq_true rfl, decide_eq_true rfl]
    · rw [decide_eq_false q, decide_eq_false (fun z => q (V.bl.inj z))]
  rw [e]; exact h⟩
theorem w_eqN (h : Q (.bl true) H) : rEq .non .non H Q := ⟨rfl, h⟩
theorem w_popAt {l : Addr} {xs : List V} {i : Int} {k : Nat} {y : V} (h1 : H l = some (.lst xs)) (h2 : -(2 ^ 63) ≤ i) (h3 : i < 2 ^ 63) (h4 : seqIndex? i xs.length = some k) (h5 : xs[k]? = some y) (h : ∀ H1, H1 l = some (.lst (xs.eraseIdx k)) → Off l H H1 → Q y H1) : rPopAt (.ref l) [.int i] H Q :=
  ⟨l, xs, i, k, y, rfl, rfl, h1, h2, h3, h4, h5, h _ upd_same fun x hx => upd_ne hx⟩
theorem w_sub {to ti : TE} {t : TSet} {R : St → Hp → Prop} (h : to σ H fun o H1 => ti σ H1 fun i H2 => t o i v H2 fun H3 => R σ H3) : gSub to ti t v σ H R := h
theorem w_setL {p : Addr} {xs ys : List V} {k : Int} {j : Nat} {R : Hp → Prop} (h1 : H p = some (.lst xs)) (h2 : ixN xs.length k = some j) (e : xs.set j v = ys) (h : ∀ H1, H1 p = some (.lst ys) → Off p H H1 → R H1) : rSetL (.ref p) (.int k) v H R :=
  ⟨p, xs, k, j, rfl, rfl, h1, h2, by rw [e]; exact h _ upd_same fun x hx => upd_ne hx⟩
theorem w_if {c : TT} {t u : TS} (h : c σ H fun b H1 => if b = true then t ⟨nx, rt, bk, ct⟩ σ H1 else u ⟨nx, rt, bk, ct⟩ σ H1) : tIfS c t u ⟨nx, rt, bk, ct⟩ σ H := h
theorem w_test {t : TE} {R : Bool → Hp → Prop} (h : t σ H fun x H' => ∃ k, x = .bl k ∧ R k H') : tTest t σ H R := h
theorem w_tb {t : TE} {R : Bool → Hp → Prop} (h : t σ H fun x H' => ∃ k, x = .bl k ∧ R k H') : tB t σ H R := h
theorem w_bl {b : Bool} {R : Bool → Prop} (h : R b) : ∃ k, V.bl b = .bl k ∧ R k := ⟨b, rfl, h⟩
theorem w_and {t u : TT} {R : Bool → Hp → Prop} (h : t σ H fun c H1 => if c = true then u σ H1 R else R false H1) : tAnd t u σ H R := h
theorem w_or {t u : TT} {R : Bool → Hp → Prop} (h : t σ H fun c H1 => if c = true then R true H1 else u σ H1 R) : tOr t u σ H R := h
theorem w_not {t : TT} {R : Bool → Hp → Prop} (h : t σ H fun c H1 => R (!c) H1) : tNot t σ H R := h
theorem w_andV {ta tb : TE} (h : ta σ H fun x H1 => ∃ c, x = .bl c ∧ if c = true then tb σ H1 Q else Q (.bl false) H1) : tAndV ta tb σ H Q := h
theorem w_orV {ta tb : TE} (h : ta σ H fun x H1 => ∃ c, x = .bl c ∧ if c = true then Q (.bl true) H1 else tb σ H1 Q) : tOrV ta tb σ H Q := h
theorem w_notV {ta : TE} (h : ta σ H fun x H1 => ∃ c, x = .bl c ∧ Q (.bl (!c)) H1) : tNotV ta σ H Q := h
theorem w_ite {p : Prop} {inst : Decidable p} {A B : Prop} (h1 : p → A) (h2 : ¬ p → B) : if decide p = true then A else B := by
  by_cases h : p
  · rw [if_pos (decide_eq_true h)]; exact h1 h
  · rw [if_neg (fun z => h (of_decide_eq_true z))]; exact h2 h
theorem w_itN {p : Prop} {inst : Decidable p} {A B : Prop} (h1 : ¬ p → A) (h2 : p → B) : if (!decide p) = true then A else B := by
  by_cases h : p
  · rw [decide_eq_true h]; exact h2 h
  · rw [decide_eq_false h]; exact h1 h
theorem w_yes {p : Prop} {inst : Decidable p} {A B : Prop} (h : p) (a : A) : if decide p = true then A else B := by rw [if_pos (decide_eq_true h)]; exact a
theorem w_no {p : Prop} {inst : Decidable p} {A B : Prop} (h : ¬ p) (b : B) : if decide p = true then A else B := by rw [if_neg (fun z => h (of_decide_eq_true z))]; exact b
theorem w_nyes {p : Prop} {inst : Decidable p} {A B : Prop} (h : p) (b : B) : if (!decide p) = true then A else B := by rw [decide_eq_true h]; exact b
theorem w_nno {p : Prop} {inst : Decidable p} {A B : Prop} (h : ¬ p) (a : A) : if (!decide p) = true then A else B := by rw [decide_eq_false h]; exact a
theorem w_itB {b : Bool} {A B : Prop} (h1 : b = true → A) (h2 : b = false → B) : if b = true then A else B := by
  cases b with
  | true => exact h1 rfl
  | false => exact h2 rfl
theorem w_itNB {b : Bool} {A B : Prop} (h1 : b = false → A) (h2 : b = true → B) : if (!b) = true then A else B := by
  cases b with
  | true => exact h2 rfl
  | false => exact h1 rfl
theorem w_nT {A B : Prop} (h : B) : if (!true) = true then A else B := h
theorem w_nF {A B : Prop} (h : A) : if (!false) = true then A else B := h
theorem w_ret {te : TE} (h : te σ H rt) : tRet te ⟨nx, rt, bk, ct⟩ σ H := h
theorem w_drop {te : TE} (h : te σ H fun _ H1 => nx σ H1) : tDrop te ⟨nx, rt, bk, ct⟩ σ H := h
theorem w_next (h : nx σ H) : tNext ⟨nx, rt, bk, ct⟩ σ H := h
theorem w_cb {r : List V → Hp → VK → Prop} {t : TA} (h : t σ H fun vs H1 => r vs H1 Q) : tCB r t σ H Q := h
theorem w_nil {R : List V → Hp → Prop} (h : R [] H) : tNil σ H R := h
theorem w_cons {ta : TE} {tr : TA} {R : List V → Hp → Prop} (h : ta σ H fun x H1 => tr σ H1 fun xs H2 => R (x :: xs) H2) : tCons ta tr σ H R := h
theorem w_call {sp : Sp} {E : XK} {t : TA} (h : t σ H fun vs H1 => sp (vs ++ []) H1 Q E) : tCall sp [] E t σ H Q := h
theorem w_lst {t : TA} (h : t σ H fun xs H1 => xs.length ≤ sizeLine ∧ Nw (.lst xs) H1 Q) : tLst t σ H Q := h
theorem w_tup {t : TA} (h : t σ H fun xs H1 => xs.length ≤ sizeLine ∧ Nw (.tup xs) H1 Q) : tTup t σ H Q := h
theorem w_new {o : HO} (h : ∀ p H2, H p = none → H2 p = some o → Same H H2 → Q (.ref p) H2) : Nw o H Q := fun p hp => h p _ hp upd_same (Same.new hp)
theorem w_sz {n : Nat} {o : HO} (h1 : n ≤ sizeLine) (h : Nw o H Q) : n ≤ sizeLine ∧ Nw o H Q := ⟨h1, h⟩
theorem w_app {p : Addr} {xs : List V} (h1 : H p = some (.lst xs)) (h2 : xs.length < sizeLine) (h : ∀ H1, H1 p = some (.lst (xs ++ [v])) → Off p H H1 → Q .non H1) : rAppend (.ref p) [v] H Q :=
  ⟨p, xs, v, rfl, rfl, h1, h2, h _ upd_same fun x hx => upd_ne hx⟩
theorem w_bm {r : V → List V → Hp → VK → Prop} {to : TE} {t : TA} (h : to σ H fun x H1 => tyV K "list" x H1 ∧ t σ H1 fun xs H2 => r x xs H2 Q) : tBM K "list" r to t σ H Q := h
theorem w_tyL {p : Addr} {xs : List V} {A : Prop} (h1 : H p = some (.lst xs)) (h : A) : tyV K "list" (.ref p) H ∧ A := ⟨.inl ⟨rfl, _, .inl (.inl h1)⟩, h⟩
theorem w_lenL {p : Addr} {ys : List V} (h1 : SqL K H p ys) (h : Q (.int ys.length) H) : rLen K [V.ref p] H Q := ⟨p, ys, rfl, .inl h1, h⟩
theorem w_lenT {p : Addr} {ys : List V} (h1 : SqT K H p ys) (h : Q (.int ys.length) H) : rLen K [V.ref p] H Q := ⟨p, ys, rfl, .inr h1, h⟩
theorem w_min2 {i j : Int} (h : Q (.int (if j < i then j else i)) H) : rMin2 [V.int i, V.int j] H Q := ⟨i, j, rfl, h⟩
theorem w_max2 {i j : Int} (h : Q (.int (if j > i then j else i)) H) : rMax2 [V.int i, V.int j] H Q := ⟨i, j, rfl, h⟩
theorem w_listL {p : Addr} {ys : List V} (h1 : SqL K H p ys) (h : ∀ l H2, H l = none → H2 l = some (.lst ys) → Same H H2 → Q (.ref l) H2) : rListOf K [V.ref p] H Q := ⟨p, ys, rfl, .inl h1, w_new h⟩
theorem w_tupL {p : Addr} {ys : List V} (h1 : SqL K H p ys) (h : ∀ l H2, H l = none → H2 l = some (.tup ys) → Same H H2 → Q (.ref l) H2) : rTupOf K [V.ref p] H Q := ⟨p, ys, rfl, .inl ⟨h1, w_new h⟩⟩
theorem w_sum {p : Addr} {ns : List Int} (h1 : SqL K H p (ns.map V.int)) (h : Q (.int ns.sum) H) : rSum K [V.ref p] H Q := ⟨p, ns, rfl, h1, h⟩
theorem w_tupRg {te : St → Hp → (Int → Int → Hp → Prop) → Prop} (h : te σ H fun a b H1 => RgOk a b ∧ Nw (.tup (rgV a b)) H1 Q) : tTupRg te σ H Q := h
theorem w_rg2 {ta tb : TE} {R : Int → Int → Hp → Prop} (h : ta σ H fun x H1 => tb σ H1 fun y H2 => rRg2 x y H2 R) : tRg2 ta tb σ H R := h
theorem w_rg2' {i j : Int} {R : Int → Int → Hp → Prop} (h : R i j H) : rRg2 (.int i) (.int j) H R := ⟨i, j, rfl, rfl, h⟩
theorem w_bits {to : TE} (h : to σ H fun x H1 => rBits x H1 Q) : tBits to σ H Q := h
theorem w_bits' {i : Int} (h : Q (.int (Builtin.Int.intBits i : Nat)) H) : rBits (.int i) H Q := ⟨i, rfl, h⟩
theorem w_isi {x : V} {a n : String} {b : Bool} (ty : TyX K H x (.type a)) (hk : kitB a n = some b) (h : Q (.bl b) H) : rIsi K [x, .ty n] H Q := ⟨x, .ty n, _, _, b, rfl, .ty n, ty, kit_ty hk, h⟩
theorem w_eqS {x y : Str} (h : Q (.bl (decide (x = y))) H) : rEq (.str x) (.str y) H Q := ⟨rfl, by
  have e : decide (V.str x = V.str y) = decide (x = y) := by
    by_cases q : x = y
    · subst q; rw [decide_eq_true rfl, decide_eq_true rfl]
    · rw [decide_eq_false q, decide_eq_false (fun z => q (V.str.inj z))]
  rw [e]; exact h⟩
theorem w_eqB {x y : Bool} (h : Q (.bl (decide (x = y))) H) : rEq (.bl x) (.bl y) H Q := ⟨rfl, by
  have e : decide (V.bl x = V.bl y) = decide (x = y) := by
    by_cases q : x = y
    · subst q; rw [decide_eq_true rfl, decide_eq_true rfl]
    · rw [decide_eq_false q, decide_eq_false (fun z => q (V.bl.inj z))]
  rw [e]; exact h⟩
/-! targets, dicts -/
theorem w_gtup {a : Addr} {xs : List V} {n : Nat} {t : TGs} {R : St → Hp → Prop} (h1 : SqT K H a xs) (h2 : xs.length = n) (h : t xs σ H R) : gTup K n t (.ref a) σ H R := ⟨a, xs, rfl, h1, h2, h⟩
theorem w_gcons {t : TG} {u : TGs} {r : List V} {R : St → Hp → Prop} (h : t v σ H fun σ' H' => u r σ' H' R) : gCons t u (v :: r) σ H R := ⟨v, r, rfl, h⟩
theorem w_gnil {R : St → Hp → Prop} (h : R σ H) : gNil [] σ H R := ⟨rfl, h⟩
theorem w_din {ty td : TE} (h : ty σ H fun y H1 => td σ H1 fun x H2 => rDIn x y H2 Q) : tDIn ty td σ H Q := h
theorem w_dnotin {ty td : TE} (h : ty σ H fun y H1 => td σ H1 fun x H2 => rDNotIn x y H2 Q) : tDNotIn ty td σ H Q := h
theorem w_dget {ty td : TE} (h : td σ H fun x H1 => ty σ H1 fun y H2 => rDGet x y H2 Q) : tDGet td ty σ H Q := h
theorem w_dinI {a : Addr} {kvs : List (Key × V)} {n : Int} (e : H a = some (.dK kvs)) (h : Q (.bl (valV kvs (Sum.inl n)).isSome) H) : rDIn (.ref a) (.int n) H Q := ⟨a, _, rfl, DGet.k (k := Sum.inl n) e, h⟩
theorem w_dnotinI {a : Addr} {kvs : List (Key × V)} {n : Int} (e : H a = some (.dK kvs)) (h : Q (.bl (!(valV kvs (Sum.inl n)).isSome)) H) : rDNotIn (.ref a) (.int n) H Q := ⟨a, _, rfl, DGet.k (k := Sum.inl n) e, h⟩
theorem w_dgetI {a : Addr} {kvs : List (Key × V)} {n : Int} (e : H a = some (.dK kvs)) (e2 : valV kvs (Sum.inl n) = some v) (h : Q v H) : rDGet (.ref a) (.int n) H Q := ⟨a, v, rfl, e2 ▸ DGet.k (k := Sum.inl n) e, h⟩
theorem w_dnewK (h : Nw (.dK []) H Q) : tDNewK σ H Q := h
theorem w_dput {td ty tv : TE} (h : tv σ H fun v H1 => td σ H1 fun x H2 => ty σ H2 fun y H3 => rDPut x y v H3 fun H4 => nx σ H4) : sDPut td ty tv ⟨nx, rt, bk, ct⟩ σ H := h
theorem w_seqP {td ty tv : TE} {u : TS} (h : tv σ H fun v H1 => td σ H1 fun x H2 => ty σ H2 fun y H3 => rDPut x y v H3 fun H4 => u ⟨nx, rt, bk, ct⟩ σ H4) : tSeq (sDPut td ty tv) u ⟨nx, rt, bk, ct⟩ σ H := h
theorem w_dputI {a : Addr} {kvs : List (Key × V)} {n : Int} {R : Hp → Prop} (e : H a = some (.dK kvs)) (hl : kvs.length < sizeLine) (h : ∀ H1, H1 a = some (.dK (putK kvs (Sum.inl n) v)) → Off a H H1 → R H1) : rDPut (.ref a) (.int n) v H R :=
  ⟨a, _, rfl, DPut.k (k := Sum.inl n) e hl, h _ upd_same fun x hx => upd_ne hx⟩
theorem w_dget2 {td ty tx : TE} (h : td σ H fun x H1 => rIsD x H1 fun a H1 => ty σ H1 fun y H2 => tx σ H2 fun z H3 => rDGet2 a y z H3 Q) : tDGet2 td ty tx σ H Q := h
theorem w_isD {a : Addr} {kvs : List (Key × V)} {R : Addr → Hp → Prop} (e : H a = some (.dK kvs)) (h : R a H) : rIsD (.ref a) H R := ⟨a, rfl, .inl ⟨kvs, .inl e⟩, h⟩
theorem w_dget2I {a : Addr} {kvs : List (Key × V)} {n : Int} {z : V} (e : H a = some (.dK kvs)) (h : Q ((valV kvs (Sum.inl n)).getD z) H) : rDGet2 a (.int n) z H Q := ⟨_, DGet.k (k := Sum.inl n) e, h⟩
theorem w_dsetd {td ty tx : TE} (h : td σ H fun x H1 => rIsD x H1 fun a H1 => ty σ H1 fun y H2 => tx σ H2 fun z H3 => rDSetd a y z H3 Q) : tDSetd td ty tx σ H Q := h
theorem w_dsetdI {a : Addr} {kvs : List (Key × V)} {n : Int} {z : V} (e : H a = some (.dK kvs)) (hl : kvs.length < sizeLine) (h1 : ∀ u, valV kvs (Sum.inl n) = some u → Q u H) (h2 : valV kvs (Sum.inl n) = none → ∀ H1, H1 a = some (.dK (putK kvs (Sum.inl n) z)) → Off a H H1 → Q z H1) : rDSetd a (.int n) z H Q :=
  ⟨kvs, Sum.inl n, e, rfl, hl, h1, fun z => h2 z _ upd_same fun x hx => upd_ne hx⟩
theorem w_sortD {a : Addr} {kvs : List (Key × V)} {ks : List Int} (e : H a = some (.dK kvs)) (hk : kvs.map (·.1) = ks.map Sum.inl) (hl : ks.length < 64) (h : ∀ (ys : List Int) p H1, ys.Perm ks → ys.Pairwise (· ≤ ·) → H p = none → H1 p = some (.lst (ys.map V.int)) → Same H H1 → Q (.ref p) H1) : rSortD [.ref a] H Q :=
  ⟨a, kvs, ks, rfl, .inl e, hk, hl, fun ys p hp hs hn => h ys p _ hp hs hn upd_same (Same.new hn)⟩
theorem w_leT2 {p q : Addr} {a b c d : Int} (h1 : SqT K H p [.int a, .int b]) (h2 : SqT K H q [.int c, .int d]) (h : Q (.bl (decide (a < c ∨ a = c ∧ b ≤ d))) H) : rLeT K (.ref p) (.ref q) H Q := by
  refine ⟨p, q, [a, b], [c, d], rfl, rfl, h1, h2, ?_⟩
  have e : Ob.lexAt (fun j => decide (([a, b] : List Int).getD j 0 = ([c, d] : List Int).getD j 0)) (fun j => decide (([a, b] : List Int).getD j 0 ≤ ([c, d] : List Int).getD j 0)) (decide (([a, b] : List Int).length ≤ ([c, d] : List Int).length)) 0 (min ([a, b] : List Int).length ([c, d] : List Int).length) = decide (a < c ∨ a = c ∧ b ≤ d) := by
    show (if decide (a = c) = true then (if decide (b = d) = true then true else decide (b ≤ d)) else decide (a ≤ c)) = _
    by_cases h1 : a = c
    · rw [if_pos (decide_eq_true h1)]
      by_cases h2 : b = d
      · rw [if_pos (decide_eq_true h2)]
        exact (decide_eq_true (by omega)).symm
      · rw [if_neg (fun z => h2 (of_decide_eq_true z))]
        rw [Bool.eq_iff_iff]; simp; omega
    · rw [if_neg (fun z => h1 (of_decide_eq_true z))]
      rw [Bool.eq_iff_iff]; simp; omega
  rw [e]
  exact h
theorem inV_ints (n : Int) (vs : List Int) : inV (.int n) (vs.map V.int) = decide (n ∈ vs) := by
  unfold inV
  rw [Bool.eq_iff_iff, List.any_eq_true]
  constructor
  · rintro ⟨y, hy, e⟩
    obtain ⟨z, hz, rfl⟩ := List.mem_map.mp hy
    have e' : z = n := by simpa [eqV] using e
    subst e'
    exact decide_eq_true hz
  · intro h
    exact ⟨.int n, List.mem_map_of_mem (of_decide_eq_true h), by simp [eqV]⟩
theorem flat_ints (vs : List Int) : (vs.map V.int).all flatV = true := by
  rw [List.all_eq_true]
  intro y hy
  obtain ⟨z, _, rfl⟩ := List.mem_map.mp hy
  rfl
theorem w_inT {p : Addr} {vs : List Int} {n : Int} (h1 : SqT K H p (vs.map V.int)) (h : Q (.bl (decide (n ∈ vs))) H) : rIn K false (.int n) (.ref p) H Q := ⟨p, _, rfl, .inr h1, rfl, flat_ints vs, by rw [inV_ints]; exact h⟩
theorem w_ninT {p : Addr} {vs : List Int} {n : Int} (h1 : SqT K H p (vs.map V.int)) (h : Q (.bl (!decide (n ∈ vs))) H) : rIn K true (.int n) (.ref p) H Q := ⟨p, _, rfl, .inr h1, rfl, flat_ints vs, by rw [inV_ints]; exact h⟩
theorem w_inL {p : Addr} {vs : List Int} {n : Int} (h1 : SqL K H p (vs.map V.int)) (h : Q (.bl (decide (n ∈ vs))) H) : rIn K false (.int n) (.ref p) H Q := ⟨p, _, rfl, .inl h1, rfl, flat_ints vs, by rw [inV_ints]; exact h⟩
theorem w_ninL {p : Addr} {vs : List Int} {n : Int} (h1 : SqL K H p (vs.map V.int)) (h : Q (.bl (!decide (n ∈ vs))) H) : rIn K true (.int n) (.ref p) H Q := ⟨p, _, rfl, .inl h1, rfl, flat_ints vs, by rw [inV_ints]; exact h⟩
def rDisp (p : Addr) (ps : List (V × V)) (H2 : Hp) (Q : VK) : Prop := H2 p = some (.dK []) ∧ ∃ kvs : List (Key × V), ps = kvs.map (fun kv => (kV kv.1, kv.2)) ∧ kvs.length ≤ 15 ∧ Q (.ref p) (upd H2 p (.dK (mergeK [] kvs)))
theorem w_disp {trs : List (TE × TE)} (h : ∀ p H1, H p = none → H1 p = some (.dK []) → Same H H1 → tPairs trs σ H1 (fun ps H2 => rDisp p ps H2 Q)) : tDisp trs σ H Q := fun p hp => h p _ hp upd_same (Same.new hp)
theorem w_pair {tk tv : TE} {r : List (TE × TE)} {R : List (V × V) → Hp → Prop} (h : tk σ H fun x H1 => tv σ H1 fun y H2 => tPairs r σ H2 fun ps H3 => R ((x, y) :: ps) H3) : tPairs ((tk, tv) :: r) σ H R := h
theorem w_pnil {R : List (V × V) → Hp → Prop} (h : R [] H) : tPairs [] σ H R := h
theorem w_dispE {p : Addr} {ps : List (V × V)} (kvs : List (Key × V)) (h1 : H p = some (.dK [])) (h2 : ps = kvs.map (fun kv => (kV kv.1, kv.2))) (h3 : kvs.length ≤ 15) (h : ∀ H1, H1 p = some (.dK (mergeK [] kvs)) → Off p H H1 → Q (.ref p) H1) : rDisp p ps H Q :=
  ⟨h1, kvs, h2, h3, h _ upd_same fun x hx => upd_ne hx⟩
theorem w_callS {sp : Sp} {E : St → XK} {t : TA} (h : t σ H fun vs H1 => sp vs H1 Q (E σ)) : tCallS sp E t σ H Q := h
theorem w_isB {x y : Bool} (h : Q (.bl (decide (x = y))) H) : rIsBl (.bl x) (.bl y) H Q := ⟨x, y, rfl, rfl, h⟩
theorem w_isN (h : Q (.bl (decide (v = .non))) H) : rIsNon v .non H Q := ⟨rfl, h⟩
theorem w_notN (h : Q (.bl (!decide (v = .non))) H) : rNotNon v .non H Q := ⟨rfl, h⟩
theorem w_chain {r r' : R2} {ta tb tc : TE} (h : ta σ H fun x H1 => tb σ H1 fun y H2 => r x y H2 fun z H3 => ∃ k, z = .bl k ∧ (if k = true then tc σ H3 fun w' H4 => r' y w' H4 Q else Q (.bl false) H3)) : tChain r r' ta tb tc σ H Q := h
theorem w_trL {p : Addr} {xs : List V} {R : Bool → Hp → Prop} (h1 : SqL K H p xs) (h : R (!xs.isEmpty) H) : rTru K (.ref p) H R := ⟨_, .inl ⟨xs, h1, rfl⟩, h⟩
theorem w_trT {p : Addr} {xs : List V} {R : Bool → Hp → Prop} (h1 : SqT K H p xs) (h : R (!xs.isEmpty) H) : rTru K (.ref p) H R := ⟨_, .inr (.inl ⟨xs, h1, rfl⟩), h⟩
theorem w_tru {ta : TE} {R : Bool → Hp → Prop} (h : ta σ H fun x H1 => rTru K x H1 R) : tTru K ta σ H R := h
/-! loops -/
def Lp (J : It) (g : TG) (tb : TS) (D : Ends) (σ : St) (H1 : Hp) : Prop := ∃ W : Nat → Nat → St → Hp → Prop, (∃ m, W 0 m σ H1) ∧ ∀ i m σ H, W i m σ H →
  (J.stop i H ∧ D.nx σ H) ∨ (J.go i H ∧ ∃ N : St → Hp → Prop, (∀ σ' H', N σ' H' → ∃ m', m' < m ∧ W (i + 1) m' σ' H') ∧ ∀ x H', J.yld i H x H' → g x σ H' fun σ2 H2 => tb { D with nx := N, ct := N, bk := D.nx } σ2 H2)
theorem w_for {wi : TI} {g : TG} {tb : TS} (h : wi σ H fun J H1 => Lp J g tb ⟨nx, rt, bk, ct⟩ σ H1) : tFor wi g tb ⟨nx, rt, bk, ct⟩ σ H := h
theorem lp_it {J : It} {n : Nat} {G : Hp → Prop} {Y : Nat → Hp → V → Hp → Prop} (w : Walk J n G Y) {g : TG} {tb : TS} (Pv : Nat → St → Hp → Prop) (h0 : Pv 0 σ H) (hG : ∀ i σ H, i ≤ n → Pv i σ H → G H)
    (hs : ∀ i x σ H H', i < n → Pv i σ H → Y i H x H' → g x σ H' fun σ2 H2 => tb ⟨Pv (i + 1), rt, nx, Pv (i + 1)⟩ σ2 H2) (hd : ∀ σ H, Pv n σ H → nx σ H) : Lp J g tb ⟨nx, rt, bk, ct⟩ σ H :=
  for_it w (D := ⟨nx, rt, bk, ct⟩) Pv h0 hG hs hd
theorem lp_list {a : Addr} {xs : List V} {g : TG} {tb : TS} (Pv : Nat → St → Hp → Prop) (h0 : Pv 0 σ H) (hl : ∀ i σ H, i ≤ xs.length → Pv i σ H → SqL K H a xs)
    (hs : ∀ i x σ H, xs[i]? = some x → Pv i σ H → g x σ H fun σ2 H2 => tb ⟨Pv (i + 1), rt, nx, Pv (i + 1)⟩ σ2 H2) (hd : ∀ σ H, Pv xs.length σ H → nx σ H) : Lp (Itl K a) g tb ⟨nx, rt, bk, ct⟩ σ H :=
  for_list (D := ⟨nx, rt, bk, ct⟩) Pv h0 hl hs hd
theorem lp_tup {a : Addr} {xs : List V} {g : TG} {tb : TS} (Pv : Nat → St → Hp → Prop) (h0 : Pv 0 σ H) (hl : ∀ i σ H, i ≤ xs.length → Pv i σ H → SqT K H a xs)
    (hs : ∀ i x σ H, xs[i]? = some x → Pv i σ H → g x σ H fun σ2 H2 => tb ⟨Pv (i + 1), rt, nx, Pv (i + 1)⟩ σ2 H2) (hd : ∀ σ H, Pv xs.length σ H → nx σ H) : Lp (Itt K a) g tb ⟨nx, rt, bk, ct⟩ σ H :=
  for_tup (D := ⟨nx, rt, bk, ct⟩) Pv h0 hl hs hd
theorem lp_range {lo : Int} {n : Nat} {g : TG} {tb : TS} (Pv : Nat → St → Hp → Prop) (h0 : Pv 0 σ H)
    (hs : ∀ i σ H, i < n → Pv i σ H → g (.int (lo + i)) σ H fun σ2 H2 => tb ⟨Pv (i + 1), rt, nx, Pv (i + 1)⟩ σ2 H2) (hd : ∀ σ H, Pv n σ H → nx σ H) : Lp (Itr lo n) g tb ⟨nx, rt, bk, ct⟩ σ H :=
  for_range (D := ⟨nx, rt, bk, ct⟩) Pv h0 hs hd
theorem w_rng1 {t : TA} {R : It → Hp → Prop} (h : t σ H fun vs H1 => rRng1 vs H1 R) : iRng1 t σ H R := h
theorem w_rng1' {j : Int} {R : It → Hp → Prop} (h1 : -(2 ^ 62) ≤ j) (h2 : j < 2 ^ 62) (h : R (Itr 0 j.toNat) H) : rRng1 [.int j] H R := ⟨j, rfl, h1, h2, h⟩
theorem w_rng2 {t : TA} {R : It → Hp → Prop} (h : t σ H fun vs H1 => rRng2 vs H1 R) : iRng2 t σ H R := h
theorem w_rng2' {i j : Int} {R : It → Hp → Prop} (h1 : -(2 ^ 62) ≤ i ∧ i < 2 ^ 62 ∧ -(2 ^ 62) ≤ j ∧ j < 2 ^ 62) (h : R (Itr i (j - i).toNat) H) : rRng2 [.int i, .int j] H R := ⟨i, j, rfl, h1, h⟩
theorem w_itL {tl : TE} {R : It → Hp → Prop} (h : tl σ H fun x H1 => rItL K x H1 R) : iList K tl σ H R := h
theorem w_itL' {a : Addr} {xs : List V} {R : It → Hp → Prop} (h1 : SqL K H a xs) (h : R (Itl K a) H) : rItL K (.ref a) H R := ⟨a, rfl, ⟨xs, h1⟩, h⟩
theorem w_itT {tl : TE} {R : It → Hp → Prop} (h : tl σ H fun x H1 => rItT K x H1 R) : iTup K tl σ H R := h
theorem w_itT' {a : Addr} {xs : List V} {R : It → Hp → Prop} (h1 : SqT K H a xs) (h : R (Itt K a) H) : rItT K (.ref a) H R := ⟨a, rfl, ⟨xs, h1⟩, h⟩
/-- one turn of a while: W (by a falling number) is reached again -/
def WhT (W : Nat → St → Hp → Prop) (m : Nat) (tb : TS) (rt : VK) (nx : St → Hp → Prop) (σ : St) (H : Hp) : Prop := ∃ N : St → Hp → Prop, (∀ σ' H', N σ' H' → ∃ m', m' < m ∧ W m' σ' H') ∧ tb ⟨N, rt, nx, N⟩ σ H
theorem w_turn {W : Nat → St → Hp → Prop} {m : Nat} {tb : TS} (h : tb ⟨fun σ' H' => ∃ m', m' < m ∧ W m' σ' H', rt, nx, fun σ' H' => ∃ m', m' < m ∧ W m' σ' H'⟩ σ H) : WhT W m tb rt nx σ H := ⟨_, fun _ _ z => z, h⟩
theorem w_whileN {c : TT} {tb : TS} (W : Nat → St → Hp → Prop) (m0 : Nat) (h0 : W m0 σ H) (hs : ∀ m σ H, W m σ H → c σ H fun b H1 => if b = true then WhT W m tb rt nx σ H1 else nx σ H1) : tWhile c tb ⟨nx, rt, bk, ct⟩ σ H := ⟨W, ⟨m0, h0⟩, hs⟩
/-! comprehensions -/
def LcP (J : It) (g : TG) (tt : TT) (te : TE) (vs : List Nat) (Q : VK) (σ : St) (H1 : Hp) : Prop := ∀ D, H1 D = none → ∃ W : Nat → Nat → Hp → Prop, (∃ m, W 0 m (upd H1 D (.lst []))) ∧ ∀ i m H, W i m H →
  (J.stop i H ∧ Q (.ref D) H) ∨ (J.go i H ∧ ∃ Nx : Hp → Prop, (∀ H', Nx H' → ∃ m', m' < m ∧ W (i + 1) m' H') ∧ ∀ x H', J.yld i H x H' → g x (wipe σ vs) H' fun σ2 H2 => wipe σ2 vs = wipe σ vs ∧ tt σ2 H2 fun b H3 =>
    if b = true then te σ2 H3 fun y H4 => ∃ acc, H4 D = some (.lst acc) ∧ acc.length < sizeLine ∧ Nx (upd H4 D (.lst (acc ++ [y]))) else Nx H3)
theorem w_lc {wi : TI} {g : TG} {tt : TT} {te : TE} {vs : List Nat} (h : wi σ H fun J H1 => LcP J g tt te vs Q σ H1) : tLc wi g tt te vs σ H Q := h
/-- each turn adds one: the k-th is ys[k]; what stood but M stands -/
theorem lcp_map {J : It} {n : Nat} {G : Hp → Prop} {Y : Nat → Hp → V → Hp → Prop} (w : Walk J n G Y) {g : TG} {te : TE} {vs : List Nat} (M : List Addr) (ys : List V) (hn : ys.length = n) (hz : n ≤ 1000000) (hG : ∀ H', Kp M H H' → G H')
    (hs : ∀ i x H1 H2 (R : V → Hp → Prop), i < n → Kp M H H1 → Y i H1 x H2 → (∀ y H4, ys[i]? = some y → Kp M H1 H4 → R y H4) → g x (wipe σ vs) H2 fun σ2 H3 => wipe σ2 vs = wipe σ vs ∧ te σ2 H3 R)
    (hM : ∀ b ∈ M, ∃ o, H b = some o)
    (hd : ∀ D H', H D = none → Kp M H H' → H' D = some (.lst ys) → Q (.ref D) H') : LcP J g tYes te vs Q σ H := by
  intro D hD
  have hDM : D ∉ M := fun z => by obtain ⟨o, e⟩ := hM D z; rw [hD] at e; cases e
  refine lc_it w (fun i H' => Kp M H H' ∧ H' D = some (.lst (ys.take i))) ⟨Kp.new hD, upd_same⟩ (fun i H' _ z => hG H' z.1) ?_ ?_
  · rintro i x H1 H2 hi ⟨k1, e1⟩ y
    refine (hs i x H1 H2 _ hi k1 y ?_)
    intro z H4 hz' k4
    refine ⟨ys.take i, k4 _ _ hDM e1, ?_, ?_, ?_⟩
    · rw [List.length_take]; exact Nat.lt_of_le_of_lt (Nat.min_le_left _ _) (Nat.lt_of_lt_of_le (Nat.lt_of_lt_of_le hi hz) (by decide))
    · exact (k1.trans k4).mutN hD
    · rw [upd_same, List.take_add_one, hz']; rfl
  · rintro H' ⟨k, e⟩
    rw [List.take_of_length_le (by omega)] at e
    exact hd D H' hD k e
end
/-! ### errors -/
/-- what the top has written of an own error class without __init__ -/
structure Exn (K : PySem.W.Frag) (mg : Str → Option Value) (x : Str) (C : Addr) : Prop where
  g : mg x = some (.ref C)
  x : PySem.W.excIn K C [.type "ValueError", .type "Exception", .type "BaseException", .type "object"] "ValueError.__new__" = true
  k : PySem.W.keepIn K (.ref C) = true
  b : PySem.W.subIn K (.ref C) (.type "BaseException") = some true
  t : PySem.W.typeIn K (.ref C) = some (.type "type")
  e : PySem.W.exmOne K (.ref C) (.ref C) = some true
def tTryO (K : PySem.W.Frag) (c : Value) (tb : WX → TS) (ts : Addr → Value → Option Addr → TS) : TS := fun D σ H => tb (wOnly K c ts (fun _ _ _ _ => False) D) D σ H
section
variable {X : Cx} {x : Str} {c : Value} {body suite : List Stmt} {b₀ : Stmt} {np pos pos' : Pos} {tb : WX → TS} {ts : Addr → Value → Option Addr → TS}
end
section
variable {K : PySem.W.Frag} {σ : St} {H : Hp} {nx bk ct : St → Hp → Prop} {rt : VK}
theorem w_try {c : Value} {tb : WX → TS} {ts : Addr → Value → Option Addr → TS} (h : tb (wOnly K c ts (fun _ _ _ _ => False) ⟨nx, rt, bk, ct⟩) ⟨nx, rt, bk, ct⟩ σ H) : tTryO K c tb ts ⟨nx, rt, bk, ct⟩ σ H := h
end
/-! ### dict comprehensions -/
section
open PySem.Spec PyProof.Rows
variable {X : Cx}
/-- name = {k: v for ..}, the name a local: as the layer's rule for a list's comprehension -/
theorem ps_setDc {i : Nat} {y : Str} {py : Pos} {kx vx tg iter : Expr} {ifs : List Expr} {scope : Scope} {own : List (Str × Nat)} {pos spos : Pos} {wi : TI} {g : TG} {tt : TT} {tk tv : TE}
    (hc : X.calm = true) (hN : X.N.Nodup) (hy : X.N[i]? = some y) (hyl : X.env.scope.names.lookup y = some .local)
    (hsw : swapsWith (.DictComp kx vx [⟨tg, iter, ifs, 0⟩] scope pos) (some (.Name y py)) spos.line X.env = pure true)
    (hi : PI X tg iter wi) (ok : BlkOk X.N X.env.scope scope own)
    (hg : ∀ s0 H0 C0 cl fp, PG (X.blk s0 H0 scope (compEnvC scope cl C0 X.env) fp) tg g) (ht : ∀ s0 H0 C0 cl fp, PTs (X.blk s0 H0 scope (compEnvC scope cl C0 X.env) fp) ifs tt)
    (hk : ∀ s0 H0 C0 cl fp, PE (X.blk s0 H0 scope (compEnvC scope cl C0 X.env) fp) kx tk) (he : ∀ s0 H0 C0 cl fp, PE (X.blk s0 H0 scope (compEnvC scope cl C0 X.env) fp) vx tv)
    (hs : ∀ z, foldedSetIterable iter X.env z = pure z := by intro _; rfl) :
    PS X (.Assign [.Name y py] (.DictComp kx vx [⟨tg, iter, ifs, 0⟩] scope pos) spos) (tAsg (tDc wi g tt tk tv (own.map (·.2))) (gName i)) := by
  constructor
  intro pins s σ H Ed I h
  rw [exec_Assign_Name_used y py _ _ hsw]
  apply wpAny_bind
  apply wpAny_standAt
  apply wpAny_bind
  show wpAny _ X.A (comprehension (.DictComp kx vx [⟨tg, iter, ifs, 0⟩] scope pos) scope X.env (firstIterPos [⟨tg, iter, ifs, 0⟩] pos) newDict false (eval iter X.env) (some (assign (.Name y py) X.env)) >>= fun _ => pure ()) _ _ s
  apply wpAny_bind
  have h' : tDc wi g tt tk tv (own.map (·.2)) σ H (fun x H1 => gName i x σ H1 Ed.nx) := h
  refine thn (dc_core (Qf := fun _ s1 => SP X pins Ed .next s1) hc hN I hi ok hg ht hk he hs h' ?_) (fun _ _ z => wpAny_pure (wpAny_pure z))
  intro L C s1 m H1 I1 q hn ff
  obtain ⟨f0, f1, f2, f3, f4, f5⟩ := ff
  show wpAny _ _ (assign (.Name y py) X.env (.ref L)) _ _ _
  apply wpAny_assign_Name
  refine store_ok2 (v := V.ref L) I1 hN hy (.inl hyl) rfl ?_ (.inr hyl)
  rintro s2 I2 ⟨ad, sb, had⟩
  have hne : C ≠ ad := by
    rcases had with hz | hz
    · exact fun e => f1 (e.trans hz)
    · exact fun e => f4 y ad hz e.symm
  refine ⟨m, hn.sameBut sb hne, fun h3 sb3 => ⟨_, H1, ?_, q⟩⟩
  exact I2.turned (t' := s2.toks) (fun b o hb e => (sb3.2 b hb).trans e) f0 f1 f3 f4 f5
theorem sw_trueD {kx vx : Expr} {gs : List Comprehension} {scope : Scope} {pos py : Pos} {y : Str} {l : Nat} {env : Env} (hkd : env.scope.kind = .function) (hlk : env.scope.names.lookup y = some .local)
    (hln : (py.line == pos.line) = true) (hno : (scope.names.any fun (n, k) => n == y && (k == .local || k == .cell)) = false) : swapsWith (.DictComp kx vx gs scope pos) (some (.Name y py)) l env = pure true := by
  have e1 : env.kindOf y = some .local := hlk
  have e2 : env.blockKind = .function := by
    unfold Env.blockKind
    rw [hkd]
    rfl
  unfold swapsWith
  simp only [e2, e1, hno, Expr.pos, hln]
  rfl
end
section
variable {K : PySem.W.Frag} {σ : St} {H : Hp} {Q : VK}
def DcP (J : It) (g : TG) (tt : TT) (tk tv : TE) (vs : List Nat) (Q : VK) (σ : St) (H1 : Hp) : Prop := ∀ D, H1 D = none → ∃ W : Nat → Nat → Hp → Prop, (∃ m, W 0 m (upd H1 D (.dK []))) ∧ ∀ i m H, W i m H →
  (J.stop i H ∧ Q (.ref D) H) ∨ (J.go i H ∧ ∃ Nx : Hp → Prop, (∀ H', Nx H' → ∃ m', m' < m ∧ W (i + 1) m' H') ∧ ∀ x H', J.yld i H x H' → g x (wipe σ vs) H' fun σ2 H2 => wipe σ2 vs = wipe σ vs ∧ tt σ2 H2 fun b H3 =>
    if b = true then tk σ2 H3 fun y H4 => tv σ2 H4 fun z H5 => ∃ kvs k, y = kV k ∧ H5 D = some (.dK kvs) ∧ kvs.length < sizeLine ∧ Nx (upd H5 D (.dK (putK kvs k z))) else Nx H3)
theorem w_dc {wi : TI} {g : TG} {tt : TT} {tk tv : TE} {vs : List Nat} (h : wi σ H fun J H1 => DcP J g tt tk tv vs Q σ H1) : tDc wi g tt tk tv vs σ H Q := h
theorem putK_len' {κ : Type} [DecidableEq κ] (c : List (κ × V)) (k : κ) (x : V) : (putK c k x).length ≤ c.length + 1 := by
  unfold putK
  by_cases e : (c.any fun kv => decide (kv.1 = k)) = true
  · rw [if_pos e, List.length_map]; omega
  · rw [if_neg e, List.length_append]; simp
theorem mergeK_len (es : List (Key × V)) : ∀ acc, (mergeK acc es).length ≤ acc.length + es.length := by
  unfold mergeK
  induction es with
  | nil => intro acc; simp
  | cons e r ih =>
    intro acc
    have h1 := ih (putK acc e.1 e.2)
    have h2 := putK_len' acc e.1 e.2
    simp only [List.foldl_cons, List.length_cons] at *
    omega
theorem mergeK_snoc (acc es : List (Key × V)) (e : Key × V) : mergeK acc (es ++ [e]) = putK (mergeK acc es) e.1 e.2 := by
  unfold mergeK; rw [List.foldl_append]; rfl
/-- each turn adds a pair: the k-th is es[k]; what stood but M stands -/
theorem dcp_map {J : It} {n : Nat} {G : Hp → Prop} {Y : Nat → Hp → V → Hp → Prop} (w : Walk J n G Y) {g : TG} {tk tv : TE} {vs : List Nat} (M : List Addr) (es : List (Key × V)) (hn : es.length = n) (hz : n ≤ 1000000) (hG : ∀ H', Kp M H H' → G H')
    (hs : ∀ i x H1 H2 (R : V → V → Hp → Prop), i < n → Kp M H H1 → Y i H1 x H2 → (∀ e H4, es[i]? = some e → Kp M H1 H4 → R (kV e.1) e.2 H4) → g x (wipe σ vs) H2 fun σ2 H3 => wipe σ2 vs = wipe σ vs ∧ tk σ2 H3 fun y H4 => tv σ2 H4 fun z H5 => R y z H5)
    (hM : ∀ b ∈ M, ∃ o, H b = some o)
    (hd : ∀ D H', H D = none → Kp M H H' → H' D = some (.dK (mergeK [] es)) → Q (.ref D) H') : DcP J g tYes tk tv vs Q σ H := by
  intro D hD
  have hDM : D ∉ M := fun z => by obtain ⟨o, e⟩ := hM D z; rw [hD] at e; cases e
  refine ⟨fun i m H' => m = n - i ∧ i ≤ n ∧ Kp M H H' ∧ H' D = some (.dK (mergeK [] (es.take i))), ⟨n, by simp, Nat.zero_le _, Kp.new hD, upd_same⟩, ?_⟩
  rintro i m H1 ⟨rfl, hi, k1, e1⟩
  by_cases hlt : i < n
  · refine .inr ⟨w.goes i H1 hlt (hG _ k1), fun H' => Kp M H H' ∧ H' D = some (.dK (mergeK [] (es.take (i + 1)))), fun H' z => ⟨n - (i + 1), by omega, rfl, hlt, z.1, z.2⟩, fun x H2 y => ?_⟩
    refine hs i x H1 H2 (fun y z H5 => ∃ kvs k, y = kV k ∧ H5 D = some (.dK kvs) ∧ kvs.length < sizeLine ∧ (Kp M H (upd H5 D (.dK (putK kvs k z))) ∧ (upd H5 D (.dK (putK kvs k z))) D = some (.dK (mergeK [] (es.take (i + 1)))))) hlt k1 (w.yields i H1 x H2 hlt (hG _ k1) y) ?_
    intro e H4 he k4
    refine ⟨mergeK [] (es.take i), e.1, rfl, k4 _ _ hDM e1, ?_, (k1.trans k4).mutN hD, ?_⟩
    · have h1 := mergeK_len (es.take i) []
      have h2 : (es.take i).length ≤ 1000000 := by rw [List.length_take]; omega
      exact Nat.lt_of_le_of_lt (Nat.le_trans h1 (by simpa using h2)) (by decide)
    · rw [upd_same, List.take_add_one, he]
      show _ = some (HO.dK (mergeK [] (es.take i ++ [e])))
      rw [mergeK_snoc]
  · have e : i = n := by omega
    subst e
    rw [List.take_of_length_le (by omega)] at e1
    exact .inl ⟨w.stops H1 (hG _ k1), hd D H1 hD k1 e1⟩
theorem valV_merge (k : Key) : ∀ (es acc : List (Key × V)), (valV (mergeK acc es) k).isSome = ((valV acc k).isSome || es.any fun e => decide (e.1 = k)) := by
  intro es
  induction es with
  | nil => intro acc; show (valV acc k).isSome = _; simp
  | cons e r ih =>
    intro acc
    show (valV (mergeK (putK acc e.1 e.2) r) k).isSome = _
    rw [ih, valV_put, List.any_cons]
    by_cases h : k = e.1
    · rw [if_pos h, decide_eq_true h.symm]; simp
    · rw [if_neg h, decide_eq_false (fun z => h z.symm)]; simp
/-- {x: True for x in ns}: who is in it -/
theorem known_in (ns : List Int) (f : Int → V) (n : Int) : (valV (mergeK [] (ns.map fun i => ((Sum.inl i : Key), f i))) (Sum.inl n)).isSome = decide (n ∈ ns) := by
  rw [valV_merge, valV_nil]
  rw [Bool.eq_iff_iff]
  simp
end
/-! ### ints -/
theorem cmul_l {i j : Int} (h1 : -(2 ^ 64) < i) (h2 : i < 2 ^ 64) : CMul i j := .inl ⟨h1, h2⟩
theorem cmul_r {i j : Int} (h1 : -(2 ^ 64) < j) (h2 : j < 2 ^ 64) : CMul i j := .inr ⟨h1, h2⟩
theorem cdivw {i j : Int} (h1 : 0 < j) (h2 : j < 2 ^ 64) : CDivW i j := wide_div (b := 64) h1 (by omega) (by decide) (by decide)
theorem at_lt {α : Type} {xs : List α} {i : Int} (h0 : 0 ≤ i) (h1 : i < xs.length) : ∃ v, xs[i.toNat]? = some v ∧ atI xs i = some v := by
  have hl : i.toNat < xs.length := by omega
  refine ⟨xs[i.toNat], List.getElem?_eq_getElem hl, ?_⟩
  have e := atI_nat (xs := xs) (j := i.toNat) (List.getElem?_eq_getElem hl)
  rw [Int.toNat_of_nonneg h0] at e
  exact e
/-! ### the deck -/
def MOSTD : Nat := 1099511627776
structure Deck (H : Hp) (d c : Addr) (n : Nat) : Prop where
  ex : ∃ (cs : List Int) (a : Nat) (b : Int) (t : Nat), H d = some (.lst [.ref c, .int a, .int b, .int t]) ∧ H c = some (.lst (cs.map V.int)) ∧ t ≤ n
  ne : c ≠ d
theorem Deck.kp {M : List Addr} {H H' : Hp} {d c : Addr} {n : Nat} (k : Kp M H H') (h1 : d ∉ M) (h2 : c ∉ M) (D : Deck H d c n) : Deck H' d c n := by
  obtain ⟨⟨cs, a, b, t, e1, e2, e3⟩, ne⟩ := D
  exact ⟨⟨cs, a, b, t, k _ _ h1 e1, k _ _ h2 e2, e3⟩, ne⟩
theorem Deck.new {H : Hp} {d c : Addr} {n : Nat} {p : Addr} {o : HO} (h : H p = none) (D : Deck H d c n) : Deck (upd H p o) d c n := D.kp (M := []) (Kp.new h) (by simp) (by simp)
theorem Deck.mut {H : Hp} {d c : Addr} {n : Nat} {p : Addr} {o : HO} (h1 : p ≠ d) (h2 : p ≠ c) (D : Deck H d c n) : Deck (upd H p o) d c n :=
  D.kp (M := [p]) (Kp.mut (by simp)) (by simpa using Ne.symm h1) (by simpa using Ne.symm h2)
theorem Deck.mono {H : Hp} {d c : Addr} {n m : Nat} (D : Deck H d c n) (h : n ≤ m) : Deck H d c m := by
  obtain ⟨⟨cs, a, b, t, e1, e2, e3⟩, ne⟩ := D
  exact ⟨⟨cs, a, b, t, e1, e2, Nat.le_trans e3 h⟩, ne⟩
theorem Deck.at {H : Hp} {d c : Addr} {n : Nat} (D : Deck H d c n) : (∃ xs, H d = some (.lst xs)) ∧ ∃ xs, H c = some (.lst xs) := by
  obtain ⟨⟨cs, a, b, t, e1, e2, e3⟩, ne⟩ := D
  exact ⟨⟨_, e1⟩, ⟨_, e2⟩⟩
theorem Deck.ne1 {H : Hp} {d c p : Addr} {n : Nat} (D : Deck H d c n) (h : H p = none) : p ≠ d ∧ p ≠ c := by
  obtain ⟨⟨xs, e1⟩, ys, e2⟩ := D.at
  exact ⟨(ne_of_none e1 h).symm, (ne_of_none e2 h).symm⟩
end FW

set_option Elab.async false
set_option linter.all false
set_option maxRecDepth 100000
set_option maxHeartbeats 4000000
/-! {key: value for a in as if .. for b in bs if ..}: a dict by two clauses, as a rule of the layer (my own: the layer has it for lists). -/
namespace FW
open PySem PySem.Spec PyProof.Rows L2
section
variable {kx vx ta ia tb ib : Expr} {fa fb : List Expr} {sc : Scope} {ps : Pos}
abbrev two (kx vx ta ia : Expr) (fa : List Expr) (tb ib : Expr) (fb : List Expr) (sc : Scope) (ps : Pos) : Expr := .DictComp kx vx [⟨ta, ia, fa, 0⟩, ⟨tb, ib, fb, 0⟩] sc ps
/-- the tests of a clause, one behind the other -/
abbrev testsOf2 (fs : List Expr) (env : Env) : Sem Bool := forIn fs true fun c r => if r = true then do let ok ← isTrue c env (eval c env); pure (ForInStep.yield ok) else pure (ForInStep.yield r)
theorem turn_first (it : Value) (D : Addr) (env : Env) : compTurn (two kx vx ta ia fa tb ib fb sc ps) 0 it (.ref D) env = (do
    standAt ia.pos
    match ← pyNext it with
    | none => pure (.done .next)
    | some u =>
      letOwnedTupleGo ta it u
      assign ta env u
      let mut good := true
      for c in fa do
        if good then good ← isTrue c env (eval c env)
      if good then
        let y ← eval ib env
        standAt ib.pos
        let y ← foldedSetIterable ib env y
        let _ ← runOwn (.compStart (two kx vx ta ia fa tb ib fb sc ps) 1 (← holding [y] (pyIter y)) (.ref D) env) env
      again (.compLoop (two kx vx ta ia fa tb ib fb sc ps) 0 it (.ref D) env)) := by rfl
theorem turn_second (it : Value) (D : Addr) (env : Env) : compTurn (two kx vx ta ia fa tb ib fb sc ps) 1 it (.ref D) env = (do
    standAt ib.pos
    match ← pyNext it with
    | none => pure (.done .next)
    | some u =>
      letOwnedTupleGo tb it u
      assign tb env u
      let mut good := true
      for c in fb do
        if good then good ← isTrue c env (eval c env)
      if good then
        (do
          let k ← eval kx env
          let v ← holding [k] (eval vx env)
          standAt { kx.pos with endLine := vx.pos.endLine, endCol := vx.pos.endCol }
          holding [k, v] (dictSet D k v))
      again (.compLoop (two kx vx ta ia fa tb ib fb sc ps) 1 it (.ref D) env)) := by rfl
variable {pg : Program} {wd : World} {A : Around} {R : Result → Shared → Prop} {st : Shared} {it : Value} {D : Addr} {env : Env}
/-- the first clause's loop; nothing raises in it -/
theorem loop_first (hf : ∀ y, foldedSetIterable ib env y = pure y) (G : Nat → Shared → Prop)
    (go : ∀ n z, G n z → wpAny (model pg wd) A (pyNext it) (fun r z1 => match r with
      | none => R (.ok .next) z1
      | some u => wpAny (model pg wd) A (letOwnedTupleGo ta it u) (fun _ z2 => wpAny (model pg wd) A (assign ta env u) (fun _ z3 => wpAny (model pg wd) A (testsOf2 fa env) (fun b z4 =>
          if b = true then wpAny (model pg wd) A (eval ib env) (fun y z5 => wpAny (model pg wd) A (pyIter y) (fun j z6 =>
            codeAny (model pg wd) A (.compStart (two kx vx ta ia fa tb ib fb sc ps) 1 j (.ref D) env) (fun r z7 => match r with
              | .ok _ => ∃ m, m < n ∧ G m z7
              | .error _ => False) z6) (fun _ _ => False) z5) (fun _ _ => False) z4
          else ∃ m, m < n ∧ G m z4) (fun _ _ => False) z3) (fun _ _ => False) z2) (fun _ _ => False) z1) (fun _ _ => False) z)
    (n : Nat) (h : G n st) : codeAny (model pg wd) A (.compLoop (two kx vx ta ia fa tb ib fb sc ps) 0 it (.ref D) env) R st := by
  refine codeAny_loop rfl G ?_ n h
  intro n z hz
  show wpAny _ A ((compTurn (two kx vx ta ia fa tb ib fb sc ps) 0 it (.ref D) env).onRaise _) _ _ z
  apply wpAny_noted
  rw [turn_first]
  apply wpAny_bind
  apply wpAny_standAt
  apply wpAny_bind
  refine thnF (go n z hz) fun r z1 h1 => ?_
  cases r with
  | none => exact wpAny_pure h1
  | some u =>
    apply wpAny_bind
    refine thnF h1 fun _ z2 h2 => ?_
    apply wpAny_bind
    refine thnF h2 fun _ z3 h3 => ?_
    apply wpAny_bind
    refine thnF h3 fun b z4 h4 => ?_
    cases b with
    | false => exact wpAny_pure ⟨rfl, h4⟩
    | true =>
      apply wpAny_bind
      refine thnF h4 fun y z5 h5 => ?_
      apply wpAny_bind
      apply wpAny_standAt
      apply wpAny_bind
      refine wpAny_of_eq (hf y) ?_
      apply wpAny_bind
      apply wpAny_holding
      refine thnF h5 fun j z6 h6 => ?_
      apply wpAny_bind
      refine wpAny_runOwn ?_
      rw [Around.mark_none]
      refine codeAny_mono h6 fun r z7 h7 => ?_
      cases r with
      | error _ => exact False.elim h7
      | ok _ => first | exact wpAny_pure ⟨rfl, h7⟩ | exact wpAny_bind (wpAny_pure (wpAny_pure ⟨rfl, h7⟩))
/-- the second clause's loop -/
theorem loop_second (G : Nat → Shared → Prop)
    (go : ∀ n z, G n z → wpAny (model pg wd) A (pyNext it) (fun r z1 => match r with
      | none => R (.ok .next) z1
      | some u => wpAny (model pg wd) A (letOwnedTupleGo tb it u) (fun _ z2 => wpAny (model pg wd) A (assign tb env u) (fun _ z3 => wpAny (model pg wd) A (testsOf2 fb env) (fun b z4 =>
          if b = true then wpAny (model pg wd) A (eval kx env) (fun k z5 => wpAny (model pg wd) A (eval vx env) (fun v z6 => wpAny (model pg wd) A (dictSet D k v) (fun _ z7 => ∃ m, m < n ∧ G m z7) (fun _ _ => False) z6) (fun _ _ => False) z5) (fun _ _ => False) z4
          else ∃ m, m < n ∧ G m z4) (fun _ _ => False) z3) (fun _ _ => False) z2) (fun _ _ => False) z1) (fun _ _ => False) z)
    (n : Nat) (h : G n st) : codeAny (model pg wd) A (.compLoop (two kx vx ta ia fa tb ib fb sc ps) 1 it (.ref D) env) R st := by
  refine codeAny_loop rfl G ?_ n h
  intro n z hz
  show wpAny _ A ((compTurn (two kx vx ta ia fa tb ib fb sc ps) 1 it (.ref D) env).onRaise _) _ _ z
  apply wpAny_noted
  rw [turn_second]
  apply wpAny_bind
  apply wpAny_standAt
  apply wpAny_bind
  refine thnF (go n z hz) fun r z1 h1 => ?_
  cases r with
  | none => exact wpAny_pure h1
  | some u =>
    apply wpAny_bind
    refine thnF h1 fun _ z2 h2 => ?_
    apply wpAny_bind
    refine thnF h2 fun _ z3 h3 => ?_
    apply wpAny_bind
    refine thnF h3 fun b z4 h4 => ?_
    cases b with
    | false => exact wpAny_pure ⟨rfl, h4⟩
    | true =>
      apply wpAny_bind
      apply wpAny_bind
      refine thnF h4 fun k z5 h5 => ?_
      apply wpAny_bind
      apply wpAny_holding
      refine thnF h5 fun v z6 h6 => ?_
      apply wpAny_bind
      apply wpAny_standAt
      apply wpAny_holding
      exact thnF h6 fun _ z7 h7 => wpAny_pure ⟨rfl, h7⟩
/-- the second clause begins -/
theorem start_second (h0 : codeAny (model pg wd) A (.compLoop (two kx vx ta ia fa tb ib fb sc ps) 1 it (.ref D) env) R st)
    (h1 : wpAny (model pg wd) A (pyIter it) (fun j z => codeAny (model pg wd) A (.compLoop (two kx vx ta ia fa tb ib fb sc ps) 1 j (.ref D) env) R z) (notedBy (model pg wd) A env fun x z => R (.error x) z) st) :
    codeAny (model pg wd) A (.compStart (two kx vx ta ia fa tb ib fb sc ps) 1 it (.ref D) env) R st := by
  apply codeAny_of_tree
  show wpAny _ _ ((compStart (two kx vx ta ia fa tb ib fb sc ps) 1 it (.ref D) env).onRaise _) _ _ st
  apply wpAny_notedAt
  unfold compStart
  show wpAny _ _ (ask >>= _) _ _ st
  apply wpAny_bind
  apply wpAny_askSetting
  apply wpAny_ite
  split
  · first | exact wpAny_bind (wpAny_pure (wpAny_pure ⟨rfl, h0⟩)) | exact wpAny_pure ⟨rfl, h0⟩
  · apply wpAny_bind
    apply wpAny_rule
    show wpAny _ _ (standAt ib.pos >>= _) _ _ st
    apply wpAny_bind
    apply wpAny_standAt
    apply wpAny_bind
    exact wpAny_mono h1 (fun _ _ q => wpAny_pure ⟨rfl, q⟩) fun _ _ q => q
end
section
variable {X : Cx} {kx vx ta ia tb ib : Expr} {fa fb : List Expr} {sc : Scope} {ps qs : Pos} {own : List (Str × Nat)} {us : List Nat} {wa wb : TI} {ga gb : TG} {ra rb : TT} {tk tv : TE}
/-- the inner walk of one turn: from it Nx is reached -/
def Inner2 (J : It) (gb : TG) (rb : TT) (tk tv : TE) (us : List Nat) (D : Addr) (σ : L2.St) (H : Hp) (Nx : Hp → Prop) : Prop := ∃ W : Nat → Nat → Hp → Prop, (∃ m, W 0 m H) ∧ ∀ j k H1, W j k H1 →
  (J.stop j H1 ∧ Nx H1) ∨ (J.go j H1 ∧ ∃ Ny : Hp → Prop, (∀ H2, Ny H2 → ∃ k', k' < k ∧ W (j + 1) k' H2) ∧ ∀ x H2, J.yld j H1 x H2 → gb x (wipe σ us) H2 fun σ3 H3 => wipe σ3 us = wipe σ us ∧ rb σ3 H3 fun b H4 =>
    if b = true then tk σ3 H4 fun y H5 => tv σ3 H5 fun z H6 => ∃ kvs key, y = kV key ∧ H6 D = some (.dK kvs) ∧ kvs.length < sizeLine ∧ Ny (upd H6 D (.dK (putK kvs key z))) else Ny H4)
/-- the whole -/
def tDc2 (wa : TI) (ga : TG) (ra : TT) (wb : TI) (gb : TG) (rb : TT) (tk tv : TE) (os us : List Nat) : TE := fun σ H Q => wa σ H fun J H1 => ∀ D, H1 D = none → ∃ W : Nat → Nat → Hp → Prop, (∃ m, W 0 m (upd H1 D (.dK []))) ∧ ∀ i m H2, W i m H2 →
  (J.stop i H2 ∧ Q (.ref D) H2) ∨ (J.go i H2 ∧ ∃ Nx : Hp → Prop, (∀ H3, Nx H3 → ∃ m', m' < m ∧ W (i + 1) m' H3) ∧ ∀ x H3, J.yld i H2 x H3 → ga x (wipe σ os) H3 fun σ2 H4 => wipe σ2 os = wipe σ os ∧ ra σ2 H4 fun b H5 =>
    if b = true then wb σ2 H5 fun J1 H6 => Inner2 J1 gb rb tk tv us D σ2 H6 Nx else Nx H5)
theorem dc2_run {pins : List (Addr × Obj)} {s : Shared} {σ : L2.St} {H : Hp} {Q : VK} {use : Option (Value → Sem Unit)} {Qf : Value → Shared → Prop}
    (calm : X.calm = true) (nd : X.N.Nodup) (I : Inv X pins σ H s) (pa : PI X ta ia wa) (ok : BlkOk X.N X.env.scope sc own) (sub : ∀ i ∈ us, i ∈ own.map (·.2))
    (pga : ∀ z G C cl fp, PG (X.blk z G sc (compEnvC sc cl C X.env) fp) ta ga) (pra : ∀ z G C cl fp, PTs (X.blk z G sc (compEnvC sc cl C X.env) fp) fa ra)
    (pb : ∀ z G C cl fp, PI (X.blk z G sc (compEnvC sc cl C X.env) fp) tb ib wb) (pgb : ∀ z G C cl fp, PG (X.blk z G sc (compEnvC sc cl C X.env) fp) tb gb) (prb : ∀ z G C cl fp, PTs (X.blk z G sc (compEnvC sc cl C X.env) fp) fb rb)
    (pk : ∀ z G C cl fp, PE (X.blk z G sc (compEnvC sc cl C X.env) fp) kx tk) (pv' : ∀ z G C cl fp, PE (X.blk z G sc (compEnvC sc cl C X.env) fp) vx tv)
    (hfa : ∀ y, foldedSetIterable ia X.env y = pure y) (hfb : ∀ env y, foldedSetIterable ib env y = pure y)
    (h : tDc2 wa ga ra wb gb rb tk tv (own.map (·.2)) us σ H Q)
    (fin : ∀ D C z m H', Inv X pins σ H' z → Q (.ref D) H' → z.heap.Ns C m → FpOk X pins H' C → compPost (model X.prog X.w) X.A X.xe use Qf (.ref D) C (.ok .next) z) :
    wpAny (model X.prog X.w) X.A (comprehension (two kx vx ta ia fa tb ib fb sc ps) sc X.env qs newDict false (eval ia X.env) use) Qf X.xe s := by
  have cellsOk : ∀ y ∈ sc.names, y.2 = .free → ∃ c, X.env.cells.lookup y.1 = some c := by
    intro y hy e
    rcases ok.free y hy e with k | k
    · exact I.ok.has _ (.inl k)
    · exact I.ok.has _ (.inr k)
  refine wpAny_comprehension_free (use := use) rfl hfa (closure_ok cellsOk) ok.kind (fun y hy e => by rw [ok.uniq y hy, e]) ?_
  refine thn (pa.run pins s σ H _ I h) fun _ _ hx => thn hx fun _ z2 hz2 => ?_
  obtain ⟨it, fp, tn, J, G2, rfl, I2, T, at2, far2, q⟩ := hz2
  refine wpAny_newObj_type (newEnv_comp ?_)
  -- the new dict stands at D
  obtain ⟨D, hD⟩ : ∃ D, D = z2.heap.objs.size := ⟨_, rfl⟩
  rw [← hD]
  have freeD : G2 D = none := I2.hok.fresh (Nat.le_of_eq hD.symm)
  obtain ⟨W, ⟨m0, w0⟩, turn⟩ := q D freeD
  obtain ⟨z3, e3⟩ : ∃ z3 : Shared, z3 = { z2 with heap := z2.heap.push { cls := .type "dict", data := .dict #[] } } := ⟨_, rfl⟩
  have h3 : z3.heap = z2.heap.push { cls := .type "dict", data := .dict #[] } := by rw [e3]
  have I3 : Inv X pins σ (upd G2 D (.dK [])) z3 := by
    rw [e3]
    refine I2.laid (t' := z2.toks) (fun _ _ e => Heap.get?_push_of_some _ e) (Nat.le_of_eq hD.symm) ?_
    rw [hD]
    exact dk_empty z2.heap I2.big
  have small : ∀ b ∈ fp, b < z2.heap.objs.size := by
    intro b hb
    obtain ⟨_, e, _⟩ := T.obj _ _ at2 b hb
    exact Heap.lt_size e
  have far3 : ∀ b ∈ fp, FpOk X pins (upd G2 D (.dK [])) b ∧ b < z3.heap.objs.size := by
    intro b hb
    have lt := small b hb
    constructor
    · refine ⟨?_, (far2 b hb).2⟩
      rw [upd_ne (by rw [hD]; exact Nat.ne_of_lt lt)]
      exact (far2 b hb).1
    · rw [h3, Heap.size_push]
      exact Nat.lt_succ_of_lt lt
  have at3 : tn 0 z3.heap := T.keep _ _ _ at2 fun _ _ _ e => by rw [h3]; exact Heap.get?_push_of_some _ e
  have I4 := block_start I3 ok nd far3
  -- the block's frame
  obtain ⟨cl, hcl⟩ : ∃ cl, cl = cellsFrom (z3.heap.objs.size + 1) sc.names (cloFrom X.env.cells sc.names []) := ⟨_, rfl⟩
  rw [← hcl] at I4
  have gA := pga z3 (upd G2 D (.dK [])) z3.heap.objs.size cl fp
  have tA := pra z3 (upd G2 D (.dK [])) z3.heap.objs.size cl fp
  have iB := pb z3 (upd G2 D (.dK [])) z3.heap.objs.size cl fp
  have gB := pgb z3 (upd G2 D (.dK [])) z3.heap.objs.size cl fp
  have tB := prb z3 (upd G2 D (.dK [])) z3.heap.objs.size cl fp
  have eK := pk z3 (upd G2 D (.dK [])) z3.heap.objs.size cl fp
  have eV := pv' z3 (upd G2 D (.dK [])) z3.heap.objs.size cl fp
  show codeAny _ _ (.compStart (two kx vx ta ia fa tb ib fb sc ps) 0 (.ref it) (.ref D) (compEnvC sc (cellsFrom (({ z2 with heap := z2.heap.push { cls := .type "dict", data := .dict #[] } } : Shared).heap.objs.size + 1) sc.names (cloFrom X.env.cells sc.names [])) ({ z2 with heap := z2.heap.push { cls := .type "dict", data := .dict #[] } } : Shared).heap.objs.size X.env))
    (compPost (model X.prog X.w) X.A X.xe use Qf (.ref D) ({ z2 with heap := z2.heap.push { cls := .type "dict", data := .dict #[] } } : Shared).heap.objs.size) { ({ z2 with heap := z2.heap.push { cls := .type "dict", data := .dict #[] } } : Shared) with heap := pushCells (({ z2 with heap := z2.heap.push { cls := .type "dict", data := .dict #[] } } : Shared).heap.push { cls := .type "dict", data := .dict #[] }) sc.names }
  rw [← e3, ← hcl]
  have none3 : ∀ b ∈ fp, (upd G2 D (.dK [])) b = none := fun b hb => (far3 b hb).1.1
  obtain ⟨ev, hev⟩ : ∃ ev, ev = compEnvC sc cl z3.heap.objs.size X.env := ⟨_, rfl⟩
  rw [← hev] at I4 gA tA iB gB tB eK eV ⊢
  have evL : ev.locals = z3.heap.objs.size := by rw [hev]; rfl
  obtain ⟨G3, hG3⟩ : ∃ G3, G3 = upd G2 D (.dK []) := ⟨_, rfl⟩
  rw [← hG3] at I3 I4 gA tA iB gB tB eK eV w0 none3 far3
  obtain ⟨z4, e4⟩ : ∃ z4 : Shared, z4 = { z3 with heap := pushCells (z3.heap.push { cls := .type "dict", data := .dict #[] }) sc.names } := ⟨_, rfl⟩
  rw [← e4] at I4 ⊢
  have at4 : tn 0 z4.heap := T.keep _ _ _ at3 fun _ _ _ e => by rw [e4]; exact pushCells_keeps _ _ _ _ (Heap.get?_push_of_some _ e)
  have aside : ∀ {σ' : L2.St} {G : Hp} {z : Shared}, Inv (X.blk z3 G3 sc ev fp) [] σ' G z → (∀ b ∈ fp, G b = none) → ∀ b ∈ fp, FpOk (X.blk z3 G3 sc ev fp) [] G b := by
    intro σ' G z J' hn b hb
    exact ⟨hn b hb, (J'.ok.exf b hb).1, J'.ok.exfs b hb, .inl hb, fun x c e => (J'.ok.exf b hb).2 x c e, fun p hp => absurd (show p ∈ ([] : List (Addr × Obj)) ++ [] from hp) (by simp)⟩
  have whole : codeAny (model X.prog X.w) X.A (.compLoop (two kx vx ta ia fa tb ib fb sc ps) 0 (.ref it) (.ref D) ev) (compPost (model X.prog X.w) X.A X.xe use Qf (.ref D) z3.heap.objs.size) z4 := by
    refine loop_first (hfb ev) (fun n z => ∃ i G, Inv (X.blk z3 G3 sc ev fp) [] (wipe σ (own.map (·.2))) G z ∧ tn i z.heap ∧ (∀ b ∈ fp, G b = none) ∧ W i n G) ?_ m0 ⟨0, G3, I4, at4, none3, w0⟩
    rintro n z5 ⟨i, G5, I5, at5, none5, w5⟩
    rcases turn i n G5 w5 with ⟨stop, qq⟩ | ⟨goes, Nx, hNx, step⟩
    · refine thnF (T.done (X.blk z3 G3 sc ev fp) rfl rfl rfl calm i [] z5 _ G5 (fun _ _ => False) I5 (aside I5 none5) at5 stop) ?_
      rintro r z6 ⟨rfl, I6⟩
      have I7 : Inv X pins σ G5 z6 := I3.call' (ch := fp) I6.os I6.base I6.hok I6.bare fun b hb =>
        let f := (far3 b hb).1
        ⟨f.2.2.2.1, f.2.1, f.2.2.2.2.1, f.2.2.2.2.2⟩
      have noC : G5 z3.heap.objs.size = none := by
        have y : G5 ev.locals = none := I6.free
        rw [evL] at y
        exact y
      obtain ⟨m, hn, _⟩ := I6.loc
      have hn' : z6.heap.Ns ev.locals m := hn
      rw [evL] at hn'
      exact fin D _ z6 m G5 I7 qq hn' (I3.fpOk (Nat.le_refl _) noC)
    · refine thnF (T.item (X.blk z3 G3 sc ev fp) rfl rfl rfl calm i [] z5 _ G5 (fun _ _ => False) I5 (aside I5 none5) at5 goes) ?_
      rintro r z6 ⟨u, rfl, h6⟩
      refine thnF h6 ?_
      rintro _ z7 ⟨x, G7, I7, r7, y7, at7, none7⟩
      refine thnF (gA.run _ z7 _ G7 x u _ (I7.pinned (aside I7 none7) (T.obj _ _ at7)) r7 (step x G7 y7)) ?_
      rintro _ z8 ⟨σ8, G8, I8, hw8, q8⟩
      refine thnF (tA.run _ z8 σ8 G8 _ I8 q8) ?_
      rintro b z9 ⟨G9, I9, q9⟩
      -- one turn of the first clause is over
      have over : ∀ {σ9 : L2.St} {z : Shared} {G : Hp}, Inv (X.blk z3 G3 sc ev fp) ([] ++ pinsAt fp z7.heap) σ9 G z → (wipe σ (own.map (·.2))).length = σ9.length → (∀ (j : Nat) v, (wipe σ (own.map (·.2)))[j]? = some (some v) → σ9[j]? = some (some v)) → Nx G →
          ∃ m, m < n ∧ ∃ i G, Inv (X.blk z3 G3 sc ev fp) [] (wipe σ (own.map (·.2))) G z ∧ tn i z.heap ∧ (∀ b ∈ fp, G b = none) ∧ W i m G := by
        intro σ9 z G I' hl hk nx
        obtain ⟨m', lt, w'⟩ := hNx G nx
        have pins' : ∀ b ∈ fp, ∀ o, z7.heap.get? b = some o → z.heap.get? b = some o ∧ G b = none := by
          intro b hb o e
          have y := I'.pin (b, o) (List.mem_append_right _ (List.mem_append_right _ (mem_pinsAt hb e)))
          exact ⟨y.1, y.2.1⟩
        refine ⟨m', lt, i + 1, G, (I'.unpinned (pins := [])).weak hl hk, T.keep _ _ _ at7 (fun b hb o e => (pins' b hb o e).1), ?_, w'⟩
        intro b hb
        obtain ⟨o, e, _⟩ := T.obj _ _ at7 b hb
        exact (pins' b hb o e).2
      have len8 : (wipe σ (own.map (·.2))).length = σ8.length := by rw [← hw8, wipe_length]
      cases b with
      | false =>
        have q9' : Nx G9 := q9
        show ∃ m, m < n ∧ _
        exact over I9 len8 (fun j v e => by rw [← hw8] at e; exact (wipe_some e).1) q9'
      | true =>
        have q9' : wb σ8 G9 fun J1 H6 => Inner2 J1 gb rb tk tv us D σ8 H6 Nx := q9
        show wpAny _ _ (eval ib ev) _ _ z9
        refine thnF (iB.run _ z9 σ8 G9 _ I9 q9') fun _ _ hx => thnF hx ?_
        rintro _ z11 ⟨it1, fp1, tn1, J1, G11, rfl, I11, T1, at11, far11, W1, ⟨m1, w1⟩, turn1⟩
        have aside1 : ∀ {G : Hp}, (∀ b ∈ fp1, G b = none) → ∀ b ∈ fp1, FpOk (X.blk z3 G3 sc ev fp) ([] ++ pinsAt fp z7.heap) G b := fun hn b hb => ⟨hn b hb, (far11 b hb).2⟩
        have inner : codeAny (model X.prog X.w) X.A (.compLoop (two kx vx ta ia fa tb ib fb sc ps) 1 (.ref it1) (.ref D) ev) (fun r z => match r with
            | .ok _ => ∃ m, m < n ∧ ∃ i G, Inv (X.blk z3 G3 sc ev fp) [] (wipe σ (own.map (·.2))) G z ∧ tn i z.heap ∧ (∀ b ∈ fp, G b = none) ∧ W i m G
            | .error _ => False) z11 := by
          refine loop_second (fun k z => ∃ j G, Inv (X.blk z3 G3 sc ev fp) ([] ++ pinsAt fp z7.heap) (wipe σ8 us) G z ∧ tn1 j z.heap ∧ (∀ b ∈ fp1, G b = none) ∧ W1 j k G) ?_ m1 ⟨0, G11, I11.weak (wipe_length _ _) (fun j v e => (wipe_some e).1), at11, fun b hb => (far11 b hb).1, w1⟩
          rintro k z12 ⟨j, G12, I12, at12, none12, w12⟩
          rcases turn1 j k G12 w12 with ⟨stop1, nx1⟩ | ⟨goes1, Ny, hNy, step1⟩
          · refine thnF (T1.done (X.blk z3 G3 sc ev fp) rfl rfl rfl calm j _ z12 (wipe σ8 us) G12 (fun _ _ => False) I12 (aside1 none12) at12 stop1) ?_
            rintro r z13 ⟨rfl, I13⟩
            refine over I13 (len8.trans (wipe_length σ8 us).symm) ?_ nx1
            intro j' v e
            rw [← hw8] at e
            obtain ⟨e1, e2⟩ := wipe_some e
            rw [wipe_out fun y => e2 (sub j' y)]
            exact e1
          · refine thnF (T1.item (X.blk z3 G3 sc ev fp) rfl rfl rfl calm j _ z12 (wipe σ8 us) G12 (fun _ _ => False) I12 (aside1 none12) at12 goes1) ?_
            rintro r z13 ⟨u1, rfl, h13⟩
            refine thnF h13 ?_
            rintro _ z14 ⟨x1, G14, I14, r14, y14, at14, none14⟩
            refine thnF (gB.run _ z14 (wipe σ8 us) G14 x1 u1 _ (I14.pinned (aside1 none14) (T1.obj _ _ at14)) r14 (step1 x1 G14 y14)) ?_
            rintro _ z15 ⟨σ15, G15, I15, hw15, q15⟩
            refine thnF (tB.run _ z15 σ15 G15 _ I15 q15) ?_
            rintro b1 z16 ⟨G16, I16, q16⟩
            have over1 : ∀ {z : Shared} {G : Hp}, Inv (X.blk z3 G3 sc ev fp) (([] ++ pinsAt fp z7.heap) ++ pinsAt fp1 z14.heap) σ15 G z → Ny G → ∃ m, m < k ∧ ∃ j G, Inv (X.blk z3 G3 sc ev fp) ([] ++ pinsAt fp z7.heap) (wipe σ8 us) G z ∧ tn1 j z.heap ∧ (∀ b ∈ fp1, G b = none) ∧ W1 j m G := by
              intro z G I' nx
              obtain ⟨m', lt, w'⟩ := hNy G nx
              have pins' : ∀ b ∈ fp1, ∀ o, z14.heap.get? b = some o → z.heap.get? b = some o ∧ G b = none := by
                intro b hb o e
                have y := I'.pin (b, o) (List.mem_append_right _ (List.mem_append_right _ (mem_pinsAt hb e)))
                exact ⟨y.1, y.2.1⟩
              refine ⟨m', lt, j + 1, G, I'.unpinned.weak (by rw [← hw15, wipe_length]) (fun j v e => by rw [← hw15] at e; exact (wipe_some e).1), T1.keep _ _ _ at14 (fun b hb o e => (pins' b hb o e).1), ?_, w'⟩
              intro b hb
              obtain ⟨o, e, _⟩ := T1.obj _ _ at14 b hb
              exact (pins' b hb o e).2
            cases b1 with
            | false =>
              have q16' : Ny G16 := q16
              show ∃ m, m < k ∧ _
              exact over1 I16 q16'
            | true =>
              have q16' : tk σ15 G16 fun y H5 => tv σ15 H5 fun z H6 => ∃ kvs key, y = kV key ∧ H6 D = some (.dK kvs) ∧ kvs.length < sizeLine ∧ Ny (upd H6 D (.dK (putK kvs key z))) := q16
              show wpAny _ _ (eval kx ev) _ _ z16
              refine thnF (eK.run _ z16 σ15 G16 _ I16 q16') ?_
              rintro _ z17 ⟨yk, G17, I17, r17, q17⟩
              refine thnF (eV.run _ z17 σ15 G17 _ I17 q17) ?_
              rintro _ z18 ⟨yv, G18, I18, r18, kvs, key, rfl, hD18, lt18, nx⟩
              exact d_dictSet (X := X.blk z3 G3 sc ev fp) I18 hD18 lt18 r17 r18 fun _ I19 => over1 I19 nx
        exact start_second inner (T1.self X.A 0 _ _ _ at11 inner)
  exact codeAny_compStart_dict whole (T.self X.A 0 _ _ _ at4 whole)
/-- name = {..}, the name a local of the def -/
theorem ps_setDc2 {i : Nat} {y : Str} {py spos : Pos} (calm : X.calm = true) (nd : X.N.Nodup) (hy : X.N[i]? = some y) (hyl : X.env.scope.names.lookup y = some .local)
    (hsw : swapsWith (two kx vx ta ia fa tb ib fb sc ps) (some (.Name y py)) spos.line X.env = pure true)
    (pa : PI X ta ia wa) (ok : BlkOk X.N X.env.scope sc own) (sub : ∀ i ∈ us, i ∈ own.map (·.2))
    (pga : ∀ z G C cl fp, PG (X.blk z G sc (compEnvC sc cl C X.env) fp) ta ga) (pra : ∀ z G C cl fp, PTs (X.blk z G sc (compEnvC sc cl C X.env) fp) fa ra)
    (pb : ∀ z G C cl fp, PI (X.blk z G sc (compEnvC sc cl C X.env) fp) tb ib wb) (pgb : ∀ z G C cl fp, PG (X.blk z G sc (compEnvC sc cl C X.env) fp) tb gb) (prb : ∀ z G C cl fp, PTs (X.blk z G sc (compEnvC sc cl C X.env) fp) fb rb)
    (pk : ∀ z G C cl fp, PE (X.blk z G sc (compEnvC sc cl C X.env) fp) kx tk) (pv' : ∀ z G C cl fp, PE (X.blk z G sc (compEnvC sc cl C X.env) fp) vx tv)
    (hfa : ∀ y, foldedSetIterable ia X.env y = pure y := by intro _; rfl) (hfb : ∀ env y, foldedSetIterable ib env y = pure y := by intro _ _; rfl) :
    PS X (.Assign [.Name y py] (two kx vx ta ia fa tb ib fb sc ps) spos) (tAsg (tDc2 wa ga ra wb gb rb tk tv (own.map (·.2)) us) (gName i)) := by
  constructor
  intro pins s σ H Ed I h
  rw [exec_Assign_Name_used y py _ _ hsw]
  apply wpAny_bind
  apply wpAny_standAt
  apply wpAny_bind
  show wpAny _ X.A (comprehension (two kx vx ta ia fa tb ib fb sc ps) sc X.env (firstIterPos [⟨ta, ia, fa, 0⟩, ⟨tb, ib, fb, 0⟩] ps) newDict false (eval ia X.env) (some (assign (.Name y py) X.env)) >>= fun _ => pure ()) _ _ s
  apply wpAny_bind
  have h' : tDc2 wa ga ra wb gb rb tk tv (own.map (·.2)) us σ H (fun x H1 => gName i x σ H1 Ed.nx) := h
  refine thn (dc2_run (Qf := fun _ s1 => SP X pins Ed .next s1) calm nd I pa ok sub pga pra pb pgb prb pk pv' hfa hfb h' ?_) (fun _ _ z => wpAny_pure (wpAny_pure z))
  intro L C s1 m H1 I1 q hn ff
  obtain ⟨f0, f1, f2, f3, f4, f5⟩ := ff
  show wpAny _ _ (assign (.Name y py) X.env (.ref L)) _ _ _
  apply wpAny_assign_Name
  refine store_ok2 (v := V.ref L) I1 nd hy (.inl hyl) rfl ?_ (.inr hyl)
  rintro s2 I2 ⟨ad, sb, had⟩
  have hne : C ≠ ad := by
    rcases had with hz | hz
    · exact fun e => f1 (e.trans hz)
    · exact fun e => f4 y ad hz e.symm
  refine ⟨m, hn.sameBut sb hne, fun h3 sb3 => ⟨_, H1, ?_, q⟩⟩
  exact I2.turned (t' := s2.toks) (fun b o hb e => (sb3.2 b hb).trans e) f0 f1 f3 f4 f5
theorem pi_listK {K : PySem.W.Frag} {l tg : Expr} {tl : TE} (hK : X.K = K) (hl : PE X l tl) : PI X tg l (iList K tl) := hK ▸ pi_list hl
end
/-! ### its steps -/
section
variable {K : PySem.W.Frag} {σ : L2.St} {H : Hp} {Q : VK}
def Dc2P (J : It) (ga : TG) (ra : TT) (wb : TI) (gb : TG) (rb : TT) (tk tv : TE) (os us : List Nat) (Q : VK) (σ : L2.St) (H1 : Hp) : Prop := ∀ D, H1 D = none → ∃ W : Nat → Nat → Hp → Prop, (∃ m, W 0 m (upd H1 D (.dK []))) ∧ ∀ i m H2, W i m H2 →
  (J.stop i H2 ∧ Q (.ref D) H2) ∨ (J.go i H2 ∧ ∃ Nx : Hp → Prop, (∀ H3, Nx H3 → ∃ m', m' < m ∧ W (i + 1) m' H3) ∧ ∀ x H3, J.yld i H2 x H3 → ga x (wipe σ os) H3 fun σ2 H4 => wipe σ2 os = wipe σ os ∧ ra σ2 H4 fun b H5 =>
    if b = true then wb σ2 H5 fun J1 H6 => Inner2 J1 gb rb tk tv us D σ2 H6 Nx else Nx H5)
theorem w_dc2 {wa wb : TI} {ga gb : TG} {ra rb : TT} {tk tv : TE} {os us : List Nat} (h : wa σ H fun J H1 => Dc2P J ga ra wb gb rb tk tv os us Q σ H1) : tDc2 wa ga ra wb gb rb tk tv os us σ H Q := h
theorem dc2_it {J : It} {n : Nat} {G : Hp → Prop} {Y : Nat → Hp → V → Hp → Prop} (w : Walk J n G Y) {wb : TI} {ga gb : TG} {ra rb : TT} {tk tv : TE} {os us : List Nat} (Pv : Addr → Nat → Hp → Prop) (h0 : ∀ D, H D = none → Pv D 0 (upd H D (.dK []))) (hG : ∀ D i H1, i ≤ n → Pv D i H1 → G H1)
    (hs : ∀ D i x H1 H2, H D = none → i < n → Pv D i H1 → Y i H1 x H2 → ga x (wipe σ os) H2 fun σ2 H4 => wipe σ2 os = wipe σ os ∧ ra σ2 H4 fun b H5 => if b = true then wb σ2 H5 fun J1 H6 => Inner2 J1 gb rb tk tv us D σ2 H6 (Pv D (i + 1)) else Pv D (i + 1) H5)
    (hd : ∀ D H1, H D = none → Pv D n H1 → Q (.ref D) H1) : Dc2P J ga ra wb gb rb tk tv os us Q σ H := by
  intro D hD
  refine ⟨fun i m H1 => m = n - i ∧ i ≤ n ∧ Pv D i H1, ⟨n, by simp, Nat.zero_le _, h0 D hD⟩, ?_⟩
  rintro i m H1 ⟨rfl, hi, p⟩
  by_cases lt : i < n
  · exact .inr ⟨w.goes i H1 lt (hG D i H1 hi p), Pv D (i + 1), fun H3 q => ⟨n - (i + 1), by omega, rfl, lt, q⟩, fun x H2 y => hs D i x H1 H2 hD lt p (w.yields i H1 x H2 lt (hG D i H1 hi p) y)⟩
  · have e : i = n := by omega
    subst e
    exact .inl ⟨w.stops H1 (hG D i H1 hi p), hd D H1 hD p⟩
theorem inner_it {J : It} {n : Nat} {G : Hp → Prop} {Y : Nat → Hp → V → Hp → Prop} (w : Walk J n G Y) {gb : TG} {rb : TT} {tk tv : TE} {us : List Nat} {D : Addr} {Nx : Hp → Prop} (Pv : Nat → Hp → Prop) (h0 : Pv 0 H) (hG : ∀ i H1, i ≤ n → Pv i H1 → G H1)
    (hs : ∀ i x H1 H2, i < n → Pv i H1 → Y i H1 x H2 → gb x (wipe σ us) H2 fun σ3 H3 => wipe σ3 us = wipe σ us ∧ rb σ3 H3 fun b H4 =>
      if b = true then tk σ3 H4 fun y H5 => tv σ3 H5 fun z H6 => ∃ kvs key, y = kV key ∧ H6 D = some (.dK kvs) ∧ kvs.length < sizeLine ∧ Pv (i + 1) (upd H6 D (.dK (putK kvs key z))) else Pv (i + 1) H4)
    (hd : ∀ H1, Pv n H1 → Nx H1) : Inner2 J gb rb tk tv us D σ H Nx := by
  refine ⟨fun i m H1 => m = n - i ∧ i ≤ n ∧ Pv i H1, ⟨n, by simp, Nat.zero_le _, h0⟩, ?_⟩
  rintro i m H1 ⟨rfl, hi, p⟩
  by_cases lt : i < n
  · exact .inr ⟨w.goes i H1 lt (hG i H1 hi p), Pv (i + 1), fun H3 q => ⟨n - (i + 1), by omega, rfl, lt, q⟩, fun x H2 y => hs i x H1 H2 lt p (w.yields i H1 x H2 lt (hG i H1 hi p) y)⟩
  · have e : i = n := by omega
    subst e
    exact .inl ⟨w.stops H1 (hG i H1 hi p), hd H1 p⟩
/-- a comprehension with a test: the turn i gives sel i, or nothing -/
theorem lcp_sel {J : It} {n : Nat} {G : Hp → Prop} {Y : Nat → Hp → V → Hp → Prop} (w : Walk J n G Y) {g : TG} {tt : TT} {te : TE} {vs : List Nat} (M : List Addr) (sel : Nat → Option V) (hz : n ≤ 1000000) (hG : ∀ H', Kp M H H' → G H')
    (hs : ∀ i x H1 H2 (R : V → Hp → Prop) (R0 : Hp → Prop), i < n → Kp M H H1 → Y i H1 x H2 → (∀ y H4, sel i = some y → Kp M H1 H4 → R y H4) → (∀ H4, sel i = none → Kp M H1 H4 → R0 H4) → g x (wipe σ vs) H2 fun σ2 H3 => wipe σ2 vs = wipe σ vs ∧ tt σ2 H3 fun b H4 => if b = true then te σ2 H4 R else R0 H4)
    (hM : ∀ b ∈ M, ∃ o, H b = some o)
    (hd : ∀ D H', H D = none → Kp M H H' → H' D = some (.lst ((List.range n).filterMap sel)) → Q (.ref D) H') : LcP J g tt te vs Q σ H := by
  intro D hD
  have hDM : D ∉ M := fun z => by obtain ⟨o, e⟩ := hM D z; rw [hD] at e; cases e
  refine lc_it w (fun i H' => Kp M H H' ∧ H' D = some (.lst ((List.range i).filterMap sel))) ⟨Kp.new hD, upd_same⟩ (fun i H' _ z => hG H' z.1) ?_ ?_
  · rintro i x H1 H2 hi ⟨k1, e1⟩ y
    refine hs i x H1 H2 _ _ hi k1 y ?_ ?_
    · intro z H4 hz' k4
      refine ⟨_, k4 _ _ hDM e1, ?_, (k1.trans k4).mutN hD, ?_⟩
      · refine Nat.lt_of_le_of_lt (List.length_filterMap_le _ _) ?_
        rw [List.length_range]
        exact Nat.lt_of_lt_of_le (Nat.lt_of_lt_of_le hi hz) (by decide)
      · rw [upd_same, List.range_succ, List.filterMap_append]
        simp [hz']
    · intro H4 hz' k4
      refine ⟨k1.trans k4, ?_⟩
      rw [k4 _ _ hDM e1, List.range_succ, List.filterMap_append]
      simp [hz']
  · rintro H' ⟨k, e⟩
    exact hd D H' hD k e
/-- {k: v for .. if ..}: the turn i puts sel i, or nothing -/
theorem dcp_sel {J : It} {n : Nat} {G : Hp → Prop} {Y : Nat → Hp → V → Hp → Prop} (w : Walk J n G Y) {g : TG} {tt : TT} {tk tv : TE} {vs : List Nat} (M : List Addr) (sel : Nat → Option (Key × V)) (hz : n ≤ 1000000) (hG : ∀ H', Kp M H H' → G H')
    (hs : ∀ i x H1 H2 (R : V → V → Hp → Prop) (R0 : Hp → Prop), i < n → Kp M H H1 → Y i H1 x H2 → (∀ e H4, sel i = some e → Kp M H1 H4 → R (kV e.1) e.2 H4) → (∀ H4, sel i = none → Kp M H1 H4 → R0 H4) → g x (wipe σ vs) H2 fun σ2 H3 => wipe σ2 vs = wipe σ vs ∧ tt σ2 H3 fun b H4 => if b = true then tk σ2 H4 fun y H5 => tv σ2 H5 fun z H6 => R y z H6 else R0 H4)
    (hM : ∀ b ∈ M, ∃ o, H b = some o)
    (hd : ∀ D H', H D = none → Kp M H H' → H' D = some (.dK (mergeK [] ((List.range n).filterMap sel))) → Q (.ref D) H') : DcP J g tt tk tv vs Q σ H := by
  intro D hD
  have hDM : D ∉ M := fun z => by obtain ⟨o, e⟩ := hM D z; rw [hD] at e; cases e
  refine ⟨fun i m H' => m = n - i ∧ i ≤ n ∧ Kp M H H' ∧ H' D = some (.dK (mergeK [] ((List.range i).filterMap sel))), ⟨n, by simp, Nat.zero_le _, Kp.new hD, upd_same⟩, ?_⟩
  rintro i m H1 ⟨rfl, hi, k1, e1⟩
  by_cases hlt : i < n
  · refine .inr ⟨w.goes i H1 hlt (hG _ k1), fun H' => Kp M H H' ∧ H' D = some (.dK (mergeK [] ((List.range (i + 1)).filterMap sel))), fun H' z => ⟨n - (i + 1), by omega, rfl, hlt, z.1, z.2⟩, fun x H2 y => ?_⟩
    refine hs i x H1 H2 (fun y z H5 => ∃ kvs k, y = kV k ∧ H5 D = some (.dK kvs) ∧ kvs.length < sizeLine ∧ (Kp M H (upd H5 D (.dK (putK kvs k z))) ∧ (upd H5 D (.dK (putK kvs k z))) D = some (.dK (mergeK [] ((List.range (i + 1)).filterMap sel))))) _ hlt k1 (w.yields i H1 x H2 hlt (hG _ k1) y) ?_ ?_
    · intro e H4 he k4
      refine ⟨_, e.1, rfl, k4 _ _ hDM e1, ?_, (k1.trans k4).mutN hD, ?_⟩
      · have h1 := mergeK_len ((List.range i).filterMap sel) []
        have h2 : ((List.range i).filterMap sel).length ≤ i := by
          have := List.length_filterMap_le sel (List.range i)
          rw [List.length_range] at this
          exact this
        exact Nat.lt_of_le_of_lt (Nat.le_trans h1 (show _ ≤ 1000000 by simp only [List.length_nil]; omega)) (by decide)
      · rw [upd_same, List.range_succ, List.filterMap_append]
        simp only [List.filterMap_cons, he, List.filterMap_nil]
        rw [mergeK_snoc]
    · intro H4 he k4
      refine ⟨k1.trans k4, ?_⟩
      rw [k4 _ _ hDM e1, List.range_succ, List.filterMap_append]
      simp [he]
  · have e : i = n := by omega
    subst e
    exact .inl ⟨w.stops H1 (hG _ k1), hd D H1 hD k1 e1⟩
/-! ### a dict that is walked; any, sorted, insert -/
def rInsert : V → List V → Hp → VK → Prop := fun x vs H Q => ∃ (l : Addr) (xs : List V) (i : Int) (y : V), x = .ref l ∧ vs = [.int i, y] ∧ H l = some (.lst xs) ∧ xs.length < sizeLine ∧ 0 ≤ i ∧ i < 2 ^ 63 ∧ Q .non (upd H l (.lst (xs.take i.toNat ++ [y] ++ xs.drop i.toNat)))
theorem w_any {p : Addr} {bs : List Bool} (h1 : SqL K H p (bs.map V.bl)) (h : Q (.bl (bs.any id)) H) : rAny K [.ref p] H Q := ⟨p, bs, rfl, h1, h⟩
theorem w_sorted {p : Addr} {ns : List Int} (h1 : SqL K H p (ns.map V.int)) (h2 : ns.length < 64) (h : ∀ (ys : List Int) l H1, ys.Perm ns → ys.Pairwise (· ≤ ·) → H l = none → H1 l = some (.lst (ys.map V.int)) → Same H H1 → Q (.ref l) H1) : rSorted K [.ref p] H Q :=
  ⟨p, ns, rfl, h1, h2, fun ys l a b c => h ys l _ a b c upd_same (Same.new c)⟩
section
variable {nx bk ct : L2.St → Hp → Prop} {rt : VK}
theorem w_lock {t : TS} {d : Addr} {kvs : List (Key × V)} (e : H d = some (.dK kvs)) (h : ∀ od H1, H1 d = some (.frz od (.dK kvs)) → Off d H H1 → t ⟨fun σ' H' => H' d = some (.frz od (.dK kvs)) ∧ nx σ' (upd H' d (.dK kvs)), fun v H' => H' d = some (.frz od (.dK kvs)) ∧ rt v (upd H' d (.dK kvs)), fun σ' H' => H' d = some (.frz od (.dK kvs)) ∧ bk σ' (upd H' d (.dK kvs)), fun σ' H' => H' d = some (.frz od (.dK kvs)) ∧ ct σ' (upd H' d (.dK kvs))⟩ σ H1) : tLock t ⟨nx, rt, bk, ct⟩ σ H :=
  ⟨d, _, e, trivial, fun od => h od _ upd_same fun x hx => upd_ne hx⟩
def rKeys (x : V) (H1 : Hp) (R : It → Hp → Prop) : Prop := ∃ d o, x = .ref d ∧ ((∃ kvs, H1 d = some (.frz o (.dK kvs)) ∧ R (Itk d o kvs) H1) ∨ ∃ kvs, H1 d = some (.frz o (.dT kvs)) ∧ R (Itkt d o kvs) H1)
theorem w_keys {td : TE} {R : It → Hp → Prop} (h : td σ H fun x H1 => rKeys x H1 R) : iKeys td σ H R := h
theorem w_keys' {d : Addr} {o : Obj} {kvs : List (Key × V)} {R : It → Hp → Prop} (e : H d = some (.frz o (.dK kvs))) (h : R (Itk d o kvs) H) : rKeys (.ref d) H R := ⟨d, o, rfl, .inl ⟨kvs, e, h⟩⟩
theorem lp_keys {d : Addr} {o : Obj} {kvs : List (Key × V)} {ks : List Int} {g : TG} {tb : TS} (hk : kvs.map (·.1) = ks.map (Sum.inl : Int → Key)) (Pv : Nat → L2.St → Hp → Prop) (h0 : Pv 0 σ H) (hl : ∀ i σ H, i ≤ ks.length → Pv i σ H → H d = some (.frz o (.dK kvs)))
    (hs : ∀ i x σ H, ks[i]? = some x → Pv i σ H → g (.int x) σ H fun σ2 H2 => tb ⟨Pv (i + 1), rt, nx, Pv (i + 1)⟩ σ2 H2) (hd : ∀ σ H, Pv ks.length σ H → nx σ H) : Lp (Itk d o kvs) g tb ⟨nx, rt, bk, ct⟩ σ H := by
  have hn : kvs.length = ks.length := by
    have := congrArg List.length hk
    simpa using this
  refine lp_it walk_keys Pv h0 (fun i σ H hi => hl i σ H (by omega)) ?_ (by rw [hn]; exact hd)
  rintro i x σ H H' hi p ⟨rfl, k, v, e, rfl⟩
  have e2 : (kvs.map (·.1))[i]? = some k := by rw [List.getElem?_map, e]; rfl
  rw [hk, List.getElem?_map] at e2
  obtain ⟨z, e3, rfl⟩ := Option.map_eq_some_iff.mp e2
  exact hs i z σ H' e3 p
end
theorem w_tyes {R : Bool → Hp → Prop} (h : R true H) : tYes σ H R := h
theorem w_dinF {a : Addr} {o : Obj} {kvs : List (Key × V)} {n : Int} (e : H a = some (.frz o (.dK kvs))) (h : Q (.bl (valV kvs (Sum.inl n)).isSome) H) : rDIn (.ref a) (.int n) H Q := ⟨a, _, rfl, .inl ⟨kvs, Sum.inl n, .inr ⟨o, e⟩, rfl, rfl⟩, h⟩
theorem w_dgetF {a : Addr} {o : Obj} {kvs : List (Key × V)} {n : Int} {v : V} (e : H a = some (.frz o (.dK kvs))) (e2 : valV kvs (Sum.inl n) = some v) (h : Q v H) : rDGet (.ref a) (.int n) H Q := ⟨a, v, rfl, .inl ⟨kvs, Sum.inl n, .inr ⟨o, e⟩, rfl, e2.symm⟩, h⟩
/-! ### get, reversed, slices, pop -/
def rDGet1 (a : Addr) (y : V) (H : Hp) (Q : VK) : Prop := ∃ o, DGet H a y o ∧ Q (o.getD .non) H
theorem w_dget1 {td ty : TE} (h : td σ H fun x H1 => rIsD x H1 fun a H1 => ty σ H1 fun y H2 => rDGet1 a y H2 Q) : tDGet1 td ty σ H Q := h
theorem w_dget1I {a : Addr} {kvs : List (Key × V)} {n : Int} (e : H a = some (.dK kvs)) (h : Q ((valV kvs (Sum.inl n)).getD .non) H) : rDGet1 a (.int n) H Q := ⟨_, DGet.k (k := Sum.inl n) e, h⟩
def rRev (K : PySem.W.Frag) (vs : List V) (H : Hp) (R : It → Hp → Prop) : Prop := ∃ (a : Addr) (xs : List V), vs = [.ref a] ∧ SqL K H a xs ∧ R (Itv K a xs.length) H
theorem w_rev {ta : TA} {R : It → Hp → Prop} (h : ta σ H fun vs H1 => rRev K vs H1 R) : iRev K ta σ H R := h
theorem w_rev' {a : Addr} {xs : List V} {R : It → Hp → Prop} (h1 : SqL K H a xs) (h : R (Itv K a xs.length) H) : rRev K [.ref a] H R := ⟨a, xs, rfl, h1, h⟩
theorem lp_rev {nx bk ct : L2.St → Hp → Prop} {rt : VK} {a : Addr} {xs : List V} {g : TG} {tb : TS} (Pv : Nat → L2.St → Hp → Prop) (h0 : Pv 0 σ H) (hl : ∀ i σ H, i ≤ xs.length → Pv i σ H → SqL K H a xs)
    (hs : ∀ i x σ H, i < xs.length → xs[xs.length - 1 - i]? = some x → Pv i σ H → g x σ H fun σ2 H2 => tb ⟨Pv (i + 1), rt, nx, Pv (i + 1)⟩ σ2 H2) (hd : ∀ σ H, Pv xs.length σ H → nx σ H) : Lp (Itv K a xs.length) g tb ⟨nx, rt, bk, ct⟩ σ H := by
  refine lp_it walk_rev Pv h0 hl ?_ hd
  rintro i x σ H H' hi p ⟨rfl, e⟩
  exact hs i x σ H' hi e p
def rPart (x : V) (H : Hp) (R : Option Int → Hp → Prop) : Prop := ∃ i, x = .int i ∧ R (some i) H
theorem w_slice {r : V → Option Int → Option Int → Hp → VK → Prop} {te : TE} {tl th : TO} (h : te σ H fun x H1 => tl σ H1 fun l H2 => th σ H2 fun u H3 => r x l u H3 Q) : L2.tSl r te tl th σ H Q := h
theorem w_noPart {R : Option Int → Hp → Prop} (h : R none H) : tNoPart σ H R := h
theorem w_part {te : TE} {R : Option Int → Hp → Prop} (h : te σ H fun x H1 => rPart x H1 R) : tPart te σ H R := h
theorem w_part' {i : Int} {R : Option Int → Hp → Prop} (h : R (some i) H) : rPart (.int i) H R := ⟨i, rfl, h⟩
theorem w_slL {a : Addr} {xs : List V} {lo hi : Option Int} (h1 : SqL K H a xs) (h : ∀ p H1, H p = none → H1 p = some (.lst (cutV xs lo hi)) → Same H H1 → Q (.ref p) H1) : rSlL K (.ref a) lo hi H Q := ⟨a, xs, rfl, h1, w_new h⟩
theorem cut_last (xs : List V) : cutV xs none (some (-1)) = xs.dropLast := by
  show ((xs.drop 0).take ((if (-1 : Int) < 0 then ((-1 : Int) + (xs.length : Int)).toNat else min (-1 : Int).toNat xs.length) - 0)) = xs.dropLast
  rw [if_pos (by decide), List.drop_zero, List.dropLast_eq_take]
  congr 1
  omega
theorem w_bm0 {r : V → List V → Hp → VK → Prop} {to : TE} (h : to σ H fun x H1 => tyV K "list" x H1 ∧ r x [] H1 Q) : tBM0 K "list" r to σ H Q := h
theorem w_pop {l : Addr} {xs : List V} {y : V} (h1 : H l = some (.lst (xs ++ [y]))) (h : ∀ H1, H1 l = some (.lst xs) → Off l H H1 → Q y H1) : rPop (.ref l) [] H Q :=
  ⟨l, _, y, rfl, rfl, h1, by simp, by rw [List.dropLast_concat]; exact h _ upd_same fun x hx => upd_ne hx⟩
theorem w_retN {nx bk ct : L2.St → Hp → Prop} {rt : VK} (h : rt .non H) : tRetN ⟨nx, rt, bk, ct⟩ σ H := h
theorem range_fm {α β : Type} (f : α → Option β) : ∀ xs : List α, (List.range xs.length).filterMap (fun i => xs[i]?.bind f) = xs.filterMap f
  | [] => rfl
  | x :: r => by
    rw [List.length_cons, List.range_succ_eq_map, List.filterMap_cons, List.filterMap_map, List.filterMap_cons]
    have h := range_fm f r
    show (match f x with | none => List.filterMap (fun i => r[i]?.bind f) (List.range r.length) | some b => b :: List.filterMap (fun i => r[i]?.bind f) (List.range r.length)) = _
    rw [h]
    cases f x <;> rfl
end
end FW

set_option Elab.async false
set_option linter.all false
set_option maxRecDepth 100000
set_option maxHeartbeats 4000000
/-! Data of any kind: what isinstance says of them, and tuples of them to a depth. -/
namespace FW
open PySem PySem.Spec PyProof.Rows L2
inductive Ty (H : Hp) : V → String → Prop where
  | non : Ty H .non "NoneType"
  | bl (b : Bool) : Ty H (.bl b) "bool"
  | int (i : Int) : Ty H (.int i) "int"
  | str (z : Str) : Ty H (.str z) "str"
  | lst {a : Addr} {xs : List V} (e : H a = some (.lst xs)) : Ty H (.ref a) "list"
  | tup {a : Addr} {xs : List V} (e : H a = some (.tup xs)) : Ty H (.ref a) "tuple"
  | dK {a : Addr} {kvs : List (Key × V)} (e : H a = some (.dK kvs)) : Ty H (.ref a) "dict"
section
variable {K : PySem.W.Frag} {σ : L2.St} {H : Hp} {Q : VK} {x : V} {a : String}
theorem Ty.tx (t : Ty H x a) : TyX K H x (.type a) := by
  cases t with
  | non => exact .base .non
  | bl b => exact .base (.bl b)
  | int i => exact .base (.int i)
  | str z => exact .base (.str z)
  | lst e => exact .base (.lst e)
  | tup e => exact .base (.tup e)
  | dK e => exact .base (.dK e)
end
/-- data: a tuple of data, or another thing -/
inductive Dat (B : Nat) (H : Hp) : V → Prop where
  | leaf {x : V} {a : String} (t : Ty H x a) (h : a ≠ "tuple") : Dat B H x
  | tup {p : Addr} {xs : List V} (e : H p = some (.tup xs)) (l : xs.length ≤ B) (h : ∀ y ∈ xs, Dat B H y) : Dat B H (.ref p)
theorem Dat.int {B : Nat} {H : Hp} {i : Int} : Dat B H (.int i) := .leaf (.int i) (by decide)
theorem Dat.ty {B : Nat} {H : Hp} {x : V} (h : Dat B H x) : ∃ a, Ty H x a := by
  cases h with
  | leaf t _ => exact ⟨_, t⟩
  | tup e _ _ => exact ⟨_, .tup e⟩
/-- what keeps tuples, and of lists and dicts their kind -/
structure KD (H H' : Hp) : Prop where
  t : KT H H'
  l : ∀ b xs, H b = some (.lst xs) → ∃ ys, H' b = some (.lst ys)
  d : ∀ b kvs, H b = some (.dK kvs) → ∃ kws, H' b = some (.dK kws)
theorem KD.of {H H' : Hp} (k : Same H H') : KD H H' := ⟨KT.of k, fun b xs e => ⟨xs, k _ _ e⟩, fun b kvs e => ⟨kvs, k _ _ e⟩⟩
theorem KD.refl {H : Hp} : KD H H := ⟨KT.refl, fun b xs e => ⟨xs, e⟩, fun b kvs e => ⟨kvs, e⟩⟩
theorem KD.trans {H H1 H2 : Hp} (a : KD H H1) (b : KD H1 H2) : KD H H2 := ⟨a.t.trans b.t, fun c xs e => by
  obtain ⟨ys, e⟩ := a.l c xs e
  exact b.l c ys e, fun c xs e => by
  obtain ⟨ys, e⟩ := a.d c xs e
  exact b.d c ys e⟩
theorem KD.off {p : Addr} {H H' : Hp} {xs ys : List V} (k : Off p H H') (e : H p = some (.lst xs)) (e' : H' p = some (.lst ys)) : KD H H' := ⟨KT.off k e, fun b zs h => by
  by_cases q : b = p
  · subst q; exact ⟨ys, e'⟩
  · exact ⟨zs, k.get q h⟩, fun b kvs h => ⟨kvs, k.get (ne_of h e (fun z => nomatch z)) h⟩⟩
theorem Ty.kd {H H' : Hp} {x : V} {a : String} (t : Ty H x a) (k : KD H H') : Ty H' x a := by
  cases t with
  | non => exact .non
  | bl b => exact .bl b
  | int i => exact .int i
  | str z => exact .str z
  | lst e => obtain ⟨ys, e⟩ := k.l _ _ e; exact .lst e
  | tup e => exact .tup (k.t _ _ e)
  | dK e => obtain ⟨ys, e⟩ := k.d _ _ e; exact .dK e
theorem Dat.kd {B : Nat} {H H' : Hp} {x : V} (h : Dat B H x) (k : KD H H') : Dat B H' x := by
  induction h with
  | leaf t h => exact .leaf (t.kd k) h
  | tup e l _ ih => exact .tup (k.t _ _ e) l fun y hy => ih y hy
theorem Dat.mono {B C : Nat} (hB : B ≤ C) {H : Hp} {x : V} (h : Dat B H x) : Dat C H x := by
  induction h with
  | leaf t h => exact .leaf t h
  | tup e l _ ih => exact .tup e (Nat.le_trans l hB) fun y hy => ih y hy
theorem Dat.cases {B : Nat} {H : Hp} {x : V} (h : Dat B H x) : (∃ a, Ty H x a ∧ a ≠ "tuple") ∨ ∃ (p : Addr) (xs : List V), x = .ref p ∧ H p = some (.tup xs) ∧ xs.length ≤ B ∧ ∀ y ∈ xs, Dat B H y := by
  cases h with
  | leaf t h => exact .inl ⟨_, t, h⟩
  | tup e l h => exact .inr ⟨_, _, rfl, e, l, h⟩
theorem Deck.kd {H H' : Hp} {d c : Addr} {n m : Nat} (D : Deck H d c n) (D' : Deck H' d c m) (o : Off d H H') : KD H H' := by
  obtain ⟨⟨xs, e⟩, _⟩ := D.at
  obtain ⟨⟨ys, e'⟩, _⟩ := D'.at
  exact KD.off o e e'
section
variable {K : PySem.W.Frag} {H : Hp} {Q : VK}
theorem w_catAt {a b : Addr} {xs ys : List V} (h1 : H a = some (.tup xs)) (h2 : H b = some (.tup ys)) (hz : xs.length + ys.length ≤ sizeLine) (h : ∀ p H1, H1 p = some (.tup (xs ++ ys)) → Same H H1 → Q (.ref p) H1) : rCatA K (.ref a) (.ref b) H Q := by
  refine ⟨a, b, xs, ys, rfl, rfl, .of h1, .of h2, hz, fun e => ?_, fun _ e => ?_, fun _ _ p hp => h p _ upd_same (Same.new hp)⟩
  · subst e
    exact h b H h2 (fun _ _ z => z)
  · subst e
    exact h a H (by rw [List.append_nil]; exact h1) (fun _ _ z => z)
end
/-! ### except X as e -/
def tTryA (K : PySem.W.Frag) (c : Value) (i : Nat) (tb : WX → TS) (ts : Addr → Value → Option Addr → TS) : TS := fun D σ H => tb (wAs K c i ts (fun _ _ _ _ => False) D) D σ H
def tGuard (P : Prop) (t : TS) : TS := fun D σ H => P ∧ t D σ H
section
variable {X : Cx} {x n : Str} {c : Value} {i : Nat} {body suite : List Stmt} {b₀ : Stmt} {np pos pos' : Pos} {tb : WX → TS} {ts : Addr → Value → Option Addr → TS}
end
section
variable {K : PySem.W.Frag} {σ : L2.St} {H : Hp} {Q : VK} {nx bk ct : L2.St → Hp → Prop} {rt : VK}
end
end FW

set_option Elab.async false
set_option linter.all false
set_option maxRecDepth 100000
set_option maxHeartbeats 4000000
/-! own errors with fields: made, caught, looked at; min of pairs; defaults by keyword -/
namespace FW
section
open PySem PySem.W PySem.Calls PyProof.Rows
variable {prog : Program} {w : World} {A : Around} {E : Value → Shared → Prop} {s : Shared} {K : Frag} {x D : Addr} {ox : Obj} {od : Option Obj}
end
open PySem PySem.Spec PyProof.Rows L2
/-- isinstance(e, c), e the error that the suite holds, with its fields at d -/
def rIsF (K : PySem.W.Frag) (D a : Addr) (d : Option Addr) : List V → Hp → VK → Prop := fun xs H Q => ∃ (c : V) (cv : Value) (b : Bool) (dd : Addr) (fs : List (Str × V)), xs = [.ref a, c] ∧ d = some dd ∧ H dd = some (.xd fs) ∧ (∀ u, RelV c u → u = cv) ∧ PySem.W.kitOne K (.ref D) cv = some b ∧ Q (.bl b) H
/-- an own error with __init__ -/
structure ExnI (K : PySem.W.Frag) (mg : Str → Option Value) (x : Str) (C fI : Addr) (fd : FuncData) (ps : List Str) (fs : List Str) : Prop where
  g : mg x = some (.ref C)
  T : OexC K C
  i : PySem.W.findIn K (.ref C) "__init__" = some (some (.ref fI))
  t : PySem.W.typeIn K (.ref fI) = some (.type "function")
  b : Binds K fd ps []
  f : XfC K C
  ec : ExcC K C
  nf : ∀ y ∈ fs, PySem.W.findIn K (.ref C) y = some none
/-- a def with keyword-only defaults -/
structure DfK (K : PySem.W.Frag) (mg : Str → Option Value) (x : Str) (st : Stmt) (ps : List Str) (kws : List (Str × V)) (dvs : List V) (f : Addr) (fd : FuncData) : Prop where
  fn : FunD K x x (defArgs st) (defBody st) (defScope st) [] kws f fd
  g : mg x = some (.ref f)
  kp : PySem.W.keepIn K (.ref f) = true
  b : ∃ ds, Vals dvs ds ∧ Binds K fd ps ds
  kb : ∃ g, KBn K fd ps (ps.length - kws.length) (kws.map (·.1)) g (fun vs zs => vs ++ zs)
/-- raise C(..) of two fields -/
def tRaiseO (C : Addr) (W : WX) (sp : Sp) (ta : TA) : TS := fun _ σ H => tMkO C sp [] ta σ H fun cls d H' => W cls d σ H'
section
variable {K : PySem.W.Frag} {σ : L2.St} {H : Hp} {Q : VK} {nx bk ct : L2.St → Hp → Prop} {rt : VK}
theorem w_mkO {C : Addr} {sp : Sp} {ta : TA} {Qx : XK} (h : ta σ H fun vs H1 => vs.length ≤ 1000 ∧ ∀ a, H1 a = none → sp (.ref a :: (vs ++ [])) (upd H1 a (exo a C none)) (fun v H2 => v = .non ∧ ∃ (d : Addr) (fs : List (Str × V)), H2 a = some (exo a C (some d)) ∧ H2 d = some (exd d fs) ∧ H1 d = none ∧ Qx (.ref C) (some d) (upd (del H2 a) d (.xd fs))) (fun _ _ _ => False)) : tMkO C sp [] ta σ H Qx := h
theorem w_callN {n m : Nat} {sp : Sp} {gV : List V → List V → List V} {E : XK} {t tk : TA} (h : t σ H fun vs H1 => tk σ H1 fun zs H2 => vs.length = n ∧ zs.length = m ∧ sp (gV vs zs) H2 Q E) : tCallN n m sp gV E t tk σ H Q := h
theorem w_ost {f : Str} {to te : TE} {D : Ends} (h : te σ H fun y H1 => to σ H1 fun x H2 => ∃ a C : Addr, x = .ref a ∧ OexC K C ∧ PySem.W.findIn K (.ref C) f = some none ∧ ((H2 a = some (exo a C none) ∧ ∀ dx, H2 dx = none → dx ≠ a → D.nx σ (upd (upd H2 dx (exd dx [(f, y)])) a (exo a C (some dx)))) ∨ ∃ (dx : Addr) (fs : List (Str × V)), H2 a = some (exo a C (some dx)) ∧ H2 dx = some (exd dx fs) ∧ fs.length ≤ 900 ∧ D.nx σ (upd H2 dx (exd dx ((f, y) :: fs))))) : tOst K f to te D σ H := h
end
/-- what __init__ of two fields leaves -/
def spInit2 (K : PySem.W.Frag) (C : Addr) (f g : Str) : Sp := fun vs H Q _ => ∃ (a : Addr) (x y : V), vs = [.ref a, x, y] ∧ H a = some (exo a C none) ∧ ∀ dx, H dx = none → dx ≠ a → Q .non (upd (upd (upd H dx (exd dx [(f, x)])) a (exo a C (some dx))) dx (exd dx [(g, y), (f, x)]))
def spInit1 (K : PySem.W.Frag) (C : Addr) (f : Str) : Sp := fun vs H Q _ => ∃ (a : Addr) (x : V), vs = [.ref a, x] ∧ H a = some (exo a C none) ∧ ∀ dx, H dx = none → dx ≠ a → Q .non (upd (upd H dx (exd dx [(f, x)])) a (exo a C (some dx)))
/-- the heap behind it -/
theorem mk2_same {K : PySem.W.Frag} {C : Addr} {f g : Str} {x y : V} {H : Hp} {Qx : XK} {a : Addr} (ha : H a = none) (h : ∀ d H', Same H H' → H d = none → H' d = some (.xd [(g, y), (f, x)]) → Qx (.ref C) (some d) H') :
    spInit2 K C f g [.ref a, x, y] (upd H a (exo a C none)) (fun v H2 => v = .non ∧ ∃ (d : Addr) (fs : List (Str × V)), H2 a = some (exo a C (some d)) ∧ H2 d = some (exd d fs) ∧ H d = none ∧ Qx (.ref C) (some d) (upd (del H2 a) d (.xd fs))) (fun _ _ _ => False) := by
  refine ⟨a, x, y, rfl, upd_same, fun dx hd hne => ⟨rfl, dx, _, ?_, upd_same, (upd_none hd).1, h dx _ (fun b o e => ?_) (upd_none hd).1 upd_same⟩⟩
  · rw [upd_ne (Ne.symm hne), upd_same]
  · have n1 : b ≠ dx := ne_of_none e (upd_none hd).1
    have n2 : b ≠ a := ne_of_none e ha
    rw [upd_ne n1, del_ne n2, upd_ne n1, upd_ne n2, upd_ne n1, upd_ne n2]
    exact e
/-! ### min of a list of pairs -/
def LtP (p q : Int × Int) : Prop := p.1 < q.1 ∨ p.1 = q.1 ∧ p.2 < q.2
def rMinP (K : PySem.W.Frag) : List V → Hp → VK → Prop := fun vs H Q => ∃ (a : Addr) (ps : List (Addr × Int × Int)), vs = [V.ref a] ∧ SqL K H a (ps.map fun q => .ref q.1) ∧ (∀ q ∈ ps, H q.1 = some (.tup [.int q.2.1, .int q.2.2])) ∧ ps ≠ [] ∧ ∀ q ∈ ps, (∀ r ∈ ps, ¬ LtP r.2 q.2) → Q (.ref q.1) H
section
variable {X : Cx} {pins : List (Addr × Obj)} {σ : L2.St} {H : Hp} {s : Shared}
end
end FW

set_option Elab.async false
set_option linter.all false
set_option maxRecDepth 100000
set_option maxHeartbeats 4000000
/-! for i, x in enumerate(t), t a tuple -/
namespace FW
open PySem PySem.Spec PyProof.Rows L2
def ItU (K : PySem.W.Frag) (a : Addr) : It :=
  ⟨fun i H => ∃ (xs : List V) (x : V), SqT K H a xs ∧ xs[i]? = some x,
   fun i H v H' => ∃ T x, v = .ref T ∧ H T = none ∧ H' = upd H T (.tup [.int (i : Nat), x]) ∧ ∀ xs, SqT K H a xs → xs[i]? = some x,
   fun i H => ∃ xs : List V, SqT K H a xs ∧ xs.length = i⟩
section
variable {P : Program} {w : World} {K : PySem.W.Frag} {elts : List Expr} {kk : Nat} {tpos : Pos}
end
section
variable {prog : Program} {w : World} {A : Around} {E : Value → Shared → Prop} {s : Shared}
end
def rEnumT (K : PySem.W.Frag) (vs : List V) (H : Hp) (R : It → Hp → Prop) : Prop := ∃ a xs, vs = [.ref a] ∧ SqT K H a xs ∧ R (ItU K a) H
def iEnumT (K : PySem.W.Frag) (ta : TA) : TI := fun σ H R => ta σ H fun vs H1 => rEnumT K vs H1 R
def rLenD (vs : List V) (H : Hp) (Q : VK) : Prop := ∃ a kvs, vs = [V.ref a] ∧ H a = some (.dK kvs) ∧ Q (.int kvs.length) H
section
variable {K : PySem.W.Frag} {σ : L2.St} {H : Hp} {a : Addr} {xs : List V}
theorem w_enum {ta : TA} {R : It → Hp → Prop} (h : ta σ H fun vs H1 => rEnumT K vs H1 R) : iEnumT K ta σ H R := h
theorem w_enum' {R : It → Hp → Prop} (h1 : SqT K H a xs) (h : R (ItU K a) H) : rEnumT K [.ref a] H R := ⟨a, xs, rfl, h1, h⟩
end
/-! ### what keeps all but the deck -/
structure KX (dk : Addr) (H H' : Hp) : Prop extends KD H H' where
  p : Kp [dk] H H'
theorem KX.of {d : Addr} {H H' : Hp} (k : Same H H') : KX d H H' := ⟨KD.of k, Kp.of k⟩
theorem KX.refl {d : Addr} {H : Hp} : KX d H H := ⟨KD.refl, Kp.refl⟩
theorem KX.trans {d : Addr} {H H1 H2 : Hp} (a : KX d H H1) (b : KX d H1 H2) : KX d H H2 := ⟨a.toKD.trans b.toKD, a.p.trans b.p⟩
theorem Deck.kx {H H' : Hp} {d c : Addr} {n m : Nat} (D : Deck H d c n) (D' : Deck H' d c m) (o : Off d H H') : KX d H H' := ⟨D.kd D' o, o.kp (by simp)⟩
instance {d : Addr} {H H' : Hp} : CoeOut (KX d H H') (KD H H') := ⟨KX.toKD⟩
end FW

set_option Elab.async false
set_option linter.all false
set_option maxRecDepth 100000
set_option maxHeartbeats 4000000
/-! sorted(d) of a dict of ints, of any length -/
namespace FW
open PySem PySem.Spec PyProof.Rows L2
def rSortA (xs : List V) (H : Hp) (Q : VK) : Prop := ∃ (a : Addr) (kvs : List (Key × V)) (ks : List Int), xs = [.ref a] ∧ Rd H a (.dK kvs) ∧ kvs.map (·.1) = ks.map Sum.inl ∧ ks.length ≤ 100000 ∧
    ∀ (ys : List Int) (p : Addr), ys.Perm ks → ys.Pairwise (· ≤ ·) → H p = none → Q (.ref p) (upd H p (.lst (ys.map V.int)))
end FW

set_option Elab.async false
set_option linter.all false
set_option maxRecDepth 100000
set_option maxHeartbeats 4000000
/-! t[k::w] of a tuple; extend by a tuple; pairs in a list -/
namespace HT
open PySem PySem.Spec PyProof.Rows
section
variable {prog : Program} {w : World} {A : Around} {E : Value → Shared → Prop} {s : Shared}
def places (n k w : Nat) : Nat := (n - k - 1) / w + 1
def stepL {α : Type} (xs : List α) (k c : Nat) : List α := (List.range (places xs.length k c)).filterMap fun j => xs[k + j * c]?
end
end HT
namespace FW
open PySem PySem.Spec PyProof.Rows L2
/-- t[k::w] -/
def rStep (K : PySem.W.Frag) (x y z : V) (H : Hp) (Q : VK) : Prop := ∃ (a : Addr) (xs : List V) (k c : Nat), x = .ref a ∧ y = .int k ∧ z = .int c ∧ SqT K H a xs ∧ k < xs.length ∧ 0 < c ∧ (k = 0 → c = 1 → Q (.ref a) H) ∧ (¬ (k = 0 ∧ c = 1) → Nw (.tup (HT.stepL xs k c)) H Q)
def tStep (K : PySem.W.Frag) (te tl ts : TE) : TE := fun σ H Q => te σ H fun x H1 => tl σ H1 fun y H2 => ts σ H2 fun z H3 => rStep K x y z H3 Q
section
variable {X : Cx}
def rExtT (K : PySem.W.Frag) : V → List V → Hp → VK → Prop := fun x vs H Q => ∃ l b xs zs, x = .ref l ∧ vs = [.ref b] ∧ H l = some (.lst xs) ∧ H b = some (.tup zs) ∧ xs.length + zs.length ≤ sizeLine ∧ Q .non (upd H l (.lst (xs ++ zs)))
/-- a pair (int, truth) that is not in a list of such -/
def rNotInP (K : PySem.W.Frag) : R2 := fun x y H Q => ∃ (p a : Addr) (v : Int) (b : Bool) (an : List (Addr × Int × Bool)), x = .ref p ∧ y = .ref a ∧ H p = some (.tup [.int v, .bl b]) ∧ SqL K H a (an.map fun q => .ref q.1) ∧ (∀ q ∈ an, H q.1 = some (.tup [.int q.2.1, .bl q.2.2])) ∧ Q (.bl (decide ((v, b) ∉ an.map (·.2)))) H
end
section
variable {K : PySem.W.Frag} {σ : L2.St} {H : Hp} {Q : VK}
theorem w_step {te tl ts : TE} (h : te σ H fun x H1 => tl σ H1 fun y H2 => ts σ H2 fun z H3 => rStep K x y z H3 Q) : tStep K te tl ts σ H Q := h
end
end FW

set_option Elab.async false
set_option linter.all false
set_option maxRecDepth 100000
set_option maxHeartbeats 4000000
/-! a, .., *rest = t: the last target starred, t a tuple -/
namespace FW
open PySem PySem.Spec PyProof.Rows L2
section
variable {prog : Program} {w : World} {A : Around} {E : Value → Shared → Prop} {s : Shared}
end
/-- n names, then a starred one -/
def gStar (K : PySem.W.Frag) (j : Nat) (t : TGs) : TG := fun v σ H Q => ∃ a xs, v = .ref a ∧ SqT K H a xs ∧ j ≤ xs.length ∧ ∀ L, H L = none → t (xs.take j ++ [.ref L]) σ (upd H L (.lst (xs.drop j))) Q
section
variable {X : Cx} {pos : Pos}
end
end FW

set_option Elab.async false
set_option linter.all false
set_option maxRecDepth 100000
set_option maxHeartbeats 4000000
/-! try with several except clauses, each with or without a name -/
namespace FW
open PySem PySem.Spec PyProof.Rows L2
abbrev Suite := Addr → Value → Option Addr → TS
/-- the ends behind a suite whose name goes -/
def unset (i : Nat) (D : Ends) : Ends := ⟨fun σ H => D.nx (σ.set i none) H, D.rt, fun σ H => D.bk (σ.set i none) H, fun σ H => D.ct (σ.set i none) H⟩
def runCl (o : Option Nat) (ts : Suite) (a : Addr) (cls : Value) (d : Option Addr) (D : Ends) (σ : L2.St) (H : Hp) : Prop :=
  match o with
  | none => ts a cls d D σ H
  | some i => ts a cls d (unset i D) (σ.set i (some (.ref a))) H
def wCl (K : PySem.W.Frag) (Wo : WX) (D : Ends) : List (Value × Option Nat × Suite) → WX
  | [] => Wo
  | (c, o, ts) :: r => fun cls d σ H => ∃ b, PySem.W.exmOne K cls c = some b ∧ (b = true → ∀ a, H a = none → runCl o ts a cls d D σ H) ∧ (b = false → wCl K Wo D r cls d σ H)
inductive ClOk (X : Cx) : List ExceptHandler → List (Value × Option Nat × Suite) → Prop
  | nil : ClOk X [] []
  | only {x : Str} {c : Value} {ts : Suite} {st : Stmt} {sts : List Stmt} {p1 p2 : Pos} {hs : List ExceptHandler} {l : List (Value × Option Nat × Suite)} (nm : Names X x c)
      (su : ∀ a oe cls d pn, Zc cls d oe → (∃ vs, oe.data = .fields vs) → PSs (X.suite a ((a, oe) :: pn)) (st :: sts) (ts a cls d)) (r : ClOk X hs l) :
      ClOk X (.ExceptHandler (some (.Name x p1)) none (st :: sts) p2 :: hs) ((c, none, ts) :: l)
  | as {x n : Str} {c : Value} {i : Nat} {ts : Suite} {st : Stmt} {sts : List Stmt} {p1 p2 : Pos} {hs : List ExceptHandler} {l : List (Value × Option Nat × Suite)} (hi : X.N[i]? = some n) (hl : X.env.kindOf n = some .local) (nm : Names X x c)
      (su : ∀ a oe cls d pn, Zc cls d oe → (∃ vs, oe.data = .fields vs) → PSs (X.suite a ((a, oe) :: pn)) (st :: sts) (ts a cls d)) (r : ClOk X hs l) :
      ClOk X (.ExceptHandler (some (.Name x p1)) (some n) (st :: sts) p2 :: hs) ((c, some i, ts) :: l)
def tTryG (K : PySem.W.Frag) (l : List (Value × Option Nat × Suite)) (Wo : WX) (tb : WX → TS) : TS := fun D σ H => tb (wCl K Wo D l) D σ H
section
variable {X : Cx} {body : List Stmt} {h1 : ExceptHandler} {hs : List ExceptHandler} {l : List (Value × Option Nat × Suite)} {pos : Pos} {tb : WX → TS} {Wo : WX}
end
section
variable {K : PySem.W.Frag} {σ : L2.St} {H : Hp} {nx bk ct : L2.St → Hp → Prop} {rt : VK}
theorem w_tryG {l : List (Value × Option Nat × Suite)} {Wo : WX} {tb : WX → TS} (h : tb (wCl K Wo ⟨nx, rt, bk, ct⟩ l) ⟨nx, rt, bk, ct⟩ σ H) : tTryG K l Wo tb ⟨nx, rt, bk, ct⟩ σ H := h
end
end FW

set_option Elab.async false
set_option linter.all false
set_option maxRecDepth 100000
set_option maxHeartbeats 4000000
/-! {tuple: value for a in as if ..}: a dict keyed by tuples, one clause; pairs looked for in tuples; zip of tuples -/
namespace FW
open PySem PySem.Spec PyProof.Rows L2
section
variable {kx vx ta ia : Expr} {fa : List Expr} {sc : Scope} {ps : Pos}
abbrev one (kx vx ta ia : Expr) (fa : List Expr) (sc : Scope) (ps : Pos) : Expr := .DictComp kx vx [⟨ta, ia, fa, 0⟩] sc ps
variable {pg : Program} {wd : World} {A : Around} {R : Result → Shared → Prop} {st : Shared} {it : Value} {D : Addr} {env : Env}
end
section
variable {X : Cx}
variable {kx vx ta ia : Expr} {fa : List Expr} {sc : Scope} {ps qs : Pos} {own : List (Str × Nat)} {wa : TI} {ga : TG} {ra : TT} {tk tv : TE}
def DcTP (J : It) (g : TG) (tt : TT) (tk tv : TE) (vs : List Nat) (Q : VK) (σ : L2.St) (H1 : Hp) : Prop := ∀ D, H1 D = none → ∃ W : Nat → Nat → Hp → Prop, (∃ m, W 0 m (upd H1 D (.dT []))) ∧ ∀ i m H, W i m H →
  (J.stop i H ∧ Q (.ref D) H) ∨ (J.go i H ∧ ∃ Nx : Hp → Prop, (∀ H', Nx H' → ∃ m', m' < m ∧ W (i + 1) m' H') ∧ ∀ x H', J.yld i H x H' → g x (wipe σ vs) H' fun σ2 H2 => wipe σ2 vs = wipe σ vs ∧ tt σ2 H2 fun b H3 =>
    if b = true then tk σ2 H3 fun y H4 => tv σ2 H4 fun z H5 => ∃ kvs k b, y = .ref b ∧ H5 b = some (.tup (k.map kV)) ∧ H5 D = some (.dT kvs) ∧ kvs.length < sizeLine ∧ Nx (upd H5 D (.dT (putK kvs k z))) else Nx H3)
def tDcT (wi : TI) (g : TG) (tt : TT) (tk tv : TE) (vs : List Nat) : TE := fun σ H Q => wi σ H fun J H1 => DcTP J g tt tk tv vs Q σ H1
/-- a pair of ints that is not in a tuple of such -/
def rNotInT (K : PySem.W.Frag) : R2 := fun x y H Q => ∃ (p a : Addr) (v b : Int) (an : List (Addr × Int × Int)), x = .ref p ∧ y = .ref a ∧ H p = some (.tup [.int v, .int b]) ∧ SqT K H a (an.map fun q => .ref q.1) ∧ (∀ q ∈ an, H q.1 = some (.tup [.int q.2.1, .int q.2.2])) ∧ Q (.bl (decide ((v, b) ∉ an.map (·.2)))) H
end
section
variable {K : PySem.W.Frag} {σ : L2.St} {H : Hp} {Q : VK} {nx bk ct : L2.St → Hp → Prop} {rt : VK}
theorem w_dct {wi : TI} {g : TG} {tt : TT} {tk tv : TE} {vs : List Nat} (h : wi σ H fun J H1 => DcTP J g tt tk tv vs Q σ H1) : tDcT wi g tt tk tv vs σ H Q := h
/-- for a, b in zip(tuple, tuple) -/
def rZipA (K : PySem.W.Frag) (vs : List V) (H : Hp) (R : It → Hp → Prop) : Prop := ∃ a b xs ys, vs = [.ref a, .ref b] ∧ ((SqL K H a xs ∧ SqL K H b ys ∧ R (Itz K a b) H) ∨ (SqT K H a xs ∧ SqT K H b ys ∧ R (RZ.ItzT K a b) H))
theorem w_zipA {ta : TA} {R : It → Hp → Prop} (h : ta σ H fun vs H1 => rZipA K vs H1 R) : RZ.iZipA K ta σ H R := h
theorem w_zipT' {a b : Addr} {xs ys : List V} {R : It → Hp → Prop} (h1 : SqT K H a xs) (h2 : SqT K H b ys) (h : R (RZ.ItzT K a b) H) : rZipA K [.ref a, .ref b] H R := ⟨a, b, xs, ys, rfl, .inr ⟨h1, h2, h⟩⟩
end
end FW

set_option Elab.async false
set_option linter.all false
set_option maxRecDepth 100000
set_option maxHeartbeats 4000000
/-! try: .. except (A, B): .. -/
namespace FW
open PySem PySem.Spec PyProof.Rows L2
def wTwo (K : PySem.W.Frag) (c1 c2 : Value) (ts : Suite) (D : Ends) : WX := fun cls d σ H => PySem.W.exmAny K cls [c1, c2] = some true ∧ ∀ a, H a = none → ts a cls d D σ H
def tTry2 (K : PySem.W.Frag) (c1 c2 : Value) (tb : WX → TS) (ts : Suite) : TS := fun D σ H => tb (wTwo K c1 c2 ts D) D σ H
section
variable {X : Cx} {body sts : List Stmt} {st : Stmt} {x1 x2 : Str} {c1 c2 : Value} {p1 p2 p3 p4 p5 : Pos} {kk : Nat} {tb : WX → TS} {ts : Suite}
end
end FW

set_option Elab.async false
set_option linter.all false
set_option maxRecDepth 100000
set_option maxHeartbeats 4000000
/-! texts: len, in, signs one by one, join; lists taken apart; all -/
namespace FW
open PySem PySem.Spec PyProof.Rows L2
def rLenS : List V → Hp → VK → Prop := fun xs H Q => ∃ z, xs = [.str z] ∧ z.length ≤ sizeLine ∧ Q (.int z.length) H
def rInS : R2 := fun x y H Q => ∃ (c : Nat) (z : Str), x = .str ⟨#[c]⟩ ∧ y = .str z ∧ Q (.bl (decide (c ∈ z.cps.toList))) H
def rJoin (K : PySem.W.Frag) : V → List V → Hp → VK → Prop := fun x xs H Q => ∃ a p, ∃ ys : List Str, x = .str a ∧ xs = [.ref p] ∧ (SqL K H p (ys.map V.str) ∨ SqT K H p (ys.map V.str)) ∧ (ys.map (·.length)).sum + ys.length * a.length ≤ 16777216 ∧ Q (.str (Txt.join a ys)) H
def rIStr (v : V) (H : Hp) (R : It → Hp → Prop) : Prop := ∃ x, v = .str x ∧ R (Its x) H
def rLtS : R2 := fun x y H Q => ∃ i j : Str, x = .str i ∧ y = .str j ∧ Q (.bl (decide (i.cps.toList < j.cps.toList))) H
def rGtS : R2 := fun x y H Q => ∃ i j : Str, x = .str i ∧ y = .str j ∧ Q (.bl (decide (j.cps.toList < i.cps.toList))) H
section
variable {X : Cx}
end
section
variable {K : PySem.W.Frag} {σ : L2.St} {H : Hp} {Q : VK} {nx bk ct : L2.St → Hp → Prop} {rt : VK}
theorem w_callD {sp : Sp} {dvs : List V} {E : XK} {t : TA} (h : t σ H fun vs H1 => sp (vs ++ dvs) H1 Q E) : tCall sp dvs E t σ H Q := h
theorem w_ipI {g : Int → Int → Int} {i j : Int} (h : Q (.int (g i j)) H) : ipI g (.int i) (.int j) H Q := ⟨i, j, rfl, rfl, h⟩
theorem w_ltS {x y : Str} (h : Q (.bl (decide (x.cps.toList < y.cps.toList))) H) : rLtS (.str x) (.str y) H Q := ⟨x, y, rfl, rfl, h⟩
theorem w_gtS {x y : Str} (h : Q (.bl (decide (y.cps.toList < x.cps.toList))) H) : rGtS (.str x) (.str y) H Q := ⟨x, y, rfl, rfl, h⟩
theorem w_neS {x y : Str} (h : Q (.bl (!decide (x = y))) H) : rNe (.str x) (.str y) H Q := ⟨rfl, by
  have e : decide (V.str x = V.str y) = decide (x = y) := by
    by_cases q : x = y
    · subst q; rw [decide_eq_true rfl, decide_eq_true rfl]
    · rw [decide_eq_false q, decide_eq_false (fun z => q (V.str.inj z))]
  rw [e]; exact h⟩
theorem w_inS {c : Nat} {z : Str} (h : Q (.bl (decide (c ∈ z.cps.toList))) H) : rInS (.str ⟨#[c]⟩) (.str z) H Q := ⟨c, z, rfl, rfl, h⟩
theorem w_m1 {r : V → List V → Hp → VK → Prop} {to te : TE} (h : to σ H fun x H1 => (∃ a, x = .str a) ∧ te σ H1 fun y H2 => r x [y] H2 Q) : tM1 r to te σ H Q := h
theorem w_isS {z : Str} {A : Prop} (h : A) : (∃ a, V.str z = .str a) ∧ A := ⟨⟨z, rfl⟩, h⟩
theorem w_istr {te : TE} {R : It → Hp → Prop} (h : te σ H fun v H1 => rIStr v H1 R) : iStr te σ H R := h
theorem w_istr' {z : Str} {R : It → Hp → Prop} (h : R (Its z) H) : rIStr (.str z) H R := ⟨z, rfl, h⟩
theorem w_glst {a : Addr} {xs : List V} {n : Nat} {t : TGs} {R : L2.St → Hp → Prop} (h1 : SqL K H a xs) (h2 : xs.length = n) (h : t xs σ H R) : gLst K n t (.ref a) σ H R := ⟨a, xs, rfl, h1, h2, h⟩
theorem w_all {p : Addr} {bs : List Bool} (h1 : SqL K H p (bs.map V.bl)) (h : Q (.bl (bs.all id)) H) : rAll K [.ref p] H Q := ⟨p, bs, rfl, h1, h⟩
theorem w_augI {i : Nat} {te : TE} {ti : TIp} {v : V} (e : σ[i]? = some (some v)) (h : te σ H fun x H1 => ti v x H1 fun z H2 => nx (σ.set i (some z)) H2) : tAug i te ti ⟨nx, rt, bk, ct⟩ σ H := ⟨v, e, h⟩
end
section
variable {P : Program} {w : World} {K : PySem.W.Frag} {mg : Str → Option Value} {base : Heap} {x qual : Str} {params : Arguments} {body : List Stmt} {scope : Scope} {dvs : List V} {kws : List (Str × V)} {f : Addr} {fd : FuncData}
end
/-- a def with defaults -/
structure DfD (K : PySem.W.Frag) (mg : Str → Option Value) (x : Str) (st : Stmt) (ps : List Str) (dvs : List V) (f : Addr) (fd : FuncData) : Prop where
  fn : FunD K x x (defArgs st) (defBody st) (defScope st) dvs [] f fd
  g : mg x = some (.ref f)
  kp : PySem.W.keepIn K (.ref f) = true
  b : ∃ ds, Vals dvs ds ∧ Binds K fd ps ds
/-- a def with several keyword-only defaults -/
structure DfKs (K : PySem.W.Frag) (mg : Str → Option Value) (x : Str) (st : Stmt) (ps : List Str) (kws : List (Str × V)) (dvs : List V) (f : Addr) (fd : FuncData) : Prop where
  fn : FunD K x x (defArgs st) (defBody st) (defScope st) [] kws f fd
  g : mg x = some (.ref f)
  kp : PySem.W.keepIn K (.ref f) = true
  b : ∃ ds, Vals dvs ds ∧ Binds K fd ps ds
end FW

set_option Elab.async false
set_option linter.all false
set_option maxRecDepth 100000
set_option maxHeartbeats 4000000
/-! t[::-1] of a tuple -/
namespace HT
open PySem PySem.Spec PyProof.Rows
section
variable {prog : Program} {w : World} {A : Around} {E : Value → Shared → Prop} {s : Shared}
theorem rev_map {α : Type} (xs : List α) : ((List.range xs.length).filterMap fun (m : Nat) => xs[(((xs.length : Nat) : Int) - 1 + (m : Int) * (-1)).toNat]?) = xs.reverse := by
  have h : ∀ n, n ≤ xs.length → ((List.range n).filterMap fun (m : Nat) => xs[(((xs.length : Nat) : Int) - 1 + (m : Int) * (-1)).toNat]?) = xs.reverse.take n := by
    intro n
    induction n with
    | zero => intro _; simp
    | succ n ih =>
      intro hn
      rw [List.range_succ, List.filterMap_append, ih (by omega)]
      have e : (((xs.length : Nat) : Int) - 1 + (n : Int) * (-1)).toNat = xs.length - 1 - n := by omega
      have hg : xs.reverse[n]? = xs[xs.length - 1 - n]? := List.getElem?_reverse (by omega)
      have hs : xs[xs.length - 1 - n]? = some (xs[xs.length - 1 - n]'(by omega)) := List.getElem?_eq_getElem (by omega)
      rw [List.take_succ, hg]
      congr 1
      simp only [List.filterMap_cons, List.filterMap_nil, e, hs]
      rfl
  rw [h _ (Nat.le_refl _)]
  exact List.take_of_length_le (by simp)
end
end HT
namespace FW
open PySem PySem.Spec PyProof.Rows L2
/-- t[::-1] -/
def rRevT (K : PySem.W.Frag) (x z : V) (H : Hp) (Q : VK) : Prop := ∃ (a : Addr) (xs : List V), x = .ref a ∧ z = .int (-1) ∧ SqT K H a xs ∧ Nw (.tup xs.reverse) H Q
def tRevT (K : PySem.W.Frag) (te ts : TE) : TE := fun σ H Q => te σ H fun x H1 => ts σ H1 fun z H3 => rRevT K x z H3 Q
theorem vals_rev {xs : List V} {its : List Value} (r : Vals xs its) : Vals xs.reverse its.reverse := by
  induction r with
  | nil => exact .nil
  | cons h _ ih =>
    rw [List.reverse_cons, List.reverse_cons]
    exact ih.append (.cons h .nil)
section
variable {X : Cx}
end
section
variable {K : PySem.W.Frag} {σ : L2.St} {H : Hp} {Q : VK}
theorem w_revT {te ts : TE} (h : te σ H fun x H1 => ts σ H1 fun z H3 => rRevT K x z H3 Q) : tRevT K te ts σ H Q := h
end
end FW

set_option Elab.async false
set_option linter.all false
set_option maxRecDepth 100000
set_option maxHeartbeats 4000000
/-! text * number, tuple * number, texts put together -/
namespace FW
open PySem PySem.Spec PyProof.Rows L2
def rRepS : R2 := fun x y H Q => ∃ (z : Str) (k : Int), x = .str z ∧ y = .int k ∧ z.length ≤ 16 ∧ 0 ≤ k ∧ k ≤ 1000 ∧ Q (.str (Txt.mul z k)) H
def rAddS : R2 := fun x y H Q => ∃ i j : Str, x = .str i ∧ y = .str j ∧ i.length + j.length ≤ sizeLine ∧ Q (.str (i ++ j)) H
section
variable {K : PySem.W.Frag} {H : Hp} {Q : VK}
end
end FW

set_option Elab.async false
set_option linter.all false
set_option maxRecDepth 100000
set_option maxHeartbeats 4000000
/-! dicts whose keys are nested tuples of ints, texts and None -/
namespace FW
open PySem PySem.Spec PyProof.Rows L2
mutual
/-- the thing v is the key k -/
inductive NAt (H : Hp) : NestedKey → V → Prop
  | non : NAt H .none .non
  | int (i : Int) : NAt H (.num i) (.int i)
  | str (x : Str) : NAt H (.text x) (.str x)
  | tup {a : Addr} {ks : List NestedKey} {xs : List V} : H a = some (.tup xs) → NAll H ks xs → NAt H (.tup ks) (.ref a)
inductive NAll (H : Hp) : List NestedKey → List V → Prop
  | nil : NAll H [] []
  | cons {k : NestedKey} {v : V} {ks : List NestedKey} {vs : List V} : NAt H k v → NAll H ks vs → NAll H (k :: ks) (v :: vs)
end
mutual
theorem NAt.kt {H H' : Hp} (t : KT H H') : ∀ (k : NestedKey) (v : V), NAt H k v → NAt H' k v
  | .none, _, h => by cases h; exact .non
  | .num i, _, h => by cases h; exact .int i
  | .text x, _, h => by cases h; exact .str x
  | .tup ks, _, h => by
    cases h with
    | tup e all => exact .tup (t _ _ e) (NAll.kt t ks _ all)
theorem NAll.kt {H H' : Hp} (t : KT H H') : ∀ (ks : List NestedKey) (vs : List V), NAll H ks vs → NAll H' ks vs
  | [], _, h => by cases h; exact .nil
  | k :: ks, _, h => by
    cases h with
    | cons a b => exact .cons (NAt.kt t k _ a) (NAll.kt t ks _ b)
end
mutual
theorem NAt.inj {H : Hp} : ∀ (k k' : NestedKey) (v : V), NAt H k v → NAt H k' v → k = k'
  | .none, _, _, h, h' => by cases h; cases h'; rfl
  | .num i, _, _, h, h' => by cases h; cases h'; rfl
  | .text x, _, _, h, h' => by cases h; cases h'; rfl
  | .tup ks, _, _, h, h' => by
    cases h with
    | tup e all =>
      cases h' with
      | tup e' all' =>
        rw [e] at e'
        cases e'
        rw [NAll.inj ks _ _ all all']
theorem NAll.inj {H : Hp} : ∀ (ks ks' : List NestedKey) (vs : List V), NAll H ks vs → NAll H ks' vs → ks = ks'
  | [], _, _, h, h' => by cases h; cases h'; rfl
  | k :: ks, _, _, h, h' => by
    cases h with
    | cons a b =>
      cases h' with
      | cons a' b' => rw [NAt.inj k _ _ a a', NAll.inj ks _ _ b b']
end
section
variable {X : Cx} {pins : List (Addr × Obj)} {σ : L2.St} {H : Hp} {s : Shared}
mutual
theorem NAt.is (I : Inv X pins σ H s) : ∀ (k : NestedKey) (v : V) (u : Value), NAt H k v → RelV v u → NestedIs s.heap k u
  | .none, _, _, h, r => by
    cases h
    cases r
    exact .none
  | .num i, _, _, h, r => by
    cases h
    obtain ⟨t, rfl⟩ := r
    exact .int i t
  | .text x, _, _, h, r => by
    cases h
    obtain ⟨t, rfl⟩ := r
    exact .text x t
  | .tup ks, _, _, h, r => by
    cases h with
    | @tup a _ xs e all =>
      cases r
      obtain ⟨_, its, rel, o, h1, h2, n, h3⟩ := (show ObjOk X.prog X.w H s.heap a (.tup xs) from I.hok a _ e)
      exact .tup h1 h2 h3 (NAll.is I ks _ _ all rel)
theorem NAll.is (I : Inv X pins σ H s) : ∀ (ks : List NestedKey) (vs : List V) (us : List Value), NAll H ks vs → Vals vs us → NestedAll s.heap ks us
  | [], _, _, h, r => by
    cases h
    cases r
    exact .nil
  | k :: ks, _, _, h, r => by
    cases h with
    | cons a b =>
      cases r with
      | cons ra rb => exact .cons (NAt.is I k _ _ a ra) (NAll.is I ks _ _ b rb)
end
end
abbrev NEnt := NestedKey × Addr × V
def NVal (xs : List NEnt) (k : NestedKey) : Option V := (xs.find? fun x => decide (x.1 = k)).map (·.2.2)
def NPut (xs : List NEnt) (k : NestedKey) (a : Addr) (v : V) : List NEnt := if (NVal xs k).isSome then xs.map (fun x => if x.1 = k then (x.1, x.2.1, v) else x) else xs ++ [(k, a, v)]
abbrev NRel : List NEnt → List (NestedKey × Addr × Value) → Prop := Paired fun p q => p.1 = q.1 ∧ p.2.1 = q.2.1 ∧ RelV p.2.2 q.2.2
theorem NRel.val {xs : List NEnt} {ys : List (NestedKey × Addr × Value)} (r : NRel xs ys) (k : NestedKey) : RelO (NVal xs k) ((atKey ys k).map (·.2)) := by
  induction r with
  | nil => exact True.intro
  | @cons p q ps qs h t ih =>
    obtain ⟨h1, _, h2⟩ := h
    by_cases e : p.1 = k
    · have e' : q.1 = k := h1.symm.trans e
      have b : atKey (q :: qs) k = some q.2 := by simp [atKey, List.find?_cons, e']
      have c : NVal (p :: ps) k = some p.2.2 := by simp [NVal, List.find?_cons, e]
      rw [c, b]
      exact h2
    · have e' : ¬ q.1 = k := fun z => e (h1.trans z)
      have b : atKey (q :: qs) k = atKey qs k := by simp [atKey, List.find?_cons, e']
      have c : NVal (p :: ps) k = NVal ps k := by simp [NVal, List.find?_cons, e]
      rw [c, b]
      exact ih
theorem NRel.put {xs : List NEnt} {ys : List (NestedKey × Addr × Value)} (r : NRel xs ys) (k : NestedKey) (b : Addr) {y : V} {u : Value} (ry : RelV y u) : NRel (NPut xs k b y) (storedH ys k b u) := by
  have e : (NVal xs k).isSome = (atKey ys k).isSome := by rw [(r.val k).isSome_eq, Option.isSome_map]
  unfold NPut storedH
  rw [e]
  by_cases q : (atKey ys k).isSome = true
  · rw [if_pos q, if_pos q]
    clear e q
    induction r with
    | nil => exact .nil
    | @cons p q ps qs h t ih =>
      rw [List.map_cons, List.map_cons]
      refine .cons ?_ ih
      obtain ⟨h1, h2, h3⟩ := h
      unfold putAt
      by_cases e : p.1 = k
      · rw [if_pos e, if_pos (h1.symm.trans e)]
        exact ⟨h1, h2, ry⟩
      · rw [if_neg e, if_neg (fun z => e (h1.trans z))]
        exact ⟨h1, h2, h3⟩
  · rw [if_neg q, if_neg q]
    exact Paired.snoc r ⟨rfl, rfl, ry⟩
/-- the dict at a, keyed by nested tuples -/
def NO (P : Program) (w : World) (a : Addr) (xs : List NEnt) : HO := .ext fun h => xs.length ≤ sizeLine ∧ (a == sysModules) = false ∧ ∃ ys : List (NestedKey × Addr × Value), NRel xs ys ∧
  ∃ o es ep, h.get? a = some o ∧ o.ExactDict ∧ o.data = .dict es ep ∧ es.toList = ys.map (entryOfKey (nestedKind P w)) ∧ (ys.map (·.1)).Nodup
structure NDict (P : Program) (w : World) (H : Hp) (a : Addr) (xs : List NEnt) : Prop where
  at' : H a = some (NO P w a xs)
  keys : ∀ p ∈ xs, NAt H p.1 (.ref p.2.1) ∧ p.1.depth ≤ 8
theorem NDict.kp {P : Program} {w : World} {M : List Addr} {H H' : Hp} {a : Addr} {xs : List NEnt} (d : NDict P w H a xs) (k : Kp M H H') (t : KT H H') (h : a ∉ M) : NDict P w H' a xs :=
  ⟨k _ _ h d.at', fun p hp => ⟨NAt.kt t _ _ (d.keys p hp).1, (d.keys p hp).2⟩⟩
section
variable {X : Cx} {pins : List (Addr × Obj)} {σ : L2.St} {H : Hp} {s : Shared} {a : Addr} {xs : List NEnt}
variable {b : Addr} {k : NestedKey} {A : Around} {E : Value → Shared → Prop} {v : V} {r : Value}
end
/-! ### the rules -/
def rNIn (P : Program) (w : World) (x y : V) (H : Hp) (Q : VK) : Prop := ∃ a b xs k, x = .ref a ∧ y = .ref b ∧ NDict P w H a xs ∧ NAt H k (.ref b) ∧ k.depth ≤ 8 ∧ Q (.bl (NVal xs k).isSome) H
def rNGet (P : Program) (w : World) (x y : V) (H : Hp) (Q : VK) : Prop := ∃ a b xs k v, x = .ref a ∧ y = .ref b ∧ NDict P w H a xs ∧ NAt H k (.ref b) ∧ k.depth ≤ 8 ∧ NVal xs k = some v ∧ Q v H
def rNIs (P : Program) (w : World) (x : V) (H : Hp) (R : Addr → Hp → Prop) : Prop := ∃ a xs, x = .ref a ∧ NDict P w H a xs ∧ R a H
def rNGet1 (P : Program) (w : World) (a : Addr) (y : V) (H : Hp) (Q : VK) : Prop := ∃ b xs k, y = .ref b ∧ NDict P w H a xs ∧ NAt H k (.ref b) ∧ k.depth ≤ 8 ∧ Q ((NVal xs k).getD .non) H
def rNPut (P : Program) (w : World) (x y v : V) (H : Hp) (R : Hp → Prop) : Prop := ∃ a b xs k, x = .ref a ∧ y = .ref b ∧ NDict P w H a xs ∧ NAt H k (.ref b) ∧ k.depth ≤ 8 ∧ xs.length < sizeLine ∧ R (upd H a (NO P w a (NPut xs k b v)))
def tNIn (P : Program) (w : World) (ty td : TE) : TE := fun σ H Q => ty σ H fun y H1 => td σ H1 fun x H2 => rNIn P w x y H2 Q
def tNGet (P : Program) (w : World) (td ty : TE) : TE := fun σ H Q => td σ H fun x H1 => ty σ H1 fun y H2 => rNGet P w x y H2 Q
def tNGet1 (P : Program) (w : World) (td ty : TE) : TE := fun σ H Q => td σ H fun x H1 => rNIs P w x H1 fun a H1 => ty σ H1 fun y H2 => rNGet1 P w a y H2 Q
def sNPut (P : Program) (w : World) (td ty tv : TE) : TS := fun D σ H => tv σ H fun v H1 => td σ H1 fun x H2 => ty σ H2 fun y H3 => rNPut P w x y v H3 fun H4 => D.nx σ H4
def tNNew (P : Program) (w : World) : TE := fun _ H Q => ∀ p, H p = none → Q (.ref p) (upd H p (NO P w p []))
section
variable {X : Cx} {o i e value : Expr} {pos pos' tpos apos cpos : Pos} {td ty tv : TE}
end
section
variable {P : Program} {w : World} {K : PySem.W.Frag} {σ : L2.St} {H : Hp} {Q : VK} {nx bk ct : L2.St → Hp → Prop} {rt : VK} {v : V}
theorem w_nin {ty td : TE} (h : ty σ H fun y H1 => td σ H1 fun x H2 => rNIn P w x y H2 Q) : tNIn P w ty td σ H Q := h
theorem w_nget {td ty : TE} (h : td σ H fun x H1 => ty σ H1 fun y H2 => rNGet P w x y H2 Q) : tNGet P w td ty σ H Q := h
theorem w_nget1 {td ty : TE} (h : td σ H fun x H1 => rNIs P w x H1 fun a H1 => ty σ H1 fun y H2 => rNGet1 P w a y H2 Q) : tNGet1 P w td ty σ H Q := h
theorem w_nput {td ty tv : TE} (h : tv σ H fun v H1 => td σ H1 fun x H2 => ty σ H2 fun y H3 => rNPut P w x y v H3 fun H4 => nx σ H4) : sNPut P w td ty tv ⟨nx, rt, bk, ct⟩ σ H := h
theorem w_seqNP {td ty tv : TE} {u : TS} (h : tv σ H fun v H1 => td σ H1 fun x H2 => ty σ H2 fun y H3 => rNPut P w x y v H3 fun H4 => u ⟨nx, rt, bk, ct⟩ σ H4) : tSeq (sNPut P w td ty tv) u ⟨nx, rt, bk, ct⟩ σ H := h
end
end FW

set_option Elab.async false
set_option linter.all false
set_option maxRecDepth 100000
set_option maxHeartbeats 4000000
/-! sets of ints out of lists, sorted at any length -/
namespace FW
open PySem PySem.Spec PyProof.Rows L2
/-- an empty set, as set.__new__ lays it -/
abbrev es0 (w : World) : Obj := { cls := .type "set", dict := none, data := .set #[] 0 (.fresh 0 0 (!w.params.followText "set-order")) }
section
variable {P : Program} {w : World} {A : Around} {E : Value → Shared → Prop} {s : Shared}
end
def rSetL (K : PySem.W.Frag) (w : World) (vs : List V) (H : Hp) (Q : VK) : Prop := ∃ (l : Addr) (ns : List Int), vs = [.ref l] ∧ SqL K H l (ns.map V.int) ∧ ns.length ≤ 4000 ∧ ∀ (p : Addr) (c : Nat), H p = none → c ≤ ns.length → Q (.ref p) (upd H p (SetO w p (fun j => decide (j ∈ ns)) c))
def rSortS (w : World) (vs : List V) (H : Hp) (Q : VK) : Prop := ∃ (a : Addr) (S : Int → Bool) (n : Nat), vs = [V.ref a] ∧ H a = some (SetO w a S n) ∧ n ≤ 4000 ∧ ∀ (ns : List Int) (p : Addr), ns.Pairwise (· < ·) → (∀ k : Int, k ∈ ns ↔ S k = true) → H p = none → Q (.ref p) (upd H p (.lst (ns.map V.int)))
section
variable {X : Cx}
theorem c_sortS (calm : X.calm = true) : CallR X (.builtin "sorted") (rSortS X.w) := by
  intro pins s σ H vs us Q I r h
  obtain ⟨a, S, n, rfl, ha, hn4, q⟩ := h
  rw [Vals.ref1 r]
  obtain ⟨o, es, ep, t, ho, hex, hd, good, nd, hm, hb, hf, hn, ris, led⟩ := setO_get I ha
  refine Calls.call_function_entry kind_sorted plain_sorted entry_sorted (args_sorted1 _) ?_
  unfold Builtin.«sorted»; refine wpAny_bind (m := checkCount "sorted" 1 1 _) (wpAny_pure ?_)
  refine wpAny_bind (collect_set (A := X.A.in1) (I.ok.hd calm) ⟨o, ho, hex.1, hd⟩ hf hb ris led fun s1 xs k1 z1 g1 o1 pm => ?_)
  have xl : xs.length = n := by rw [pm.length_eq, List.length_map, Array.length_toList]; exact hn
  have xI : IntsAre xs (xs.map Builtin.Re.reRawOf) := L2.ints_of xs fun v hv => by
    obtain ⟨e, he, rfl⟩ := List.mem_map.mp (pm.mem_iff.mp hv)
    obtain ⟨k, tk, h1, _⟩ := good e he
    exact ⟨k, tk, h1⟩
  have pk : (xs.map Builtin.Re.reRawOf).Perm (es.toList.map keyOf) := by
    have q := pm.map Builtin.Re.reRawOf
    rwa [List.map_map] at q
  have hz : xs.length ≤ sizeLine := by rw [xl, sizeLine_eq]; omega
  refine wpAny_bind (wpAny_newList ?_ hz)
  have atL : (s1.heap.push (seqObj "list" xs.toArray 0)).get? s1.heap.objs.size = some (seqObj "list" xs.toArray 0) := Heap.get?_push_size _ rfl
  refine wpAny_bind (wpAny_holding (wpAny_call_entry slot_list_sort ⟨_, atL, rfl⟩ entry_list_sort (SrtO.list_sort_ord (s := { s1 with heap := s1.heap.push (seqObj "list" xs.toArray 0) }) SrtO.swo_int atL hz (fun h2 => SrtO.ints_sortable xI h2) fun out h1 h2 => ⟨_, rfl, ?_⟩) (args_list_sort _)))
  obtain ⟨i1, i2, i3⟩ := SrtO.ints_out xI h1 h2
  obtain ⟨e', he'⟩ := sortedHeap_at (vs := xs) (out := out.toArray) atL
  have pn : (out.map SrtO.iv).Perm (es.toList.map keyOf) := i2.trans pk
  have hlen : ((out.map SrtO.iv).map V.int).length ≤ sizeLine := by rw [List.length_map, i2.length_eq, List.length_map]; exact hz
  have free : H s1.heap.objs.size = none := I.hok.fresh z1
  have keep : ∀ b u, s.heap.get? b = some u → (sortedHeap (s1.heap.push (seqObj "list" xs.toArray 0)) s1.heap.objs.size xs out.toArray).get? b = some u := fun b u e => by
    have e1 := k1 b u e
    have lb : b < s1.heap.objs.size := Heap.lt_size e1
    rw [sortedHeap_old (Nat.ne_of_lt lb) (by rw [size_push']; exact Nat.lt_succ_of_lt lb)]
    exact Heap.get?_push_of_some _ e1
  have J : Inv X pins σ (upd H s1.heap.objs.size (.lst ((out.map SrtO.iv).map V.int))) { s with heap := sortedHeap (s1.heap.push (seqObj "list" xs.toArray 0)) s1.heap.objs.size xs out.toArray, gens := s1.gens, drawn := s1.drawn, toks := s1.toks } := I.call (ch := []) (Un.laid keep z1 free) (I.hok.laid (o := .lst ((out.map SrtO.iv).map V.int)) keep z1 ⟨hlen, out, e', vals_of_ints i1, he'⟩) (by rw [g1]; exact I.bare) (fun _ z => nomatch z)
  refine wpAny_pure ⟨_, rfl, .ref s1.heap.objs.size, upd H s1.heap.objs.size (.lst ((out.map SrtO.iv).map V.int)), ?_, rfl, q _ _ (lt_of_le_nodup _ i3 (pn.nodup_iff.mpr nd)) (fun k => by rw [pn.mem_iff, ← hm k]) free⟩
  cases s1
  cases s
  cases o1
  exact J
end
section
variable {K : PySem.W.Frag} {w : World} {H : Hp} {Q : VK}
theorem w_sortS {a : Addr} {S : Int → Bool} {n : Nat} (h1 : H a = some (SetO w a S n)) (h2 : n ≤ 4000) (h : ∀ (ns : List Int) p H1, ns.Pairwise (· < ·) → (∀ k : Int, k ∈ ns ↔ S k = true) → H p = none → H1 p = some (.lst (ns.map V.int)) → Same H H1 → Q (.ref p) H1) : rSortS w [.ref a] H Q :=
  ⟨a, S, n, rfl, h1, h2, fun ns p hs hm hp => h ns p _ hs hm hp upd_same (Same.new hp)⟩
end
end FW

set_option Elab.async false
set_option linter.all false
set_option maxRecDepth 100000
set_option maxHeartbeats 4000000
/-! objects of own classes; max with a default; data in lists -/
namespace FW
open PySem PySem.Spec PyProof.Rows L2
/-! ### max(list, default=d) -/
def rMaxD (K : PySem.W.Frag) (vs zs : List V) (H : Hp) (Q : VK) : Prop := ∃ (a : Addr) (ns : List Int) (d : Int), vs = [.ref a] ∧ zs = [.int d] ∧ SqL K H a (ns.map V.int) ∧ (ns = [] → Q (.int d) H) ∧ ∀ m, m ∈ ns → (∀ y ∈ ns, y ≤ m) → Q (.int m) H
section
variable {X : Cx} {pins : List (Addr × Obj)} {σ : L2.St} {H : Hp} {s : Shared}
end
/-! ### fields, methods, makings -/
/-- a class as the top has left it, with the names of its fields -/
structure Kl (K : PySem.W.Frag) (mg : Str → Option Value) (x : Str) (C : Addr) (as : List Str) : Prop where
  g : mg x = some (.ref C)
  cl : Cls K C
  na : ∀ f ∈ as, NoAttr K C f
/-- a method -/
structure DfM (K : PySem.W.Frag) (C : Addr) (m qual : Str) (st : Stmt) (ps : List Str) (f : Addr) (fd : FuncData) : Prop where
  fn : Fun K m qual st f fd
  b : Binds K fd ps []
  m : Meth K C m f
def rFld (K : PySem.W.Frag) (f : Str) (x : V) (H : Hp) (Q : VK) : Prop := ∃ a C dx fs v, x = .ref a ∧ H a = some (.ins C dx fs) ∧ Cls K C ∧ NoAttr K C f ∧ fs.lookup f = some v ∧ Q v H
def rFldS (K : PySem.W.Frag) (f : Str) (x y : V) (H : Hp) (R : Hp → Prop) : Prop := ∃ a C dx fs, x = .ref a ∧ H a = some (.ins C dx fs) ∧ Cls K C ∧ NoAttr K C f ∧ fs.length < 1000 ∧ R (upd H a (.ins C dx (putF f y fs)))
def rMeth (C : Addr) (m : Str) (x : V) (H : Hp) (A : Prop) : Prop := ∃ a dx fs, x = .ref a ∧ H a = some (.ins C dx fs) ∧ fs.lookup m = none ∧ A
def rMake (C : Addr) (sp : Sp) (vs : List V) (H : Hp) (Q : VK) (E : XK) : Prop := ∀ x dx, H x = none → H dx = none → dx ≠ x → sp (.ref x :: vs) (upd (upd H dx (.own x)) x (.ins C dx [])) (fun v H2 => v = .non ∧ Q (.ref x) H2) E
section
variable {K : PySem.W.Frag} {σ : L2.St} {H : Hp} {Q : VK} {nx bk ct : L2.St → Hp → Prop} {rt : VK} {v : V}
theorem w_fld {ta : TE} {f : Str} (h : ta σ H fun x H1 => rFld K f x H1 Q) : tFld K ta f σ H Q := h
theorem w_fld' {f : Str} {a C dx : Addr} {fs : List (Str × V)} (h1 : H a = some (.ins C dx fs)) (h2 : Cls K C) (h3 : NoAttr K C f) (h4 : fs.lookup f = some v) (h : Q v H) : rFld K f (.ref a) H Q := ⟨a, C, dx, fs, v, rfl, h1, h2, h3, h4, h⟩
theorem w_fldS {ta tv : TE} {f : Str} (h : tv σ H fun y H1 => ta σ H1 fun x H2 => rFldS K f x y H2 fun H3 => nx σ H3) : sFld K ta tv f ⟨nx, rt, bk, ct⟩ σ H := h
theorem w_seqFS {ta tv : TE} {f : Str} {u : TS} (h : tv σ H fun y H1 => ta σ H1 fun x H2 => rFldS K f x y H2 fun H3 => u ⟨nx, rt, bk, ct⟩ σ H3) : tSeq (sFld K ta tv f) u ⟨nx, rt, bk, ct⟩ σ H := h
theorem w_meth {C : Addr} {m : Str} {sp : Sp} {E : XK} {ta : TE} {t : TA} (h : ta σ H fun x H1 => rMeth C m x H1 (t σ H1 fun vs H2 => sp (x :: (vs ++ [])) H2 Q E)) : tMeth C m sp [] E ta t σ H Q := by
  unfold tMeth
  exact h
theorem w_meth' {C a dx : Addr} {m : Str} {fs : List (Str × V)} {A : Prop} (h1 : H a = some (.ins C dx fs)) (h2 : fs.lookup m = none) (h : A) : rMeth C m (.ref a) H A := ⟨a, dx, fs, rfl, h1, h2, h⟩
theorem w_make {C : Addr} {sp : Sp} {E : XK} {t : TA} (h : t σ H fun vs H1 => rMake C sp (vs ++ []) H1 Q E) : tMake C sp [] E t σ H Q := h
theorem w_maxD {r : List V → List V → Hp → VK → Prop} {t tk : TA} (h : t σ H fun vs H1 => tk σ H1 fun zs H2 => r vs zs H2 Q) : tCKw r t tk σ H Q := h
end
end FW

set_option Elab.async false
set_option linter.all false
set_option maxRecDepth 100000
set_option maxHeartbeats 4000000
/-! l[::-1] of a list; set of a tuple of ints; two promises of one def -/
namespace FW
open PySem PySem.Spec PyProof.Rows L2
theorem pick_back (its : List Value) : slicePick its.toArray none none (some (-1)) = its.reverse.toArray := by
  have e1 : sliceBounds none none (some (-1)) its.toArray.size = ((its.length : Int) - 1, -1, -1) := by
    unfold sliceBounds
    rw [List.size_toArray]
    rfl
  unfold slicePick
  rw [e1]
  congr 1
  show List.filterMap (fun i => its.toArray[i]?) (sliceRange ((its.length : Int) - 1) (-1) (-1)) = its.reverse
  rw [← HT.rev_map]
  have e2 : sliceRange ((its.length : Int) - 1) (-1) (-1) = (List.range its.length).map fun (m : Nat) => (((its.length : Nat) : Int) - 1 + (m : Int) * (-1)).toNat := by
    unfold sliceRange
    have g1 : ¬ ((-1 : Int) > 0) := by decide
    simp only [g1, if_false]
    by_cases h0 : its.length = 0
    · rw [h0]; rfl
    · have e3 : (((its.length : Int) - 1 - -1 - -1 - 1) / - -1) = (its.length : Int) := by
        rw [show (- -1 : Int) = 1 by decide, Int.ediv_one]; omega
      rw [if_pos (by omega), e3, Int.toNat_natCast]
      refine List.map_congr_left fun k _ => ?_
      congr 1
      omega
  rw [e2, List.filterMap_map]
  congr 1
  funext m
  show its.toArray[_]? = its[_]?
  rw [List.getElem?_toArray]
def rRevL (K : PySem.W.Frag) (x z : V) (H : Hp) (Q : VK) : Prop := ∃ (a : Addr) (xs : List V), x = .ref a ∧ z = .int (-1) ∧ SqL K H a xs ∧ Nw (.lst xs.reverse) H Q
def tRevL (K : PySem.W.Frag) (te ts : TE) : TE := fun σ H Q => te σ H fun x H1 => ts σ H1 fun z H3 => rRevL K x z H3 Q
section
variable {X : Cx}
theorem pe_revL {e st : Expr} {te ts : TE} {p2 pos : Pos} (he : PE X e te) (hst : PE X st ts) : PE X (.Subscript e (.Slice none none (some st) p2) pos) (tRevL X.K te ts) := by
  refine ⟨fun pins s σ H Q I h => Subscript_ (thn (he.run pins s σ H _ I h) fun v s1 ⟨x, H1, I1, r1, q1⟩ => ?_)⟩
  refine wpAny_Slice ?_
  rw [evalPart_none]
  refine wpAny_pure ?_
  refine wpAny_pure ?_
  refine thn (hst.run pins s1 σ H1 _ I1 q1) fun vs s3 ⟨z, H3, I3, r3, a, xs, ex, ez, hx, g2⟩ => ?_
  subst ex ez
  cases r1
  obtain ⟨t2, rfl⟩ := r3
  have J : Inv X pins σ H3 { s3 with heap := s3.heap.push { cls := .type "slice", data := .fields #[.none, .none, .int (-1 : Int) t2] } } := I3.kept (t' := s3.toks) fun b ob q => Heap.get?_push_of_some _ q
  obtain ⟨its, r, isL, hz⟩ := J.list hx
  have hlen := r.length
  show wpAny (model X.prog X.w) X.A (subscriptTail e (.Slice none none (some st) p2) (.ref a) (.ref s3.heap.objs.size)) (EP X pins σ Q) X.xe _
  refine tail_any (ops := [.ref a, .ref s3.heap.objs.size]) isL.isList.typeIs slot_list_getitem.lookup ?_ (by with_unfolding_all rfl)
  refine wpAny_getItem_list_slice isL.isList (Heap.IsSliceOf.new _ _ _ _) .none .none (.int _ t2) (by decide) ?_ (by rw [List.size_toArray] <;> omega)
  rw [pick_back]
  refine ⟨.ref _, _, J.laid (t' := s3.toks) (o := .lst xs.reverse) (fun b ob q => Heap.get?_push_of_some _ q) (Nat.le_refl _) ?_, rfl, g2 _ (J.hok.fresh (Nat.le_refl _))⟩
  exact ⟨by rw [List.length_reverse]; exact hz, _, 0, vals_rev r, Heap.get?_push_size _ rfl⟩
end
def rSetT (K : PySem.W.Frag) (w : World) (vs : List V) (H : Hp) (Q : VK) : Prop := ∃ (l : Addr) (ns : List Int), vs = [.ref l] ∧ SqT K H l (ns.map V.int) ∧ ns.length ≤ 4000 ∧ ∀ (p : Addr) (c : Nat), H p = none → c ≤ ns.length → Q (.ref p) (upd H p (SetO w p (fun j => decide (j ∈ ns)) c))
section
variable {K : PySem.W.Frag} {w : World} {σ : L2.St} {H : Hp} {Q : VK}
theorem w_revL {te ts : TE} (h : te σ H fun x H1 => ts σ H1 fun z H3 => rRevL K x z H3 Q) : tRevL K te ts σ H Q := h
theorem w_revL' {a : Addr} {xs : List V} (h1 : H a = some (.lst xs)) (h : ∀ p H1, H p = none → H1 p = some (.lst xs.reverse) → Same H H1 → Q (.ref p) H1) : rRevL K (.ref a) (.int (-1)) H Q := ⟨a, xs, rfl, rfl, .of h1, w_new h⟩
end
theorem FnOk.or {P : Program} {w : World} {K : PySem.W.Frag} {mg : Str → Option Value} {base : Heap} {CX : CXT} {k : Nat} {f : Addr} {fd : FuncData} {ps : List Str} {sp sp' : Sp} (F : FnOk P w K mg base CX k f fd ps sp) (G : FnOk P w K mg base CX k f fd ps sp') : FnOk P w K mg base CX k f fd ps (fun vs H Q E => sp vs H Q E ∨ sp' vs H Q E) :=
  ⟨fun vs H Q E q => q.elim (F.len vs H Q E) (G.len vs H Q E), fun A outer s H args us vs Q E hr he hb hv hs => hs.elim (F.run A outer s H args us vs Q E hr he hb hv) (G.run A outer s H args us vs Q E hr he hb hv)⟩
end FW

set_option Elab.async false
set_option linter.all false
set_option maxRecDepth 100000
set_option maxHeartbeats 4000000
/-! d.items() of a dict of texts and ints, and sorted of it -/
namespace FW
open PySem PySem.Spec PyProof.Rows L2
def rItemsK : V → List V → Hp → VK → Prop := fun x xs H Q => ∃ (a : Addr) (kvs : List (Key × V)), x = .ref a ∧ xs = [] ∧ H a = some (.dK kvs) ∧ ∀ p, H p = none → Q (.ref p) (upd H p (L2.DX.itemsO p a))
/-! ### the order of pairs of a text and an int -/
abbrev TI := Addr × Str × Int
def encTI (b : TI) : PyData := .tuple [.str b.2.1, .int b.2.2]
abbrev txLt (x y : Str) : Prop := x.cps.toList < y.cps.toList
/-! ### the tuples laid -/
def kvTI (qs : List (Str × Int)) : List (Key × V) := qs.map fun q => ((Sum.inr q.1 : Key), V.int q.2)
def rSortI (vs : List V) (H : Hp) (Q : VK) : Prop := ∃ (a d : Addr) (qs : List (Str × Int)), vs = [.ref a] ∧ H a = some (L2.DX.itemsO a d) ∧ H d = some (.dK (kvTI qs)) ∧ (qs.map (·.1)).Nodup ∧
  ∀ (H' : Hp) (p : Addr) (ts : List TI), (∀ b o, H b = some o → H' b = some o) → H p = none → H' p = some (.lst (ts.map fun t => .ref t.1)) → (∀ t ∈ ts, H' t.1 = some (.tup [.str t.2.1, .int t.2.2])) → (ts.map (·.2)).Perm qs → ts.Pairwise (fun x y => txLt x.2.1 y.2.1) → Q (.ref p) H'
end FW

set_option Elab.async false
set_option linter.all false
set_option maxRecDepth 100000
set_option maxHeartbeats 4000000
/-! a def of an own class called through the class: C.m(x, ..) -/
namespace FW
open PySem PySem.Spec PyProof.Rows L2
/-- a class's reading, with the names of fields, whatever its name -/
structure Kf (K : PySem.W.Frag) (C : Addr) (as : List Str) : Prop where
  cl : Cls K C
  na : ∀ f ∈ as, NoAttr K C f
def tClsF (C : Addr) (sp : Sp) (dvs : List V) (E : XK) (ta : TE) (t : TA) : TE := fun σ H Q => ta σ H fun x H1 => x = .ref C ∧ t σ H1 fun vs H2 => sp (vs ++ dvs) H2 Q E
end FW

set_option Elab.async false
set_option linter.all false
set_option maxRecDepth 100000
set_option maxHeartbeats 4000000
/-! len and str by an own class's defs; != of one object with itself -/
namespace FW
open PySem PySem.Spec PyProof.Rows L2
section
variable {X : Cx} {CX : CXT} {k : Nat} {f C : Addr} {fd : FuncData} {ps : List Str} {sp : Sp} {E : XK}
def rLenO (C : Addr) (sp : Sp) (E : XK) (xs : List V) (H : Hp) (Q : VK) : Prop := ∃ a dx fs, xs = [.ref a] ∧ H a = some (.ins C dx fs) ∧ sp [.ref a] H (fun v H2 => ∃ n : Nat, v = .int (n : Int) ∧ n ≤ 1000000 ∧ Q (.int (n : Int)) H2) E
def rStrO (C : Addr) (sp : Sp) (E : XK) (xs : List V) (H : Hp) (Q : VK) : Prop := ∃ a dx fs, xs = [.ref a] ∧ H a = some (.ins C dx fs) ∧ sp [.ref a] H (fun v H2 => ∃ z : Str, v = .str z ∧ Q (.str z) H2) E
end
def rStrI (xs : List V) (H : Hp) (Q : VK) : Prop := ∃ i, xs = [V.int i] ∧ i.natAbs.log2 < 1920 ∧ Q (.str (toString i)) H
/-! ### one object compared with itself -/
section
variable {M : Model} {prog : Program} {w : World} {A : Around} {E : Value → Shared → Prop} {s : Shared} {K : PySem.W.Frag} {x C : Addr} {ox : Obj} {od : Option Obj}
end
/-- an own class that compares by identity -/
structure EqI (K : PySem.W.Frag) (C : Addr) : Prop where
  mr : PySem.W.mroIn K C (.type "object") = some true
  eq : PySem.W.findIn K (.ref C) "__eq__" = some (some (.builtin "object.__eq__"))
  ne : PySem.W.findIn K (.ref C) "__ne__" = some (some (.builtin "object.__ne__"))
def rNeS (K : PySem.W.Frag) : R2 := fun x y H Q => ∃ a C dx fs, x = .ref a ∧ y = .ref a ∧ H a = some (.ins C dx fs) ∧ EqI K C ∧ Q (.bl false) H
end FW

set_option Elab.async false
set_option linter.all false
set_option maxRecDepth 100000
set_option maxHeartbeats 4000000
/-! f(x, k = v) in a try; for k, v in e.items() of a dict that a call made -/
namespace FW
open PySem PySem.Spec PyProof.Rows L2
section
variable {X : Cx} {CX : CXT} {k n : Nat} {f : Addr} {fd : FuncData} {ps ks : List Str} {sp : Sp} {E : L2.St → XK} {x : Str} {p pos : Pos} {e : Expr} {es : List Expr} {kws : List Keyword} {t tk : TA} {g : List Value → List Value → List Value} {gV : List V → List V → List V}
def tCallNS (n m : Nat) (sp : Sp) (gV : List V → List V → List V) (E : L2.St → XK) (t tk : TA) : TE := fun σ H Q => t σ H fun vs H1 => tk σ H1 fun zs H2 => vs.length = n ∧ zs.length = m ∧ sp (gV vs zs) H2 Q (E σ)
/-! ### a dict that is read from here on -/
def tFrz (td : TE) : TE := fun σ H Q => td σ H fun x H1 => ∃ d kvs, x = .ref d ∧ H1 d = some (.dK kvs) ∧ ∀ o H2, H2 d = some (.frz o (.dK kvs)) → Off d H1 H2 → Q x H2
def rItems (x : V) (H1 : Hp) (R : It → Hp → Prop) : Prop := ∃ d o kvs, x = .ref d ∧ H1 d = some (.frz o (.dK kvs)) ∧ R (Iti d o kvs) H1
end
end FW

set_option Elab.async false
set_option linter.all false
set_option maxRecDepth 100000
set_option maxHeartbeats 4000000
/-! zip of a tuple and a list -/
namespace FW
open PySem
section
variable {pg : Program} {w : World} {ar : Around} {er : Value → Shared → Prop} {sh : Shared}
end
abbrev zipMH1 (h : Heap) (l1 : Addr) : Heap := h.push { cls := .type "tuple_iterator", data := .fields #[.ref l1, .int 0 0] }
abbrev zipMH2 (h : Heap) (l1 l2 : Addr) : Heap := (zipMH1 h l1).push { cls := .type "list_iterator", data := .fields #[.ref l2, .int 0 0] }
abbrev zipMH3 (h : Heap) (l1 l2 : Addr) : Heap := (zipMH2 h l1 l2).push { cls := .type "tuple", data := .seq #[.ref h.objs.size, .ref (zipMH1 h l1).objs.size] }
abbrev zipMH4 (h : Heap) (l1 l2 : Addr) : Heap := (zipMH3 h l1 l2).push { cls := .type "tuple", data := .seq #[.none, .none] }
abbrev zipMH5 (h : Heap) (l1 l2 : Addr) : Heap := (zipMH4 h l1 l2).push { cls := .type "zip", data := .fields #[.none, .bool false, .bool false, .ref (zipMH2 h l1 l2).objs.size, .ref (zipMH3 h l1 l2).objs.size] }

section
variable {pg : Program} {w : World} {ar : Around} {er : Value → Shared → Prop} {sh : Shared}
end
open PySem.Spec PyProof.Rows L2
def ItzM (K : PySem.W.Frag) (aa b : Addr) : It :=
  ⟨fun ix H => ∃ (xs ys : List V) (x y : V), SqT K H aa xs ∧ SqL K H b ys ∧ xs[ix]? = some x ∧ ys[ix]? = some y,
    fun ix H v H' => ∃ T x y, v = .ref T ∧ H T = none ∧ H' = upd H T (.tup [x, y]) ∧ (∀ xs, SqT K H aa xs → xs[ix]? = some x) ∧ ∀ ys, SqL K H b ys → ys[ix]? = some y,
    fun ix H => ∃ xs ys : List V, SqT K H aa xs ∧ SqL K H b ys ∧ (xs.length ≤ ix ∨ ys.length ≤ ix)⟩
def iZipM (K : PySem.W.Frag) (ta : TA) : L2.TI := fun σ H R => ta σ H fun vs Hn => ∃ a b xs ys, vs = [.ref a, .ref b] ∧ SqT K Hn a xs ∧ SqL K Hn b ys ∧ R (ItzM K a b) Hn
def rZipM (K : PySem.W.Frag) (vs : List V) (H : Hp) (R : It → Hp → Prop) : Prop := ∃ a b xs ys, vs = [.ref a, .ref b] ∧ SqT K H a xs ∧ SqL K H b ys ∧ R (ItzM K a b) H
end FW

set_option Elab.async false
set_option linter.all false
set_option maxRecDepth 100000
set_option maxHeartbeats 4000000
/-! {an int for a in as if .. for b in bs if ..}: a set of ints by two clauses, as a rule of the layer (my own: the layer has it for lists, and sets of truth values by one clause). -/
namespace FW
open PySem PySem.Spec PyProof.Rows L2
section
variable {el ta ia tb ib : Expr} {fa fb : List Expr} {sc : Scope} {ps : Pos}
abbrev twoS (el ta ia : Expr) (fa : List Expr) (tb ib : Expr) (fb : List Expr) (sc : Scope) (ps : Pos) : Expr := .SetComp el [⟨ta, ia, fa, 0⟩, ⟨tb, ib, fb, 0⟩] sc ps
theorem turn_firstS (it : Value) (D : Addr) (env : Env) : compTurn (twoS el ta ia fa tb ib fb sc ps) 0 it (.ref D) env = (do
    standAt ia.pos
    match ← pyNext it with
    | none => pure (.done .next)
    | some u =>
      letOwnedTupleGo ta it u
      assign ta env u
      let mut good := true
      for c in fa do
        if good then good ← isTrue c env (eval c env)
      if good then
        let y ← eval ib env
        standAt ib.pos
        let y ← foldedSetIterable ib env y
        let _ ← runOwn (.compStart (twoS el ta ia fa tb ib fb sc ps) 1 (← holding [y] (pyIter y)) (.ref D) env) env
      again (.compLoop (twoS el ta ia fa tb ib fb sc ps) 0 it (.ref D) env)) := by rfl
theorem turn_secondS (it : Value) (D : Addr) (env : Env) : compTurn (twoS el ta ia fa tb ib fb sc ps) 1 it (.ref D) env = (do
    standAt ib.pos
    match ← pyNext it with
    | none => pure (.done .next)
    | some u =>
      letOwnedTupleGo tb it u
      assign tb env u
      let mut good := true
      for c in fb do
        if good then good ← isTrue c env (eval c env)
      if good then
        (do let v ← eval el env; standAt el.pos; let _ ← call (.builtin "set.add") [.ref D, v])
      again (.compLoop (twoS el ta ia fa tb ib fb sc ps) 1 it (.ref D) env)) := by rfl
variable {pg : Program} {wd : World} {A : Around} {R : Result → Shared → Prop} {st : Shared} {it : Value} {D : Addr} {env : Env}
/-- the first clause's loop; nothing raises in it -/
theorem loop_firstS (hf : ∀ y, foldedSetIterable ib env y = pure y) (G : Nat → Shared → Prop)
    (go : ∀ n z, G n z → wpAny (model pg wd) A (pyNext it) (fun r z1 => match r with
      | none => R (.ok .next) z1
      | some u => wpAny (model pg wd) A (letOwnedTupleGo ta it u) (fun _ z2 => wpAny (model pg wd) A (assign ta env u) (fun _ z3 => wpAny (model pg wd) A (testsOf2 fa env) (fun b z4 =>
          if b = true then wpAny (model pg wd) A (eval ib env) (fun y z5 => wpAny (model pg wd) A (pyIter y) (fun j z6 =>
            codeAny (model pg wd) A (.compStart (twoS el ta ia fa tb ib fb sc ps) 1 j (.ref D) env) (fun r z7 => match r with
              | .ok _ => ∃ m, m < n ∧ G m z7
              | .error _ => False) z6) (fun _ _ => False) z5) (fun _ _ => False) z4
          else ∃ m, m < n ∧ G m z4) (fun _ _ => False) z3) (fun _ _ => False) z2) (fun _ _ => False) z1) (fun _ _ => False) z)
    (n : Nat) (h : G n st) : codeAny (model pg wd) A (.compLoop (twoS el ta ia fa tb ib fb sc ps) 0 it (.ref D) env) R st := by
  refine codeAny_loop rfl G ?_ n h
  intro n z hz
  show wpAny _ A ((compTurn (twoS el ta ia fa tb ib fb sc ps) 0 it (.ref D) env).onRaise _) _ _ z
  apply wpAny_noted
  rw [turn_firstS]
  apply wpAny_bind
  apply wpAny_standAt
  apply wpAny_bind
  refine thnF (go n z hz) fun r z1 h1 => ?_
  cases r with
  | none => exact wpAny_pure h1
  | some u =>
    apply wpAny_bind
    refine thnF h1 fun _ z2 h2 => ?_
    apply wpAny_bind
    refine thnF h2 fun _ z3 h3 => ?_
    apply wpAny_bind
    refine thnF h3 fun b z4 h4 => ?_
    cases b with
    | false => exact wpAny_pure ⟨rfl, h4⟩
    | true =>
      apply wpAny_bind
      refine thnF h4 fun y z5 h5 => ?_
      apply wpAny_bind
      apply wpAny_standAt
      apply wpAny_bind
      refine wpAny_of_eq (hf y) ?_
      apply wpAny_bind
      apply wpAny_holding
      refine thnF h5 fun j z6 h6 => ?_
      apply wpAny_bind
      refine wpAny_runOwn ?_
      rw [Around.mark_none]
      refine codeAny_mono h6 fun r z7 h7 => ?_
      cases r with
      | error _ => exact False.elim h7
      | ok _ => first | exact wpAny_pure ⟨rfl, h7⟩ | exact wpAny_bind (wpAny_pure (wpAny_pure ⟨rfl, h7⟩))
/-- the second clause's loop -/
theorem loop_secondS (G : Nat → Shared → Prop)
    (go : ∀ n z, G n z → wpAny (model pg wd) A (pyNext it) (fun r z1 => match r with
      | none => R (.ok .next) z1
      | some u => wpAny (model pg wd) A (letOwnedTupleGo tb it u) (fun _ z2 => wpAny (model pg wd) A (assign tb env u) (fun _ z3 => wpAny (model pg wd) A (testsOf2 fb env) (fun b z4 =>
          if b = true then wpAny (model pg wd) A (eval el env) (fun v z5 => wpAny (model pg wd) A (call (.builtin "set.add") [.ref D, v]) (fun _ z7 => ∃ m, m < n ∧ G m z7) (fun _ _ => False) z5) (fun _ _ => False) z4
          else ∃ m, m < n ∧ G m z4) (fun _ _ => False) z3) (fun _ _ => False) z2) (fun _ _ => False) z1) (fun _ _ => False) z)
    (n : Nat) (h : G n st) : codeAny (model pg wd) A (.compLoop (twoS el ta ia fa tb ib fb sc ps) 1 it (.ref D) env) R st := by
  refine codeAny_loop rfl G ?_ n h
  intro n z hz
  show wpAny _ A ((compTurn (twoS el ta ia fa tb ib fb sc ps) 1 it (.ref D) env).onRaise _) _ _ z
  apply wpAny_noted
  rw [turn_secondS]
  apply wpAny_bind
  apply wpAny_standAt
  apply wpAny_bind
  refine thnF (go n z hz) fun r z1 h1 => ?_
  cases r with
  | none => exact wpAny_pure h1
  | some u =>
    apply wpAny_bind
    refine thnF h1 fun _ z2 h2 => ?_
    apply wpAny_bind
    refine thnF h2 fun _ z3 h3 => ?_
    apply wpAny_bind
    refine thnF h3 fun b z4 h4 => ?_
    cases b with
    | false => exact wpAny_pure ⟨rfl, h4⟩
    | true =>
      apply wpAny_bind
      apply wpAny_bind
      refine thnF h4 fun v z5 h5 => ?_
      apply wpAny_bind
      apply wpAny_standAt
      apply wpAny_bind
      exact thnF h5 fun _ z7 h7 => wpAny_pure (wpAny_pure ⟨rfl, h7⟩)
/-- the second clause begins -/
theorem start_secondS (h0 : codeAny (model pg wd) A (.compLoop (twoS el ta ia fa tb ib fb sc ps) 1 it (.ref D) env) R st)
    (h1 : wpAny (model pg wd) A (pyIter it) (fun j z => codeAny (model pg wd) A (.compLoop (twoS el ta ia fa tb ib fb sc ps) 1 j (.ref D) env) R z) (notedBy (model pg wd) A env fun x z => R (.error x) z) st) :
    codeAny (model pg wd) A (.compStart (twoS el ta ia fa tb ib fb sc ps) 1 it (.ref D) env) R st := by
  apply codeAny_of_tree
  show wpAny _ _ ((compStart (twoS el ta ia fa tb ib fb sc ps) 1 it (.ref D) env).onRaise _) _ _ st
  apply wpAny_notedAt
  unfold compStart
  show wpAny _ _ (ask >>= _) _ _ st
  apply wpAny_bind
  apply wpAny_askSetting
  apply wpAny_ite
  split
  · first | exact wpAny_bind (wpAny_pure (wpAny_pure ⟨rfl, h0⟩)) | exact wpAny_pure ⟨rfl, h0⟩
  · apply wpAny_bind
    apply wpAny_rule
    show wpAny _ _ (standAt ib.pos >>= _) _ _ st
    apply wpAny_bind
    apply wpAny_standAt
    apply wpAny_bind
    exact wpAny_mono h1 (fun _ _ q => wpAny_pure ⟨rfl, q⟩) fun _ _ q => q
end
section
variable {X : Cx} {el ta ia tb ib : Expr} {fa fb : List Expr} {sc : Scope} {ps qs : Pos} {own : List (Str × Nat)} {us : List Nat} {wa wb : L2.TI} {ga gb : TG} {ra rb : TT} {te : TE}
/-- set.add of an int -/
theorem addI_ok {pins : List (Addr × Obj)} {σ : L2.St} {H : Hp} {s : Shared} {E : Value → Shared → Prop} {D : Addr} {S : Int → Bool} {n : Nat} {y : Int} {tk : Tok} {Q : Value → Shared → Prop} (I : Inv X pins σ H s) (hD : H D = some (SetO X.w D S n)) (room : n + 1 < scanBound)
    (h : ∀ s', Inv X pins σ (upd H D (SetO X.w D (fun j => S j || decide (j = y)) (if S y = true then n else n + 1))) s' → Q .none s') : wpAny (model X.prog X.w) X.A (call (.builtin "set.add") [.ref D, .int y tk]) Q E s := by
  refine setR_add (setO_get I hD) room fun h' sb R => ?_
  obtain ⟨u, hu⟩ : ∃ u, h'.get? D = some u := by
    obtain ⟨o, _, _, _, ho, _⟩ := R
    exact ⟨o, ho⟩
  exact h _ (I.write (e := D) (t' := s.toks + 1) (by rw [hD]; trivial) (.inl rfl) (fun b v hb hv => (sb.2 b hb).trans hv) ⟨u, hu⟩ (setO_new R))
/-- the inner walk of one turn: from it Nx is reached -/
def InnS (w : World) (J : It) (gb : TG) (rb : TT) (te : TE) (us : List Nat) (D : Addr) (σ : L2.St) (H : Hp) (Nx : Hp → Prop) : Prop := ∃ W : Nat → Nat → Hp → Prop, (∃ m, W 0 m H) ∧ ∀ j k H1, W j k H1 →
  (J.stop j H1 ∧ Nx H1) ∨ (J.go j H1 ∧ ∃ Ny : Hp → Prop, (∀ H2, Ny H2 → ∃ k', k' < k ∧ W (j + 1) k' H2) ∧ ∀ x H2, J.yld j H1 x H2 → gb x (wipe σ us) H2 fun σ3 H3 => wipe σ3 us = wipe σ us ∧ rb σ3 H3 fun b H4 =>
    if b = true then te σ3 H4 fun y H5 => ∃ (x : Int) (S : Int → Bool) (n : Nat), y = .int x ∧ H5 D = some (SetO w D S n) ∧ n + 1 < scanBound ∧ Ny (upd H5 D (SetO w D (fun j => S j || decide (j = x)) (if S x = true then n else n + 1))) else Ny H4)
/-- the whole -/
def tSc2 (w : World) (wa : L2.TI) (ga : TG) (ra : TT) (wb : L2.TI) (gb : TG) (rb : TT) (te : TE) (os us : List Nat) : TE := fun σ H Q => wa σ H fun J H1 => ∀ D, H1 D = none → ∃ W : Nat → Nat → Hp → Prop, (∃ m, W 0 m (upd H1 D (SetO w D (fun _ => false) 0))) ∧ ∀ i m H2, W i m H2 →
  (J.stop i H2 ∧ Q (.ref D) H2) ∨ (J.go i H2 ∧ ∃ Nx : Hp → Prop, (∀ H3, Nx H3 → ∃ m', m' < m ∧ W (i + 1) m' H3) ∧ ∀ x H3, J.yld i H2 x H3 → ga x (wipe σ os) H3 fun σ2 H4 => wipe σ2 os = wipe σ os ∧ ra σ2 H4 fun b H5 =>
    if b = true then wb σ2 H5 fun J1 H6 => InnS w J1 gb rb te us D σ2 H6 Nx else Nx H5)
theorem sc2_run {pins : List (Addr × Obj)} {s : Shared} {σ : L2.St} {H : Hp} {Q : VK} {use : Option (Value → Sem Unit)} {Qf : Value → Shared → Prop}
    (calm : X.calm = true) (nd : X.N.Nodup) (I : Inv X pins σ H s) (pa : PI X ta ia wa) (ok : BlkOk X.N X.env.scope sc own) (sub : ∀ i ∈ us, i ∈ own.map (·.2))
    (pga : ∀ z G C cl fp, PG (X.blk z G sc (compEnvC sc cl C X.env) fp) ta ga) (pra : ∀ z G C cl fp, PTs (X.blk z G sc (compEnvC sc cl C X.env) fp) fa ra)
    (pb : ∀ z G C cl fp, PI (X.blk z G sc (compEnvC sc cl C X.env) fp) tb ib wb) (pgb : ∀ z G C cl fp, PG (X.blk z G sc (compEnvC sc cl C X.env) fp) tb gb) (prb : ∀ z G C cl fp, PTs (X.blk z G sc (compEnvC sc cl C X.env) fp) fb rb)
    (pe' : ∀ z G C cl fp, PE (X.blk z G sc (compEnvC sc cl C X.env) fp) el te)
    (hfa : ∀ y, foldedSetIterable ia X.env y = pure y) (hfb : ∀ env y, foldedSetIterable ib env y = pure y)
    (h : tSc2 X.w wa ga ra wb gb rb te (own.map (·.2)) us σ H Q)
    (fin : ∀ D C z m H', Inv X pins σ H' z → Q (.ref D) H' → z.heap.Ns C m → FpOk X pins H' C → compPost (model X.prog X.w) X.A X.xe use Qf (.ref D) C (.ok .next) z) :
    wpAny (model X.prog X.w) X.A (comprehension (twoS el ta ia fa tb ib fb sc ps) sc X.env qs (newSet (.type "set")) false (eval ia X.env) use) Qf X.xe s := by
  have cellsOk : ∀ y ∈ sc.names, y.2 = .free → ∃ c, X.env.cells.lookup y.1 = some c := by
    intro y hy e
    rcases ok.free y hy e with k | k
    · exact I.ok.has _ (.inl k)
    · exact I.ok.has _ (.inr k)
  refine wpAny_comprehension_free (use := use) rfl hfa (closure_ok cellsOk) ok.kind (fun y hy e => by rw [ok.uniq y hy, e]) ?_
  refine thn (pa.run pins s σ H _ I h) fun _ _ hx => thn hx fun _ z2 hz2 => ?_
  obtain ⟨it, fp, tn, J, G2, rfl, I2, T, at2, far2, q⟩ := hz2
  refine PpSet.newSet_ok (newEnv_comp ?_)
  -- the new dict stands at D
  obtain ⟨D, hD⟩ : ∃ D, D = z2.heap.objs.size := ⟨_, rfl⟩
  rw [← hD]
  have freeD : G2 D = none := I2.hok.fresh (Nat.le_of_eq hD.symm)
  obtain ⟨W, ⟨m0, w0⟩, turn⟩ := q D freeD
  obtain ⟨z3, e3⟩ : ∃ z3 : Shared, z3 = { z2 with heap := z2.heap.push { cls := .type "set", dict := none, data := .set #[] 0 (.fresh 0 0 (!X.w.params.followText "set-order")) } } := ⟨_, rfl⟩
  have h3 : z3.heap = z2.heap.push { cls := .type "set", dict := none, data := .set #[] 0 (.fresh 0 0 (!X.w.params.followText "set-order")) } := by rw [e3]
  have I3 : Inv X pins σ (upd G2 D (SetO X.w D (fun _ => false) 0)) z3 := by
    rw [e3]
    refine I2.laid (t' := z2.toks) (fun _ _ e => Heap.get?_push_of_some _ e) (Nat.le_of_eq hD.symm) ?_
    rw [hD]
    exact setO_new (setR_fresh X.w)
  have small : ∀ b ∈ fp, b < z2.heap.objs.size := by
    intro b hb
    obtain ⟨_, e, _⟩ := T.obj _ _ at2 b hb
    exact Heap.lt_size e
  have far3 : ∀ b ∈ fp, FpOk X pins (upd G2 D (SetO X.w D (fun _ => false) 0)) b ∧ b < z3.heap.objs.size := by
    intro b hb
    have lt := small b hb
    constructor
    · refine ⟨?_, (far2 b hb).2⟩
      rw [upd_ne (by rw [hD]; exact Nat.ne_of_lt lt)]
      exact (far2 b hb).1
    · rw [h3, Heap.size_push]
      exact Nat.lt_succ_of_lt lt
  have at3 : tn 0 z3.heap := T.keep _ _ _ at2 fun _ _ _ e => by rw [h3]; exact Heap.get?_push_of_some _ e
  have I4 := block_start I3 ok nd far3
  -- the block's frame
  obtain ⟨cl, hcl⟩ : ∃ cl, cl = cellsFrom (z3.heap.objs.size + 1) sc.names (cloFrom X.env.cells sc.names []) := ⟨_, rfl⟩
  rw [← hcl] at I4
  have gA := pga z3 (upd G2 D (SetO X.w D (fun _ => false) 0)) z3.heap.objs.size cl fp
  have tA := pra z3 (upd G2 D (SetO X.w D (fun _ => false) 0)) z3.heap.objs.size cl fp
  have iB := pb z3 (upd G2 D (SetO X.w D (fun _ => false) 0)) z3.heap.objs.size cl fp
  have gB := pgb z3 (upd G2 D (SetO X.w D (fun _ => false) 0)) z3.heap.objs.size cl fp
  have tB := prb z3 (upd G2 D (SetO X.w D (fun _ => false) 0)) z3.heap.objs.size cl fp
  have eE := pe' z3 (upd G2 D (SetO X.w D (fun _ => false) 0)) z3.heap.objs.size cl fp
  show codeAny _ _ (.compStart (twoS el ta ia fa tb ib fb sc ps) 0 (.ref it) (.ref D) (compEnvC sc (cellsFrom (({ z2 with heap := z2.heap.push { cls := .type "set", dict := none, data := .set #[] 0 (.fresh 0 0 (!X.w.params.followText "set-order")) } } : Shared).heap.objs.size + 1) sc.names (cloFrom X.env.cells sc.names [])) ({ z2 with heap := z2.heap.push { cls := .type "set", dict := none, data := .set #[] 0 (.fresh 0 0 (!X.w.params.followText "set-order")) } } : Shared).heap.objs.size X.env))
    (compPost (model X.prog X.w) X.A X.xe use Qf (.ref D) ({ z2 with heap := z2.heap.push { cls := .type "set", dict := none, data := .set #[] 0 (.fresh 0 0 (!X.w.params.followText "set-order")) } } : Shared).heap.objs.size) { ({ z2 with heap := z2.heap.push { cls := .type "set", dict := none, data := .set #[] 0 (.fresh 0 0 (!X.w.params.followText "set-order")) } } : Shared) with heap := pushCells (({ z2 with heap := z2.heap.push { cls := .type "set", dict := none, data := .set #[] 0 (.fresh 0 0 (!X.w.params.followText "set-order")) } } : Shared).heap.push { cls := .type "dict", data := .dict #[] }) sc.names }
  rw [← e3, ← hcl]
  have none3 : ∀ b ∈ fp, (upd G2 D (SetO X.w D (fun _ => false) 0)) b = none := fun b hb => (far3 b hb).1.1
  obtain ⟨ev, hev⟩ : ∃ ev, ev = compEnvC sc cl z3.heap.objs.size X.env := ⟨_, rfl⟩
  rw [← hev] at I4 gA tA iB gB tB eE ⊢
  have evL : ev.locals = z3.heap.objs.size := by rw [hev]; rfl
  obtain ⟨G3, hG3⟩ : ∃ G3, G3 = upd G2 D (SetO X.w D (fun _ => false) 0) := ⟨_, rfl⟩
  rw [← hG3] at I3 I4 gA tA iB gB tB eE w0 none3 far3
  obtain ⟨z4, e4⟩ : ∃ z4 : Shared, z4 = { z3 with heap := pushCells (z3.heap.push { cls := .type "dict", data := .dict #[] }) sc.names } := ⟨_, rfl⟩
  rw [← e4] at I4 ⊢
  have at4 : tn 0 z4.heap := T.keep _ _ _ at3 fun _ _ _ e => by rw [e4]; exact pushCells_keeps _ _ _ _ (Heap.get?_push_of_some _ e)
  have aside : ∀ {σ' : L2.St} {G : Hp} {z : Shared}, Inv (X.blk z3 G3 sc ev fp) [] σ' G z → (∀ b ∈ fp, G b = none) → ∀ b ∈ fp, FpOk (X.blk z3 G3 sc ev fp) [] G b := by
    intro σ' G z J' hn b hb
    exact ⟨hn b hb, (J'.ok.exf b hb).1, J'.ok.exfs b hb, .inl hb, fun x c e => (J'.ok.exf b hb).2 x c e, fun p hp => absurd (show p ∈ ([] : List (Addr × Obj)) ++ [] from hp) (by simp)⟩
  have whole : codeAny (model X.prog X.w) X.A (.compLoop (twoS el ta ia fa tb ib fb sc ps) 0 (.ref it) (.ref D) ev) (compPost (model X.prog X.w) X.A X.xe use Qf (.ref D) z3.heap.objs.size) z4 := by
    refine loop_firstS (hfb ev) (fun n z => ∃ i G, Inv (X.blk z3 G3 sc ev fp) [] (wipe σ (own.map (·.2))) G z ∧ tn i z.heap ∧ (∀ b ∈ fp, G b = none) ∧ W i n G) ?_ m0 ⟨0, G3, I4, at4, none3, w0⟩
    rintro n z5 ⟨i, G5, I5, at5, none5, w5⟩
    rcases turn i n G5 w5 with ⟨stop, qq⟩ | ⟨goes, Nx, hNx, step⟩
    · refine thnF (T.done (X.blk z3 G3 sc ev fp) rfl rfl rfl calm i [] z5 _ G5 (fun _ _ => False) I5 (aside I5 none5) at5 stop) ?_
      rintro r z6 ⟨rfl, I6⟩
      have I7 : Inv X pins σ G5 z6 := I3.call' (ch := fp) I6.os I6.base I6.hok I6.bare fun b hb =>
        let f := (far3 b hb).1
        ⟨f.2.2.2.1, f.2.1, f.2.2.2.2.1, f.2.2.2.2.2⟩
      have noC : G5 z3.heap.objs.size = none := by
        have y : G5 ev.locals = none := I6.free
        rw [evL] at y
        exact y
      obtain ⟨m, hn, _⟩ := I6.loc
      have hn' : z6.heap.Ns ev.locals m := hn
      rw [evL] at hn'
      exact fin D _ z6 m G5 I7 qq hn' (I3.fpOk (Nat.le_refl _) noC)
    · refine thnF (T.item (X.blk z3 G3 sc ev fp) rfl rfl rfl calm i [] z5 _ G5 (fun _ _ => False) I5 (aside I5 none5) at5 goes) ?_
      rintro r z6 ⟨u, rfl, h6⟩
      refine thnF h6 ?_
      rintro _ z7 ⟨x, G7, I7, r7, y7, at7, none7⟩
      refine thnF (gA.run _ z7 _ G7 x u _ (I7.pinned (aside I7 none7) (T.obj _ _ at7)) r7 (step x G7 y7)) ?_
      rintro _ z8 ⟨σ8, G8, I8, hw8, q8⟩
      refine thnF (tA.run _ z8 σ8 G8 _ I8 q8) ?_
      rintro b z9 ⟨G9, I9, q9⟩
      -- one turn of the first clause is over
      have over : ∀ {σ9 : L2.St} {z : Shared} {G : Hp}, Inv (X.blk z3 G3 sc ev fp) ([] ++ pinsAt fp z7.heap) σ9 G z → (wipe σ (own.map (·.2))).length = σ9.length → (∀ (j : Nat) v, (wipe σ (own.map (·.2)))[j]? = some (some v) → σ9[j]? = some (some v)) → Nx G →
          ∃ m, m < n ∧ ∃ i G, Inv (X.blk z3 G3 sc ev fp) [] (wipe σ (own.map (·.2))) G z ∧ tn i z.heap ∧ (∀ b ∈ fp, G b = none) ∧ W i m G := by
        intro σ9 z G I' hl hk nx
        obtain ⟨m', lt, w'⟩ := hNx G nx
        have pins' : ∀ b ∈ fp, ∀ o, z7.heap.get? b = some o → z.heap.get? b = some o ∧ G b = none := by
          intro b hb o e
          have y := I'.pin (b, o) (List.mem_append_right _ (List.mem_append_right _ (mem_pinsAt hb e)))
          exact ⟨y.1, y.2.1⟩
        refine ⟨m', lt, i + 1, G, (I'.unpinned (pins := [])).weak hl hk, T.keep _ _ _ at7 (fun b hb o e => (pins' b hb o e).1), ?_, w'⟩
        intro b hb
        obtain ⟨o, e, _⟩ := T.obj _ _ at7 b hb
        exact (pins' b hb o e).2
      have len8 : (wipe σ (own.map (·.2))).length = σ8.length := by rw [← hw8, wipe_length]
      cases b with
      | false =>
        have q9' : Nx G9 := q9
        show ∃ m, m < n ∧ _
        exact over I9 len8 (fun j v e => by rw [← hw8] at e; exact (wipe_some e).1) q9'
      | true =>
        have q9' : wb σ8 G9 fun J1 H6 => InnS X.w J1 gb rb te us D σ8 H6 Nx := q9
        show wpAny _ _ (eval ib ev) _ _ z9
        refine thnF (iB.run _ z9 σ8 G9 _ I9 q9') fun _ _ hx => thnF hx ?_
        rintro _ z11 ⟨it1, fp1, tn1, J1, G11, rfl, I11, T1, at11, far11, W1, ⟨m1, w1⟩, turn1⟩
        have aside1 : ∀ {G : Hp}, (∀ b ∈ fp1, G b = none) → ∀ b ∈ fp1, FpOk (X.blk z3 G3 sc ev fp) ([] ++ pinsAt fp z7.heap) G b := fun hn b hb => ⟨hn b hb, (far11 b hb).2⟩
        have inner : codeAny (model X.prog X.w) X.A (.compLoop (twoS el ta ia fa tb ib fb sc ps) 1 (.ref it1) (.ref D) ev) (fun r z => match r with
            | .ok _ => ∃ m, m < n ∧ ∃ i G, Inv (X.blk z3 G3 sc ev fp) [] (wipe σ (own.map (·.2))) G z ∧ tn i z.heap ∧ (∀ b ∈ fp, G b = none) ∧ W i m G
            | .error _ => False) z11 := by
          refine loop_secondS (fun k z => ∃ j G, Inv (X.blk z3 G3 sc ev fp) ([] ++ pinsAt fp z7.heap) (wipe σ8 us) G z ∧ tn1 j z.heap ∧ (∀ b ∈ fp1, G b = none) ∧ W1 j k G) ?_ m1 ⟨0, G11, I11.weak (wipe_length _ _) (fun j v e => (wipe_some e).1), at11, fun b hb => (far11 b hb).1, w1⟩
          rintro k z12 ⟨j, G12, I12, at12, none12, w12⟩
          rcases turn1 j k G12 w12 with ⟨stop1, nx1⟩ | ⟨goes1, Ny, hNy, step1⟩
          · refine thnF (T1.done (X.blk z3 G3 sc ev fp) rfl rfl rfl calm j _ z12 (wipe σ8 us) G12 (fun _ _ => False) I12 (aside1 none12) at12 stop1) ?_
            rintro r z13 ⟨rfl, I13⟩
            refine over I13 (len8.trans (wipe_length σ8 us).symm) ?_ nx1
            intro j' v e
            rw [← hw8] at e
            obtain ⟨e1, e2⟩ := wipe_some e
            rw [wipe_out fun y => e2 (sub j' y)]
            exact e1
          · refine thnF (T1.item (X.blk z3 G3 sc ev fp) rfl rfl rfl calm j _ z12 (wipe σ8 us) G12 (fun _ _ => False) I12 (aside1 none12) at12 goes1) ?_
            rintro r z13 ⟨u1, rfl, h13⟩
            refine thnF h13 ?_
            rintro _ z14 ⟨x1, G14, I14, r14, y14, at14, none14⟩
            refine thnF (gB.run _ z14 (wipe σ8 us) G14 x1 u1 _ (I14.pinned (aside1 none14) (T1.obj _ _ at14)) r14 (step1 x1 G14 y14)) ?_
            rintro _ z15 ⟨σ15, G15, I15, hw15, q15⟩
            refine thnF (tB.run _ z15 σ15 G15 _ I15 q15) ?_
            rintro b1 z16 ⟨G16, I16, q16⟩
            have over1 : ∀ {z : Shared} {G : Hp}, Inv (X.blk z3 G3 sc ev fp) (([] ++ pinsAt fp z7.heap) ++ pinsAt fp1 z14.heap) σ15 G z → Ny G → ∃ m, m < k ∧ ∃ j G, Inv (X.blk z3 G3 sc ev fp) ([] ++ pinsAt fp z7.heap) (wipe σ8 us) G z ∧ tn1 j z.heap ∧ (∀ b ∈ fp1, G b = none) ∧ W1 j m G := by
              intro z G I' nx
              obtain ⟨m', lt, w'⟩ := hNy G nx
              have pins' : ∀ b ∈ fp1, ∀ o, z14.heap.get? b = some o → z.heap.get? b = some o ∧ G b = none := by
                intro b hb o e
                have y := I'.pin (b, o) (List.mem_append_right _ (List.mem_append_right _ (mem_pinsAt hb e)))
                exact ⟨y.1, y.2.1⟩
              refine ⟨m', lt, j + 1, G, I'.unpinned.weak (by rw [← hw15, wipe_length]) (fun j v e => by rw [← hw15] at e; exact (wipe_some e).1), T1.keep _ _ _ at14 (fun b hb o e => (pins' b hb o e).1), ?_, w'⟩
              intro b hb
              obtain ⟨o, e, _⟩ := T1.obj _ _ at14 b hb
              exact (pins' b hb o e).2
            cases b1 with
            | false =>
              have q16' : Ny G16 := q16
              show ∃ m, m < k ∧ _
              exact over1 I16 q16'
            | true =>
              have q16' : te σ15 G16 fun y H5 => ∃ (x : Int) (S : Int → Bool) (n : Nat), y = .int x ∧ H5 D = some (SetO X.w D S n) ∧ n + 1 < scanBound ∧ Ny (upd H5 D (SetO X.w D (fun j => S j || decide (j = x)) (if S x = true then n else n + 1))) := q16
              show wpAny _ _ (eval el ev) _ _ z16
              refine thnF (eE.run _ z16 σ15 G16 _ I16 q16') ?_
              rintro u17 z17 ⟨yk, G17, I17, r17, xk, S0, n0, rfl, hD17, lt17, nx⟩
              obtain ⟨tk, rfl⟩ := r17
              exact addI_ok (X := X.blk z3 G3 sc ev fp) I17 hD17 lt17 fun _ I19 => over1 I19 nx
        exact start_secondS inner (T1.self X.A 0 _ _ _ at11 inner)
  exact PpSet.codeAny_compStart_set whole (T.self X.A 0 _ _ _ at4 whole)
/-- as a value -/
theorem pe_sc2 (calm : X.calm = true) (nd : X.N.Nodup) (pa : PI X ta ia wa) (ok : BlkOk X.N X.env.scope sc own) (sub : ∀ i ∈ us, i ∈ own.map (·.2))
    (pga : ∀ z G C cl fp, PG (X.blk z G sc (compEnvC sc cl C X.env) fp) ta ga) (pra : ∀ z G C cl fp, PTs (X.blk z G sc (compEnvC sc cl C X.env) fp) fa ra)
    (pb : ∀ z G C cl fp, PI (X.blk z G sc (compEnvC sc cl C X.env) fp) tb ib wb) (pgb : ∀ z G C cl fp, PG (X.blk z G sc (compEnvC sc cl C X.env) fp) tb gb) (prb : ∀ z G C cl fp, PTs (X.blk z G sc (compEnvC sc cl C X.env) fp) fb rb)
    (pe' : ∀ z G C cl fp, PE (X.blk z G sc (compEnvC sc cl C X.env) fp) el te)
    (hfa : ∀ y, foldedSetIterable ia X.env y = pure y := by intro _; rfl) (hfb : ∀ env y, foldedSetIterable ib env y = pure y := by intro _ _; rfl) :
    PE X (twoS el ta ia fa tb ib fb sc ps) (tSc2 X.w wa ga ra wb gb rb te (own.map (·.2)) us) := by
  constructor
  intro pins s σ H Q I h
  rw [PpSet.eval_SetComp]
  refine sc2_run calm nd I pa ok sub pga pra pb pgb prb pe' hfa hfb h ?_
  intro D C z m H' J q hn ff
  obtain ⟨f0, f1, f2, f3, f4, f5⟩ := ff
  exact ⟨m, hn, fun h2 sb => ⟨.ref D, H', J.turned (t' := z.toks) (fun b o hb e => (sb.2 b hb).trans e) f0 f1 f3 f4 f5, rfl, q⟩⟩
end
/-! ### its steps -/
section
variable {w : World} {K : PySem.W.Frag} {σ : L2.St} {H : Hp} {Q : VK}
/-- the set at D has just those of P; no more than m of them -/
def SetP (w : World) (H : Hp) (D : Addr) (P : Int → Prop) (m : Nat) : Prop := ∃ (S : Int → Bool) (n : Nat), H D = some (SetO w D S n) ∧ n ≤ m ∧ ∀ x, S x = true ↔ P x
theorem SetP.kp {H H' : Hp} {D : Addr} {P : Int → Prop} {m : Nat} {M : List Addr} (h : SetP w H D P m) (k : Kp M H H') (hD : D ∉ M) : SetP w H' D P m := by
  obtain ⟨S, n, e, r⟩ := h
  exact ⟨S, n, k _ _ hD e, r⟩
theorem SetP.congr {H : Hp} {D : Addr} {P P' : Int → Prop} {m m' : Nat} (h : SetP w H D P m) (e : ∀ x, P x ↔ P' x) (hm : m ≤ m') : SetP w H D P' m' := by
  obtain ⟨S, n, e1, e2, e3⟩ := h
  exact ⟨S, n, e1, Nat.le_trans e2 hm, fun x => (e3 x).trans (e x)⟩
theorem SetP.none {H : Hp} {D : Addr} : SetP w (upd H D (SetO w D (fun _ => false) 0)) D (fun _ => False) 0 := ⟨_, 0, upd_same, Nat.le_refl _, fun x => by simp⟩
/-- one is put in -/
theorem w_setadd {D : Addr} {P : Int → Prop} {m : Nat} {x : Int} {R : Hp → Prop} (h : SetP w H D P m) (hm : m + 1 < scanBound) (k : ∀ H', Off D H H' → SetP w H' D (fun j => P j ∨ j = x) (m + 1) → R H') :
    ∃ (z : Int) (S : Int → Bool) (n : Nat), V.int x = .int z ∧ H D = some (SetO w D S n) ∧ n + 1 < scanBound ∧ R (upd H D (SetO w D (fun j => S j || decide (j = z)) (if S z = true then n else n + 1))) := by
  obtain ⟨S, n, e1, e2, e3⟩ := h
  refine ⟨x, S, n, rfl, e1, by omega, k _ (fun b hb => upd_ne hb) ⟨_, _, upd_same, ?_, fun j => ?_⟩⟩
  · split <;> omega
  · rw [Bool.or_eq_true, decide_eq_true_iff, e3]
def Sc2P (w : World) (J : It) (ga : TG) (ra : TT) (wb : L2.TI) (gb : TG) (rb : TT) (te : TE) (os us : List Nat) (Q : VK) (σ : L2.St) (H1 : Hp) : Prop := ∀ D, H1 D = none → ∃ W : Nat → Nat → Hp → Prop, (∃ m, W 0 m (upd H1 D (SetO w D (fun _ => false) 0))) ∧ ∀ i m H2, W i m H2 →
  (J.stop i H2 ∧ Q (.ref D) H2) ∨ (J.go i H2 ∧ ∃ Nx : Hp → Prop, (∀ H3, Nx H3 → ∃ m', m' < m ∧ W (i + 1) m' H3) ∧ ∀ x H3, J.yld i H2 x H3 → ga x (wipe σ os) H3 fun σ2 H4 => wipe σ2 os = wipe σ os ∧ ra σ2 H4 fun b H5 =>
    if b = true then wb σ2 H5 fun J1 H6 => InnS w J1 gb rb te us D σ2 H6 Nx else Nx H5)
theorem w_sc2 {wa wb : L2.TI} {ga gb : TG} {ra rb : TT} {te : TE} {os us : List Nat} (h : wa σ H fun J H1 => Sc2P w J ga ra wb gb rb te os us Q σ H1) : tSc2 w wa ga ra wb gb rb te os us σ H Q := h
theorem sc2_it {J : It} {n : Nat} {G : Hp → Prop} {Y : Nat → Hp → V → Hp → Prop} (wk : Walk J n G Y) {wb : L2.TI} {ga gb : TG} {ra rb : TT} {te : TE} {os us : List Nat} (Pv : Addr → Nat → Hp → Prop) (h0 : ∀ D, H D = none → Pv D 0 (upd H D (SetO w D (fun _ => false) 0))) (hG : ∀ D i H1, i ≤ n → Pv D i H1 → G H1)
    (hs : ∀ D i x H1 H2, H D = none → i < n → Pv D i H1 → Y i H1 x H2 → ga x (wipe σ os) H2 fun σ2 H4 => wipe σ2 os = wipe σ os ∧ ra σ2 H4 fun b H5 => if b = true then wb σ2 H5 fun J1 H6 => InnS w J1 gb rb te us D σ2 H6 (Pv D (i + 1)) else Pv D (i + 1) H5)
    (hd : ∀ D H1, H D = none → Pv D n H1 → Q (.ref D) H1) : Sc2P w J ga ra wb gb rb te os us Q σ H := by
  intro D hD
  refine ⟨fun i m H1 => m = n - i ∧ i ≤ n ∧ Pv D i H1, ⟨n, by simp, Nat.zero_le _, h0 D hD⟩, ?_⟩
  rintro i m H1 ⟨rfl, hi, p⟩
  by_cases lt : i < n
  · exact .inr ⟨wk.goes i H1 lt (hG D i H1 hi p), Pv D (i + 1), fun H3 q => ⟨n - (i + 1), by omega, rfl, lt, q⟩, fun x H2 y => hs D i x H1 H2 hD lt p (wk.yields i H1 x H2 lt (hG D i H1 hi p) y)⟩
  · have e : i = n := by omega
    subst e
    exact .inl ⟨wk.stops H1 (hG D i H1 hi p), hd D H1 hD p⟩
theorem innS_it {J : It} {n : Nat} {G : Hp → Prop} {Y : Nat → Hp → V → Hp → Prop} (wk : Walk J n G Y) {gb : TG} {rb : TT} {te : TE} {us : List Nat} {D : Addr} {Nx : Hp → Prop} (Pv : Nat → Hp → Prop) (h0 : Pv 0 H) (hG : ∀ i H1, i ≤ n → Pv i H1 → G H1)
    (hs : ∀ i x H1 H2, i < n → Pv i H1 → Y i H1 x H2 → gb x (wipe σ us) H2 fun σ3 H3 => wipe σ3 us = wipe σ us ∧ rb σ3 H3 fun b H4 =>
      if b = true then te σ3 H4 fun y H5 => ∃ (x : Int) (S : Int → Bool) (n : Nat), y = .int x ∧ H5 D = some (SetO w D S n) ∧ n + 1 < scanBound ∧ Pv (i + 1) (upd H5 D (SetO w D (fun j => S j || decide (j = x)) (if S x = true then n else n + 1))) else Pv (i + 1) H4)
    (hd : ∀ H1, Pv n H1 → Nx H1) : InnS w J gb rb te us D σ H Nx := by
  refine ⟨fun i m H1 => m = n - i ∧ i ≤ n ∧ Pv i H1, ⟨n, by simp, Nat.zero_le _, h0⟩, ?_⟩
  rintro i m H1 ⟨rfl, hi, p⟩
  by_cases lt : i < n
  · exact .inr ⟨wk.goes i H1 lt (hG i H1 hi p), Pv (i + 1), fun H3 q => ⟨n - (i + 1), by omega, rfl, lt, q⟩, fun x H2 y => hs i x H1 H2 lt p (wk.yields i H1 x H2 lt (hG i H1 hi p) y)⟩
  · have e : i = n := by omega
    subst e
    exact .inl ⟨wk.stops H1 (hG i H1 hi p), hd H1 p⟩
end
end FW

set_option Elab.async false
set_option linter.all false
set_option maxRecDepth 100000
set_option maxHeartbeats 4000000
namespace FW
open PySem L2
def top (i : Nat) : Stmt := PySem.Challenge.pw_fewasks_k25_whole_must_ask.main.body.getD i (.Pass ⟨0, 0, 0, 0⟩)
abbrev s_Contrary___init__ : Stmt := inClass (top 2) 0
abbrev N_Contrary___init__ : List Str := ["self", "upper", "lower"]
theorem sc_Contrary___init__ : FnScope N_Contrary___init__ ["self", "upper", "lower"] (defScope s_Contrary___init__) := ⟨rfl, rfl, rfl, by decide +kernel, rfl, by decide +kernel, by decide +kernel⟩
abbrev s_spans : Stmt := top 4
abbrev N_spans : List Str := ["shape", "rows", "steps", "version", "parent", "found", "one"]
theorem sc_spans : FnScope N_spans ["shape"] (defScope s_spans) := ⟨rfl, rfl, rfl, by decide +kernel, rfl, by decide +kernel, by decide +kernel⟩
abbrev s_no_clash : Stmt := top 7
abbrev N_no_clash : List Str := ["rows", "answers", "no", "upper", "lower", "version", "truth"]
theorem sc_no_clash : FnScope N_no_clash ["rows", "answers"] (defScope s_no_clash) := ⟨rfl, rfl, rfl, by decide +kernel, rfl, by decide +kernel, by decide +kernel⟩
abbrev s_settled : Stmt := top 8
abbrev N_settled : List Str := ["shape", "answers", "rows", "no", "held", "has", "lacks", "left", "version", "truth", "low"]
theorem sc_settled : FnScope N_settled ["shape", "answers"] (defScope s_settled) := ⟨rfl, rfl, rfl, by decide +kernel, rfl, by decide +kernel, by decide +kernel⟩
abbrev s_next_asks : Stmt := top 9
abbrev N_next_asks : List Str := ["shape", "cover", "answers", "few", "left", "asks", "chain", "rest", "version"]
theorem sc_next_asks : FnScope N_next_asks ["shape", "cover", "answers", "few"] (defScope s_next_asks) := ⟨rfl, rfl, rfl, by decide +kernel, rfl, by decide +kernel, by decide +kernel⟩
abbrev s_must_ask : Stmt := top 11
abbrev N_must_ask : List Str := ["shape", "cover", "rows", "version", "low"]
theorem sc_must_ask : FnScope N_must_ask ["shape", "cover"] (defScope s_must_ask) := ⟨rfl, rfl, rfl, by decide +kernel, rfl, by decide +kernel, by decide +kernel⟩
abbrev s_give_way : Stmt := top 13
abbrev N_give_way : List Str := ["low", "came", "uppers", "lowers", "upper", "before"]
theorem sc_give_way : FnScope N_give_way ["low", "came", "uppers", "lowers"] (defScope s_give_way) := ⟨rfl, rfl, rfl, by decide +kernel, rfl, by decide +kernel, by decide +kernel⟩
abbrev s_pair_up : Stmt := top 14
abbrev N_pair_up : List Str := ["version", "rows", "uppers", "lowers", "came", "ways", "upper", "low"]
theorem sc_pair_up : FnScope N_pair_up ["version", "rows", "uppers", "lowers"] (defScope s_pair_up) := ⟨rfl, rfl, rfl, by decide +kernel, rfl, by decide +kernel, by decide +kernel⟩
abbrev s_apart_of : Stmt := top 15
abbrev N_apart_of : List Str := ["versions", "rows", "uppers", "lowers", "ways", "left", "right", "version", "low"]
theorem sc_apart_of : FnScope N_apart_of ["versions", "rows", "uppers", "lowers"] (defScope s_apart_of) := ⟨rfl, rfl, rfl, by decide +kernel, rfl, by decide +kernel, by decide +kernel⟩
abbrev s_cover : Stmt := top 16
abbrev N_cover : List Str := ["shape", "versions", "rows", "uppers", "lowers", "version", "chains", "chain"]
theorem sc_cover : FnScope N_cover ["shape"] (defScope s_cover) := ⟨rfl, rfl, rfl, by decide +kernel, rfl, by decide +kernel, by decide +kernel⟩
abbrev s_law_deck : Stmt := top 18
abbrev N_law_deck : List Str := ["_law_script"]
theorem sc_law_deck : FnScope N_law_deck ["_law_script"] (defScope s_law_deck) := ⟨rfl, rfl, rfl, by decide +kernel, rfl, by decide +kernel, by decide +kernel⟩
abbrev s_law_mixed : Stmt := top 19
abbrev N_law_mixed : List Str := ["_law_cell", "_law_turn"]
theorem sc_law_mixed : FnScope N_law_mixed ["_law_cell", "_law_turn"] (defScope s_law_mixed) := ⟨rfl, rfl, rfl, by decide +kernel, rfl, by decide +kernel, by decide +kernel⟩
abbrev s_law_draw : Stmt := top 20
abbrev N_law_draw : List Str := ["_law_deck_here", "_law_many", "_law_cells", "_law_found", "_law_number"]
theorem sc_law_draw : FnScope N_law_draw ["_law_deck_here", "_law_many"] (defScope s_law_draw) := ⟨rfl, rfl, rfl, by decide +kernel, rfl, by decide +kernel, by decide +kernel⟩
abbrev s_law_int : Stmt := top 21
abbrev N_law_int : List Str := ["_law_thing"]
theorem sc_law_int : FnScope N_law_int ["_law_thing"] (defScope s_law_int) := ⟨rfl, rfl, rfl, by decide +kernel, rfl, by decide +kernel, by decide +kernel⟩
abbrev s_law_same : Stmt := top 22
abbrev N_law_same : List Str := ["_law_found", "_law_due", "_law_k"]
theorem sc_law_same : FnScope N_law_same ["_law_found", "_law_due"] (defScope s_law_same) := ⟨rfl, rfl, rfl, by decide +kernel, rfl, by decide +kernel, by decide +kernel⟩
abbrev s_law_shape : Stmt := top 23
abbrev N_law_shape : List Str := ["_law_deck_here", "_law_most", "_law_versions", "_law_last", "_law_far", "_law_road", "_law_links", "_law_k", "_law_j", "_law_hit"]
theorem sc_law_shape : FnScope N_law_shape ["_law_deck_here", "_law_most"] (defScope s_law_shape) := ⟨rfl, rfl, rfl, by decide +kernel, rfl, by decide +kernel, by decide +kernel⟩
abbrev s_law_spans : Stmt := top 24
abbrev N_law_spans : List Str := ["_law_web", "_law_rows", "_law_version", "_law_found", "_law_two", "_law_low"]
theorem sc_law_spans : FnScope N_law_spans ["_law_web"] (defScope s_law_spans) := ⟨rfl, rfl, rfl, by decide +kernel, rfl, by decide +kernel, by decide +kernel⟩
abbrev s_law_rising : Stmt := top 25
abbrev N_law_rising : List Str := ["_law_thing", "_law_last", "_law_one"]
theorem sc_law_rising : FnScope N_law_rising ["_law_thing"] (defScope s_law_rising) := ⟨rfl, rfl, rfl, by decide +kernel, rfl, by decide +kernel, by decide +kernel⟩
abbrev s_law_is_cover : Stmt := top 26
abbrev N_law_is_cover : List Str := ["_law_web", "_law_rows", "_law_thing", "_law_seen", "_law_first", "_law_chain", "_law_k", "_law_one", "_law_other"]
theorem sc_law_is_cover : FnScope N_law_is_cover ["_law_web", "_law_rows", "_law_thing"] (defScope s_law_is_cover) := ⟨rfl, rfl, rfl, by decide +kernel, rfl, by decide +kernel, by decide +kernel⟩
abbrev s_law_pair_up : Stmt := top 27
abbrev N_law_pair_up : List Str := ["_law_deck_here", "_law_rows", "_law_ups", "_law_downs", "_law_one", "_law_came", "_law_wait", "_law_end", "_law_up", "_law_lows", "_law_low", "_law_before"]
theorem sc_law_pair_up : FnScope N_law_pair_up ["_law_deck_here", "_law_rows", "_law_ups", "_law_downs", "_law_one"] (defScope s_law_pair_up) := ⟨rfl, rfl, rfl, by decide +kernel, rfl, by decide +kernel, by decide +kernel⟩
abbrev s_law_high_apart : Stmt := top 28
abbrev N_law_high_apart : List Str := ["_law_rows", "_law_ups", "_law_downs", "_law_wait", "_law_left", "_law_right", "_law_low", "_law_one"]
theorem sc_law_high_apart : FnScope N_law_high_apart ["_law_rows", "_law_ups", "_law_downs"] (defScope s_law_high_apart) := ⟨rfl, rfl, rfl, by decide +kernel, rfl, by decide +kernel, by decide +kernel⟩
abbrev s_law_low_apart : Stmt := top 29
abbrev N_law_low_apart : List Str := ["_law_rows", "_law_ups", "_law_downs", "_law_wait", "_law_right", "_law_left", "_law_low", "_law_up", "_law_one"]
theorem sc_law_low_apart : FnScope N_law_low_apart ["_law_rows", "_law_ups", "_law_downs"] (defScope s_law_low_apart) := ⟨rfl, rfl, rfl, by decide +kernel, rfl, by decide +kernel, by decide +kernel⟩
abbrev s_law_own_cover : Stmt := top 30
abbrev N_law_own_cover : List Str := ["_law_deck_here", "_law_rows", "_law_ups", "_law_downs", "_law_rest", "_law_chains", "_law_one", "_law_chain"]
theorem sc_law_own_cover : FnScope N_law_own_cover ["_law_deck_here", "_law_rows"] (defScope s_law_own_cover) := ⟨rfl, rfl, rfl, by decide +kernel, rfl, by decide +kernel, by decide +kernel⟩
abbrev s_law : Stmt := top 31
abbrev N_law : List Str := ["_law_script", "_law_deck_here", "_law_web", "_law_rows", "_law_told", "_law_due", "_law_version", "_law_held", "_law_one", "_law_answers", "_law_found", "_law_wide", "_law_turn", "_law_asks", "_law_asked"]
theorem sc_law : FnScope N_law ["_law_script"] (defScope s_law) := ⟨rfl, rfl, rfl, by decide +kernel, rfl, by decide +kernel, by decide +kernel⟩
structure Df (K : PySem.W.Frag) (mg : Str → Option Value) (x : Str) (st : Stmt) (ps : List Str) (f : Addr) (fd : FuncData) : Prop where
  fn : Fun K x x st f fd
  b : Binds K fd ps []
  g : mg x = some (.ref f)
structure Txt (K : PySem.W.Frag) (mg : Str → Option Value) : Prop where
  n_len : mg "len" = none
  n_list : mg "list" = none
  n_isinstance : mg "isinstance" = none
  n_int : mg "int" = none
  n_bool : mg "bool" = none
  n_str : mg "str" = none
  n_tuple : mg "tuple" = none
  n_range : mg "range" = none
  n_sorted : mg "sorted" = none
  n_reversed : mg "reversed" = none
  n_any : mg "any" = none
  n_min : mg "min" = none
  n_max : mg "max" = none
  n_sum : mg "sum" = none
  g_FEW : ∃ t, mg "FEW" = some (.int 4 t)
local macro_rules | `(tactic| walk_at "sq") => `(tactic| first | assumption | exact SqL.of (by assumption) | exact SqT.of (by assumption))
local macro_rules | `(tactic| walk_at "c") => `(tactic| first | ((with_reducible refine cdivw ?_ ?_) <;> first | decide | omega | assumption) | ((with_reducible refine cmul_r ?_ ?_) <;> first | decide | omega) | ((with_reducible refine cmul_l ?_ ?_) <;> first | decide | omega) | with_reducible assumption | decide | omega | exact ⟨by decide, by decide, by first | decide | omega⟩)
local macro_rules | `(tactic| walk_at "at") => `(tactic| first | assumption | exact rfl)
local macro_rules | `(tactic| walk_at "ty") => `(tactic| first | exact .base (.int _) | exact .base (.bl _) | exact .base (.str _) | exact .base .non | exact .base (.tup (by assumption)) | exact .base (.lst (by assumption)) | exact .base (.dK (by assumption)))
local macro_rules | `(tactic| walk_at "kb") => `(tactic| first | exact kb_int_int | exact kb_int_bool | exact kb_int_str | exact kb_int_tuple | exact kb_int_list | exact kb_int_dict | exact kb_bool_int | exact kb_bool_bool | exact kb_bool_str | exact kb_bool_tuple | exact kb_bool_list | exact kb_bool_dict | exact kb_str_int | exact kb_str_bool | exact kb_str_str | exact kb_str_tuple | exact kb_str_list | exact kb_str_dict | exact kb_tuple_int | exact kb_tuple_bool | exact kb_tuple_str | exact kb_tuple_tuple | exact kb_tuple_list | exact kb_tuple_dict | exact kb_list_int | exact kb_list_bool | exact kb_list_str | exact kb_list_tuple | exact kb_list_list | exact kb_list_dict | exact kb_dict_int | exact kb_dict_bool | exact kb_dict_str | exact kb_dict_tuple | exact kb_dict_list | exact kb_dict_dict | exact kb_NoneType_int | exact kb_NoneType_bool | exact kb_NoneType_str | exact kb_NoneType_tuple | exact kb_NoneType_list | exact kb_NoneType_dict)
local macro_rules | `(tactic| walk_at "s") => `(tactic| first
  | with_reducible refine w_seqA ?_
  | with_reducible refine w_seqD ?_
  | with_reducible refine w_seqF ?_
  | with_reducible refine w_seqW ?_
  | with_reducible refine w_seqG ?_
  | with_reducible refine w_seqP ?_
  | with_reducible refine w_asg ?_
  | ((with_reducible refine' w_var ?hv ?_); (case hv => exact rfl))
  | with_reducible refine w_c ?_
  | ((with_reducible refine w_name ?_); dsimp only [List.set_cons_zero, List.set_cons_succ])
  | with_reducible refine w_name ?_
  | with_reducible refine w_op ?_
  | with_reducible refine w_un ?_
  | with_reducible refine w_neg ?_
  | with_reducible refine w_i0 ?_
  | ((with_reducible refine w_i ?hc ?_); (case hc => walk_at "c"))
  | with_reducible refine w_eqI ?_
  | with_reducible refine w_neI ?_
  | ((with_reducible refine' w_ixL ?h1 ?h2 ?_); (case h1 => walk_at "sq"); (case h2 => walk_at "at"))
  | ((with_reducible refine' w_ixT ?h1 ?h2 ?_); (case h1 => walk_at "sq"); (case h2 => walk_at "at"))
  | ((with_reducible refine' w_ixSL ?h1 ?h2 ?_); (case h1 => walk_at "sq"); (case h2 => walk_at "at"))
  | ((with_reducible refine' w_ixST ?h1 ?h2 ?_); (case h1 => walk_at "sq"); (case h2 => walk_at "at"))
  | with_reducible refine w_neB ?_
  | with_reducible refine w_eqN ?_
  | with_reducible refine w_sub ?_
  | with_reducible refine w_if ?_
  | with_reducible refine w_test ?_
  | with_reducible refine w_tb ?_
  | with_reducible refine w_bl ?_
  | with_reducible refine w_and ?_
  | with_reducible refine w_or ?_
  | with_reducible refine w_not ?_
  | with_reducible refine w_andV ?_
  | with_reducible refine w_orV ?_
  | with_reducible refine w_notV ?_
  | with_reducible refine w_ret ?_
  | with_reducible refine w_drop ?_
  | with_reducible refine w_next ?_
  | with_reducible refine w_cb ?_
  | with_reducible refine w_nil ?_
  | with_reducible refine w_cons ?_
  | with_reducible refine w_call ?_
  | with_reducible refine w_lst ?_
  | with_reducible refine w_tup ?_
  | with_reducible refine w_bm ?_
  | ((with_reducible refine' w_tyL ?h1 ?_); (case h1 => assumption))
  | ((with_reducible refine' w_lenL ?h1 ?_); (case h1 => walk_at "sq"))
  | ((with_reducible refine' w_lenT ?h1 ?_); (case h1 => walk_at "sq"))
  | ((with_reducible refine w_sz ?h1 ?_); (case h1 => first | decide | (simp only [List.length_cons, List.length_nil]; decide)))
  | with_reducible refine w_min2 ?_
  | with_reducible refine w_max2 ?_
  | with_reducible refine w_tupRg ?_
  | with_reducible refine w_rg2 ?_
  | with_reducible refine w_rg2' ?_
  | with_reducible refine w_bits ?_
  | with_reducible refine w_bits' ?_
  | with_reducible refine w_for ?_
  | with_reducible refine w_rng1 ?_
  | ((with_reducible refine w_rng1' ?h1 ?h2 ?_); (case h1 => omega); (case h2 => omega))
  | with_reducible refine w_rng2 ?_
  | ((with_reducible refine w_rng2' ?h1 ?_); (case h1 => omega))
  | with_reducible refine w_itL ?_
  | ((with_reducible refine' w_itL' ?h1 ?_); (case h1 => walk_at "sq"))
  | with_reducible refine w_itT ?_
  | ((with_reducible refine' w_itT' ?h1 ?_); (case h1 => walk_at "sq"))
  | with_reducible refine w_lc ?_
  | ((with_reducible refine' w_isi ?ty ?hk ?_); (case ty => walk_at "ty"); (case hk => walk_at "kb"))
  | with_reducible refine iteT ?_
  | with_reducible refine iteF ?_
  | with_reducible refine w_nT ?_
  | with_reducible refine w_nF ?_
  | with_reducible refine w_eqS ?_
  | with_reducible refine w_eqB ?_
  | ((with_reducible refine' w_sum ?h1 ?_); (case h1 => walk_at "sq"))
  | ((with_reducible refine' w_gtup ?h1 ?h2 ?_); (case h1 => walk_at "sq"); (case h2 => exact rfl))
  | with_reducible refine w_gcons ?_
  | with_reducible refine w_gnil ?_
  | with_reducible refine w_din ?_
  | with_reducible refine w_dnotin ?_
  | with_reducible refine w_dget ?_
  | ((with_reducible refine' w_dinI ?h1 ?_); (case h1 => assumption))
  | ((with_reducible refine' w_dnotinI ?h1 ?_); (case h1 => assumption))
  | ((with_reducible refine' w_dgetI ?h1 ?h2 ?_); (case h1 => assumption); (case h2 => assumption))
  | with_reducible refine w_dnewK ?_
  | with_reducible refine w_dput ?_
  | with_reducible refine w_dget2 ?_
  | ((with_reducible refine' w_isD ?h1 ?_); (case h1 => assumption))
  | ((with_reducible refine' w_dget2I ?h1 ?_); (case h1 => assumption))
  | with_reducible refine w_dsetd ?_
  | ((with_reducible refine' w_leT2 ?h1 ?h2 ?_); (case h1 => walk_at "sq"); (case h2 => walk_at "sq"))
  | ((with_reducible refine' w_inT ?h1 ?_); (case h1 => walk_at "sq"))
  | ((with_reducible refine' w_ninT ?h1 ?_); (case h1 => walk_at "sq"))
  | ((with_reducible refine' w_inL ?h1 ?_); (case h1 => walk_at "sq"))
  | ((with_reducible refine' w_ninL ?h1 ?_); (case h1 => walk_at "sq"))
  | with_reducible refine w_pair ?_
  | with_reducible refine w_pnil ?_
  | with_reducible refine w_callS ?_
  | with_reducible refine w_try ?_
  | with_reducible refine w_isB ?_
  | with_reducible refine w_isN ?_
  | with_reducible refine w_notN ?_
  | with_reducible refine w_chain ?_
  | with_reducible refine w_tru ?_
  | ((with_reducible refine' w_trL ?h1 ?_); (case h1 => walk_at "sq"))
  | ((with_reducible refine' w_trT ?h1 ?_); (case h1 => walk_at "sq"))
  | with_reducible refine w_dc ?_
  | with_reducible refine w_dc2 ?_
  | with_reducible refine w_dget1 ?_
  | ((with_reducible refine' w_dget1I ?h1 ?_); (case h1 => assumption))
  | with_reducible refine w_rev ?_
  | ((with_reducible refine' w_rev' ?h1 ?_); (case h1 => walk_at "sq"))
  | with_reducible refine w_slice ?_
  | with_reducible refine w_noPart ?_
  | with_reducible refine w_part ?_
  | with_reducible refine w_part' ?_
  | with_reducible refine w_enum ?_
  | ((with_reducible refine' w_enum' ?h1 ?_); (case h1 => walk_at "sq"))
  | with_reducible refine w_bm0 ?_
  | with_reducible refine w_retN ?_
  | with_reducible refine w_tyes ?_
  | with_reducible refine w_keys ?_
  | ((with_reducible refine' w_keys' ?h1 ?_); (case h1 => assumption))
  | ((with_reducible refine' w_dinF ?h1 ?_); (case h1 => assumption))
  | ((with_reducible refine' w_dgetF ?h1 ?h2 ?_); (case h1 => assumption); (case h2 => assumption))
  | ((with_reducible refine' w_any ?h1 ?_); (case h1 => walk_at "sq"))
  | dsimp only [Bool.not_true, Bool.not_false]
  )
local macro_rules | `(tactic| walk_at "p") => `(tactic| first | assumption | omega | (simp only [List.length_cons, List.length_nil, List.length_map]; omega) | exact rfl | decide)
local macro_rules | `(tactic| walk_at "d") => `(tactic| first
  | ((with_reducible refine w_yes ?hp ?_); (case hp => walk_at "p"))
  | ((with_reducible refine w_no ?hp ?_); (case hp => walk_at "p"))
  | ((with_reducible refine w_nyes ?hp ?_); (case hp => walk_at "p"))
  | ((with_reducible refine w_nno ?hp ?_); (case hp => walk_at "p")))
local macro_rules | `(tactic| walk_at "g") => `(tactic| repeat walk_at "s")
local macro_rules | `(tactic| walk_at "dg") => `(tactic| (walk_at "d"; repeat walk_at "s"))
local macro_rules | `(tactic| walk_at "x") => `(tactic| ((try dsimp only [cxOf, Cx.nox, Cx.wish]); repeat walk_at "s"))
def spDeck (K : PySem.W.Frag) : Sp := fun vs H Q _ => ∃ (a : Addr) (ns : List Int), vs = [.ref a] ∧ SqL K H a (ns.map V.int) ∧
  ∀ H' d c, Same H H' → H d = none → H c = none → Deck H' d c 0 → Q (.ref d) H'
def spMixed : Sp := fun vs H Q _ => ∃ (x t : Int), vs = [.int x, .int t] ∧ 0 ≤ t ∧ t ≤ 2 ^ 41 ∧ ∀ i, Q (.int i) H
def spDraw : Sp := fun vs H Q _ => ∃ (d c : Addr) (n : Nat) (m : Int), vs = [.ref d, .int m] ∧ Deck H d c n ∧ n < MOSTD ∧ 0 < m ∧ m < 2 ^ 64 ∧
  ∀ (i : Nat) H', (i : Int) < m → Deck H' d c (n + 1) → Off d H H' → Q (.int i) H'
theorem w_deck {K : PySem.W.Frag} {H : Hp} {Q : VK} {E : XK} {a : Addr} {ns : List Int} (h1 : SqL K H a (ns.map V.int)) (h : ∀ H' d c, Same H H' → H d = none → H c = none → Deck H' d c 0 → Q (.ref d) H') : spDeck K ([V.ref a] ++ []) H Q E := ⟨a, ns, rfl, h1, h⟩
theorem w_draw {H : Hp} {Q : VK} {E : XK} {d c : Addr} {n : Nat} {m : Int} (D : Deck H d c n) (hn : n < MOSTD) (h0 : 0 < m) (h1 : m < 2 ^ 64) (h : ∀ (i : Nat) H', (i : Int) < m → Deck H' d c (n + 1) → Off d H H' → Q (.int i) H') : spDraw ([V.ref d, V.int m] ++ []) H Q E := ⟨d, c, n, m, rfl, D, hn, h0, h1, h⟩
section
variable {P : Program} {w : World} {K : PySem.W.Frag} {mg : Str → Option Value} {base : Heap}
theorem ok_deck {f : Addr} {fd : FuncData} (T : Txt K mg) (F : Fun K "_law_deck" "_law_deck" s_law_deck f fd) : FnOk P w K mg base CX0 1 f fd ["_law_script"] (spDeck K) := by
  refine F.ok sc_law_deck (fun vs H Q E h => ?_) (fun cdv A outer s H vs Q E hr h => ?_)
  · obtain ⟨a, ns, rfl, _⟩ := h
    rfl
  · obtain ⟨a, ns, rfl, hS, q⟩ := h
    refine ⟨_,
      (pss_one
        (ps_ret (pe_lst (pa_cons (pe_callTy (r := rListOf K) c_listOf (by rfl) T.n_list (by decide +kernel) (pa_cons (pv 0) pa_nil)) (pa_cons pe_int (pa_cons pe_int (pa_cons pe_int pa_nil)))))))
      , ?_⟩
    walk_at "x"
    refine w_listL hS fun c H1 hc e1 k1 => ?_
    walk_at "g"
    refine w_new fun d H2 hd e2 k2 => ?_
    refine q _ d c (Same.trans k1 k2) (k1.free hd) hc ⟨⟨ns, 0, 0, 0, e2, k2 _ _ e1, Nat.le_refl _⟩, ne_of_none e1 hd⟩
theorem ok_mixed {f : Addr} {fd : FuncData} (T : Txt K mg) (F : Fun K "_law_mixed" "_law_mixed" s_law_mixed f fd) : FnOk P w K mg base CX0 1 f fd ["_law_cell", "_law_turn"] spMixed := by
  refine F.ok sc_law_mixed (fun vs H Q E h => ?_) (fun cdv A outer s H vs Q E hr h => ?_)
  · obtain ⟨x, t, rfl, _⟩ := h
    rfl
  · obtain ⟨x, t, rfl, h0, h1, q⟩ := h
    refine ⟨_,
      (pss_one
        (ps_ret (pe_op op_mod (pe_op op_pow (pe_op op_add (pe_op op_add (pe_op op_mod (pv 0) pe_int) (pe_op op_mul (pv 1) pe_int)) pe_int) pe_int) pe_int)))
      , ?_⟩
    have e := Int.emod_lt_of_pos x (show (0 : Int) < 2147483629 by decide)
    have e2 := Int.emod_nonneg x (show (2147483629 : Int) ≠ 0 by decide)
    walk_at "x"
    exact q _
theorem ok_draw {f fM : Addr} {fd fdM : FuncData} (T : Txt K mg) (F : Fun K "_law_draw" "_law_draw" s_law_draw f fd) (D_law_mixed : Df K mg "_law_mixed" s_law_mixed ["_law_cell", "_law_turn"] fM fdM) : FnOk P w K mg base CX0 2 f fd ["_law_deck_here", "_law_many"] spDraw := by
  have G_law_mixed : FnOk P w K mg base CX0 1 fM fdM ["_law_cell", "_law_turn"] spMixed := ok_mixed T D_law_mixed.fn
  refine F.ok sc_law_draw (fun vs H Q E h => ?_) (fun cdv A outer s H vs Q E hr h => ?_)
  · obtain ⟨d, c, n, m, rfl, _⟩ := h
    rfl
  · obtain ⟨d, c, n, m, rfl, ⟨⟨cs, a, b, t, e1, e2, e3⟩, ne⟩, hn, hm, hm2, q⟩ := h
    have hn' : t < 1099511627776 := Nat.lt_of_le_of_lt e3 hn
    refine ⟨_,
      (pss_cons
        (ps_set (i := 2) sc_law_draw.nd rfl (.inl rfl) (pe_ix (r := rIxL K) ix_list (pv 0) pe_int (fun _ _ => rfl)))
      (pss_cons
        (ps_asg (pe_op op_add (pe_ix (r := rIxL K) ix_list (pv 0) pe_int (fun _ _ => rfl)) pe_int) (pg_sub (pv 0) pe_int set_list))
      (pss_cons
        (ps_if (PW.pt (pw_and (pt_cmpR op_eq (pe_ix (r := rIxL K) ix_list (pv 0) pe_int (fun _ _ => rfl)) pe_int (nomark _)) (pw_and1 (pt_cmpR op_lt (pe_ix (r := rIxL K) ix_list (pv 0) pe_int (fun _ _ => rfl)) (pe_callB (r := rLen K) c_len (by rfl) T.n_len (by decide +kernel) (pa_cons (pv 2) pa_nil)) (nomark _)))))
          (pss_cons
            (ps_asg (pe_op op_add (pe_ix (r := rIxL K) ix_list (pv 0) pe_int (fun _ _ => rfl)) pe_int) (pg_sub (pv 0) pe_int set_list))
          (pss_cons
            (ps_if (pt_cmpR op_lt (pe_ix (r := rIxL K) ix_list (pv 2) (pe_op op_sub (pe_ix (r := rIxL K) ix_list (pv 0) pe_int (fun _ _ => rfl)) pe_int) (fun _ _ => rfl)) (pe_op op_pow pe_int pe_int) (nomark _))
              (pss_one
                (ps_ret (pe_op op_mod (pe_call G_law_mixed (hr.mono (by omega)) (by rfl) D_law_mixed.g D_law_mixed.fn.kp D_law_mixed.b .nil pass0 (pa_cons (pe_ix (r := rIxL K) ix_list (pv 2) (pe_op op_sub (pe_ix (r := rIxL K) ix_list (pv 0) pe_int (fun _ _ => rfl)) pe_int) (fun _ _ => rfl)) (pa_cons (pe_ix (r := rIxL K) ix_list (pv 0) pe_int (fun _ _ => rfl)) pa_nil))) (pv 1))))
              pss_nil)
          (pss_one
            (ps_asg (pe_ix (r := rIxL K) ix_list (pv 2) (pe_op op_sub (pe_ix (r := rIxL K) ix_list (pv 0) pe_int (fun _ _ => rfl)) pe_int) (fun _ _ => rfl)) (pg_sub (pv 0) pe_int set_list)))))
          pss_nil)
      (pss_cons
        (ps_if (pt_cmpR op_gt (pe_ix (r := rIxL K) ix_list (pv 0) pe_int (fun _ _ => rfl)) pe_int (nomark _))
          (pss_cons
            (ps_set (i := 3) sc_law_draw.nd rfl (.inl rfl) (pe_op op_mod (pe_ix (r := rIxL K) ix_list (pv 0) pe_int (fun _ _ => rfl)) (pv 1)))
          (pss_cons
            (ps_asg (pe_op op_fdivW (pe_ix (r := rIxL K) ix_list (pv 0) pe_int (fun _ _ => rfl)) (pv 1)) (pg_sub (pv 0) pe_int set_list))
          (pss_one
            (ps_ret (pv 3)))))
          pss_nil)
      (pss_cons
        (ps_set (i := 4) sc_law_draw.nd rfl (.inl rfl) (pe_op op_mul (pe_ix (r := rIxL K) ix_list (pv 0) pe_int (fun _ _ => rfl)) pe_int))
      (pss_cons
        (ps_if (pt_cmpR op_gt (pe_callB (r := rLen K) c_len (by rfl) T.n_len (by decide +kernel) (pa_cons (pv 2) pa_nil)) pe_int (nomark _))
          (pss_one
            (ps_set (i := 4) sc_law_draw.nd rfl (.inl rfl) (pe_op op_add (pv 4) (pe_op op_mod (pe_ix (r := rIxL K) ix_list (pv 2) (pe_op op_mod (pe_op op_mul (pe_ix (r := rIxL K) ix_list (pv 0) pe_int (fun _ _ => rfl)) pe_int) (pe_callB (r := rLen K) c_len (by rfl) T.n_len (by decide +kernel) (pa_cons (pv 2) pa_nil))) (fun _ _ => rfl)) pe_int))))
          pss_nil)
      (pss_one
        (ps_ret (pe_op op_mod (pe_call G_law_mixed (hr.mono (by omega)) (by rfl) D_law_mixed.g D_law_mixed.fn.kp D_law_mixed.b .nil pass0 (pa_cons (pv 4) (pa_cons (pe_ix (r := rIxL K) ix_list (pv 0) pe_int (fun _ _ => rfl)) pa_nil))) (pv 1))))))))))
      , ?_⟩
    rw [show L2.start N_law_draw [V.ref d, V.int m] = [some (.ref d), some (.int m), none, none, none] from rfl]
    -- cells = deck[0]; deck[3] = deck[3] + 1
    walk_at "x"
    refine w_setL e1 rfl rfl fun H1 g0 o0 => ?_
    have fin : ∀ (H' : Hp) (a' : Nat) (b' i : Int), 0 ≤ i → i < m → H' d = some (.lst [.ref c, .int a', .int b', .int (t + 1)]) → Off d H H' → Q (.int i) H' := fun H' a' b' i i0 i1 g1 g2 => by
      have z := q i.toNat H' (by omega) ⟨⟨cs, a', b', t + 1, g1, (g2 c ne).trans e2, by omega⟩, ne⟩ g2
      rw [Int.toNat_of_nonneg i0] at z
      exact z
    have md : ∀ x : Int, 0 ≤ x % m ∧ x % m < m := fun x => ⟨Int.emod_nonneg x (by omega), Int.emod_lt_of_pos x hm⟩
    have g0 : H1 d = some (.lst [.ref c, .int a, .int b, .int ((t : Int) + 1)]) := g0
    have c1 : H1 c = some (.lst (cs.map V.int)) := (o0 c ne).trans e2
    -- if deck[2] == 0 and deck[1] < len(cells): ..
    refine w_seqJ (fun σ' H2 => σ' = [some (.ref d), some (.int m), some (.ref c), none, none] ∧ ∃ (a' : Nat) (b' : Int), H2 d = some (.lst [.ref c, .int a', .int b', .int ((t : Int) + 1)]) ∧ Off d H H2) ?_ ?_
    · rintro σ' H2 ⟨rfl, a', b', g2, o2⟩
      have c2 : H2 c = some (.lst (cs.map V.int)) := (o2 c ne).trans e2
      refine w_seqJ (fun σ' H3 => σ' = [some (.ref d), some (.int m), some (.ref c), none, none] ∧ H3 = H2) ?_ ?_
      · rintro σ' H3 ⟨rfl, rfl⟩
        -- number = deck[3] * 48271; if len(cells) > 0: ..
        walk_at "g"
        refine w_seqJ (fun σ' H4 => (∃ z : Int, σ' = [some (.ref d), some (.int m), some (.ref c), none, some (.int z)]) ∧ H4 = H3) ?_ ?_
        · rintro σ' H4 ⟨⟨z, rfl⟩, rfl⟩
          walk_at "g"
          refine ⟨_, _, rfl, by omega, by omega, fun y => ?_⟩
          walk_at "g"
          exact fin _ a' b' _ (md y).1 (md y).2 g2 o2
        · intro U hU
          walk_at "g"
          refine w_ite (fun hl => ?_) (fun hl => ?_)
          · obtain ⟨v, hv1, hv2⟩ := at_lt (xs := cs.map V.int) (i := ((t : Int) + 1) * 7 % ((cs.map V.int).length : Int)) (Int.emod_nonneg _ (by omega)) (Int.emod_lt_of_pos _ hl)
            rw [List.getElem?_map] at hv1
            obtain ⟨y, _, rfl⟩ := Option.map_eq_some_iff.mp hv1
            walk_at "g"
            exact hU _ _ ⟨⟨_, rfl⟩, rfl⟩
          · exact hU _ _ ⟨⟨_, rfl⟩, rfl⟩
      · intro U hU
        walk_at "g"
        refine w_ite (fun hl => ?_) (fun hl => ?_)
        · walk_at "g"
          refine w_setL g2 rfl rfl fun H9 g9 o9 => ?_
          walk_at "g"
          exact fin _ a' (b' / m) _ (md b').1 (md b').2 g9 (o2.trans o9)
        · exact hU _ _ ⟨rfl, rfl⟩
    · intro U hU
      have no : U [some (.ref d), some (.int m), some (.ref c), none, none] H1 := hU _ _ ⟨rfl, a, b, g0, o0⟩
      walk_at "g"
      refine w_ite (fun hl => ?_) (fun _ => no)
      walk_at "g"
      refine w_ite (fun hl2 => ?_) (fun _ => no)
      obtain ⟨v, hv1, hv2⟩ := at_lt (xs := cs.map V.int) (i := ((a + 1 : Nat) : Int) - 1) (by omega) (by omega)
      rw [List.getElem?_map] at hv1
      obtain ⟨y, _, rfl⟩ := Option.map_eq_some_iff.mp hv1
      walk_at "g"
      refine w_setL g0 rfl rfl fun H2 g2 o2 => ?_
      have g2 : H2 d = some (.lst [.ref c, .int ((a + 1 : Nat) : Int), .int b, .int ((t : Int) + 1)]) := g2
      have o2 : Off d H H2 := o0.trans o2
      have c2 : H2 c = some (.lst (cs.map V.int)) := (o2 c ne).trans e2
      refine w_seq ?_
      walk_at "g"
      refine w_ite (fun hl => ?_) (fun hl => ?_)
      · walk_at "g"
        refine ⟨_, _, rfl, by omega, by omega, fun y => ?_⟩
        walk_at "g"
        exact fin _ (a + 1) b _ (md y).1 (md y).2 g2 o2
      · walk_at "g"
        refine w_setL g2 rfl rfl fun H9 g9 o9 => ?_
        exact hU _ _ ⟨rfl, a + 1, y, g9, o2.trans o9⟩
end
/-! ### shapes on the heap -/
def VL (H : Hp) (a : Addr) (vs : List Int) : Prop := H a = some (.tup (vs.map V.int))
def PL (H : Hp) (b : Addr) (ps : List (Addr × Int × Int)) : Prop := H b = some (.tup (ps.map fun q => .ref q.1)) ∧ ∀ q ∈ ps, H q.1 = some (.tup [.int q.2.1, .int q.2.2])
def ShAt (H : Hp) (t : Addr) (vs : List Int) (ps : List (Addr × Int × Int)) : Prop := ∃ a b, H t = some (.tup [.ref a, .ref b]) ∧ VL H a vs ∧ PL H b ps
theorem VL.kt {H H' : Hp} {a : Addr} {vs : List Int} (h : VL H a vs) (k : KT H H') : VL H' a vs := k _ _ h
theorem PL.kt {H H' : Hp} {a : Addr} {ps : List (Addr × Int × Int)} (h : PL H a ps) (k : KT H H') : PL H' a ps := ⟨k _ _ h.1, fun q hq => k _ _ (h.2 q hq)⟩
theorem ShAt.kt {H H' : Hp} {t : Addr} {vs : List Int} {ps : List (Addr × Int × Int)} (h : ShAt H t vs ps) (k : KT H H') : ShAt H' t vs ps := by
  obtain ⟨a, b, e, v, p⟩ := h
  exact ⟨a, b, k _ _ e, v.kt k, p.kt k⟩
def LexL (x y : Int × Int) : Prop := x.1 < y.1 ∨ x.1 = y.1 ∧ x.2 < y.2
structure ShOk (vs : List Int) (ls : List (Int × Int)) : Prop where
  vr : vs.Pairwise (· < ·)
  v0 : ∀ v ∈ vs, 0 ≤ v
  lr : ls.Pairwise LexL
  lm : ∀ q ∈ ls, q.1 ∈ vs ∧ q.2 ∈ vs ∧ q.2 < q.1
theorem drop_of {α : Type} {xs : List α} {i : Nat} {x : α} (h : xs[i]? = some x) : xs.drop i = x :: xs.drop (i + 1) := by
  obtain ⟨h1, h2⟩ := List.getElem?_eq_some_iff.mp h
  rw [List.drop_eq_getElem_cons h1, h2]
theorem map_at {α : Type} {f : α → V} {xs : List α} {i : Nat} {v : V} (h : (xs.map f)[i]? = some v) : ∃ x, xs[i]? = some x ∧ v = f x := by
  rw [List.getElem?_map] at h
  obtain ⟨y, h1, h2⟩ := Option.map_eq_some_iff.mp h
  exact ⟨y, h1, h2.symm⟩
/-! ### shapes as they are drawn: the lists while they grow -/
structure LInv (vs : List Int) (z : Int) (j : Nat) (ls : List (Int × Int)) : Prop where
  pw : ls.Pairwise LexL
  mem : ∀ q ∈ ls, (q.1 ∈ vs ∧ q.2 ∈ vs ∧ q.2 < q.1) ∨ (q.1 = z ∧ q.2 ∈ vs.take j)
theorem LInv.skip {vs : List Int} {z : Int} {j : Nat} {ls : List (Int × Int)} (h : LInv vs z j ls) : LInv vs z (j + 1) ls := by
  refine ⟨h.pw, fun q hq => ?_⟩
  rcases h.mem q hq with a | ⟨a, b⟩
  · exact .inl a
  · exact .inr ⟨a, List.mem_of_mem_take (by rw [List.take_take, Nat.min_eq_left (Nat.le_succ j)]; exact b)⟩
theorem take_lt {vs : List Int} (h : vs.Pairwise (· < ·)) {j : Nat} {t x : Int} (ht : vs[j]? = some t) (hx : x ∈ vs.take j) : x < t := by
  have e : vs = vs.take j ++ vs.drop j := (List.take_append_drop j vs).symm
  rw [e, List.pairwise_append] at h
  refine h.2.2 x hx t ?_
  rw [drop_of ht]
  simp
theorem LInv.snoc {vs : List Int} {z t : Int} {j : Nat} {ls : List (Int × Int)} (h : LInv vs z j ls) (hv : vs.Pairwise (· < ·)) (hz : ∀ v ∈ vs, v < z) (ht : vs[j]? = some t) : LInv vs z (j + 1) (ls ++ [(z, t)]) := by
  constructor
  · rw [List.pairwise_append]
    refine ⟨h.pw, List.pairwise_singleton _ _, fun q hq y hy => ?_⟩
    have e : y = (z, t) := by simpa using hy
    subst e
    rcases h.mem q hq with a | ⟨a, b⟩
    · exact .inl (hz _ a.1)
    · exact .inr ⟨a, take_lt hv ht b⟩
  · intro q hq
    rcases List.mem_append.mp hq with a | a
    · exact h.skip.mem q a
    · have e : q = (z, t) := by simpa using a
      subst e
      refine .inr ⟨rfl, ?_⟩
      rw [List.take_add_one, ht]
      simp
theorem LInv.start {vs : List Int} {ls : List (Int × Int)} (h : ShOk vs ls) (z : Int) : LInv vs z 0 ls := ⟨h.lr, fun q hq => .inl (h.lm q hq)⟩
theorem LInv.done {vs : List Int} {z : Int} {j : Nat} {ls : List (Int × Int)} (h : LInv vs z j ls) (hv : vs.Pairwise (· < ·)) (h0 : ∀ v ∈ vs, 0 ≤ v) (hz : ∀ v ∈ vs, v < z) (z0 : 0 ≤ z) : ShOk (vs ++ [z]) ls := by
  refine ⟨?_, fun v hv' => ?_, h.pw, fun q hq => ?_⟩
  · rw [List.pairwise_append]
    exact ⟨hv, List.pairwise_singleton _ _, fun x hx y hy => by
      have e : y = z := by simpa using hy
      subst e
      exact hz x hx⟩
  · rcases List.mem_append.mp hv' with a | a
    · exact h0 v a
    · have e : v = z := by simpa using a
      subst e
      exact z0
  · rcases h.mem q hq with ⟨a, b, c⟩ | ⟨a, b⟩
    · exact ⟨List.mem_append_left _ a, List.mem_append_left _ b, c⟩
    · have m := List.mem_of_mem_take b
      exact ⟨by rw [a]; simp, List.mem_append_left _ m, by rw [a]; exact hz _ m⟩
theorem pick4 {j : Nat} (h : (j : Int) < 4) : ∃ m : Int, atI [V.int 3, V.int 2, V.int 6, V.int 9] (j : Int) = some (.int m) ∧ 0 < m ∧ m < 2 ^ 64 := by
  match j, h with
  | 0, _ => exact ⟨3, rfl, by decide, by decide⟩
  | 1, _ => exact ⟨2, rfl, by decide, by decide⟩
  | 2, _ => exact ⟨6, rfl, by decide, by decide⟩
  | 3, _ => exact ⟨9, rfl, by decide, by decide⟩
  | j + 4, h => omega
theorem mostd {n m : Nat} (h : n + 10000 ≤ MOSTD) (e : m < 10000) : n + m < MOSTD := by omega
theorem at_map {vs : List Int} {j : Nat} {t : Int} (h : vs[j]? = some t) : atI (vs.map V.int) (j : Int) = some (.int t) := atI_nat (by rw [List.getElem?_map, h]; rfl)
def spShape : Sp := fun vs H Q _ => ∃ (d c : Addr) (n m : Nat), vs = [.ref d, .int m] ∧ Deck H d c n ∧ n + 10000 ≤ MOSTD ∧ m ≤ 60 ∧
  ∀ H' t ns ps, Deck H' d c (n + 10000) → Kp [d] H H' → ShAt H' t ns ps → ShOk ns (ps.map (·.2)) → ns.length ≤ m → ps.length ≤ 100 * m → Q (.ref t) H'
section
variable {P : Program} {w : World} {K : PySem.W.Frag} {mg : Str → Option Value} {base : Heap}
theorem ok_shape {f fM fD : Addr} {fd fdM fdD : FuncData} (T : Txt K mg) (F : Fun K "_law_shape" "_law_shape" s_law_shape f fd) (D_law_mixed : Df K mg "_law_mixed" s_law_mixed ["_law_cell", "_law_turn"] fM fdM)
    (D_law_draw : Df K mg "_law_draw" s_law_draw ["_law_deck_here", "_law_many"] fD fdD) : FnOk P w K mg base CX0 3 f fd ["_law_deck_here", "_law_most"] spShape := by
  have G_law_draw : FnOk P w K mg base CX0 2 fD fdD ["_law_deck_here", "_law_many"] spDraw := ok_draw T D_law_draw.fn D_law_mixed
  refine F.ok sc_law_shape (fun vs H Q E h => ?_) (fun cdv A outer s H vs Q E hr h => ?_)
  · obtain ⟨d, c, n, m, rfl, _⟩ := h
    rfl
  · obtain ⟨d, c, n, m, rfl, D0, hn, hm, q⟩ := h
    refine ⟨_,
      (pss_cons
        (ps_set (i := 2) sc_law_shape.nd rfl (.inl rfl) (pe_lst pa_nil))
      (pss_cons
        (ps_set (i := 3) sc_law_shape.nd rfl (.inl rfl) (pe_un un_neg pe_int))
      (pss_cons
        (ps_set (i := 4) sc_law_shape.nd rfl (.inl rfl) (pe_call G_law_draw (hr.mono (by omega)) (by rfl) D_law_draw.g D_law_draw.fn.kp D_law_draw.b .nil pass0 (pa_cons (pv 0) (pa_cons pe_int pa_nil))))
      (pss_cons
        (ps_set (i := 5) sc_law_shape.nd rfl (.inl rfl) (pe_call G_law_draw (hr.mono (by omega)) (by rfl) D_law_draw.g D_law_draw.fn.kp D_law_draw.b .nil pass0 (pa_cons (pv 0) (pa_cons pe_int pa_nil))))
      (pss_cons
        (ps_set (i := 6) sc_law_shape.nd rfl (.inl rfl) (pe_lst pa_nil))
      (pss_cons
        (ps_for PassesOwn.never rfl (pi_range1 (by rfl) T.n_range (pa_cons (pe_call G_law_draw (hr.mono (by omega)) (by rfl) D_law_draw.g D_law_draw.fn.kp D_law_draw.b .nil pass0 (pa_cons (pv 0) (pa_cons (pe_op op_add (pv 1) pe_int) pa_nil))) pa_nil)) (pg_name (i := 7) sc_law_shape.nd rfl (.inl rfl))
          (pss_cons
            (ps_set (i := 3) sc_law_shape.nd rfl (.inl rfl) (pe_op op_add (pe_op op_add (pv 3) pe_int) (pe_call G_law_draw (hr.mono (by omega)) (by rfl) D_law_draw.g D_law_draw.fn.kp D_law_draw.b .nil pass0 (pa_cons (pv 0) (pa_cons pe_int pa_nil)))))
          (pss_cons
            (ps_if (PW.pt (pw_and (pt_cmpR op_eq (pv 4) pe_int (nomark _)) (pw_and1 (pt_cmpR op_eq (pe_call G_law_draw (hr.mono (by omega)) (by rfl) D_law_draw.g D_law_draw.fn.kp D_law_draw.b .nil pass0 (pa_cons (pv 0) (pa_cons pe_int pa_nil))) pe_int (nomark _)))))
              (pss_one
                (ps_set (i := 3) sc_law_shape.nd rfl (.inl rfl) (pe_op op_add (pv 3) (pe_call G_law_draw (hr.mono (by omega)) (by rfl) D_law_draw.g D_law_draw.fn.kp D_law_draw.b .nil pass0 (pa_cons (pv 0) (pa_cons (pe_op op_pow pe_int pe_int) pa_nil))))))
              pss_nil)
          (pss_cons
            (ps_for PassesOwn.never rfl (pi_range1 (by rfl) T.n_range (pa_cons (pv 7) pa_nil)) (pg_name (i := 8) sc_law_shape.nd rfl (.inl rfl))
              (pss_cons
                (ps_set (i := 9) sc_law_shape.nd rfl (.inl rfl) (pe_cmpR op_eq (pe_call G_law_draw (hr.mono (by omega)) (by rfl) D_law_draw.g D_law_draw.fn.kp D_law_draw.b .nil pass0 (pa_cons (pv 0) (pa_cons (pe_ix (r := rIxL K) ix_list (pe_lst (pa_cons pe_int (pa_cons pe_int (pa_cons pe_int (pa_cons pe_int pa_nil))))) (pv 5) (fun _ _ => rfl)) pa_nil))) pe_int (nomark _)))
              (pss_cons
                (ps_if (PW.pt (pw_and (pt_cmpR op_eq (pv 5) pe_int (nomark _)) (pw_and1 (pt_cmpR op_gt (pe_op op_sub (pv 7) (pv 8)) pe_int (nomark _)))))
                  (pss_one
                    (ps_set (i := 9) sc_law_shape.nd rfl (.inl rfl) pe_bl))
                  pss_nil)
              (pss_cons
                (ps_if (PW.pt (pw_and (pt_cmpR op_eq (pv 5) pe_int (nomark _)) (pw_and1 (pt_cmpR op_eq (pv 8) (pe_op op_sub (pv 7) pe_int) (nomark _)))))
                  (pss_one
                    (ps_set (i := 9) sc_law_shape.nd rfl (.inl rfl) pe_bl))
                  pss_nil)
              (pss_one
                (ps_if (pt_val (pv 9))
                  (pss_one
                    (ps_expr (pe_bm PySem.F.plainAttrs_list PySem.F.slot_list_append PySem.F.type_list_append mt_append (pv 6) (pa_cons (pe_tup (pa_cons (pv 3) (pa_cons (pe_ix (r := rIxL K) ix_list (pv 2) (pv 8) (fun _ _ => rfl)) pa_nil))) pa_nil))))
                  pss_nil))))))
          (pss_one
            (ps_expr (pe_bm PySem.F.plainAttrs_list PySem.F.slot_list_append PySem.F.type_list_append mt_append (pv 2) (pa_cons (pv 3) pa_nil))))))))
      (pss_one
        (ps_ret (pe_tup (pa_cons (pe_callTy (r := rTupOf K) c_tupOf (by rfl) T.n_tuple (by decide +kernel) (pa_cons (pv 2) pa_nil)) (pa_cons (pe_callTy (r := rTupOf K) c_tupOf (by rfl) T.n_tuple (by decide +kernel) (pa_cons (pv 6) pa_nil)) pa_nil)))))))))))
      , ?_⟩
    rw [show L2.start N_law_shape [V.ref d, V.int m] = [some (.ref d), some (.int m), none, none, none, none, none, none, none, none] from rfl]
    walk_at "x"
    refine w_new fun l1 H1 hl1 e1 k1 => ?_
    have D1 := D0.kp (M := []) (Kp.of k1) (by simp) (by simp)
    obtain ⟨n1d, n1c⟩ := D0.ne1 hl1
    walk_at "g"
    refine w_draw D1 (mostd (m := 0) hn (by omega)) (by decide) (by decide) fun far H2 hfar D2 o2 => ?_
    walk_at "g"
    refine w_draw D2 (mostd (m := 1) hn (by omega)) (by decide) (by decide) fun road H3 hroad D3 o3 => ?_
    walk_at "g"
    have e3 := o3.get n1d (o2.get n1d e1)
    refine w_new fun l2 H4 hl2 e4 k4 => ?_
    have D4 := D3.kp (M := []) (Kp.of k4) (by simp) (by simp)
    obtain ⟨n2d, n2c⟩ := D3.ne1 hl2
    have n21 : l1 ≠ l2 := ne_of_none e3 hl2
    have e1' := k4 _ _ e3
    have kk : Kp [d] H H4 := (Kp.of k1).trans ((o2.kp (by simp)).trans ((o3.kp (by simp)).trans (Kp.of k4)))
    have hl2H : H l2 = none := nofree (((Kp.of k1).trans ((o2.kp (by simp)).trans (o3.kp (by simp)))) : Kp [d] H H3) (by simpa using n2d) hl2
    walk_at "g"
    refine w_draw D4 (mostd (m := 2) hn (by omega)) (by omega) (by omega) fun many H5 hmany D5 o5 => ?_
    walk_at "g"
    refine lp_range (fun k σ H' => ∃ (ns : List Int) (ps : List (Addr × Int × Int)) (last : Int) (y7 y8 y9 : Option V), σ = [some (.ref d), some (.int m), some (.ref l1), some (.int last), some (.int far), some (.int road), some (.ref l2), y7, y8, y9] ∧
      Deck H' d c (n + 3 + 100 * k) ∧ H' l1 = some (.lst (ns.map V.int)) ∧ H' l2 = some (.lst (ps.map fun q => .ref q.1)) ∧ (∀ q ∈ ps, H' q.1 = some (.tup [.int q.2.1, .int q.2.2])) ∧
      ns.length = k ∧ ShOk ns (ps.map (·.2)) ∧ (∀ v ∈ ns, v ≤ last) ∧ -1 ≤ last ∧ ps.length ≤ 100 * k ∧ Kp [d] H H') ?_ ?_ ?_
    · exact ⟨[], [], -1, none, none, none, rfl, D5, o5.get n1d e1', o5.get n2d e4, by simp, rfl, ⟨List.Pairwise.nil, by simp, List.Pairwise.nil, by simp⟩, by simp, by omega, Nat.zero_le _, kk.trans (o5.kp (by simp))⟩
    · rintro k σ H6 hk ⟨ns, ps, last, y7, y8, y9, rfl, D6, el1, el2, hps, hlen, S, hlast, hl1', hpl, k6⟩
      have hk60 : k < 60 := by omega
      walk_at "g"
      refine w_draw D6 (by have : 3 + 100 * k < 10000 := by omega
                           omega) (by decide) (by decide) fun r1 H7 hr1 D7 o7 => ?_
      walk_at "g"
      -- last is raised
      refine w_seqJ (fun σ' H' => ∃ (z : Int), σ' = [some (.ref d), some (.int m), some (.ref l1), some (.int z), some (.int far), some (.int road), some (.ref l2), some (.int (0 + k)), y8, y9] ∧ last < z ∧ Deck H' d c (n + 3 + 100 * k + 3) ∧ Off d H6 H') ?_ ?_
      · rintro σ' H8 ⟨z, rfl, hz, D8, o8⟩
        have hzv : ∀ v ∈ ns, v < z := fun v hv => by have := hlast v hv; omega
        have hps8 : ∀ q ∈ ps, H8 q.1 = some (.tup [.int q.2.1, .int q.2.2]) := fun q hq => by
          obtain ⟨⟨xs, e⟩, _⟩ := D6.at
          exact o8.tup e (hps q hq)
        walk_at "g"
        refine lp_range (fun j σ H' => ∃ (ps' : List (Addr × Int × Int)) (y8 y9 : Option V), σ = [some (.ref d), some (.int m), some (.ref l1), some (.int z), some (.int far), some (.int road), some (.ref l2), some (.int (0 + k)), y8, y9] ∧
          Deck H' d c (n + 3 + 100 * k + 3 + j) ∧ H' l1 = some (.lst (ns.map V.int)) ∧ H' l2 = some (.lst (ps'.map fun q => .ref q.1)) ∧ (∀ q ∈ ps', H' q.1 = some (.tup [.int q.2.1, .int q.2.2])) ∧
          LInv ns z j (ps'.map (·.2)) ∧ ps'.length ≤ 100 * k + j ∧ Kp [d] H H') ?_ ?_ ?_
        · exact ⟨ps, _, _, rfl, D8, o8.get n1d el1, o8.get n2d el2, hps8, LInv.start S z, hpl, k6.trans (o8.kp (by simp))⟩
        · rintro j σ H9 hj ⟨ps', w8, w9, rfl, D9, g1, g2, gp, L, hpl', k9⟩
          have hjk : j < k := by omega
          have hjn : j < ns.length := by omega
          obtain ⟨t, ht⟩ : ∃ t, ns[j]? = some t := ⟨ns[j], List.getElem?_eq_getElem hjn⟩
          walk_at "g"
          refine w_new fun pp H10 hpp e10 k10 => ?_
          have D10 := D9.kp (M := []) (Kp.of k10) (by simp) (by simp)
          obtain ⟨npd, npc⟩ := D9.ne1 hpp
          obtain ⟨mm, emm, hmm0, hmm1⟩ := pick4 hroad
          walk_at "g"
          refine w_draw D10 (by have : 3 + 100 * k + 3 + j < 10000 := by omega
                                omega) hmm0 hmm1 fun r2 H11 hr2 D11 o11 => ?_
          walk_at "g"
          have g1' := o11.get n1d (k10 _ _ g1)
          have g2' := o11.get n2d (k10 _ _ g2)
          have gp' : ∀ q ∈ ps', H11 q.1 = some (.tup [.int q.2.1, .int q.2.2]) := fun q hq => by
            obtain ⟨⟨xs, e⟩, _⟩ := D10.at
            exact o11.tup e (k10 _ _ (gp q hq))
          have k11 : Kp [d] H H11 := k9.trans ((Kp.of k10).trans (o11.kp (by simp)))
          refine w_seqJ (fun σ' H' => (∃ b : Bool, σ' = [some (.ref d), some (.int m), some (.ref l1), some (.int z), some (.int far), some (.int road), some (.ref l2), some (.int (0 + k)), some (.int (0 + j)), some (.bl b)]) ∧ H' = H11) ?_ ?_
          · rintro σ' H' ⟨⟨b1, rfl⟩, rfl⟩
            refine w_seqJ (fun σ' H'' => (∃ b : Bool, σ' = [some (.ref d), some (.int m), some (.ref l1), some (.int z), some (.int far), some (.int road), some (.ref l2), some (.int (0 + k)), some (.int (0 + j)), some (.bl b)]) ∧ H'' = H') ?_ ?_
            · rintro σ' H'' ⟨⟨b2, rfl⟩, rfl⟩
              walk_at "g"
              refine w_itB (fun _ => ?_) (fun _ => ?_)
              · have hat := at_map ht
                rw [show (j : Int) = 0 + (j : Int) by omega] at hat
                walk_at "g"
                refine w_new fun pr H12 hpr e12 k12 => ?_
                have g2'' := k12 _ _ g2'
                walk_at "g"
                refine w_app g2'' (by rw [List.length_map]; exact Nat.lt_of_le_of_lt (show ps'.length ≤ 10000 by omega) (by decide)) fun H13 e13 o13 => ?_
                have D12 := D11.kp (M := []) (Kp.of k12) (by simp) (by simp)
                refine ⟨ps' ++ [(pr, z, t)], _, _, rfl, D12.kp (M := [l2]) (o13.kp (by simp)) (by simpa using Ne.symm n2d) (by simpa using Ne.symm n2c), o13.get n21 (k12 _ _ g1'), by rw [e13, List.map_append]; rfl, ?_, ?_, by rw [List.length_append]; simp; omega, Off.keep (k11.trans (Kp.of k12)) o13 hl2H⟩
                · intro q hq
                  rcases List.mem_append.mp hq with a | a
                  · exact o13.tup g2'' (k12 _ _ (gp' q a))
                  · have e : q = (pr, z, t) := by simpa using a
                    subst e
                    exact o13.tup g2'' e12
                · rw [List.map_append]
                  exact L.snoc S.vr hzv ht
              · walk_at "g"
                exact ⟨ps', _, _, rfl, D11, g1', g2', gp', L.skip, by omega, k11⟩
            · intro U hU
              walk_at "g"
              refine w_ite (fun _ => ?_) (fun _ => hU _ _ ⟨⟨_, rfl⟩, rfl⟩)
              walk_at "g"
              refine w_ite (fun _ => ?_) (fun _ => hU _ _ ⟨⟨_, rfl⟩, rfl⟩)
              walk_at "g"
              exact hU _ _ ⟨⟨_, rfl⟩, rfl⟩
          · intro U hU
            walk_at "g"
            refine w_ite (fun _ => ?_) (fun _ => hU _ _ ⟨⟨_, rfl⟩, rfl⟩)
            walk_at "g"
            refine w_ite (fun _ => ?_) (fun _ => hU _ _ ⟨⟨_, rfl⟩, rfl⟩)
            walk_at "g"
            exact hU _ _ ⟨⟨_, rfl⟩, rfl⟩
        · rintro σ H9 ⟨ps', w8, w9, rfl, D9, g1, g2, gp, L, hpl', k9⟩
          walk_at "g"
          refine w_app g1 (by rw [List.length_map]; exact small1000 (by omega)) fun H10 e10 o10 => ?_
          have hkk : (0 + (k : Int)).toNat = k := by omega
          rw [hkk] at L D9
          have kz : Kp [d] H H10 := Off.keep k9 o10 hl1
          refine ⟨ns ++ [z], ps', z, _, _, _, rfl, (D9.kp (M := [l1]) (o10.kp (by simp)) (by simpa using Ne.symm n1d) (by simpa using Ne.symm n1c)).mono (by omega), by rw [e10, List.map_append]; rfl, o10.get (Ne.symm n21) g2, fun q hq => o10.tup g1 (gp q hq), by rw [List.length_append]; simp; omega, L.done S.vr S.v0 hzv (by omega), ?_, by omega, by omega, kz⟩
          intro v hv
          rcases List.mem_append.mp hv with a | a
          · have := hzv v a
            omega
          · have e : v = z := by simpa using a
            omega
      · intro U hU
        walk_at "g"
        refine w_ite (fun _ => ?_) (fun _ => hU _ _ ⟨_, rfl, by omega, D7.mono (by omega), o7⟩)
        walk_at "g"
        refine w_draw D7 (by have : 3 + 100 * k + 1 < 10000 := by omega
                             omega) (by decide) (by decide) fun r2 H8 hr2 D8 o8 => ?_
        walk_at "g"
        refine w_ite (fun _ => ?_) (fun _ => hU _ _ ⟨_, rfl, by omega, D8.mono (by omega), o7.trans o8⟩)
        walk_at "g"
        refine w_draw D8 (by have : 3 + 100 * k + 2 < 10000 := by omega
                             omega) (by decide) (by decide) fun r3 H9 hr3 D9 o9 => ?_
        walk_at "g"
        exact hU _ _ ⟨_, rfl, by omega, D9, o7.trans (o8.trans o9)⟩
    · rintro σ H6 ⟨ns, ps, last, y7, y8, y9, rfl, D6, el1, el2, hps, hlen, S, hlast, hl1', hpl, k6⟩
      walk_at "g"
      refine w_tupL (.of el1) fun t1 H7 ht1 e7 k7 => ?_
      have el2' := k7 _ _ el2
      walk_at "g"
      refine w_tupL (.of el2') fun t2 H8 ht2 e8 k8 => ?_
      walk_at "g"
      refine w_new fun t3 H9 ht3 e9 k9 => ?_
      have ks := Same.trans k7 (Same.trans k8 k9)
      refine q H9 t3 ns ps ((D6.kp (M := []) (Kp.of ks) (by simp) (by simp)).mono (by omega)) (k6.trans (Kp.of ks)) ⟨t1, t2, e9, k9 _ _ (k8 _ _ e7), k9 _ _ e8, fun q hq => ks _ _ (hps q hq)⟩ S (by omega) (by omega)
end
/-! ### what is below what -/
inductive Bel (ls : List (Int × Int)) : Int → Int → Prop where
  | refl (v : Int) : Bel ls v v
  | step {v p x : Int} (h : (v, p) ∈ ls) (r : Bel ls p x) : Bel ls v x
theorem Bel.mem {vs : List Int} {ls : List (Int × Int)} (S : ShOk vs ls) {v x : Int} (h : Bel ls v x) (hv : v ∈ vs) : x ∈ vs := by
  induction h with
  | refl v => exact hv
  | step h r ih => exact ih (S.lm _ h).2.1
theorem Bel.le {vs : List Int} {ls : List (Int × Int)} (S : ShOk vs ls) {v x : Int} (h : Bel ls v x) : x ≤ v := by
  induction h with
  | refl v => omega
  | step h r ih => have := (S.lm _ h).2.2; dsimp only at this; omega
theorem Bel.trans {ls : List (Int × Int)} {a b c : Int} (h : Bel ls a b) (r : Bel ls b c) : Bel ls a c := by
  induction h with
  | refl v => exact r
  | step h _ ih => exact .step h (ih r)
theorem Bel.iff {ls : List (Int × Int)} {v x : Int} : Bel ls v x ↔ x = v ∨ ∃ p, (v, p) ∈ ls ∧ Bel ls p x := by
  constructor
  · intro h
    cases h with
    | refl => exact .inl rfl
    | step h r => exact .inr ⟨_, h, r⟩
  · rintro (rfl | ⟨p, h, r⟩)
    · exact .refl _
    · exact .step h r
theorem rise_ext : ∀ (xs ys : List Int), xs.Pairwise (· < ·) → ys.Pairwise (· < ·) → (∀ x, x ∈ xs ↔ x ∈ ys) → xs = ys
  | [], [], _, _, _ => rfl
  | [], y :: ys, _, _, h => by have := (h y).mpr (by simp); simp at this
  | x :: xs, [], _, _, h => by have := (h x).mp (by simp); simp at this
  | x :: xs, y :: ys, h1, h2, h => by
    rw [List.pairwise_cons] at h1 h2
    have e : x = y := by
      have a := (h x).mp (by simp)
      have b := (h y).mpr (by simp)
      rcases List.mem_cons.mp a with a | a
      · exact a
      · rcases List.mem_cons.mp b with b | b
        · exact b.symm
        · have := h2.1 x a
          have := h1.1 y b
          omega
    subst e
    rw [rise_ext xs ys h1.2 h2.2 fun z => ?_]
    constructor
    · intro hz
      rcases List.mem_cons.mp ((h z).mp (by simp [hz])) with e | e
      · have := h1.1 z hz
        omega
      · exact e
    · intro hz
      rcases List.mem_cons.mp ((h z).mpr (by simp [hz])) with e | e
      · have := h2.1 z hz
        omega
      · exact e
structure RowOk (ls : List (Int × Int)) (v : Int) (ys : List Int) : Prop where
  rise : ys.Pairwise (· < ·)
  mem : ∀ x, x ∈ ys ↔ Bel ls v x
theorem RowOk.uniq {ls : List (Int × Int)} {v : Int} {ys zs : List Int} (a : RowOk ls v ys) (b : RowOk ls v zs) : ys = zs :=
  rise_ext _ _ a.rise b.rise fun x => (a.mem x).trans (b.mem x).symm
/-- a rising order of unlike numbers is strictly rising -/
theorem strict_of {ys ks : List Int} (p : ys.Perm ks) (s : ys.Pairwise (· ≤ ·)) (n : ks.Nodup) : ys.Pairwise (· < ·) := by
  have h : ys.Nodup := p.nodup_iff.mpr n
  have h2 : ys.Pairwise (fun a b => a ≤ b ∧ a ≠ b) := s.and h
  exact h2.imp fun {a b} z => by omega
def addK (ks : List Int) (x : Int) : List Int := if x ∈ ks then ks else ks ++ [x]
theorem mem_addK {ks : List Int} {x y : Int} : y ∈ addK ks x ↔ y ∈ ks ∨ y = x := by
  unfold addK
  by_cases h : x ∈ ks
  · rw [if_pos h]
    constructor
    · exact .inl
    · rintro (a | rfl)
      · exact a
      · exact h
  · rw [if_neg h]
    simp
theorem nd_addK {ks : List Int} {x : Int} (h : ks.Nodup) : (addK ks x).Nodup := by
  unfold addK
  by_cases e : x ∈ ks
  · rw [if_pos e]; exact h
  · rw [if_neg e]
    exact List.nodup_append.mpr ⟨h, by simp, fun a ha b hb => by
      have : b = x := by simpa using hb
      subst this
      exact fun z => e (z ▸ ha)⟩
theorem putK_keys {fk : List (Key × V)} {ks : List Int} {x : Int} {v : V} (h : fk.map (·.1) = ks.map (Sum.inl : Int → Key)) : (putK fk (Sum.inl x) v).map (·.1) = (addK ks x).map (Sum.inl : Int → Key) := by
  have he : (fk.any fun kv => decide (kv.1 = (Sum.inl x : Key))) = true ↔ x ∈ ks := by
    rw [List.any_eq_true]
    constructor
    · rintro ⟨kv, hk, e⟩
      have m : (Sum.inl x : Key) ∈ ks.map Sum.inl := by
        rw [← h, ← of_decide_eq_true e]
        exact List.mem_map_of_mem hk
      obtain ⟨y, hy, e2⟩ := List.mem_map.mp m
      exact Sum.inl.inj e2 ▸ hy
    · intro hx
      have m : (Sum.inl x : Key) ∈ fk.map (·.1) := by
        rw [h]
        exact List.mem_map_of_mem hx
      obtain ⟨kv, hk, e⟩ := List.mem_map.mp m
      exact ⟨kv, hk, decide_eq_true e⟩
  unfold putK addK
  by_cases e : x ∈ ks
  · rw [if_pos (he.mpr e), if_pos e, ← h, List.map_map]
    apply List.map_congr_left
    intro kv _
    show (if kv.1 = Sum.inl x then (kv.1, v) else kv).1 = kv.1
    by_cases q : kv.1 = (Sum.inl x : Key)
    · rw [if_pos q]
    · rw [if_neg q]
  · rw [if_neg (fun z => e (he.mp z)), if_neg e, List.map_append, List.map_append, h]
    rfl
theorem nodup_le : ∀ (ks vs : List Int), ks.Nodup → (∀ x ∈ ks, x ∈ vs) → ks.length ≤ vs.length
  | [], _, _, _ => Nat.zero_le _
  | k :: ks, vs, h, hs => by
    rw [List.nodup_cons] at h
    have hk := hs k (by simp)
    have ih := nodup_le ks (vs.erase k) h.2 fun x hx => (List.mem_erase_of_ne (fun z => h.1 (by rw [← z]; exact hx))).mpr (hs x (by simp [hx]))
    rw [List.length_erase_of_mem hk] at ih
    have : 0 < vs.length := List.length_pos_of_mem hk
    rw [List.length_cons]
    omega
structure FoundAt (H : Hp) (f : Addr) (ks : List Int) : Prop where
  at' : ∃ fk, H f = some (.dK fk) ∧ fk.map (·.1) = ks.map (Sum.inl : Int → Key)
  nd : ks.Nodup
theorem FoundAt.put {H1 : Hp} {f : Addr} {ks : List Int} {fk : List (Key × V)} {x : Int} {v : V} (hk : fk.map (·.1) = ks.map (Sum.inl : Int → Key)) (nd : ks.Nodup) (e : H1 f = some (.dK (putK fk (Sum.inl x) v))) : FoundAt H1 f (addK ks x) := ⟨⟨_, e, putK_keys hk⟩, nd_addK nd⟩
/-- the rows so far: of the versions done; each row a list that stood not in H0 -/
def RowsAt (H0 H : Hp) (R : Addr) (ls : List (Int × Int)) (dn : List Int) : Prop := ∃ kvs, H R = some (.dK kvs) ∧ kvs.map (·.1) = dn.map (Sum.inl : Int → Key) ∧ (∀ n, n ∉ dn → valV kvs (Sum.inl n) = none) ∧
  ∀ v ∈ dn, ∃ a ys, valV kvs (Sum.inl v) = some (.ref a) ∧ H a = some (.lst (ys.map V.int)) ∧ RowOk ls v ys ∧ H0 a = none
/-- what keeps lists and dicts but at p -/
theorem RowsAt.kp {H0 H H' : Hp} {R : Addr} {ls : List (Int × Int)} {dn : List Int} {M : List Addr} (h : RowsAt H0 H R ls dn) (k : Kp M H H') (hR : R ∉ M) (hM : ∀ b ∈ M, ∀ xs, H b ≠ some (.lst xs)) : RowsAt H0 H' R ls dn := by
  obtain ⟨kvs, e, hl, hn, hv⟩ := h
  refine ⟨kvs, k _ _ hR e, hl, hn, fun v hv' => ?_⟩
  obtain ⟨a, ys, e1, e2, r, n⟩ := hv v hv'
  exact ⟨a, ys, e1, k _ _ (fun z => hM a z _ e2) e2, r, n⟩
theorem RowsAt.put {H0 H H' : Hp} {R p : Addr} {ls : List (Int × Int)} {dn : List Int} {v : Int} {ys : List Int} {kvs : List (Key × V)} (e : H R = some (.dK kvs)) (hl : kvs.map (·.1) = dn.map (Sum.inl : Int → Key)) (nv : v ∉ dn) (hn : ∀ n, n ∉ dn → valV kvs (Sum.inl n) = none)
    (hv : ∀ v ∈ dn, ∃ a ys, valV kvs (Sum.inl v) = some (.ref a) ∧ H a = some (.lst (ys.map V.int)) ∧ RowOk ls v ys ∧ H0 a = none) (e' : H' R = some (.dK (putK kvs (Sum.inl v) (.ref p)))) (o : Off R H H') (hp : H p = some (.lst (ys.map V.int))) (r : RowOk ls v ys) (h0 : H0 p = none) : RowsAt H0 H' R ls (dn ++ [v]) := by
  have nl : ∀ b xs, H b = some (.lst xs) → b ≠ R := fun b xs z => ne_of z e (fun q => nomatch q)
  refine ⟨_, e', ?_, fun n hn' => ?_, fun x hx => ?_⟩
  · rw [putK_keys hl]
    unfold addK
    rw [if_neg nv]
  · rw [valV_put, if_neg (fun z => hn' (by rw [Sum.inl.inj z]; simp))]
    exact hn n fun z => hn' (List.mem_append_left _ z)
  · rw [valV_put]
    by_cases q : x = v
    · subst q
      rw [if_pos rfl]
      exact ⟨p, ys, rfl, o.get (nl _ _ hp) hp, r, h0⟩
    · rw [if_neg (fun z => q (Sum.inl.inj z))]
      rcases List.mem_append.mp hx with a | a
      · obtain ⟨a, zs, e1, e2, r', n⟩ := hv x a
        exact ⟨a, zs, e1, o.get (nl _ _ e2) e2, r', n⟩
      · exact absurd (by simpa using a) q
/-- the rows as they are read: the lists' addresses are none of M -/
def RowsK (M : List Addr) (H : Hp) (R : Addr) (ls : List (Int × Int)) (dn : List Int) : Prop := ∃ kvs, H R = some (.dK kvs) ∧ kvs.map (·.1) = dn.map (Sum.inl : Int → Key) ∧ (∀ n, n ∉ dn → valV kvs (Sum.inl n) = none) ∧ ∀ v ∈ dn, ∃ a ys, valV kvs (Sum.inl v) = some (.ref a) ∧ H a = some (.lst (ys.map V.int)) ∧ RowOk ls v ys ∧ a ∉ M
theorem RowsK.kp {M N : List Addr} {H H' : Hp} {R : Addr} {ls : List (Int × Int)} {dn : List Int} (h : RowsK M H R ls dn) (k : Kp N H H') (hN : ∀ x ∈ N, x ∈ M) (hR : R ∉ N) : RowsK M H' R ls dn := by
  obtain ⟨kvs, e, hl, hn, hv⟩ := h
  refine ⟨kvs, k _ _ hR e, hl, hn, fun v hv' => ?_⟩
  obtain ⟨a, ys, e1, e2, r, n⟩ := hv v hv'
  exact ⟨a, ys, e1, k _ _ (fun z => n (hN a z)) e2, r, n⟩
theorem RowsK.off {M : List Addr} {H H' : Hp} {R p : Addr} {ls : List (Int × Int)} {dn : List Int} {xs : List V} (h : RowsK M H R ls dn) (o : Off p H H') (hp : p ∈ M) (e : H p = some (.lst xs)) : RowsK M H' R ls dn := by
  obtain ⟨kvs, eR, _⟩ := id h
  exact h.kp (N := [p]) (o.kp (by simp)) (by simpa using hp) (by simpa using ne_of eR e (fun z => nomatch z))
def par (ls : List (Int × Int)) (v : Int) : List Int := (ls.filter fun q => decide (q.1 = v)).map (·.2)
theorem mem_par {ls : List (Int × Int)} {v p : Int} : p ∈ par ls v ↔ (v, p) ∈ ls := by
  unfold par
  rw [List.mem_map]
  constructor
  · rintro ⟨q, hq, rfl⟩
    obtain ⟨h1, h2⟩ := List.mem_filter.mp hq
    have e : q.1 = v := of_decide_eq_true h2
    rw [← e]
    exact h1
  · intro h
    exact ⟨(v, p), List.mem_filter.mpr ⟨h, decide_eq_true rfl⟩, rfl⟩
theorem par_snoc {ls : List (Int × Int)} {v w p : Int} : par (ls ++ [(v, p)]) w = if v = w then par ls w ++ [p] else par ls w := by
  unfold par
  rw [List.filter_append, List.map_append]
  by_cases e : v = w
  · rw [if_pos e]
    simp [e]
  · rw [if_neg e]
    simp [e]
def StepsAt (H0 H : Hp) (S : Addr) (ls : List (Int × Int)) : Prop := ∃ (kvs : List (Key × V)) (A : Int → Addr), H S = some (.dK kvs) ∧ kvs.length ≤ ls.length ∧
  (∀ v, par ls v = [] → valV kvs (Sum.inl v) = none) ∧ (∀ v, par ls v ≠ [] → valV kvs (Sum.inl v) = some (.ref (A v)) ∧ H (A v) = some (.lst ((par ls v).map V.int)) ∧ H0 (A v) = none) ∧
  ∀ v w, par ls v ≠ [] → par ls w ≠ [] → v ≠ w → A v ≠ A w
def spSpans : Sp := fun vs H Q _ => ∃ (t : Addr) (ns : List Int) (ps : List (Addr × Int × Int)), vs = [.ref t] ∧ ShAt H t ns ps ∧ ShOk ns (ps.map (·.2)) ∧ ns.length < 64 ∧ ps.length ≤ 100000 ∧
  ∀ H' D, Same H H' → H D = none → RowsAt H H' D (ps.map (·.2)) ns → Q (.ref D) H'
section
variable {P : Program} {w : World} {K : PySem.W.Frag} {mg : Str → Option Value} {base : Heap}
theorem ok_spans {f : Addr} {fd : FuncData} (T : Txt K mg) (F : Fun K "spans" "spans" s_spans f fd) : FnOk P w K mg base CX0 1 f fd ["shape"] spSpans := by
  refine F.ok sc_spans (fun vs H Q E h => ?_) (fun cdv A outer s H vs Q E hr h => ?_)
  · obtain ⟨t, ns, ps, rfl, _⟩ := h
    rfl
  · obtain ⟨t, ns, ps, rfl, ⟨a, b, e1, e2, e3⟩, S, hl, hl2, q⟩ := h
    have hu := hu_of hr
    have e3' := e3.1
    refine ⟨_,
      (pss_cons
        (ps_set (i := 1) sc_spans.nd rfl (.inl rfl) pe_dnewK)
      (pss_cons
        (ps_set (i := 2) sc_spans.nd rfl (.inl rfl) pe_dnewK)
      (pss_cons
        (ps_for PassesOwn.never rfl (pi_tup (pe_ix (r := rIxT K) ix_tup (pv 0) pe_int (fun _ _ => rfl))) (pg_tup rfl (pgs_cons (pg_name (i := 3) sc_spans.nd rfl (.inl rfl)) (pgs_cons (pg_name (i := 4) sc_spans.nd rfl (.inl rfl)) pgs_nil)))
          (pss_one
            (ps_expr (pe_bm PySem.F.plainAttrs_list PySem.F.slot_list_append PySem.F.type_list_append mt_append (pe_dsetd (pv 2) (pv 3) (pe_lst pa_nil) ⟨rfl, rfl, rfl, rfl⟩) (pa_cons (pv 4) pa_nil)))))
      (pss_cons
        (ps_for PassesOwn.never rfl (pi_tup (pe_ix (r := rIxT K) ix_tup (pv 0) pe_int (fun _ _ => rfl))) (pg_name (i := 3) sc_spans.nd rfl (.inl rfl))
          (pss_cons
            (ps_set (i := 5) sc_spans.nd rfl (.inl rfl) (pe_disp (pps_cons (pv 3) pe_bl pps_nil) (by rfl) (by rfl) (fun z => by cases z) (by decide)))
          (pss_cons
            (ps_for PassesOwn.never rfl (pi_list (pe_dget2 hu (pv 2) (pv 3) (pe_lst pa_nil) ⟨rfl, rfl, rfl, rfl⟩)) (pg_name (i := 4) sc_spans.nd rfl (.inl rfl))
              (pss_one
                (ps_for PassesOwn.never rfl (pi_list (pe_dget hu (pv 1) (pv 4) (fun _ _ => rfl))) (pg_name (i := 6) sc_spans.nd rfl (.inl rfl))
                  (pss_one
                    (ps_dput hu (pv 5) (pv 6) pe_bl rfl)))))
          (pss_one
            (ps_dput hu (pv 1) (pv 3) (pe_callB (c_sortD rfl) (by rfl) T.n_sorted (by decide +kernel) (pa_cons (pv 5) pa_nil)) rfl)))))
      (pss_one
        (ps_ret (pv 1)))))))
      , ?_⟩
    rw [show L2.start N_spans [V.ref t] = [some (.ref t), none, none, none, none, none, none] from rfl]
    walk_at "x"
    refine w_new fun R H1 hR eR k1 => ?_
    walk_at "g"
    refine w_new fun S' H2 hS eS k2 => ?_
    have nRS : R ≠ S' := ne_of_none eR hS
    have hS0 : H S' = none := k1.free hS
    have e1' := k2 _ _ (k1 _ _ e1)
    have e2' : H2 a = some (.tup (ns.map V.int)) := k2 _ _ (k1 _ _ e2)
    have eb' := k2 _ _ (k1 _ _ e3')
    walk_at "g"
    refine lp_tup (xs := ps.map fun q => .ref q.1) (fun i σ H' => ∃ (y3 y4 : Option V), σ = [some (.ref t), some (.ref R), some (.ref S'), y3, y4, none, none] ∧ Same H H' ∧ H' R = some (.dK []) ∧ StepsAt H H' S' ((ps.take i).map (·.2))) ?_ ?_ ?_ ?_
    · exact ⟨none, none, rfl, Same.trans k1 k2, k2 _ _ eR, [], fun _ => 0, eS, Nat.le_refl _, fun _ _ => rfl, fun v h => absurd rfl h, fun v _ h => absurd rfl h⟩
    · rintro i σ H3 _ ⟨_, _, _, k3, _⟩
      exact .of (k3 _ _ e3')
    · rintro i y σ H3 hy ⟨y3, y4, rfl, k3, eR3, kvs, A3, eS3, hlen, hn, hv, hinj⟩
      obtain ⟨x, hx, rfl⟩ := map_at hy
      have ex := k3 _ _ (e3.2 x (List.mem_of_getElem? hx))
      have hil : i < ps.length := (List.getElem?_eq_some_iff.mp hx).1
      walk_at "g"
      refine w_new fun z H4 hz ez k4 => ?_
      have eS4 := k4 _ _ eS3
      have eR4 := k4 _ _ eR3
      have nzS : S' ≠ z := ne_of_none eS3 hz
      have hz0 : H z = none := k3.free hz
      have tk : (ps.take (i + 1)).map (·.2) = (ps.take i).map (·.2) ++ [x.2] := by
        rw [List.take_add_one, hx, List.map_append]
        rfl
      have hlen2 : kvs.length ≤ i := Nat.le_trans hlen (by rw [List.length_map, List.length_take]; omega)
      refine w_dsetdI eS4 (Nat.lt_of_le_of_lt (Nat.le_trans hlen2 (by omega)) (show 100000 < sizeLine by decide)) (fun u hu' => ?_) (fun hno H5 e5 o5 => ?_)
      · -- there is a list of its own already
        have hp : par ((ps.take i).map (·.2)) x.2.1 ≠ [] := fun z0 => by
          rw [hn _ z0] at hu'
          cases hu'
        obtain ⟨v1, v2, v3⟩ := hv _ hp
        rw [v1] at hu'
        cases hu'
        have v2' := k4 _ _ v2
        walk_at "g"
        refine w_app v2' ?_ fun H5 e5 o5 => ?_
        · rw [List.length_map]
          unfold par
          rw [List.length_map]
          refine Nat.lt_of_le_of_lt (List.length_filter_le _ _) ?_
          rw [List.length_map, List.length_take]
          exact Nat.lt_of_le_of_lt (show min i ps.length ≤ 100000 by omega) (by decide)
        · have nl : ∀ c kv, H4 c = some (.dK kv) → c ≠ A3 x.2.1 := fun c kv e => ne_of e v2' (fun z => nomatch z)
          have ne' : ∀ w, par ((ps.take (i + 1)).map (·.2)) w ≠ [] → par ((ps.take i).map (·.2)) w ≠ [] := fun w hw => by
            rw [tk, par_snoc] at hw
            by_cases q1 : x.2.1 = w
            · rw [← q1]; exact hp
            · rw [if_neg q1] at hw; exact hw
          refine ⟨_, _, rfl, fun c o e => o5.get (ne_of_none e v3) (k4 _ _ (k3 _ _ e)), o5.get (nl _ _ eR4) eR4, kvs, A3, o5.get (nl _ _ eS4) eS4, by rw [tk, List.length_append]; omega, fun w hw => ?_, fun w hw => ?_, fun v w' h1 h2 => hinj v w' (ne' v h1) (ne' w' h2)⟩
          · rw [tk, par_snoc] at hw
            by_cases q1 : x.2.1 = w
            · rw [if_pos q1] at hw
              simp at hw
            · rw [if_neg q1] at hw
              exact hn w hw
          · have hw' := ne' w hw
            obtain ⟨u1, u2, u3⟩ := hv w hw'
            refine ⟨u1, ?_, u3⟩
            rw [tk, par_snoc]
            by_cases q1 : x.2.1 = w
            · rw [if_pos q1, ← q1, e5, List.map_append]
              rfl
            · rw [if_neg q1]
              exact o5.get (fun z0 => hinj w x.2.1 hw' hp (fun z1 => q1 z1.symm) z0) (k4 _ _ u2)
      · -- a new list
        have ez5 := o5.get (Ne.symm nzS) ez
        have hp0 : par ((ps.take i).map (·.2)) x.2.1 = [] := by
          cases hq : par ((ps.take i).map (·.2)) x.2.1 with
          | nil => rfl
          | cons u r =>
            have := (hv x.2.1 (by rw [hq]; simp)).1
            rw [this] at hno
            cases hno
        walk_at "g"
        refine w_app ez5 (by decide) fun H6 e6 o6 => ?_
        have nz : ∀ c o, H3 c = some o → c ≠ z := fun c o e => ne_of_none e hz
        have nS : ∀ c xs, H4 c = some (.lst xs) → c ≠ S' := fun c xs e => ne_of e eS4 (fun z => nomatch z)
        refine ⟨_, _, rfl, fun c o e => o6.get (nz _ _ (k3 _ _ e)) (o5.get (ne_of_none e hS0) (k4 _ _ (k3 _ _ e))), o6.get (nz _ _ eR3) (o5.get nRS eR4), _, fun w => if w = x.2.1 then z else A3 w, o6.get nzS e5, ?_, fun w hw => ?_, fun w hw => ?_, fun v w' h1 h2 hne => ?_⟩
        · have := putK_len' kvs (Sum.inl x.2.1) (V.ref z)
          rw [tk, List.length_append]
          simp only [List.length_cons, List.length_nil]
          omega
        · rw [tk, par_snoc] at hw
          by_cases q1 : x.2.1 = w
          · rw [if_pos q1] at hw
            simp at hw
          · rw [if_neg q1] at hw
            rw [valV_put, if_neg (fun z0 => q1 (Sum.inl.inj z0).symm)]
            exact hn w hw
        · rw [tk, par_snoc] at hw ⊢
          rw [valV_put]
          by_cases q1 : x.2.1 = w
          · rw [if_pos (congrArg Sum.inl q1.symm)]
            simp only [if_pos q1, if_pos q1.symm]
            refine ⟨trivial, ?_, hz0⟩
            rw [← q1, hp0, e6]
            rfl
          · rw [if_neg q1] at hw
            rw [if_neg (fun z0 => q1 (Sum.inl.inj z0).symm)]
            simp only [if_neg q1, if_neg (Ne.symm q1)]
            obtain ⟨u1, u2, u3⟩ := hv w hw
            exact ⟨u1, o6.get (nz _ _ u2) (o5.get (nS _ _ (k4 _ _ u2)) (k4 _ _ u2)), u3⟩
        · rw [tk, par_snoc] at h1 h2
          by_cases q1 : x.2.1 = v
          · have q2 : ¬ x.2.1 = w' := fun z0 => hne (q1.symm.trans z0)
            rw [if_neg q2] at h2
            simp only [if_pos q1.symm, if_neg (Ne.symm q2)]
            exact Ne.symm (nz _ _ (hv w' h2).2.1)
          · rw [if_neg q1] at h1
            by_cases q2 : x.2.1 = w'
            · simp only [if_neg (Ne.symm q1), if_pos q2.symm]
              exact nz _ _ (hv v h1).2.1
            · rw [if_neg q2] at h2
              simp only [if_neg (Ne.symm q1), if_neg (Ne.symm q2)]
              exact hinj v w' h1 h2 hne
    · -- the second loop
      rintro σ H3 ⟨y3, y4, rfl, k3, eR3, T3⟩
      rw [List.length_map, List.take_length] at T3
      have e1'' := k3 _ _ e1
      have e2'' : H3 a = some (.tup (ns.map V.int)) := k3 _ _ e2
      have nRS3 : R ≠ S' := nRS
      walk_at "g"
      refine lp_tup (xs := ns.map V.int) (fun i σ H' => ∃ (y3 y4 y5 y6 : Option V), σ = [some (.ref t), some (.ref R), some (.ref S'), y3, y4, y5, y6] ∧ Kp [R] H3 H' ∧ Same H H' ∧ RowsAt H H' R (ps.map (·.2)) (ns.take i)) ?_ ?_ ?_ ?_
      · exact ⟨_, _, _, _, rfl, Kp.refl, k3, [], eR3, rfl, fun _ _ => rfl, by simp⟩
      · rintro i σ H4 _ ⟨_, _, _, _, _, _, k4, _⟩
        exact .of (k4 _ _ e2)
      · rintro i y σ H4 hy ⟨y3, y4, y5, y6, rfl, k4, s4, RA⟩
        obtain ⟨v, hv, rfl⟩ := map_at hy
        have hvm : v ∈ ns := List.mem_of_getElem? hv
        obtain ⟨skv, A3, eS3, slen, sn, sv, sinj⟩ := T3
        have eS4 := k4 _ _ (by simpa using Ne.symm nRS) eS3
        walk_at "g"
        refine w_disp fun fo H5 hfo efo k5 => ?_
        walk_at "g"
        refine w_dispE [(Sum.inl v, V.bl true)] efo rfl (by simp) fun H6 e6 o6 => ?_
        have k6 : Same H4 H6 := fun c o e => o6.get (ne_of_none e hfo) (k5 _ _ e)
        have eS6 := k6 _ _ eS4
        walk_at "g"
        refine w_new fun z H7 hz ez k7 => ?_
        have eS7 := k7 _ _ eS6
        have s7 : Same H4 H7 := Same.trans k6 k7
        have kp3 : Kp [R] H3 H7 := k4.trans (Kp.of s7)
        obtain ⟨pa, epa, hpa⟩ : ∃ pa, (valV skv (Sum.inl v)).getD (.ref z) = .ref pa ∧ H7 pa = some (.lst ((par (ps.map (·.2)) v).map V.int)) := by
          cases hq : par (ps.map (·.2)) v with
          | nil => exact ⟨z, by rw [sn v hq]; rfl, ez⟩
          | cons u r =>
            have hne : par (ps.map (·.2)) v ≠ [] := by rw [hq]; simp
            obtain ⟨u1, u2, u3⟩ := sv v hne
            refine ⟨A3 v, by rw [u1]; rfl, ?_⟩
            rw [← hq]
            exact kp3 _ _ (by simpa using ne_of u2 eR3 (fun z => nomatch z)) u2
        refine w_dget2I eS7 ?_
        rw [epa]
        walk_at "g"
        obtain ⟨kvs, eR4, rl, rn, rv⟩ := RA
        have nRf : R ≠ fo := ne_of_none eR4 hfo
        have eR7 := s7 _ _ eR4
        have efo7 : H7 fo = some (.dK (mergeK [] [(Sum.inl v, V.bl true)])) := k7 _ _ e6
        have hlt : ∀ p, p ∈ par (ps.map (·.2)) v → p ∈ ns.take i := fun p hp => by
          obtain ⟨m1, m2, m3⟩ := S.lm _ (mem_par.mp hp)
          obtain ⟨j, hj, ej⟩ := List.getElem_of_mem m2
          have hj2 : ns[j]? = some p := by rw [List.getElem?_eq_getElem hj, ej]
          have hji : j < i := by
            rcases Nat.lt_or_ge j i with h | h
            · exact h
            · rcases Nat.eq_or_lt_of_le h with h | h
              · subst h
                rw [hv] at hj2
                have := Option.some.inj hj2
                dsimp only at m3
                omega
              · have hiv : i < ns.length := (List.getElem?_eq_some_iff.mp hv).1
                have := (List.pairwise_iff_getElem.mp S.vr) i j hiv hj h
                have ev : ns[i] = v := (List.getElem?_eq_some_iff.mp hv).2
                rw [ev, ej] at this
                dsimp only at m3
                omega
          exact List.mem_take_iff_getElem.mpr ⟨j, by omega, ej⟩
        have inN : ∀ p ∈ par (ps.map (·.2)) v, ∀ x, Bel (ps.map (·.2)) p x → x ∈ ns := fun p hp x hx => hx.mem S (S.lm _ (mem_par.mp hp)).2.1
        refine lp_list (xs := (par (ps.map (·.2)) v).map V.int) (fun j σ H' => ∃ (ks : List Int) (y4 y6 : Option V), σ = [some (.ref t), some (.ref R), some (.ref S'), some (.int v), y4, some (.ref fo), y6] ∧ Kp [fo] H7 H' ∧ FoundAt H' fo ks ∧ ∀ x, x ∈ ks ↔ x = v ∨ ∃ p ∈ (par (ps.map (·.2)) v).take j, Bel (ps.map (·.2)) p x) ?_ ?_ ?_ ?_
        · exact ⟨[v], _, _, rfl, Kp.refl, ⟨⟨_, efo7, rfl⟩, by simp⟩, fun x => by simp⟩
        · rintro j σ H8 _ ⟨ks, _, _, _, k8, _⟩
          exact .of (k8 _ _ (by simpa using ne_of hpa efo7 (fun z => nomatch z)) hpa)
        · rintro j y σ H8 hy ⟨ks, w4, w6, rfl, k8, F8, hks⟩
          obtain ⟨p, hp, rfl⟩ := map_at hy
          have hpm : p ∈ par (ps.map (·.2)) v := List.mem_of_getElem? hp
          obtain ⟨ap, ys, r1, r2, r3, r4⟩ := rv p (hlt p hpm)
          have eR8 := k8 _ _ (by simpa using nRf) eR7
          have r28 : H8 ap = some (.lst (ys.map V.int)) := k8 _ _ (by simpa using ne_of (s7 _ _ r2) efo7 (fun z => nomatch z)) (s7 _ _ r2)
          walk_at "g"
          refine lp_list (xs := ys.map V.int) (fun m σ H' => ∃ (ks' : List Int) (y6 : Option V), σ = [some (.ref t), some (.ref R), some (.ref S'), some (.int v), some (.int p), some (.ref fo), y6] ∧ Kp [fo] H7 H' ∧ FoundAt H' fo ks' ∧ ∀ x, x ∈ ks' ↔ x ∈ ks ∨ x ∈ ys.take m) ?_ ?_ ?_ ?_
          · exact ⟨ks, _, rfl, k8, F8, fun x => by simp⟩
          · rintro m σ H9 _ ⟨ks', _, _, k9, _⟩
            exact .of (k9 _ _ (by simpa using ne_of (s7 _ _ r2) efo7 (fun z => nomatch z)) (s7 _ _ r2))
          · rintro m y σ H9 hy ⟨ks', w6', rfl, k9, ⟨⟨fk, ef, hfk⟩, nd9⟩, hks'⟩
            obtain ⟨x, hx, rfl⟩ := map_at hy
            have hlen : fk.length < sizeLine := by
              have h1 : fk.length = ks'.length := by
                have := congrArg List.length hfk
                simpa using this
              have h2 : ks'.length ≤ ns.length := nodup_le ks' ns nd9 fun u hu' => by
                rcases (hks' u).mp hu' with a | a
                · rcases (hks u).mp a with rfl | ⟨p', hp', b⟩
                  · exact hvm
                  · exact inN p' (List.mem_of_mem_take hp') u b
                · exact inN p hpm u ((r3.mem u).mp (List.mem_of_mem_take a))
              exact small1000 (by omega)
            walk_at "g"
            refine w_dputI ef hlen fun H10 e10 o10 => ?_
            refine ⟨addK ks' x, _, rfl, k9.trans (o10.kp (by simp)), FoundAt.put hfk nd9 e10, fun u => ?_⟩
            rw [mem_addK, hks', List.take_add_one, hx]
            simp only [Option.toList_some, List.mem_append, List.mem_singleton]
            rw [or_assoc]
          · rintro σ H9 ⟨ks', w6', rfl, k9, F9, hks'⟩
            rw [List.length_map, List.take_length] at hks'
            refine ⟨ks', _, _, rfl, k9, F9, fun x => ?_⟩
            rw [hks', hks, List.take_add_one, hp, r3.mem]
            simp only [Option.toList_some, List.mem_append, List.mem_singleton]
            constructor
            · rintro ((a | ⟨p', b, c⟩) | a)
              · exact .inl a
              · exact .inr ⟨p', .inl b, c⟩
              · exact .inr ⟨p, .inr rfl, a⟩
            · rintro (a | ⟨p', b | rfl, c⟩)
              · exact .inl (.inl a)
              · exact .inl (.inr ⟨p', b, c⟩)
              · exact .inr c
        · rintro σ H8 ⟨ks, w4, w6, rfl, k8, ⟨⟨fk, ef, hfk⟩, nd8⟩, hks⟩
          rw [List.length_map, List.take_length] at hks
          have hsub : ∀ u ∈ ks, u ∈ ns := fun u hu' => by
            rcases (hks u).mp hu' with rfl | ⟨p', hp', b⟩
            · exact hvm
            · exact inN p' hp' u b
          have hkl := nodup_le ks ns nd8 hsub
          walk_at "g"
          refine w_sortD ef hfk (by omega) fun ys L H9 hperm hsort hL eL k9 => ?_
          have eR8 := k8 _ _ (by simpa using nRf) eR7
          have eR9 := k9 _ _ eR8
          have hrow : RowOk (ps.map (·.2)) v ys := ⟨strict_of hperm hsort nd8, fun x => by
            rw [hperm.mem_iff, hks, Bel.iff]
            constructor
            · rintro (a | ⟨p', b, c⟩)
              · exact .inl a
              · exact .inr ⟨p', mem_par.mp b, c⟩
            · rintro (a | ⟨p', b, c⟩)
              · exact .inl a
              · exact .inr ⟨p', mem_par.mpr b, c⟩⟩
          have hL0 : H L = none := by
            cases hq : H L with
            | none => rfl
            | some o =>
              have z1 := s4 _ _ hq
              have z2 : H8 L = some o := k8 _ _ (by simpa using ne_of_none z1 hfo) (s7 _ _ z1)
              rw [hL] at z2
              cases z2
          have rl' : kvs.length = (ns.take i).length := by
            have := congrArg List.length rl
            simpa using this
          have hkv : kvs.length < sizeLine := small1000 (Nat.le_trans (Nat.le_of_eq rl') (by rw [List.length_take]; omega))
          have nvt : v ∉ ns.take i := fun z => by
            have := take_lt S.vr hv z
            omega
          walk_at "g"
          refine w_dputI eR9 hkv fun H10 e10 o10 => ?_
          have kk : Kp [R] H4 H9 := fun c o nR e => k9 _ _ (k8 _ _ (by simpa using ne_of_none e hfo) (s7 _ _ e))
          have kS : Same H H9 := fun c o e => by
            have := s4 _ _ e
            exact k9 _ _ (k8 _ _ (by simpa using ne_of_none this hfo) (s7 _ _ this))
          refine ⟨_, _, _, _, rfl, k4.trans (kk.trans (o10.kp (by simp))), fun c o e => o10.get (ne_of_none e hR) (kS _ _ e), ?_⟩
          rw [List.take_add_one, hv]
          refine RowsAt.put (kvs := kvs) eR9 rl nvt rn (fun v' hv' => ?_) e10 o10 eL hrow hL0
          obtain ⟨a', zs, g1, g2, g3, g4⟩ := rv v' hv'
          exact ⟨a', zs, g1, kk _ _ (by simpa using ne_of g2 eR4 (fun z => nomatch z)) g2, g3, g4⟩
      · rintro σ H4 ⟨y3, y4, y5, y6, rfl, k4, s4, RA⟩
        rw [List.length_map, List.take_length] at RA
        walk_at "g"
        exact q H4 R s4 (by exact hR) RA
end
section
variable {P : Program} {w : World} {K : PySem.W.Frag} {mg : Str → Option Value} {base : Heap}
theorem ok_lspans {f : Addr} {fd : FuncData} (T : Txt K mg) (F : Fun K "_law_spans" "_law_spans" s_law_spans f fd) : FnOk P w K mg base CX0 1 f fd ["_law_web"] spSpans := by
  refine F.ok sc_law_spans (fun vs H Q E h => ?_) (fun cdv A outer s H vs Q E hr h => ?_)
  · obtain ⟨t, ns, ps, rfl, _⟩ := h
    rfl
  · obtain ⟨t, ns, ps, rfl, ⟨a, b, e1, e2, e3⟩, S, hl, hl2, q⟩ := h
    have hu := hu_of hr
    have e3' := e3.1
    refine ⟨_,
      (pss_cons
        (ps_set (i := 1) sc_law_spans.nd rfl (.inl rfl) pe_dnewK)
      (pss_cons
        (ps_for PassesOwn.never rfl (pi_tup (pe_ix (r := rIxT K) ix_tup (pv 0) pe_int (fun _ _ => rfl))) (pg_name (i := 2) sc_law_spans.nd rfl (.inl rfl))
          (pss_cons
            (ps_set (i := 3) sc_law_spans.nd rfl (.inl rfl) (pe_disp (pps_cons (pv 2) pe_bl pps_nil) (by rfl) (by rfl) (fun z => by cases z) (by decide)))
          (pss_cons
            (ps_for PassesOwn.never rfl (pi_tup (pe_ix (r := rIxT K) ix_tup (pv 0) pe_int (fun _ _ => rfl))) (pg_name (i := 4) sc_law_spans.nd rfl (.inl rfl))
              (pss_one
                (ps_if (pt_cmpR op_eq (pe_ix (r := rIxT K) ix_tup (pv 4) pe_int (fun _ _ => rfl)) (pv 2) (nomark _))
                  (pss_one
                    (ps_for PassesOwn.never rfl (pi_list (pe_dget hu (pv 1) (pe_ix (r := rIxT K) ix_tup (pv 4) pe_int (fun _ _ => rfl)) (fun _ _ => rfl))) (pg_name (i := 5) sc_law_spans.nd rfl (.inl rfl))
                      (pss_one
                        (ps_dput hu (pv 3) (pv 5) pe_bl rfl))))
                  pss_nil)))
          (pss_one
            (ps_dput hu (pv 1) (pv 2) (pe_callB (c_sortD rfl) (by rfl) T.n_sorted (by decide +kernel) (pa_cons (pv 3) pa_nil)) rfl)))))
      (pss_one
        (ps_ret (pv 1)))))
      , ?_⟩
    rw [show L2.start N_law_spans [V.ref t] = [some (.ref t), none, none, none, none, none] from rfl]
    walk_at "x"
    refine w_new fun R H3 hR eR3 k3 => ?_
    have e1' := k3 _ _ e1
    have e2' : H3 a = some (.tup (ns.map V.int)) := k3 _ _ e2
    walk_at "g"
    refine lp_tup (xs := ns.map V.int) (fun i σ H' => ∃ (y2 y3 y4 y5 : Option V), σ = [some (.ref t), some (.ref R), y2, y3, y4, y5] ∧ Same H H' ∧ RowsAt H H' R (ps.map (·.2)) (ns.take i)) ?_ ?_ ?_ ?_
    · exact ⟨_, _, _, _, rfl, k3, [], eR3, rfl, fun _ _ => rfl, by simp⟩
    · rintro i σ H4 _ ⟨_, _, _, _, _, k4, _⟩
      exact .of (k4 _ _ e2)
    · rintro i y σ H4 hy ⟨y3, y4, y5, y6, rfl, s4, RA⟩
      obtain ⟨v, hv, rfl⟩ := map_at hy
      have hvm : v ∈ ns := List.mem_of_getElem? hv
      walk_at "g"
      refine w_disp fun fo H5 hfo efo k5 => ?_
      walk_at "g"
      refine w_dispE [(Sum.inl v, V.bl true)] efo rfl (by simp) fun H6 e6 o6 => ?_
      have k6 : Same H4 H6 := fun c o e => o6.get (ne_of_none e hfo) (k5 _ _ e)
      have e1'' := k6 _ _ (s4 _ _ e1)
      walk_at "g"
      obtain ⟨kvs, eR4, rl, rn, rv⟩ := RA
      have nRf : R ≠ fo := ne_of_none eR4 hfo
      have eR6 := k6 _ _ eR4
      have hlt : ∀ p, (v, p) ∈ ps.map (·.2) → p ∈ ns.take i := fun p hp => by
        obtain ⟨m1, m2, m3⟩ := S.lm _ hp
        obtain ⟨j, hj, ej⟩ := List.getElem_of_mem m2
        have hj2 : ns[j]? = some p := by rw [List.getElem?_eq_getElem hj, ej]
        have hji : j < i := by
          rcases Nat.lt_or_ge j i with h | h
          · exact h
          · rcases Nat.eq_or_lt_of_le h with h | h
            · subst h
              rw [hv] at hj2
              have := Option.some.inj hj2
              dsimp only at m3
              omega
            · have hiv : i < ns.length := (List.getElem?_eq_some_iff.mp hv).1
              have := (List.pairwise_iff_getElem.mp S.vr) i j hiv hj h
              have ev : ns[i] = v := (List.getElem?_eq_some_iff.mp hv).2
              rw [ev, ej] at this
              dsimp only at m3
              omega
        exact List.mem_take_iff_getElem.mpr ⟨j, by omega, ej⟩
      have inN : ∀ p, (v, p) ∈ ps.map (·.2) → ∀ x, Bel (ps.map (·.2)) p x → x ∈ ns := fun p hp x hx => hx.mem S (S.lm _ hp).2.1
      have eb6 := k6 _ _ (s4 _ _ e3')
      walk_at "g"
      refine lp_tup (xs := ps.map fun q => .ref q.1) (fun j σ H' => ∃ (ks : List Int) (y4 y5 : Option V), σ = [some (.ref t), some (.ref R), some (.int v), some (.ref fo), y4, y5] ∧ Kp [fo] H6 H' ∧ FoundAt H' fo ks ∧ ∀ x, x ∈ ks ↔ x = v ∨ ∃ p, (v, p) ∈ (ps.take j).map (·.2) ∧ Bel (ps.map (·.2)) p x) ?_ ?_ ?_ ?_
      · exact ⟨[v], _, _, rfl, Kp.refl, ⟨⟨_, e6, rfl⟩, by simp⟩, fun x => by simp⟩
      · rintro j σ H8 _ ⟨ks, _, _, _, k8, _⟩
        exact .of (k8 _ _ (by simpa using ne_of eb6 e6 (fun z => nomatch z)) eb6)
      · rintro j y σ H8 hy ⟨ks, w4, w5, rfl, k8, F8, hks⟩
        obtain ⟨x, hx, rfl⟩ := map_at hy
        have hxm : x ∈ ps := List.mem_of_getElem? hx
        have hxl : x.2 ∈ ps.map (·.2) := List.mem_map_of_mem hxm
        have ex6 := k6 _ _ (s4 _ _ (e3.2 x hxm))
        have ex : H8 x.1 = some (.tup [.int x.2.1, .int x.2.2]) := k8 _ _ (by simpa using ne_of ex6 e6 (fun z => nomatch z)) ex6
        have tk : (ps.take (j + 1)).map (·.2) = (ps.take j).map (·.2) ++ [x.2] := by
          rw [List.take_add_one, hx, List.map_append]
          rfl
        have eR8 := k8 _ _ (by simpa using nRf) eR6
        walk_at "g"
        refine w_ite (fun hxv => ?_) (fun hxv => ?_)
        · have hp : (v, x.2.2) ∈ ps.map (·.2) := by rw [← hxv]; exact hxl
          obtain ⟨ap, ys, r1, r2, r3, r4⟩ := rv x.2.2 (hlt _ hp)
          have r28 : H8 ap = some (.lst (ys.map V.int)) := k8 _ _ (by simpa using ne_of (k6 _ _ r2) e6 (fun z => nomatch z)) (k6 _ _ r2)
          walk_at "g"
          refine lp_list (xs := ys.map V.int) (fun m σ H' => ∃ (ks' : List Int) (y5 : Option V), σ = [some (.ref t), some (.ref R), some (.int v), some (.ref fo), some (.ref x.1), y5] ∧ Kp [fo] H6 H' ∧ FoundAt H' fo ks' ∧ ∀ u, u ∈ ks' ↔ u ∈ ks ∨ u ∈ ys.take m) ?_ ?_ ?_ ?_
          · exact ⟨ks, _, rfl, k8, F8, fun x => by simp⟩
          · rintro m σ H9 _ ⟨ks', _, _, k9, _⟩
            exact .of (k9 _ _ (by simpa using ne_of (k6 _ _ r2) e6 (fun z => nomatch z)) (k6 _ _ r2))
          · rintro m y σ H9 hy ⟨ks', w6', rfl, k9, ⟨⟨fk, ef, hfk⟩, nd9⟩, hks'⟩
            obtain ⟨u, hu', rfl⟩ := map_at hy
            have hlen : fk.length < sizeLine := by
              have h1 : fk.length = ks'.length := by
                have := congrArg List.length hfk
                simpa using this
              have h2 : ks'.length ≤ ns.length := nodup_le ks' ns nd9 fun z hz => by
                rcases (hks' z).mp hz with a | a
                · rcases (hks z).mp a with rfl | ⟨p', hp', b⟩
                  · exact hvm
                  · exact inN p' (by
                      obtain ⟨q', hq', e'⟩ := List.mem_map.mp hp'
                      exact List.mem_map.mpr ⟨q', List.mem_of_mem_take hq', e'⟩) z b
                · exact inN _ hp z ((r3.mem z).mp (List.mem_of_mem_take a))
              exact small1000 (by omega)
            walk_at "g"
            refine w_dputI ef hlen fun H10 e10 o10 => ?_
            refine ⟨addK ks' u, _, rfl, k9.trans (o10.kp (by simp)), FoundAt.put hfk nd9 e10, fun z => ?_⟩
            rw [mem_addK, hks', List.take_add_one, hu']
            simp only [Option.toList_some, List.mem_append, List.mem_singleton]
            rw [or_assoc]
          · rintro σ H9 ⟨ks', w6', rfl, k9, F9, hks'⟩
            rw [List.length_map, List.take_length] at hks'
            refine ⟨ks', _, _, rfl, k9, F9, fun u => ?_⟩
            rw [hks', hks, tk, r3.mem]
            simp only [List.mem_append, List.mem_singleton]
            constructor
            · rintro ((a | ⟨p', b, c⟩) | a)
              · exact .inl a
              · exact .inr ⟨p', .inl b, c⟩
              · exact .inr ⟨x.2.2, .inr (by rw [← hxv]), a⟩
            · rintro (a | ⟨p', b | b, c⟩)
              · exact .inl (.inl a)
              · exact .inl (.inr ⟨p', b, c⟩)
              · have e' : x.2.2 = p' := by rw [← b]
                exact .inr (by rw [e']; exact c)
        · walk_at "g"
          refine ⟨ks, _, _, rfl, k8, F8, fun u => ?_⟩
          rw [hks, tk]
          simp only [List.mem_append, List.mem_singleton]
          constructor
          · rintro (a | ⟨p', b, c⟩)
            · exact .inl a
            · exact .inr ⟨p', .inl b, c⟩
          · rintro (a | ⟨p', b | b, c⟩)
            · exact .inl a
            · exact .inr ⟨p', b, c⟩
            · exact absurd (by rw [← b]) hxv
      · rintro σ H8 ⟨ks, w4, w6, rfl, k8, ⟨⟨fk, ef, hfk⟩, nd8⟩, hks⟩
        rw [List.length_map, List.take_length] at hks
        have hsub : ∀ u ∈ ks, u ∈ ns := fun u hu' => by
          rcases (hks u).mp hu' with rfl | ⟨p', hp', b⟩
          · exact hvm
          · exact inN p' hp' u b
        have hkl := nodup_le ks ns nd8 hsub
        walk_at "g"
        refine w_sortD ef hfk (by omega) fun ys L H9 hperm hsort hL eL k9 => ?_
        have eR8 := k8 _ _ (by simpa using nRf) eR6
        have eR9 := k9 _ _ eR8
        have hrow : RowOk (ps.map (·.2)) v ys := ⟨strict_of hperm hsort nd8, fun x => by
          rw [hperm.mem_iff, hks, Bel.iff]⟩
        have kS : Same H H9 := fun c o e => by
          have := s4 _ _ e
          exact k9 _ _ (k8 _ _ (by simpa using ne_of_none this hfo) (k6 _ _ this))
        have hL0 : H L = none := by
          cases hq : H L with
          | none => rfl
          | some o =>
            have z1 := s4 _ _ hq
            have z2 : H8 L = some o := k8 _ _ (by simpa using ne_of_none z1 hfo) (k6 _ _ z1)
            rw [hL] at z2
            cases z2
        have rl' : kvs.length = (ns.take i).length := by
          have := congrArg List.length rl
          simpa using this
        have hkv : kvs.length < sizeLine := small1000 (Nat.le_trans (Nat.le_of_eq rl') (by rw [List.length_take]; omega))
        have nvt : v ∉ ns.take i := fun z => by
          have := take_lt S.vr hv z
          omega
        walk_at "g"
        refine w_dputI eR9 hkv fun H10 e10 o10 => ?_
        refine ⟨_, _, _, _, rfl, fun c o e => o10.get (ne_of_none e hR) (kS _ _ e), ?_⟩
        rw [List.take_add_one, hv]
        refine RowsAt.put (kvs := kvs) eR9 rl nvt rn (fun v' hv' => ?_) e10 o10 eL hrow hL0
        obtain ⟨a', zs, g1, g2, g3, g4⟩ := rv v' hv'
        exact ⟨a', zs, g1, k9 _ _ (k8 _ _ (by simpa using ne_of_none g2 hfo) (k6 _ _ g2)), g3, g4⟩
    · rintro σ H4 ⟨y3, y4, y5, y6, rfl, s4, RA⟩
      rw [List.length_map, List.take_length] at RA
      walk_at "g"
      exact q H4 R s4 hR RA
end
/-- the rows as they are read, the dict's own place left out -/
def RowsV (M : List Addr) (H : Hp) (kvs : List (Key × V)) (ls : List (Int × Int)) (dn : List Int) : Prop := ∀ v ∈ dn, ∃ a ys, valV kvs (Sum.inl v) = some (.ref a) ∧ H a = some (.lst (ys.map V.int)) ∧ RowOk ls v ys ∧ a ∉ M
theorem RowsV.kp {M N : List Addr} {H H' : Hp} {kvs : List (Key × V)} {ls : List (Int × Int)} {dn : List Int} (h : RowsV M H kvs ls dn) (k : Kp N H H') (hN : ∀ x ∈ N, x ∈ M) : RowsV M H' kvs ls dn := fun v hv => by
  obtain ⟨a, ys, e1, e2, r, n⟩ := h v hv
  exact ⟨a, ys, e1, k _ _ (fun z => n (hN a z)) e2, r, n⟩
theorem RowsV.off {M : List Addr} {H H' : Hp} {p : Addr} {kvs : List (Key × V)} {ls : List (Int × Int)} {dn : List Int} (h : RowsV M H kvs ls dn) (o : Off p H H') (hp : ∀ xs, H p ≠ some (.lst xs)) : RowsV M H' kvs ls dn := fun v hv => by
  obtain ⟨a, ys, e1, e2, r, n⟩ := h v hv
  exact ⟨a, ys, e1, o.get (fun z => hp _ (z ▸ e2)) e2, r, n⟩
theorem RowsV.len {M : List Addr} {H : Hp} {kvs : List (Key × V)} {ls : List (Int × Int)} {dn vs ys : List Int} {v : Int} (S : ShOk vs ls) (hv : v ∈ vs) (r : RowOk ls v ys) : ys.length ≤ vs.length :=
  nodup_le ys vs (r.rise.imp (fun {a b} h => Int.ne_of_lt h)) fun x hx => ((r.mem x).mp hx).mem S hv
/-! ### pairs along a shape: who stands next above whom -/
/-- strictly below -/
def SB (ls : List (Int × Int)) (u l : Int) : Prop := Bel ls u l ∧ l ≠ u
theorem SB.lt {vs : List Int} {ls : List (Int × Int)} (S : ShOk vs ls) {u l : Int} (h : SB ls u l) : l < u := by
  have := h.1.le S
  have := h.2
  omega
theorem SB.trans {vs : List Int} {ls : List (Int × Int)} (S : ShOk vs ls) {a b c : Int} (h : SB ls a b) (g : SB ls b c) : SB ls a c := ⟨h.1.trans g.1, by have := h.lt S; have := g.lt S; omega⟩
/-- up and lo are one pairing: each low with one strictly above it -/
structure Mt (vs : List Int) (ls : List (Int × Int)) (up lo : Int → Option Int) : Prop where
  iff : ∀ l u, up l = some u ↔ lo u = some l
  ok : ∀ l u, up l = some u → l ∈ vs ∧ u ∈ vs ∧ SB ls u l
def setM (f : Int → Option Int) (x y : Int) : Int → Option Int := fun z => if z = x then some y else f z
theorem setM_same {f : Int → Option Int} {x y : Int} : setM f x y x = some y := if_pos rfl
theorem setM_ne {f : Int → Option Int} {x y z : Int} (h : z ≠ x) : setM f x y z = f z := if_neg h
/-- the same while low is being given another partner -/
structure MtX (vs : List Int) (ls : List (Int × Int)) (up lo : Int → Option Int) (low : Int) : Prop where
  iff : ∀ l u, l ≠ low → (up l = some u ↔ lo u = some l)
  ok : ∀ l u, l ≠ low → up l = some u → l ∈ vs ∧ u ∈ vs ∧ SB ls u l
  no : ∀ u, lo u ≠ some low
theorem Mt.toX {vs : List Int} {ls : List (Int × Int)} {up lo : Int → Option Int} {low : Int} (M : Mt vs ls up lo) (h : up low = none) : MtX vs ls up lo low :=
  ⟨fun l u _ => M.iff l u, fun l u _ => M.ok l u, fun u z => by rw [(M.iff low u).mpr z] at h; cases h⟩
theorem MtX.step {vs : List Int} {ls : List (Int × Int)} {up lo : Int → Option Int} {low u b : Int} (M : MtX vs ls up lo low) (hv : low ∈ vs) (hu : u ∈ vs) (hb : SB ls u low) (e : lo u = some b) : MtX vs ls (setM up low u) (setM lo u low) b := by
  have nb : b ≠ low := fun z => M.no u (by rw [e, z])
  refine ⟨fun l x hl => ?_, fun l x hl h => ?_, fun x z => ?_⟩
  · by_cases h1 : l = low
    · subst h1
      rw [setM_same]
      by_cases h2 : x = u
      · subst h2; rw [setM_same]; exact ⟨fun _ => rfl, fun _ => rfl⟩
      · rw [setM_ne h2]
        constructor
        · intro z; exact absurd (Option.some.inj z).symm h2
        · intro z; exact absurd z (M.no x)
    · rw [setM_ne h1]
      by_cases h2 : x = u
      · subst h2
        rw [setM_same, M.iff l x h1, e]
        constructor
        · intro z; exact absurd (Option.some.inj z).symm hl
        · intro z; exact absurd (Option.some.inj z).symm h1
      · rw [setM_ne h2]
        exact M.iff l x h1
  · by_cases h1 : l = low
    · subst h1
      rw [setM_same] at h
      cases h
      exact ⟨hv, hu, hb⟩
    · rw [setM_ne h1] at h
      exact M.ok l x h1 h
  · by_cases h2 : x = u
    · subst h2
      rw [setM_same] at z
      exact nb (Option.some.inj z).symm
    · rw [setM_ne h2] at z
      have z1 := (M.iff b x nb).mpr z
      have z2 := (M.iff b u nb).mpr e
      rw [z1] at z2
      exact h2 (Option.some.inj z2)
theorem MtX.last {vs : List Int} {ls : List (Int × Int)} {up lo : Int → Option Int} {low u : Int} (M : MtX vs ls up lo low) (hv : low ∈ vs) (hu : u ∈ vs) (hb : SB ls u low) (e : lo u = none) : Mt vs ls (setM up low u) (setM lo u low) := by
  refine ⟨fun l x => ?_, fun l x h => ?_⟩
  · by_cases h1 : l = low
    · subst h1
      rw [setM_same]
      by_cases h2 : x = u
      · subst h2; rw [setM_same]; exact ⟨fun _ => rfl, fun _ => rfl⟩
      · rw [setM_ne h2]
        constructor
        · intro z; exact absurd (Option.some.inj z).symm h2
        · intro z; exact absurd z (M.no x)
    · rw [setM_ne h1]
      by_cases h2 : x = u
      · subst h2
        rw [setM_same, M.iff l x h1, e]
        constructor
        · intro z; cases z
        · intro z; exact absurd (Option.some.inj z).symm h1
      · rw [setM_ne h2]
        exact M.iff l x h1
  · by_cases h1 : l = low
    · subst h1
      rw [setM_same] at h
      cases h
      exact ⟨hv, hu, hb⟩
    · rw [setM_ne h1] at h
      exact M.ok l x h1 h
/-- what is closed: from L one comes to R alone, and from R back to L -/
structure Cl (ls : List (Int × Int)) (up : Int → Option Int) (L R : Int → Prop) : Prop where
  dn : ∀ u, L u → ∀ l, SB ls u l → R l
  bk : ∀ r, R r → ∃ u, up r = some u ∧ L u
/-- how the search came: each low from one above it, which is the first or the partner of one that came ahead -/
structure Came (ls : List (Int × Int)) (up : Int → Option Int) (v : Int) (cs : List (Int × Int)) : Prop where
  nd : (cs.map (·.1)).Nodup
  sb : ∀ q ∈ cs, SB ls q.2 q.1
  fr : ∀ (i : Nat) (q : Int × Int), cs[i]? = some q → q.2 = v ∨ ∃ (j : Nat) (q' : Int × Int), j < i ∧ cs[j]? = some q' ∧ up q'.1 = some q.2
def lookI (cs : List (Int × Int)) (x : Int) : Option Int := (cs.find? fun q => decide (q.1 = x)).map (·.2)
theorem lookI_at {cs : List (Int × Int)} (nd : (cs.map (·.1)).Nodup) {i : Nat} {q : Int × Int} (h : cs[i]? = some q) : lookI cs q.1 = some q.2 := by
  unfold lookI
  induction cs generalizing i with
  | nil => cases h
  | cons p r ih =>
    rw [List.map_cons, List.nodup_cons] at nd
    cases i with
    | zero =>
      have e : p = q := by simpa using h
      subst e
      simp
    | succ i =>
      have h' : r[i]? = some q := by simpa using h
      have ne : p.1 ≠ q.1 := fun z => nd.1 (by rw [z]; exact List.mem_map_of_mem (List.mem_of_getElem? h'))
      rw [List.find?_cons]
      simp only [ne, decide_false]
      exact ih nd.2 h'
theorem lookI_none {cs : List (Int × Int)} {x : Int} : lookI cs x = none ↔ x ∉ cs.map (·.1) := by
  unfold lookI
  rw [Option.map_eq_none_iff, List.find?_eq_none]
  constructor
  · intro h z
    obtain ⟨q, hq, e⟩ := List.mem_map.mp z
    exact h q hq (decide_eq_true e)
  · intro h q hq z
    exact h (List.mem_map.mpr ⟨q, hq, of_decide_eq_true z⟩)
theorem lookI_snoc {cs : List (Int × Int)} {x y : Int} (h : x ∉ cs.map (·.1)) : lookI (cs ++ [(x, y)]) = setM (lookI cs) x y := by
  funext z
  unfold lookI setM
  rw [List.find?_append]
  by_cases e : z = x
  · subst e
    rw [if_pos rfl]
    have : cs.find? (fun q => decide (q.1 = z)) = none := by
      rw [List.find?_eq_none]
      intro q hq w
      exact h (List.mem_map.mpr ⟨q, hq, of_decide_eq_true w⟩)
    rw [this]
    simp
  · rw [if_neg e]
    have : ([(x, y)] : List (Int × Int)).find? (fun q => decide (q.1 = z)) = none := by
      rw [List.find?_eq_none]
      intro q hq w
      have : q = (x, y) := by simpa using hq
      subst this
      exact e (of_decide_eq_true w).symm
    rw [this, Option.or_none]
/-- what holds while the way is given, low the i-th that came -/
structure Giv (vs : List Int) (ls : List (Int × Int)) (up0 lo0 : Int → Option Int) (cs : List (Int × Int)) (i : Nat) (low : Int) (up lo : Int → Option Int) : Prop where
  at' : ∃ u, cs[i]? = some (low, u)
  mx : MtX vs ls up lo low
  ch : ∀ x, lo x ≠ lo0 x → ∃ (j : Nat) (q : Int × Int), i ≤ j ∧ cs[j]? = some q ∧ lo0 x = some q.1
  up' : ∀ x, up x ≠ up0 x → ∃ (j : Nat) (q : Int × Int), i < j ∧ cs[j]? = some q ∧ x = q.1
  dom : ∀ x, (lo x).isSome = (lo0 x).isSome
  cl : ∀ L R, Cl ls up0 L R → ¬ R low ∧ ∀ r, R r → up r = up0 r
theorem Giv.start {vs : List Int} {ls : List (Int × Int)} {up0 lo0 : Int → Option Int} {cs : List (Int × Int)} {i : Nat} {low u : Int} (M : Mt vs ls up0 lo0) (h : up0 low = none) (e : cs[i]? = some (low, u)) : Giv vs ls up0 lo0 cs i low up0 lo0 :=
  ⟨⟨u, e⟩, M.toX h, fun x z => absurd rfl z, fun x z => absurd rfl z, fun _ => rfl, fun L R C => ⟨fun z => (by
    obtain ⟨u', e', _⟩ := C.bk low z
    rw [h] at e'
    cases e'), fun _ _ => rfl⟩⟩
/-- one step: the partner of u gives way, or u is the first -/
theorem Giv.step {vs : List Int} {ls : List (Int × Int)} {up0 lo0 up lo : Int → Option Int} {cs : List (Int × Int)} {i : Nat} {low u v : Int} (M0 : Mt vs ls up0 lo0) (hv0 : lo0 v = none) (hvm : v ∈ vs) (S : ShOk vs ls) (C : Came ls up0 v cs) (G : Giv vs ls up0 lo0 cs i low up lo) (e : cs[i]? = some (low, u)) (hlm : low ∈ vs) :
    (∃ b j, lo u = some b ∧ j < i ∧ b ∈ vs ∧ Giv vs ls up0 lo0 cs j b (setM up low u) (setM lo u low)) ∨ (u = v ∧ lo u = none ∧ Mt vs ls (setM up low u) (setM lo u low) ∧ (∀ x, (setM lo u low x).isSome = true ↔ (lo0 x).isSome = true ∨ x = v) ∧ ∀ L R, Cl ls up0 L R → ∀ r, R r → setM up low u r = up0 r) := by
  have hsb : SB ls u low := C.sb _ (List.mem_of_getElem? e)
  have same : lo u = lo0 u := by
    apply Classical.byContradiction
    intro z
    obtain ⟨j, q, hj, eq, e2⟩ := G.ch u z
    rcases C.fr i _ e with h | ⟨k, q', hk, ek, e3⟩
    · have h' : u = v := h
      subst h'
      rw [hv0] at e2
      cases e2
    · have e3' := (M0.iff q'.1 u).mp e3
      rw [e2] at e3'
      have e4 : q.1 = q'.1 := Option.some.inj e3'
      have n1 : (cs.map (·.1))[j]? = some q.1 := by rw [List.getElem?_map, eq]; rfl
      have n2 : (cs.map (·.1))[k]? = some q.1 := by rw [List.getElem?_map, ek, e4]; rfl
      have lj : j < (cs.map (·.1)).length := (List.getElem?_eq_some_iff.mp n1).1
      have := (List.getElem?_inj lj C.nd).mp (n1.trans n2.symm)
      omega
  have rl : ∀ L R, Cl ls up0 L R → ¬ L u := fun L R c z => (G.cl L R c).1 (c.dn u z low hsb)
  rcases C.fr i _ e with h | ⟨k, q', hk, ek, e3⟩
  · have h' : u = v := h
    subst h'
    refine .inr ⟨rfl, same.trans hv0, G.mx.last hlm hvm hsb (same.trans hv0), fun x => ?_, fun L R c r hr => ?_⟩
    · by_cases hx : x = u
      · subst hx; rw [setM_same]; simp
      · rw [setM_ne hx, G.dom]; simp [hx]
    · rw [setM_ne (show r ≠ low from fun z => (G.cl L R c).1 (by rw [← z]; exact hr))]
      exact (G.cl L R c).2 r hr
  · have e3' : lo0 u = some q'.1 := (M0.iff q'.1 u).mp e3
    have elo : lo u = some q'.1 := same.trans e3'
    obtain ⟨m1, m2, m3⟩ := M0.ok _ _ e3
    refine .inl ⟨q'.1, k, elo, hk, m1, ⟨⟨q'.2, ek⟩, G.mx.step hlm m2 hsb elo, fun x z => ?_, fun x z => ?_, fun x => ?_, fun L R c => ⟨fun z => ?_, fun r hr => ?_⟩⟩⟩
    · by_cases hx : x = u
      · subst hx
        exact ⟨k, q', Nat.le_refl _, ek, e3'⟩
      · rw [setM_ne hx] at z
        obtain ⟨j, q, hj, eq, e2⟩ := G.ch x z
        exact ⟨j, q, by omega, eq, e2⟩
    · by_cases hx : x = low
      · exact ⟨i, _, hk, e, hx⟩
      · rw [setM_ne hx] at z
        obtain ⟨j, q, hj, eq, e2⟩ := G.up' x z
        exact ⟨j, q, by omega, eq, e2⟩
    · by_cases hx : x = u
      · subst hx; rw [setM_same, e3']; rfl
      · rw [setM_ne hx, G.dom]
    · obtain ⟨u', eu, hu⟩ := c.bk _ z
      rw [e3] at eu
      cases eu
      exact rl L R c hu
    · rw [setM_ne (show r ≠ low from fun z => (G.cl L R c).1 (by rw [← z]; exact hr))]
      exact (G.cl L R c).2 r hr
/-- the way given, as a relation; it has one end -/
inductive GiveR (cs : List (Int × Int)) : Option Int → (Int → Option Int) → (Int → Option Int) → (Int → Option Int) → (Int → Option Int) → Prop where
  | stop {up lo : Int → Option Int} : GiveR cs none up lo up lo
  | step {low u : Int} {up lo up' lo' : Int → Option Int} (e : lookI cs low = some u) (r : GiveR cs (lo u) (setM up low u) (setM lo u low) up' lo') : GiveR cs (some low) up lo up' lo'
theorem GiveR.det {cs : List (Int × Int)} {o : Option Int} {up lo up1 lo1 up2 lo2 : Int → Option Int} (a : GiveR cs o up lo up1 lo1) (b : GiveR cs o up lo up2 lo2) : up1 = up2 ∧ lo1 = lo2 := by
  induction a with
  | stop => cases b; exact ⟨rfl, rfl⟩
  | step e r ih =>
    cases b with
    | step e2 r2 =>
      rw [e] at e2
      cases e2
      exact ih r2
/-- the search, as a relation -/
inductive PR (rowf : Int → List Int) (up lo : Int → Option Int) : List (Int × Int) → List Int → Option (Int × List Int) → (Int → Option Int) → (Int → Option Int) → Prop where
  | fail {cs : List (Int × Int)} : PR rowf up lo cs [] none up lo
  | pop {cs : List (Int × Int)} {ws ways : List Int} {u : Int} {up' lo' : Int → Option Int} (e : ws = ways ++ [u]) (r : PR rowf up lo cs ways (some (u, rowf u)) up' lo') : PR rowf up lo cs ws none up' lo'
  | skip {cs : List (Int × Int)} {ways rest : List Int} {u low : Int} {up' lo' : Int → Option Int} (e : low ∈ cs.map (·.1)) (r : PR rowf up lo cs ways (some (u, rest)) up' lo') : PR rowf up lo cs ways (some (u, low :: rest)) up' lo'
  | give {cs : List (Int × Int)} {ways rest : List Int} {u low : Int} {up' lo' : Int → Option Int} (e : low ∉ cs.map (·.1)) (e2 : up low = none) (r : GiveR (cs ++ [(low, u)]) (some low) up lo up' lo') : PR rowf up lo cs ways (some (u, low :: rest)) up' lo'
  | push {cs : List (Int × Int)} {ways rest : List Int} {u low w : Int} {up' lo' : Int → Option Int} (e : low ∉ cs.map (·.1)) (e2 : up low = some w) (r : PR rowf up lo (cs ++ [(low, u)]) (ways ++ [w]) (some (u, rest)) up' lo') : PR rowf up lo cs ways (some (u, low :: rest)) up' lo'
  | over {cs : List (Int × Int)} {ways : List Int} {u : Int} {up' lo' : Int → Option Int} (r : PR rowf up lo cs ways none up' lo') : PR rowf up lo cs ways (some (u, [])) up' lo'
theorem PR.det {rowf : Int → List Int} {up lo up1 lo1 up2 lo2 : Int → Option Int} {cs : List (Int × Int)} {ways : List Int} {o : Option (Int × List Int)} (a : PR rowf up lo cs ways o up1 lo1) (b : PR rowf up lo cs ways o up2 lo2) : up1 = up2 ∧ lo1 = lo2 := by
  induction a with
  | fail =>
    cases b with
    | fail => exact ⟨rfl, rfl⟩
    | pop e r => simp at e
  | pop e r ih =>
    cases b with
    | fail => simp at e
    | pop e2 r2 =>
      rw [e] at e2
      obtain ⟨h1, h2⟩ := List.append_inj' e2 rfl
      cases h1
      cases h2
      exact ih r2
  | skip e r ih =>
    cases b with
    | skip e2 r2 => exact ih r2
    | give e2 _ _ => exact absurd e e2
    | push e2 _ _ => exact absurd e e2
  | give e e2 r =>
    cases b with
    | skip e3 r2 => exact absurd e3 e
    | give _ _ r2 => exact r.det r2
    | push _ e3 _ => rw [e2] at e3; cases e3
  | push e e2 r ih =>
    cases b with
    | skip e3 r2 => exact absurd e3 e
    | give _ e3 r2 => rw [e2] at e3; cases e3
    | push _ e3 r2 =>
      rw [e2] at e3
      cases e3
      exact ih r2
  | over r ih =>
    cases b with
    | over r2 => exact ih r2
/-- all of them in turn -/
inductive FR (rowf : Int → List Int) : List Int → (Int → Option Int) → (Int → Option Int) → (Int → Option Int) → (Int → Option Int) → Prop where
  | nil {up lo : Int → Option Int} : FR rowf [] up lo up lo
  | snoc {vs : List Int} {v : Int} {up lo up1 lo1 up2 lo2 : Int → Option Int} (r : FR rowf vs up lo up1 lo1) (p : PR rowf up1 lo1 [] [v] none up2 lo2) : FR rowf (v :: vs) up lo up2 lo2
theorem FR.det {rowf : Int → List Int} {vs : List Int} {up lo up1 lo1 up2 lo2 : Int → Option Int} (a : FR rowf vs up lo up1 lo1) (b : FR rowf vs up lo up2 lo2) : up1 = up2 ∧ lo1 = lo2 := by
  induction a generalizing up2 lo2 with
  | nil => cases b; exact ⟨rfl, rfl⟩
  | snoc r p ih =>
    cases b with
    | snoc r2 p2 =>
      obtain ⟨rfl, rfl⟩ := ih r2
      exact p.det p2
/-- the lows of u, the greatest first -/
noncomputable def lowsF (ls : List (Int × Int)) (u : Int) : List Int := (Classical.epsilon fun ys => RowOk ls u ys).dropLast.reverse
theorem lowsF_is {ls : List (Int × Int)} {u : Int} {ys : List Int} (r : RowOk ls u ys) : lowsF ls u = ys.dropLast.reverse := by
  unfold lowsF
  rw [(Classical.epsilon_spec (p := fun ys => RowOk ls u ys) ⟨ys, r⟩).uniq r]
theorem val_keys {kvs : List (Key × V)} {ks : List Int} (h : kvs.map (·.1) = ks.map (Sum.inl : Int → Key)) (x : Int) : (valV kvs (Sum.inl x)).isSome = decide (x ∈ ks) := by
  rw [Bool.eq_iff_iff, decide_eq_true_iff]
  constructor
  · intro z
    obtain ⟨v, e⟩ := Option.isSome_iff_exists.mp z
    have m := valV_in e
    rw [h] at m
    obtain ⟨y, hy, e2⟩ := List.mem_map.mp m
    exact Sum.inl.inj e2 ▸ hy
  · intro z
    cases e : valV kvs (Sum.inl x) with
    | some v => rfl
    | none => exact absurd (by rw [h]; exact List.mem_map_of_mem z) (valV_not e)
/-- a dict of ints, as a function; its keys are of vs -/
def MapAt (H : Hp) (p : Addr) (vs : List Int) (f : Int → Option Int) : Prop := ∃ (kvs : List (Key × V)) (ks : List Int), H p = some (.dK kvs) ∧ kvs.map (·.1) = ks.map (Sum.inl : Int → Key) ∧ ks.Nodup ∧ (∀ x ∈ ks, x ∈ vs) ∧ ∀ x, valV kvs (Sum.inl x) = (f x).map V.int
theorem MapAt.kp {M : List Addr} {H H' : Hp} {p : Addr} {vs : List Int} {f : Int → Option Int} (h : MapAt H p vs f) (k : Kp M H H') (hp : p ∉ M) : MapAt H' p vs f := by
  obtain ⟨kvs, ks, e, r⟩ := h
  exact ⟨kvs, ks, k _ _ hp e, r⟩
theorem MapAt.len {p : Addr} {vs : List Int} {kvs : List (Key × V)} {ks : List Int} (h1 : kvs.map (·.1) = ks.map (Sum.inl : Int → Key)) (h2 : ks.Nodup) (h3 : ∀ x ∈ ks, x ∈ vs) : kvs.length ≤ vs.length := by
  have e : kvs.length = ks.length := by
    have := congrArg List.length h1
    simpa using this
  rw [e]
  exact nodup_le ks vs h2 h3
theorem MapAt.put {H1 : Hp} {p : Addr} {vs : List Int} {f : Int → Option Int} {kvs : List (Key × V)} {ks : List Int} {x y : Int} (h1 : kvs.map (·.1) = ks.map (Sum.inl : Int → Key)) (h2 : ks.Nodup) (h3 : ∀ x ∈ ks, x ∈ vs) (h4 : ∀ x, valV kvs (Sum.inl x) = (f x).map V.int) (hx : x ∈ vs) (e : H1 p = some (.dK (putK kvs (Sum.inl x) (.int y)))) : MapAt H1 p vs (setM f x y) := by
  refine ⟨_, addK ks x, e, putK_keys h1, nd_addK h2, fun z hz => ?_, fun z => ?_⟩
  · rcases mem_addK.mp hz with a | rfl
    · exact h3 z a
    · exact hx
  · rw [valV_put]
    by_cases e : z = x
    · subst e
      rw [if_pos rfl, setM_same]
      rfl
    · rw [if_neg (fun q => e (Sum.inl.inj q)), setM_ne e]
      exact h4 z
theorem MapAt.in {vs : List Int} {f : Int → Option Int} {kvs : List (Key × V)} (h4 : ∀ x, valV kvs (Sum.inl x) = (f x).map V.int) (x : Int) : (valV kvs (Sum.inl x)).isSome = (f x).isSome := by
  rw [h4]
  cases f x <;> rfl
/-- what a low's partner is behind a way given from v -/
structure Given (vs : List Int) (ls : List (Int × Int)) (v : Int) (up0 lo0 up lo : Int → Option Int) : Prop where
  m : Mt vs ls up lo
  dom : ∀ x, (lo x).isSome = true ↔ (lo0 x).isSome = true ∨ x = v
  cl : ∀ L R, Cl ls up0 L R → ∀ r, R r → up r = up0 r
def spGive : Sp := fun as H Q _ => ∃ (low v u : Int) (i : Nat) (C U D : Addr) (vs : List Int) (ls cs : List (Int × Int)) (up lo : Int → Option Int), as = [.int low, .ref C, .ref U, .ref D] ∧ C ≠ U ∧ C ≠ D ∧ U ≠ D ∧ MapAt H C vs (lookI cs) ∧ MapAt H U vs up ∧ MapAt H D vs lo ∧
  ShOk vs ls ∧ vs.length < 64 ∧ Mt vs ls up lo ∧ lo v = none ∧ v ∈ vs ∧ Came ls up v cs ∧ cs[i]? = some (low, u) ∧ up low = none ∧ low ∈ vs ∧
  ∀ H' up' lo', Kp [U, D] H H' → MapAt H' U vs up' → MapAt H' D vs lo' → Given vs ls v up lo up' lo' → GiveR cs (some low) up lo up' lo' → Q .non H'
section
variable {P : Program} {w : World} {K : PySem.W.Frag} {mg : Str → Option Value} {base : Heap}
theorem ok_give {f : Addr} {fd : FuncData} (T : Txt K mg) (F : Fun K "give_way" "give_way" s_give_way f fd) : FnOk P w K mg base CX0 1 f fd ["low", "came", "uppers", "lowers"] spGive := by
  refine F.ok sc_give_way (fun vs H Q E h => ?_) (fun cdv A outer s H vs Q E hr h => ?_)
  · obtain ⟨low, v, u, i, C, U, D, vs, ls, cs, up, lo, rfl, _⟩ := h
    rfl
  · obtain ⟨low0, v, u0, i0, C, U, D, vs, ls, cs, up0, lo0, rfl, nCU, nCD, nUD, mC, mU, mD, S, hl, M, hv0, hv, Cm, e0, un0, lm0, q⟩ := h
    have hu := hu_of hr
    refine ⟨_,
      (pss_one
        (ps_while PassesOwn.never (pt_cmpR o_notN (pv 0) pe_non (nomark _))
          (pss_cons
            (ps_set (i := 4) sc_give_way.nd rfl (.inl rfl) (pe_dget hu (pv 1) (pv 0) (fun _ _ => rfl)))
          (pss_cons
            (ps_set (i := 5) sc_give_way.nd rfl (.inl rfl) (pe_dget1 hu (pv 3) (pv 4) ⟨rfl, rfl, rfl, rfl⟩))
          (pss_cons
            (ps_dput hu (pv 2) (pv 0) (pv 4) rfl)
          (pss_cons
            (ps_dput hu (pv 3) (pv 4) (pv 0) rfl)
          (pss_one
            (ps_set (i := 0) sc_give_way.nd rfl (.inl rfl) (pv 5)))))))))
      , ?_⟩
    rw [show L2.start N_give_way [V.int low0, V.ref C, V.ref U, V.ref D] = [some (.int low0), some (.ref C), some (.ref U), some (.ref D), none, none] from rfl]
    try dsimp only [cxOf, Cx.nox, Cx.wish]
    refine w_whileN (fun m σ H' => (∃ (low : Int) (i : Nat) (up lo : Int → Option Int) (y4 y5 : Option V), σ = [some (.int low), some (.ref C), some (.ref U), some (.ref D), y4, y5] ∧ m = i + 1 ∧ low ∈ vs ∧ Giv vs ls up0 lo0 cs i low up lo ∧ (∀ up' lo', GiveR cs (some low) up lo up' lo' → GiveR cs (some low0) up0 lo0 up' lo') ∧ Kp [U, D] H H' ∧ MapAt H' U vs up ∧ MapAt H' D vs lo) ∨
      (∃ (up lo : Int → Option Int) (y4 y5 : Option V), σ = [some .non, some (.ref C), some (.ref U), some (.ref D), y4, y5] ∧ Given vs ls v up0 lo0 up lo ∧ GiveR cs (some low0) up0 lo0 up lo ∧ Kp [U, D] H H' ∧ MapAt H' U vs up ∧ MapAt H' D vs lo)) (i0 + 1) (.inl ⟨low0, i0, up0, lo0, _, _, rfl, rfl, lm0, Giv.start M un0 e0, fun _ _ z => z, Kp.refl, mU, mD⟩) ?_
    rintro m σ H1 (⟨low, i, up, lo, y4, y5, rfl, rfl, lm, G, gr, k1, mU1, mD1⟩ | ⟨up, lo, y4, y5, rfl, G, gr, k1, mU1, mD1⟩)
    · walk_at "g"
      refine w_nno (fun z => nomatch z) (w_turn ?_)
      obtain ⟨u, eu⟩ := G.at'
      have mC1 := mC.kp k1 (by simp [nCU, nCD])
      obtain ⟨ck, cks, eC, c2, c3, c4, c5⟩ := mC1
      obtain ⟨uk, uks, eU, u2, u3, u4, u5⟩ := mU1
      obtain ⟨dk, dks, eD, d2, d3, d4, d5⟩ := mD1
      have el : valV ck (Sum.inl low) = some (.int u) := by rw [c5, lookI_at Cm.nd eu]; rfl
      walk_at "g"
      have lU : uk.length < sizeLine := small1000 (by have := MapAt.len (p := U) u2 u3 u4; omega)
      have lD : dk.length < sizeLine := small1000 (by have := MapAt.len (p := D) d2 d3 d4; omega)
      have um : u ∈ vs := by
        rcases Cm.fr i _ eu with h | ⟨k, q', hk, ek, e3⟩
        · have h' : u = v := h
          rw [h']
          exact hv
        · exact (M.ok _ _ e3).2.1
      refine w_dputI eU lU fun H2 e2 o2 => ?_
      have eD2 := o2.get nUD.symm eD
      walk_at "g"
      refine w_dputI eD2 lD fun H3 e3 o3 => ?_
      have mU3 : MapAt H3 U vs (setM up low u) := MapAt.put u2 u3 u4 u5 lm (o3.get nUD e2)
      have mD3 : MapAt H3 D vs (setM lo u low) := MapAt.put d2 d3 d4 d5 um e3
      have k3 : Kp [U, D] H H3 := k1.trans ((o2.kp (by simp)).trans (o3.kp (by simp)))
      walk_at "g"
      rcases Giv.step M hv0 hv S Cm G eu lm with ⟨b, j, eb, hj, hbm, G'⟩ | ⟨rfl, eb, M', dm, cl'⟩
      · rw [show (valV dk (Sum.inl u)).getD V.non = .int b by rw [d5, eb]; rfl]
        exact ⟨j + 1, by omega, .inl ⟨b, j, _, _, _, _, rfl, rfl, hbm, G', fun up' lo' z => gr _ _ (.step (lookI_at Cm.nd eu) (by rw [eb]; exact z)), k3, mU3, mD3⟩⟩
      · rw [show (valV dk (Sum.inl u)).getD V.non = .non by rw [d5, eb]; rfl]
        exact ⟨0, by omega, .inr ⟨_, _, _, _, rfl, ⟨M', dm, cl'⟩, gr _ _ (.step (lookI_at Cm.nd eu) (by rw [eb]; exact .stop)), k3, mU3, mD3⟩⟩
    · walk_at "g"
      refine w_nyes rfl ?_
      exact q H1 up lo k1 mU1 mD1 G gr
end
theorem row_drop {vs : List Int} {ls : List (Int × Int)} (S : ShOk vs ls) {u : Int} {ys : List Int} (r : RowOk ls u ys) (x : Int) : x ∈ ys.dropLast ↔ SB ls u x := by
  have hu : u ∈ ys := (r.mem u).mpr (.refl u)
  have hne : ys ≠ [] := List.ne_nil_of_mem hu
  have e := List.dropLast_concat_getLast hne
  have hp := r.rise
  rw [← e, List.pairwise_append] at hp
  obtain ⟨_, _, h3⟩ := hp
  have hlast : ys.getLast hne = u := by
    have m1 : ys.getLast hne ≤ u := ((r.mem _).mp (List.getLast_mem hne)).le S
    rw [← e] at hu
    rcases List.mem_append.mp hu with a | a
    · have := h3 u a (ys.getLast hne) (by simp)
      omega
    · exact (by simpa using a : u = _).symm
  rw [hlast] at h3 e
  constructor
  · intro h
    have := h3 x h u (by simp)
    exact ⟨(r.mem x).mp (by rw [← e]; exact List.mem_append_left _ h), by omega⟩
  · rintro ⟨h1, h2⟩
    have m := (r.mem x).mpr h1
    rw [← e] at m
    rcases List.mem_append.mp m with a | a
    · exact a
    · exact absurd (by simpa using a) h2
theorem Came.snoc {ls : List (Int × Int)} {up : Int → Option Int} {v u low : Int} {cs : List (Int × Int)} (C : Came ls up v cs) (hn : low ∉ cs.map (·.1)) (hs : SB ls u low) (hu : u = v ∨ ∃ q ∈ cs, up q.1 = some u) : Came ls up v (cs ++ [(low, u)]) := by
  refine ⟨?_, fun q hq => ?_, fun i q hq => ?_⟩
  · rw [List.map_append, List.nodup_append]
    exact ⟨C.nd, by simp, fun a ha b hb z => hn (by
      have : b = low := by simpa using hb
      rw [← this, ← z]
      exact ha)⟩
  · rcases List.mem_append.mp hq with a | a
    · exact C.sb q a
    · have : q = (low, u) := by simpa using a
      subst this
      exact hs
  · by_cases hi : i < cs.length
    · rw [List.getElem?_append_left hi] at hq
      rcases C.fr i q hq with h | ⟨j, q', hj, ej, e⟩
      · exact .inl h
      · exact .inr ⟨j, q', hj, by rw [List.getElem?_append_left (by omega)]; exact ej, e⟩
    · have hi2 : i = cs.length := by
        have := (List.getElem?_eq_some_iff.mp hq).1
        simp at this
        omega
      subst hi2
      have : q = (low, u) := by simpa using hq.symm
      subst this
      rcases hu with h | ⟨q', hq', e⟩
      · exact .inl h
      · obtain ⟨j, hj, ej⟩ := List.getElem_of_mem hq'
        exact .inr ⟨j, q', hj, by rw [List.getElem?_append_left hj, List.getElem?_eq_getElem hj, ej], e⟩
/-- whom the search has come to -/
def Vis (up : Int → Option Int) (v : Int) (cs : List (Int × Int)) (w : Int) : Prop := w = v ∨ ∃ q ∈ cs, up q.1 = some w
structure Srch (vs : List Int) (ls : List (Int × Int)) (up : Int → Option Int) (v : Int) (cs : List (Int × Int)) (ways : List Int) (ex : Int → Prop) : Prop where
  came : Came ls up v cs
  mem : ∀ q ∈ cs, q.1 ∈ vs
  mt : ∀ q ∈ cs, (up q.1).isSome = true
  wy : ∀ u ∈ ways, u ∈ vs ∧ Vis up v cs u
  dn : ∀ w, Vis up v cs w → w ∉ ways → ¬ ex w → ∀ l, SB ls w l → l ∈ cs.map (·.1)
theorem Srch.start {vs : List Int} {ls : List (Int × Int)} {up : Int → Option Int} {v : Int} (hv : v ∈ vs) : Srch vs ls up v [] [v] (fun _ => False) :=
  ⟨⟨List.nodup_nil, by simp, fun i q h => by simp at h⟩, by simp, by simp, fun u hu => by
    have : u = v := by simpa using hu
    subst this
    exact ⟨hv, .inl rfl⟩, fun w hw hn => by
    rcases hw with h | ⟨q, hq, _⟩
    · exact absurd (by simpa using h) hn
    · simp at hq⟩
theorem Srch.pop {vs : List Int} {ls : List (Int × Int)} {up : Int → Option Int} {v u : Int} {cs : List (Int × Int)} {ways : List Int} (s : Srch vs ls up v cs (ways ++ [u]) (fun _ => False)) : Srch vs ls up v cs ways (fun w => w = u) ∧ u ∈ vs ∧ Vis up v cs u :=
  ⟨⟨s.came, s.mem, s.mt, fun w hw => s.wy w (List.mem_append_left _ hw), fun w hw hn hne => s.dn w hw (fun z => by
    rcases List.mem_append.mp z with a | a
    · exact hn a
    · exact hne (by simpa using a)) (fun z => z)⟩, s.wy u (by simp)⟩
theorem Srch.add {vs : List Int} {ls : List (Int × Int)} {up lo : Int → Option Int} {v u low w : Int} {cs : List (Int × Int)} {ways : List Int} (M : Mt vs ls up lo) (s : Srch vs ls up v cs ways (fun w => w = u)) (hu : Vis up v cs u) (hn : low ∉ cs.map (·.1)) (hs : SB ls u low) (hm : low ∈ vs) (e : up low = some w) :
    Srch vs ls up v (cs ++ [(low, u)]) (ways ++ [w]) (fun w => w = u) ∧ Vis up v (cs ++ [(low, u)]) u := by
  have more : ∀ {x}, Vis up v cs x → Vis up v (cs ++ [(low, u)]) x := fun {x} h => by
    rcases h with h | ⟨q, hq, e⟩
    · exact .inl h
    · exact .inr ⟨q, List.mem_append_left _ hq, e⟩
  refine ⟨⟨s.came.snoc hn hs hu, fun q hq => ?_, fun q hq => ?_, fun x hx => ?_, fun x hx hx2 hne l hl => ?_⟩, more hu⟩
  · rcases List.mem_append.mp hq with a | a
    · exact s.mem q a
    · have : q = (low, u) := by simpa using a
      subst this
      exact hm
  · rcases List.mem_append.mp hq with a | a
    · exact s.mt q a
    · have : q = (low, u) := by simpa using a
      subst this
      rw [e]
      rfl
  · rcases List.mem_append.mp hx with a | a
    · exact ⟨(s.wy x a).1, more (s.wy x a).2⟩
    · have : x = w := by simpa using a
      subst this
      exact ⟨(M.ok _ _ e).2.1, .inr ⟨(low, u), by simp, e⟩⟩
  · have old : Vis up v cs x := by
      rcases hx with h | ⟨q, hq, e2⟩
      · exact .inl h
      · rcases List.mem_append.mp hq with a | a
        · exact .inr ⟨q, a, e2⟩
        · have : q = (low, u) := by simpa using a
          subst this
          rw [e] at e2
          cases e2
          exact absurd (by simp) hx2
    rw [List.map_append]
    exact List.mem_append_left _ (s.dn x old (fun z => hx2 (List.mem_append_left _ z)) hne l hl)
theorem Srch.done {vs : List Int} {ls : List (Int × Int)} {up : Int → Option Int} {v u : Int} {cs : List (Int × Int)} {ways : List Int} (s : Srch vs ls up v cs ways (fun w => w = u)) (h : ∀ l, SB ls u l → l ∈ cs.map (·.1)) : Srch vs ls up v cs ways (fun _ => False) :=
  ⟨s.came, s.mem, s.mt, s.wy, fun w hw hn _ l hl => by
    by_cases e : w = u
    · subst e; exact h l hl
    · exact s.dn w hw hn e l hl⟩
theorem Srch.fail {vs : List Int} {ls : List (Int × Int)} {up : Int → Option Int} {v : Int} {cs : List (Int × Int)} (s : Srch vs ls up v cs [] (fun _ => False)) : Cl ls up (Vis up v cs) (fun r => r ∈ cs.map (·.1)) :=
  ⟨fun u hu l hl => s.dn u hu (by simp) (fun z => z) l hl, fun r hr => by
    obtain ⟨q, hq, rfl⟩ := List.mem_map.mp hr
    obtain ⟨u, e⟩ := Option.isSome_iff_exists.mp (s.mt q hq)
    exact ⟨u, e, .inr ⟨q, hq, e⟩⟩⟩
theorem Srch.len {vs : List Int} {ls : List (Int × Int)} {up : Int → Option Int} {v : Int} {cs : List (Int × Int)} {ways : List Int} {ex : Int → Prop} (s : Srch vs ls up v cs ways ex) : cs.length ≤ vs.length := by
  have := nodup_le (cs.map (·.1)) vs s.came.nd fun x hx => by
    obtain ⟨q, hq, rfl⟩ := List.mem_map.mp hx
    exact s.mem q hq
  simpa using this
/-- what a search does to the pairs -/
structure Prd (vs : List Int) (ls : List (Int × Int)) (v : Int) (up0 lo0 up lo : Int → Option Int) : Prop where
  m : Mt vs ls up lo
  d1 : ∀ x, (lo x).isSome = true → (lo0 x).isSome = true ∨ x = v
  d2 : ∀ x, (lo0 x).isSome = true → (lo x).isSome = true
  hit : (lo v).isSome = true ∨ ∃ L R, Cl ls up L R ∧ L v
  cl : ∀ L R, Cl ls up0 L R → Cl ls up L R
theorem Prd.failed {vs : List Int} {ls : List (Int × Int)} {up lo : Int → Option Int} {v : Int} {cs : List (Int × Int)} (M : Mt vs ls up lo) (s : Srch vs ls up v cs [] (fun _ => False)) : Prd vs ls v up lo up lo :=
  ⟨M, fun x h => .inl h, fun x h => h, .inr ⟨_, _, s.fail, .inl rfl⟩, fun L R c => c⟩
theorem Prd.given {vs : List Int} {ls : List (Int × Int)} {up0 lo0 up lo : Int → Option Int} {v : Int} (G : Given vs ls v up0 lo0 up lo) : Prd vs ls v up0 lo0 up lo :=
  ⟨G.m, fun x h => (G.dom x).mp h, fun x h => (G.dom x).mpr (.inl h), .inl ((G.dom v).mpr (.inr rfl)), fun L R c => ⟨c.dn, fun r hr => by rw [G.cl L R c r hr]; exact c.bk r hr⟩⟩
def spPair : Sp := fun as H Q _ => ∃ (v : Int) (R U D : Addr) (kvs : List (Key × V)) (vs : List Int) (ls : List (Int × Int)) (up lo : Int → Option Int), as = [.int v, .ref R, .ref U, .ref D] ∧ U ≠ D ∧ H R = some (.dK kvs) ∧ R ≠ U ∧ R ≠ D ∧ RowsV [] H kvs ls vs ∧ MapAt H U vs up ∧ MapAt H D vs lo ∧
  ShOk vs ls ∧ vs.length < 64 ∧ Mt vs ls up lo ∧ lo v = none ∧ v ∈ vs ∧
  ∀ H' up' lo', Kp [U, D] H H' → MapAt H' U vs up' → MapAt H' D vs lo' → Prd vs ls v up lo up' lo' → PR (lowsF ls) up lo [] [v] none up' lo' → Q .non H'
section
variable {P : Program} {w : World} {K : PySem.W.Frag} {mg : Str → Option Value} {base : Heap}
theorem ok_pair {f fG : Addr} {fd fdG : FuncData} (T : Txt K mg) (F : Fun K "pair_up" "pair_up" s_pair_up f fd) (D_give_way : Df K mg "give_way" s_give_way ["low", "came", "uppers", "lowers"] fG fdG) : FnOk P w K mg base CX0 2 f fd ["version", "rows", "uppers", "lowers"] spPair := by
  have G_give_way : FnOk P w K mg base CX0 1 fG fdG ["low", "came", "uppers", "lowers"] spGive := ok_give T D_give_way.fn
  refine F.ok sc_pair_up (fun vs H Q E h => ?_) (fun cdv A outer s H vs Q E hr h => ?_)
  · obtain ⟨v, R, U, D, kvs, vs, ls, up, lo, rfl, _⟩ := h
    rfl
  · obtain ⟨v, R, U, D, kvs, vs, ls, up, lo, rfl, nUD, eR, nRU, nRD, rv, mU, mD, S, hl, M, hv0, hv, q⟩ := h
    have hu := hu_of hr
    refine ⟨_,
      (pss_cons
        (ps_set (i := 4) sc_pair_up.nd rfl (.inl rfl) pe_dnewK)
      (pss_cons
        (ps_set (i := 5) sc_pair_up.nd rfl (.inl rfl) (pe_lst (pa_cons (pv 0) pa_nil)))
      (pss_one
        (ps_while PassesOwn.never (p_truth (pv 5) (by intro _; rfl))
          (pss_cons
            (ps_set (i := 6) sc_pair_up.nd rfl (.inl rfl) (pe_bm0 PySem.F.plainAttrs_list PySem.F.slot_list_pop PySem.F.type_list_pop mt_pop (pv 5)))
          (pss_one
            (ps_for PassesOwn.never rfl (pi_reversed (by rfl) T.n_reversed (pa_cons (pe_slice sl_list (pe_dget hu (pv 1) (pv 6) (fun _ _ => rfl)) po_none (po_some (pe_un un_neg pe_int))) pa_nil)) (pg_name (i := 7) sc_pair_up.nd rfl (.inl rfl))
              (pss_one
                (ps_if (pt_cmp (pc_dnotin hu (pv 7) (pv 4)))
                  (pss_cons
                    (ps_dput hu (pv 4) (pv 7) (pv 6) rfl)
                  (pss_cons
                    (ps_if (pt_cmp (pc_dnotin hu (pv 7) (pv 2)))
                      (pss_cons
                        (ps_expr (pe_call G_give_way (hr.mono (by omega)) (by rfl) D_give_way.g D_give_way.fn.kp D_give_way.b .nil pass0 (pa_cons (pv 7) (pa_cons (pv 4) (pa_cons (pv 2) (pa_cons (pv 3) pa_nil))))))
                      (pss_one
                        ps_retN))
                      pss_nil)
                  (pss_one
                    (ps_expr (pe_bm PySem.F.plainAttrs_list PySem.F.slot_list_append PySem.F.type_list_append mt_append (pv 5) (pa_cons (pe_dget hu (pv 2) (pv 7) (fun _ _ => rfl)) pa_nil))))))
                  pss_nil)))))))))
      , ?_⟩
    rw [show L2.start N_pair_up [V.int v, V.ref R, V.ref U, V.ref D] = [some (.int v), some (.ref R), some (.ref U), some (.ref D), none, none, none, none] from rfl]
    walk_at "x"
    refine w_new fun C H1 hC eC k1 => ?_
    walk_at "g"
    refine w_new fun Wy H2 hW eW k2 => ?_
    have k02 : Same H H2 := Same.trans k1 k2
    have hW0 : H Wy = none := k1.free hW
    have nCW : C ≠ Wy := ne_of_none eC hW
    obtain ⟨uk, uks, eU, u2, u3, u4, u5⟩ := id mU
    obtain ⟨dk, dks, eD, d2, d3, d4, d5⟩ := id mD
    have nCU : C ≠ U := (ne_of_none eU hC).symm
    have nCD : C ≠ D := (ne_of_none eD hC).symm
    have nCR : C ≠ R := (ne_of_none eR hC).symm
    have nWU : Wy ≠ U := (ne_of_none eU hW0).symm
    have nWD : Wy ≠ D := (ne_of_none eD hW0).symm
    have nWR : Wy ≠ R := (ne_of_none eR hW0).symm
    have mU2 : MapAt H2 U vs up := mU.kp (M := []) (Kp.of k02) (by simp)
    have mD2 : MapAt H2 D vs lo := mD.kp (M := []) (Kp.of k02) (by simp)
    have eR2 := k02 _ _ eR
    have rv2 : RowsV [C, Wy] H2 kvs ls vs := fun x hx => by
      obtain ⟨a, ys, v1, v2, v3, _⟩ := rv x hx
      exact ⟨a, ys, v1, k02 _ _ v2, v3, by simp [ne_of_none v2 hC, ne_of_none v2 hW0]⟩
    walk_at "g"
    refine w_whileN (fun m σ H' => ∃ (cs : List (Int × Int)) (ways : List Int) (y6 y7 : Option V), σ = [some (.int v), some (.ref R), some (.ref U), some (.ref D), some (.ref C), some (.ref Wy), y6, y7] ∧ m = ways.length + 2 * (vs.length - cs.length) ∧ ways.length + 2 * (vs.length - cs.length) ≤ 1 + 2 * vs.length ∧ Srch vs ls up v cs ways (fun _ => False) ∧ (∀ up' lo', PR (lowsF ls) up lo cs ways none up' lo' → PR (lowsF ls) up lo [] [v] none up' lo') ∧ Kp [C, Wy] H2 H' ∧ MapAt H' C vs (lookI cs) ∧ H' Wy = some (.lst (ways.map V.int))) (1 + 2 * vs.length)
      ⟨[], [v], _, _, rfl, rfl, Nat.le_refl _, Srch.start hv, fun _ _ z => z, Kp.refl, ⟨[], [], k2 _ _ eC, rfl, List.nodup_nil, by simp, fun _ => rfl⟩, eW⟩ ?_
    rintro m σ H3 ⟨cs, ways, y6, y7, rfl, rfl, hwl0, sr, pr, k3, mC, e3⟩
    walk_at "g"
    rcases List.eq_nil_or_concat ways with rfl | ⟨rest, u, rfl⟩
    · -- none is left
      walk_at "g"
      have k03 : Kp [U, D] H H3 := fun b o _ e => k3 _ _ (by simp [ne_of_none e hC, ne_of_none e hW0]) (k02 _ _ e)
      exact q H3 up lo k03 (mU2.kp k3 (by simp [nCU.symm, nWU.symm])) (mD2.kp k3 (by simp [nCD.symm, nWD.symm])) (Prd.failed M sr) (pr _ _ .fail)
    · rw [List.concat_eq_append] at sr e3 hwl0 pr ⊢
      have hwl1 : rest.length + 2 * (vs.length - cs.length) ≤ 2 * vs.length := by
        rw [List.length_append] at hwl0
        simp only [List.length_cons, List.length_nil] at hwl0
        omega
      rw [show (!((rest ++ [u]).map V.int).isEmpty) = true by simp]
      refine iteT (w_turn ?_)
      obtain ⟨sr1, hum, hvis⟩ := sr.pop
      rw [List.map_append] at e3
      have e3' : H3 Wy = some (.lst (rest.map V.int ++ [.int u])) := e3
      walk_at "g"
      refine w_pop e3' fun H4 e4 o4 => ?_
      obtain ⟨a, ys, v1, v2, v3, v4⟩ := rv2 u hum
      have k4 : Kp [C, Wy] H2 H4 := k3.trans (o4.kp (by simp))
      have eR4 := k4 _ _ (by simp [nCR.symm, nWR.symm]) eR2
      have v2' := k4 _ _ v4 v2
      have mC4 : MapAt H4 C vs (lookI cs) := mC.kp (o4.kp (M := [Wy]) (by simp)) (by simpa using nCW)
      walk_at "g"
      refine w_slL (.of v2') fun Z H5 hZ eZ k5 => ?_
      rw [cut_last, ← List.map_dropLast] at eZ
      have k5' : Kp [C, Wy] H2 H5 := k4.trans (Kp.of k5)
      have mC5 : MapAt H5 C vs (lookI cs) := mC4.kp (M := []) (Kp.of k5) (by simp)
      have e5 := k5 _ _ e4
      obtain ⟨ck4, cks4, eC4, _⟩ := id mC4
      have nZC : Z ≠ C := (ne_of_none eC4 hZ).symm
      have nZW : Z ≠ Wy := (ne_of_none e4 hZ).symm
      walk_at "g"
      refine lp_rev (xs := ys.dropLast.map V.int) (fun i σ H' => ∃ (cs' : List (Int × Int)) (ways' : List Int) (y7 : Option V), σ = [some (.int v), some (.ref R), some (.ref U), some (.ref D), some (.ref C), some (.ref Wy), some (.int u), y7] ∧ ways'.length + 2 * (vs.length - cs'.length) ≤ rest.length + 2 * (vs.length - cs.length) ∧ Srch vs ls up v cs' ways' (fun w => w = u) ∧ Vis up v cs' u ∧ (∀ up' lo', PR (lowsF ls) up lo cs' ways' (some (u, ys.dropLast.reverse.drop i)) up' lo' → PR (lowsF ls) up lo [] [v] none up' lo') ∧ (∀ l ∈ ys.dropLast.drop (ys.dropLast.length - i), l ∈ cs'.map (·.1)) ∧ Kp [C, Wy] H5 H' ∧ MapAt H' C vs (lookI cs') ∧ H' Wy = some (.lst (ways'.map V.int))) ?_ ?_ ?_ ?_
      · exact ⟨cs, rest, _, rfl, Nat.le_refl _, sr1, hvis, fun _ _ z => pr _ _ (.pop rfl (by rw [lowsF_is v3]; exact z)), fun l hl' => (by rw [Nat.sub_zero, List.drop_length] at hl'; cases hl'), Kp.refl, mC5, e5⟩
      · rintro i σ H' _ ⟨_, _, _, _, _, _, _, _, _, k6, _⟩
        exact .of (k6 _ _ (by simp [nZC, nZW]) eZ)
      · rintro i x σ H6 hi hx ⟨cs', ways', y7, rfl, hm, sr', hvis', pr', hdone, k6, mC6, e6⟩
        rw [List.length_map] at hi hx
        obtain ⟨low, hlow, rfl⟩ := map_at hx
        have hlm : low ∈ ys.dropLast := List.mem_of_getElem? hlow
        have hrd : ys.dropLast.reverse.drop i = low :: ys.dropLast.reverse.drop (i + 1) := drop_of (by rw [List.getElem?_reverse hi]; exact hlow)
        rw [hrd] at pr'
        have hsb : SB ls u low := (row_drop S v3 low).mp hlm
        have hlv : low ∈ vs := hsb.1.mem S hum
        obtain ⟨ck, cks, eC6, c2, c3, c4, c5⟩ := mC6
        have k26 : Kp [C, Wy] H2 H6 := k5'.trans k6
        have mU6 : MapAt H6 U vs up := mU2.kp k26 (by simp [nCU.symm, nWU.symm])
        have mD6 : MapAt H6 D vs lo := mD2.kp k26 (by simp [nCD.symm, nWD.symm])
        have dstep : ∀ l ∈ ys.dropLast.drop (ys.dropLast.length - (i + 1)), l = low ∨ l ∈ ys.dropLast.drop (ys.dropLast.length - i) := fun l hl' => by
          have e1 : ys.dropLast.length - (i + 1) = ys.dropLast.length - 1 - i := by omega
          rw [e1, drop_of hlow] at hl'
          rcases List.mem_cons.mp hl' with a | a
          · exact .inl a
          · exact .inr (by
              have e2 : ys.dropLast.length - 1 - i + 1 = ys.dropLast.length - i := by omega
              rw [e2] at a
              exact a)
        walk_at "g"
        rw [MapAt.in (vs := vs) c5 low]
        refine w_itNB (fun hc => ?_) (fun hc => ?_)
        · -- not come to yet
          have hnin : low ∉ cs'.map (·.1) := lookI_none.mp (by
            cases h : lookI cs' low with
            | none => rfl
            | some z => rw [h] at hc; cases hc)
          have lC : ck.length < sizeLine := small1000 (by have := MapAt.len (p := C) c2 c3 c4; omega)
          walk_at "g"
          refine w_dputI eC6 lC fun H7 e7 o7 => ?_
          have mC7 : MapAt H7 C vs (lookI (cs' ++ [(low, u)])) := by
            rw [lookI_snoc hnin]
            exact MapAt.put c2 c3 c4 c5 hlv e7
          have k7 : Kp [C, Wy] H2 H7 := k26.trans (o7.kp (by simp))
          have mU7 : MapAt H7 U vs up := mU2.kp k7 (by simp [nCU.symm, nWU.symm])
          have mD7 : MapAt H7 D vs lo := mD2.kp k7 (by simp [nCD.symm, nWD.symm])
          obtain ⟨uk7, uks7, eU7, w2, w3, w4, w5⟩ := id mU7
          refine w_seq ?_
          walk_at "g"
          rw [MapAt.in (vs := vs) w5 low]
          refine w_itNB (fun hf => ?_) (fun hf => ?_)
          · -- it is free: the way is given
            have hfree : up low = none := by
              cases h : up low with
              | none => rfl
              | some z => rw [h] at hf; cases hf
            walk_at "g"
            refine ⟨low, v, u, cs'.length, C, U, D, vs, ls, cs' ++ [(low, u)], up, lo, rfl, nCU, nCD, nUD, mC7, mU7, mD7, S, hl, M, hv0, hv, sr'.came.snoc hnin hsb hvis', by simp, hfree, hlv, fun H8 up' lo' k8 mU8 mD8 G gr => ?_⟩
            walk_at "g"
            refine q H8 up' lo' (fun b o hb e => ?_) mU8 mD8 (Prd.given G) (pr' _ _ (.give hnin hfree gr))
            exact k8 _ _ hb (k7 _ _ (by simp [ne_of_none e hC, ne_of_none e hW0]) (k02 _ _ e))
          · obtain ⟨w', ew⟩ := Option.isSome_iff_exists.mp hf
            have evw : valV uk7 (Sum.inl low) = some (.int w') := by rw [w5, ew]; rfl
            have e6' := o7.get nCW.symm e6
            have hwl : ways'.length ≤ 1000 := by
              have := sr'.len
              have := sr.len
              omega
            walk_at "g"
            refine w_app e6' (by rw [List.length_map]; exact small1000 (by omega)) fun H8 e8 o8 => ?_
            obtain ⟨sr8, vis8⟩ := sr'.add M hvis' hnin hsb hlv ew
            refine ⟨cs' ++ [(low, u)], ways' ++ [w'], _, rfl, ?_, sr8, vis8, fun _ _ z => pr' _ _ (.push hnin ew z), fun l hl' => ?_, k6.trans ((o7.kp (by simp)).trans (o8.kp (by simp))), mC7.kp (o8.kp (M := [Wy]) (by simp)) (by simpa using nCW), by rw [e8, List.map_append]; rfl⟩
            · have := sr8.len
              rw [List.length_append, List.length_append]
              rw [List.length_append] at this
              simp only [List.length_cons, List.length_nil] at this ⊢
              omega
            · rw [List.map_append]
              rcases dstep l hl' with h | h
              · exact List.mem_append_right _ (by simp [h])
              · exact List.mem_append_left _ (hdone l h)
        · walk_at "g"
          have hin : low ∈ cs'.map (·.1) := by
            apply Classical.byContradiction
            intro z
            rw [lookI_none.mpr z] at hc
            cases hc
          refine ⟨cs', ways', _, rfl, hm, sr', hvis', fun _ _ z => pr' _ _ (.skip hin z), fun l hl' => ?_, k6, ⟨ck, cks, eC6, c2, c3, c4, c5⟩, e6⟩
          rcases dstep l hl' with h | h
          · rw [h]; exact hin
          · exact hdone l h
      · rintro σ H6 ⟨cs', ways', y7, rfl, hm, sr', hvis', pr', hdone, k6, mC6, e6⟩
        rw [List.length_map, Nat.sub_self, List.drop_zero] at hdone
        refine ⟨ways'.length + 2 * (vs.length - cs'.length), ?_, cs', ways', _, _, rfl, rfl, by omega, sr'.done fun l hl' => hdone l ((row_drop S v3 l).mpr hl'), fun _ _ z => pr' _ _ (by rw [List.drop_of_length_le (by rw [List.length_reverse, List.length_map]; omega)]; exact .over z), k5'.trans k6, mC6, e6⟩
        rw [List.length_append]
        simp only [List.length_cons, List.length_nil]
        omega
end
/-! ### those that stand apart -/
inductive Rch (vs : List Int) (ls : List (Int × Int)) (up lo : Int → Option Int) : Int → Prop where
  | free {x : Int} (h : x ∈ vs) (e : lo x = none) : Rch vs ls up lo x
  | on {u r x : Int} (h : Rch vs ls up lo u) (s : SB ls u r) (e : up r = some x) : Rch vs ls up lo x
def RchR (vs : List Int) (ls : List (Int × Int)) (up lo : Int → Option Int) (r : Int) : Prop := ∃ u, Rch vs ls up lo u ∧ SB ls u r
noncomputable def apartB (vs : List Int) (ls : List (Int × Int)) (up lo : Int → Option Int) (x : Int) : Bool := @decide (Rch vs ls up lo x ∧ ¬ RchR vs ls up lo x) (Classical.propDecidable _)
noncomputable def apartL (vs : List Int) (ls : List (Int × Int)) (up lo : Int → Option Int) : List Int := vs.filter (apartB vs ls up lo)
theorem apartB_iff {vs : List Int} {ls : List (Int × Int)} {up lo : Int → Option Int} {x : Int} : apartB vs ls up lo x = true ↔ Rch vs ls up lo x ∧ ¬ RchR vs ls up lo x := by unfold apartB; exact @decide_eq_true_iff _ (Classical.propDecidable _)
/-- from those that are free one comes to such alone as have a partner -/
def Full (vs : List Int) (ls : List (Int × Int)) (up lo : Int → Option Int) : Prop := ∀ x ∈ vs, (lo x).isSome = true ∨ ∃ L R, Cl ls up L R ∧ L x
theorem Full.reach {vs : List Int} {ls : List (Int × Int)} {up lo : Int → Option Int} (F : Full vs ls up lo) {x : Int} (h : Rch vs ls up lo x) : ∃ L R, Cl ls up L R ∧ L x := by
  induction h with
  | free h e =>
    rcases F _ h with a | a
    · rw [e] at a; cases a
    · exact a
  | on h s e ih =>
    obtain ⟨L, R, c, hl⟩ := ih
    obtain ⟨u, e2, hu⟩ := c.bk _ (c.dn _ hl _ s)
    rw [e] at e2
    cases e2
    exact ⟨L, R, c, hu⟩
theorem Full.some {vs : List Int} {ls : List (Int × Int)} {up lo : Int → Option Int} (F : Full vs ls up lo) {u r : Int} (h : Rch vs ls up lo u) (s : SB ls u r) : ∃ w, up r = some w := by
  obtain ⟨L, R, c, hl⟩ := F.reach h
  obtain ⟨w, e, _⟩ := c.bk _ (c.dn _ hl _ s)
  exact ⟨w, e⟩
structure Apt (vs : List Int) (ls : List (Int × Int)) (up lo : Int → Option Int) (Lk Rk ways : List Int) (ex : Int → Prop) : Prop where
  nl : Lk.Nodup
  nr : Rk.Nodup
  fl : ∀ x ∈ vs, lo x = none → x ∈ Lk
  lm : ∀ x ∈ Lk, x ∈ vs ∧ Rch vs ls up lo x
  rm : ∀ r ∈ Rk, r ∈ vs ∧ RchR vs ls up lo r ∧ ∃ u, up r = some u ∧ u ∈ Lk
  wy : ∀ x ∈ ways, x ∈ Lk
  dn : ∀ x ∈ Lk, x ∉ ways → ¬ ex x → ∀ l, SB ls x l → l ∈ Rk
theorem Apt.pop {vs : List Int} {ls : List (Int × Int)} {up lo : Int → Option Int} {Lk Rk ways : List Int} {u : Int} (a : Apt vs ls up lo Lk Rk (ways ++ [u]) (fun _ => False)) : Apt vs ls up lo Lk Rk ways (fun w => w = u) ∧ u ∈ Lk :=
  ⟨⟨a.nl, a.nr, a.fl, a.lm, a.rm, fun x hx => a.wy x (List.mem_append_left _ hx), fun x hx hn hne => a.dn x hx (fun z => by
    rcases List.mem_append.mp z with h | h
    · exact hn h
    · exact hne (by simpa using h)) (fun z => z)⟩, a.wy u (by simp)⟩
theorem Apt.done {vs : List Int} {ls : List (Int × Int)} {up lo : Int → Option Int} {Lk Rk ways : List Int} {u : Int} (a : Apt vs ls up lo Lk Rk ways (fun w => w = u)) (h : ∀ l, SB ls u l → l ∈ Rk) : Apt vs ls up lo Lk Rk ways (fun _ => False) :=
  ⟨a.nl, a.nr, a.fl, a.lm, a.rm, a.wy, fun x hx hn _ l hl => by
    by_cases e : x = u
    · subst e; exact h l hl
    · exact a.dn x hx hn e l hl⟩
/-- a low that was not come to; its partner is new, or not -/
theorem Apt.add {vs : List Int} {ls : List (Int × Int)} {up lo : Int → Option Int} {Lk Rk ways ways' : List Int} {u low w : Int} (M : Mt vs ls up lo) (a : Apt vs ls up lo Lk Rk ways (fun w => w = u)) (hu : u ∈ Lk) (hn : low ∉ Rk) (hs : SB ls u low) (hm : low ∈ vs) (e : up low = some w)
    (hw : ways' = ways ++ [w] ∨ (w ∈ Lk ∧ ways' = ways)) : Apt vs ls up lo (addK Lk w) (addK Rk low) ways' (fun w => w = u) := by
  have rw' : Rch vs ls up lo w := .on (a.lm u hu).2 hs e
  refine ⟨nd_addK a.nl, nd_addK a.nr, fun x hx h => mem_addK.mpr (.inl (a.fl x hx h)), fun x hx => ?_, fun r hr => ?_, fun x hx => ?_, fun x hx hx2 hne l hl => ?_⟩
  · rcases mem_addK.mp hx with h | rfl
    · exact a.lm x h
    · exact ⟨(M.ok _ _ e).2.1, rw'⟩
  · rcases mem_addK.mp hr with h | rfl
    · obtain ⟨h1, h2, u', h3, h4⟩ := a.rm r h
      exact ⟨h1, h2, u', h3, mem_addK.mpr (.inl h4)⟩
    · exact ⟨hm, ⟨u, (a.lm u hu).2, hs⟩, w, e, mem_addK.mpr (.inr rfl)⟩
  · rcases hw with rfl | ⟨h, rfl⟩
    · rcases List.mem_append.mp hx with h | h
      · exact mem_addK.mpr (.inl (a.wy x h))
      · exact mem_addK.mpr (.inr (by simpa using h))
    · exact mem_addK.mpr (.inl (a.wy x hx))
  · have old : x ∈ Lk ∧ x ∉ ways := by
      rcases hw with rfl | ⟨h, rfl⟩
      · refine ⟨?_, fun z => hx2 (List.mem_append_left _ z)⟩
        rcases mem_addK.mp hx with h | rfl
        · exact h
        · exact absurd (by simp) hx2
      · refine ⟨?_, hx2⟩
        rcases mem_addK.mp hx with h' | rfl
        · exact h'
        · exact h
    exact mem_addK.mpr (.inl (a.dn x old.1 old.2 hne l hl))
theorem Apt.end' {vs : List Int} {ls : List (Int × Int)} {up lo : Int → Option Int} {Lk Rk : List Int} (a : Apt vs ls up lo Lk Rk [] (fun _ => False)) : (∀ x, x ∈ Lk ↔ Rch vs ls up lo x) ∧ ∀ x, x ∈ Rk ↔ RchR vs ls up lo x := by
  have h1 : ∀ x, Rch vs ls up lo x → x ∈ Lk := fun x h => by
    induction h with
    | free h e => exact a.fl _ h e
    | on h s e ih =>
      obtain ⟨_, _, u, e2, hu⟩ := a.rm _ (a.dn _ ih (by simp) (fun z => z) _ s)
      rw [e] at e2
      cases e2
      exact hu
  exact ⟨fun x => ⟨fun h => (a.lm x h).2, h1 x⟩, fun x => ⟨fun h => (a.rm x h).2.1, fun ⟨u, h, s⟩ => a.dn u (h1 u h) (by simp) (fun z => z) x s⟩⟩
def freeL (vs : List Int) (lo : Int → Option Int) : List Int := vs.filter fun x => (lo x).isNone
theorem mem_freeL {vs : List Int} {lo : Int → Option Int} {x : Int} : x ∈ freeL vs lo ↔ x ∈ vs ∧ lo x = none := by
  unfold freeL
  rw [List.mem_filter]
  simp
theorem rise_nodup {xs : List Int} (h : xs.Pairwise (· < ·)) : xs.Nodup := h.imp fun {a b} h => Int.ne_of_lt h
theorem same_len {xs ys : List Int} (h1 : xs.Nodup) (h2 : ys.Nodup) (h : ∀ x, x ∈ xs ↔ x ∈ ys) : xs.length = ys.length :=
  Nat.le_antisymm (nodup_le _ _ h1 fun x hx => (h x).mp hx) (nodup_le _ _ h2 fun x hx => (h x).mpr hx)
structure IsApart (vs : List Int) (ls : List (Int × Int)) (lo : Int → Option Int) (aps : List Int) : Prop where
  rise : aps.Pairwise (· < ·)
  mem : ∀ x ∈ aps, x ∈ vs
  anti : ∀ a ∈ aps, ∀ b ∈ aps, a ≠ b → ¬ Bel ls a b
  len : aps.length = (freeL vs lo).length
theorem apart_is {vs : List Int} {ls : List (Int × Int)} {up lo : Int → Option Int} {Lk Rk : List Int} (S : ShOk vs ls) (M : Mt vs ls up lo) (a : Apt vs ls up lo Lk Rk [] (fun _ => False)) : IsApart vs ls lo (apartL vs ls up lo) := by
  obtain ⟨hL, hR⟩ := a.end'
  have vn := rise_nodup S.vr
  have mem : ∀ x, x ∈ apartL vs ls up lo ↔ x ∈ Lk ∧ x ∉ Rk := fun x => by
    unfold apartL
    rw [List.mem_filter, apartB_iff, hL, hR]
    constructor
    · exact fun h => h.2
    · exact fun h => ⟨(a.lm x ((hL x).mpr h.1)).1, h⟩
  have sub : ∀ r ∈ Rk, r ∈ Lk := fun r hr => by
    obtain ⟨hv, ⟨u, hu, hs⟩, _⟩ := a.rm r hr
    cases e : lo r with
    | none => exact a.fl r hv e
    | some r' =>
      have e2 := (M.iff r' r).mpr e
      have hs2 := hs.trans S (M.ok _ _ e2).2.2
      exact (hL r).mpr (.on hu hs2 e2)
  refine ⟨S.vr.filter _, fun x hx => (List.mem_filter.mp hx).1, fun x hx y hy hne hb => ?_, ?_⟩
  · exact ((mem y).mp hy).2 (a.dn x ((mem x).mp hx).1 (by simp) (fun z => z) y ⟨hb, fun z => hne z.symm⟩)
  · have n1 : (apartL vs ls up lo).Nodup := vn.filter _
    have e1 : Lk.length = (apartL vs ls up lo ++ Rk).length := same_len a.nl (List.nodup_append.mpr ⟨n1, a.nr, fun x hx y hy z => ((mem x).mp hx).2 (by rw [z]; exact hy)⟩) fun x => by
      rw [List.mem_append, mem]
      constructor
      · intro h
        by_cases q : x ∈ Rk
        · exact .inr q
        · exact .inl ⟨h, q⟩
      · rintro (h | h)
        · exact h.1
        · exact sub x h
    have inj : (Rk.map fun r => (up r).getD 0).Nodup := by
      unfold List.Nodup
      rw [List.pairwise_map]
      refine List.Pairwise.imp_of_mem (fun {x y} hx hy hne z => ?_) a.nr
      obtain ⟨_, _, u1, h1, _⟩ := a.rm x hx
      obtain ⟨_, _, u2, h2, _⟩ := a.rm y hy
      rw [h1, h2] at z
      have z' : u1 = u2 := z
      subst z'
      have g1 := (M.iff _ _).mp h1
      have g2 := (M.iff _ _).mp h2
      rw [g1] at g2
      exact hne (Option.some.inj g2)
    have e2 : Lk.length = (freeL vs lo ++ Rk.map fun r => (up r).getD 0).length := same_len a.nl (List.nodup_append.mpr ⟨vn.filter _, inj, fun x hx y hy z => by
        obtain ⟨r, hr, rfl⟩ := List.mem_map.mp hy
        obtain ⟨_, _, u1, h1, _⟩ := a.rm r hr
        rw [h1] at z
        have z' : x = u1 := z
        subst z'
        have g := (M.iff _ _).mp h1
        rw [(mem_freeL.mp hx).2] at g
        cases g⟩) fun x => by
      rw [List.mem_append]
      constructor
      · intro h
        cases e : lo x with
        | none => exact .inl (mem_freeL.mpr ⟨(a.lm x h).1, e⟩)
        | some r =>
          refine .inr (List.mem_map.mpr ⟨r, ?_, ?_⟩)
          · cases (hL x).mp h with
            | free hv e2 => rw [e] at e2; cases e2
            | on hu hs e2 =>
              have g := (M.iff _ _).mp e2
              rw [e] at g
              cases g
              exact a.dn _ ((hL _).mpr hu) (by simp) (fun z => z) _ hs
          · rw [(M.iff r x).mpr e]
            rfl
      · rintro (h | h)
        · exact a.fl x (mem_freeL.mp h).1 (mem_freeL.mp h).2
        · obtain ⟨r, hr, rfl⟩ := List.mem_map.mp h
          obtain ⟨_, _, u1, h1, h2⟩ := a.rm r hr
          rw [h1]
          exact h2
    rw [List.length_append] at e1 e2
    rw [List.length_map] at e2
    omega
theorem merge_found (f : Int → V) : ∀ (ns : List Int) (acc : List (Key × V)) (ks : List Int), acc.map (·.1) = ks.map (Sum.inl : Int → Key) → ks.Nodup → ∃ ks' : List Int, (mergeK acc (ns.map fun i => ((Sum.inl i : Key), f i))).map (·.1) = ks'.map (Sum.inl : Int → Key) ∧ ks'.Nodup ∧ ∀ x, x ∈ ks' ↔ x ∈ ks ∨ x ∈ ns
  | [], acc, ks, h1, h2 => ⟨ks, h1, h2, fun x => by simp⟩
  | n :: r, acc, ks, h1, h2 => by
    obtain ⟨ks', g1, g2, g3⟩ := merge_found f r (putK acc (Sum.inl n) (f n)) (addK ks n) (putK_keys h1) (nd_addK h2)
    refine ⟨ks', g1, g2, fun x => ?_⟩
    rw [g3, mem_addK, List.mem_cons, or_assoc]
def spApart : Sp := fun as H Q _ => ∃ (Vt R U D : Addr) (kvs : List (Key × V)) (vs : List Int) (ls : List (Int × Int)) (up lo : Int → Option Int), as = [.ref Vt, .ref R, .ref U, .ref D] ∧ VL H Vt vs ∧ H R = some (.dK kvs) ∧ RowsV [] H kvs ls vs ∧ MapAt H U vs up ∧ MapAt H D vs lo ∧
  ShOk vs ls ∧ vs.length < 64 ∧ Mt vs ls up lo ∧ Full vs ls up lo ∧ ∀ H' p, Same H H' → VL H' p (apartL vs ls up lo) → IsApart vs ls lo (apartL vs ls up lo) → Q (.ref p) H'
def pickI (p : Int → Bool) (x : Int) : Option V := if p x = true then some (.int x) else none
theorem pickI_yes {p : Int → Bool} {x : Int} (h : p x = true) : pickI p x = some (.int x) := if_pos h
theorem pickI_no {p : Int → Bool} {x : Int} (h : ¬ p x = true) : pickI p x = none := if_neg h
theorem sel_yes {vs : List Int} {i : Nat} {y : Int} {p : Int → Bool} (hy : vs[i]? = some y) (h : p y = true) : vs[i]?.bind (pickI p) = some (.int y) := by
  rw [hy]
  show (if p y = true then some (V.int y) else none) = _
  rw [if_pos h]
theorem sel_no {vs : List Int} {i : Nat} {y : Int} {p : Int → Bool} (hy : vs[i]? = some y) (h : ¬ p y = true) : vs[i]?.bind (pickI p) = none := by
  rw [hy]
  show (if p y = true then some (V.int y) else none) = _
  rw [if_neg h]
theorem pickI_map (p : Int → Bool) : ∀ vs : List Int, vs.filterMap (pickI p) = (vs.filter p).map V.int
  | [] => rfl
  | x :: r => by
    have h := pickI_map p r
    by_cases e : p x = true
    · rw [List.filterMap_cons, List.filter_cons, if_pos e, pickI_yes e]
      show V.int x :: r.filterMap (pickI p) = _
      rw [h]
      rfl
    · rw [List.filterMap_cons, List.filter_cons, if_neg e, pickI_no e]
      exact h
section
variable {P : Program} {w : World} {K : PySem.W.Frag} {mg : Str → Option Value} {base : Heap}
theorem ok_apart {f : Addr} {fd : FuncData} (T : Txt K mg) (F : Fun K "apart_of" "apart_of" s_apart_of f fd) : FnOk P w K mg base CX0 1 f fd ["versions", "rows", "uppers", "lowers"] spApart := by
  refine F.ok sc_apart_of (fun vs H Q E h => ?_) (fun cdv A outer s H vs Q E hr h => ?_)
  · obtain ⟨Vt, R, U, D, kvs, vs, ls, up, lo, rfl, _⟩ := h
    rfl
  · obtain ⟨Vt, R, U, D, kvs, vs, ls, up, lo, rfl, hV, eR, rv, mU, mD, S, hl, M, Fu, q⟩ := h
    have hu := hu_of hr
    have hV' : H Vt = some (.tup (vs.map V.int)) := hV
    obtain ⟨uk, uks, eU, u2, u3, u4, u5⟩ := id mU
    obtain ⟨dk, dks, eD, d2, d3, d4, d5⟩ := id mD
    refine ⟨_,
      (pss_cons
        (ps_setLc (i := 4) (own := [("version", 7)]) (g := (gName 7)) rfl sc_apart_of.nd rfl rfl (sw_true rfl rfl rfl (by decide +kernel)) (pi_tup (pv 0)) (blkOk_by (own := [("version", 7)]) (N := N_apart_of) (sc := defScope s_apart_of) (by decide +kernel)) (fun _ _ _ _ _ => (pg_name (i := 7) sc_apart_of.nd rfl (.inl rfl))) (fun _ _ _ _ _ => (pts_one (pt_cmp (pc_dnotin hu (pv 7) (pv 3))))) (fun _ _ _ _ _ => (pv 7)))
      (pss_cons
        (ps_set (i := 5) sc_apart_of.nd rfl (.inr rfl) (pe_dc (own := [("version", 7)]) (g := (gName 7)) rfl sc_apart_of.nd (pi_list (pv 4)) (blkOk_by (own := [("version", 7)]) (N := N_apart_of) (sc := defScope s_apart_of) (by decide +kernel)) (fun _ _ _ _ _ => (pg_name (i := 7) sc_apart_of.nd rfl (.inl rfl))) (fun _ _ _ _ _ => pts_nil) (fun _ _ _ _ _ => (pv 7)) (fun _ _ _ _ _ => pe_bl)))
      (pss_cons
        (ps_set (i := 6) sc_apart_of.nd rfl (.inr rfl) pe_dnewK)
      (pss_cons
        (ps_while PassesOwn.never (p_truth (pv 4) (by intro _; rfl))
          (pss_cons
            (ps_set (i := 7) sc_apart_of.nd rfl (.inl rfl) (pe_bm0 PySem.F.plainAttrs_list PySem.F.slot_list_pop PySem.F.type_list_pop mt_pop (pv 4)))
          (pss_one
            (ps_for PassesOwn.never rfl (pi_list (pe_slice sl_list (pe_dget hu (pv 1) (pv 7) (fun _ _ => rfl)) po_none (po_some (pe_un un_neg pe_int)))) (pg_name (i := 8) sc_apart_of.nd rfl (.inl rfl))
              (pss_one
                (ps_if (pt_cmp (pc_dnotin hu (pv 8) (pv 6)))
                  (pss_cons
                    (ps_dput hu (pv 6) (pv 8) pe_bl rfl)
                  (pss_one
                    (ps_if (pt_cmp (pc_dnotin hu (pe_dget hu (pv 2) (pv 8) (fun _ _ => rfl)) (pv 5)))
                      (pss_cons
                        (ps_dput hu (pv 5) (pe_dget hu (pv 2) (pv 8) (fun _ _ => rfl)) pe_bl rfl)
                      (pss_one
                        (ps_expr (pe_bm PySem.F.plainAttrs_list PySem.F.slot_list_append PySem.F.type_list_append mt_append (pv 4) (pa_cons (pe_dget hu (pv 2) (pv 8) (fun _ _ => rfl)) pa_nil)))))
                      pss_nil)))
                  pss_nil))))))
      (pss_one
        (ps_ret (pe_callTy (r := rTupOf K) c_tupOf (by rfl) T.n_tuple (by decide +kernel) (pa_cons (pe_lc (own := [("version", 7)]) (g := (gName 7)) rfl sc_apart_of.nd (pi_tup (pv 0)) (blkOk_by (own := [("version", 7)]) (N := N_apart_of) (sc := defScope s_apart_of) (by decide +kernel)) (fun _ _ _ _ _ => (pg_name (i := 7) sc_apart_of.nd rfl (.inl rfl))) (fun _ _ _ _ _ => (pts_one (PW.pt (pw_and (pt_cmp (pc_din hu (pv 7) (pv 5))) (pw_and1 (pt_cmp (pc_dnotin hu (pv 7) (pv 6)))))))) (fun _ _ _ _ _ => (pv 7))) pa_nil))))))))
      , ?_⟩
    rw [show L2.start N_apart_of [V.ref Vt, V.ref R, V.ref U, V.ref D] = [some (.ref Vt), some (.ref R), some (.ref U), some (.ref D), none, none, none, none, none] from rfl]
    walk_at "x"
    refine lcp_sel (walk_tup (K := K) (a := Vt) (xs := vs.map V.int)) [] (fun i => vs[i]?.bind (pickI fun x => (lo x).isNone)) (by rw [List.length_map]; omega) (fun H' k => .of (k _ _ (by simp) hV')) ?_ (by simp) ?_
    · rintro i x H1 H2 Rr R0 hi k1 ⟨rfl, hx⟩ h1 h2
      obtain ⟨y, hy, rfl⟩ := map_at hx
      have eD1 := k1 _ _ (by simp) eD
      refine w_name ⟨rfl, ?_⟩
      walk_at "g"
      rw [MapAt.in (vs := vs) d5 y]
      refine w_itNB (fun hb => ?_) (fun hb => ?_)
      · walk_at "g"
        exact h1 _ _ (sel_yes (p := fun x => (lo x).isNone) hy (by rw [Option.isNone_iff_eq_none]; simpa using hb)) Kp.refl
      · exact h2 _ (sel_no (p := fun x => (lo x).isNone) hy (fun z => by rw [Option.isNone_iff_eq_none] at z; rw [z] at hb; cases hb)) Kp.refl
    · intro Wy H1 hW k1' eW
      rw [List.length_map, range_fm, pickI_map] at eW
      have eW' : H1 Wy = some (.lst ((freeL vs lo).map V.int)) := eW
      have k1 := k1'.same
      have fll : (freeL vs lo).length ≤ vs.length := List.length_filter_le _ _
      walk_at "g"
      refine dcp_map (walk_list (K := K) (a := Wy) (xs := (freeL vs lo).map V.int)) [] ((freeL vs lo).map fun x => ((Sum.inl x : Key), V.bl true)) (by simp) (by rw [List.length_map]; omega) (fun H' k => .of (k _ _ (by simp) eW')) ?_ (by simp) ?_
      · rintro i x H2 H3 Rr hi k2 ⟨rfl, hx⟩ h1
        obtain ⟨y, hy, rfl⟩ := map_at hx
        refine w_name ⟨rfl, ?_⟩
        walk_at "g"
        exact h1 (Sum.inl y, .bl true) _ (by rw [List.getElem?_map, hy]; rfl) Kp.refl
      · intro Ld H2 hL k2' eL
        have k2 := k2'.same
        obtain ⟨Lk0, l1, l2, l3⟩ := merge_found (fun _ => V.bl true) (freeL vs lo) [] [] rfl List.nodup_nil
        walk_at "g"
        refine w_new fun Rd H3 hR eRd k3 => ?_
        have nWL : Wy ≠ Ld := ne_of_none eW hL
        have nWR : Wy ≠ Rd := ne_of_none (k2 _ _ eW) hR
        have nLR : Ld ≠ Rd := ne_of_none eL hR
        have k03 : Same H H3 := Same.trans k1 (Same.trans k2 k3)
        have fW : H Wy = none := hW
        have fL : H Ld = none := k1.free hL
        have fR : H Rd = none := k1.free (k2.free hR)
        have off : ∀ {b : Addr} {o : HO}, H b = some o → b ∉ [Wy, Ld, Rd] := fun {b o} e => by simp [ne_of_none e fW, ne_of_none e fL, ne_of_none e fR]
        have eW3 := k3 _ _ (k2 _ _ eW')
        walk_at "g"
        refine w_whileN (fun m σ H' => ∃ (Lk Rk ways : List Int) (y7 y8 : Option V), σ = [some (.ref Vt), some (.ref R), some (.ref U), some (.ref D), some (.ref Wy), some (.ref Ld), some (.ref Rd), y7, y8] ∧ m = ways.length + (vs.length - Lk.length) ∧ Apt vs ls up lo Lk Rk ways (fun _ => False) ∧ Kp [Wy, Ld, Rd] H3 H' ∧ FoundAt H' Ld Lk ∧ FoundAt H' Rd Rk ∧ H' Wy = some (.lst (ways.map V.int)) ∧ ways.length + (vs.length - Lk.length) ≤ 200) ((freeL vs lo).length + (vs.length - Lk0.length)) ?_ ?_
        · refine ⟨Lk0, [], freeL vs lo, _, _, rfl, rfl, ⟨l2, List.nodup_nil, fun x hx e => (l3 x).mpr (.inr (mem_freeL.mpr ⟨hx, e⟩)), fun x hx => ?_, by simp, fun x hx => (l3 x).mpr (.inr hx), fun x hx hn => ?_⟩, Kp.refl, ⟨⟨_, k3 _ _ eL, l1⟩, l2⟩, ⟨⟨[], eRd, rfl⟩, List.nodup_nil⟩, eW3, by omega⟩
          · rcases (l3 x).mp hx with h | h
            · cases h
            · exact ⟨(mem_freeL.mp h).1, .free (mem_freeL.mp h).1 (mem_freeL.mp h).2⟩
          · rcases (l3 x).mp hx with h | h
            · cases h
            · exact absurd h hn
        · rintro m σ H4 ⟨Lk, Rk, ways, y7, y8, rfl, rfl, ap, k4, FL, FR', e4, hm200⟩
          walk_at "g"
          rcases List.eq_nil_or_concat ways with rfl | ⟨rest, u, rfl⟩
          · obtain ⟨hLi, hRi⟩ := ap.end'
            obtain ⟨⟨lk, eL4, hlk⟩, _⟩ := FL
            obtain ⟨⟨rk, eR4, hrk⟩, _⟩ := FR'
            have eV4 := k4 _ _ (off hV') (k03 _ _ hV')
            refine (iteF ?_ : if false = true then _ else _)
            walk_at "g"
            refine lcp_sel (walk_tup (K := K) (a := Vt) (xs := vs.map V.int)) [] (fun i => vs[i]?.bind (pickI (apartB vs ls up lo))) (by rw [List.length_map]; omega) (fun H' k => .of (k _ _ (by simp) eV4)) ?_ (by simp) ?_
            · rintro i x H5 H6 Rr R0 hi k5 ⟨rfl, hx⟩ h1 h2
              obtain ⟨y, hy, rfl⟩ := map_at hx
              have eL5 := k5 _ _ (by simp) eL4
              have eR5 := k5 _ _ (by simp) eR4
              refine w_name ⟨rfl, ?_⟩
              walk_at "g"
              rw [val_keys hlk y]
              refine w_ite (fun hz => ?_) (fun hz => ?_)
              · walk_at "g"
                rw [val_keys hrk y]
                refine w_itN (fun hz2 => ?_) (fun hz2 => ?_)
                · walk_at "g"
                  exact h1 _ _ (sel_yes hy (apartB_iff.mpr ⟨(hLi y).mp hz, fun z => hz2 ((hRi y).mpr z)⟩)) Kp.refl
                · exact h2 _ (sel_no hy (fun z => (apartB_iff.mp z).2 ((hRi y).mp hz2))) Kp.refl
              · walk_at "g"
                exact h2 _ (sel_no hy (fun z => hz ((hLi y).mpr (apartB_iff.mp z).1))) Kp.refl
            · intro G H5 hG k5' eG
              rw [List.length_map, range_fm, pickI_map] at eG
              have eG' : H5 G = some (.lst ((apartL vs ls up lo).map V.int)) := eG
              walk_at "g"
              refine w_tupL (.of eG') fun p H6 hp ep k6 => ?_
              refine q H6 p (fun b o e => k6 _ _ (k5'.same _ _ (k4 _ _ (off e) (k03 _ _ e)))) ep (apart_is S M ap)
          · rw [List.concat_eq_append] at ap e4 hm200 ⊢
            rw [show (!((rest ++ [u]).map V.int).isEmpty) = true by simp]
            refine iteT (w_turn ?_)
            obtain ⟨ap1, huL⟩ := ap.pop
            have hum : u ∈ vs := (ap.lm u huL).1
            rw [List.map_append] at e4
            have e4' : H4 Wy = some (.lst (rest.map V.int ++ [.int u])) := e4
            walk_at "g"
            refine w_pop e4' fun H5 e5 o5 => ?_
            obtain ⟨a, ys, v1, v2, v3, _⟩ := rv u hum
            have k5 : Kp [Wy, Ld, Rd] H3 H5 := k4.trans (o5.kp (by simp))
            have eR5 := k5 _ _ (off eR) (k03 _ _ eR)
            have v2' := k5 _ _ (off v2) (k03 _ _ v2)
            walk_at "g"
            refine w_slL (.of v2') fun Z H6 hZ eZ k6 => ?_
            rw [cut_last, ← List.map_dropLast] at eZ
            have k6' : Kp [Wy, Ld, Rd] H3 H6 := k5.trans (Kp.of k6)
            obtain ⟨⟨lk, eL4, hlk⟩, nL4⟩ := FL
            obtain ⟨⟨rk, eR4, hrk⟩, nR4⟩ := FR'
            have eL5 := o5.get nWL.symm eL4
            have eRd5 := o5.get nWR.symm eR4
            have nZ : Z ∉ [Wy, Ld, Rd] := by simp [(ne_of_none e5 hZ).symm, (ne_of_none eL5 hZ).symm, (ne_of_none eRd5 hZ).symm]
            have rl : rest.length + 1 + (vs.length - Lk.length) ≤ 200 := by
              rw [List.length_append] at hm200
              simpa using hm200
            walk_at "g"
            refine lp_list (xs := ys.dropLast.map V.int) (fun i σ H' => ∃ (Lk' Rk' ways' : List Int) (y8 : Option V), σ = [some (.ref Vt), some (.ref R), some (.ref U), some (.ref D), some (.ref Wy), some (.ref Ld), some (.ref Rd), some (.int u), y8] ∧ ways'.length + (vs.length - Lk'.length) ≤ rest.length + (vs.length - Lk.length) ∧ Apt vs ls up lo Lk' Rk' ways' (fun w => w = u) ∧ u ∈ Lk' ∧ (∀ l ∈ ys.dropLast.take i, l ∈ Rk') ∧ Kp [Wy, Ld, Rd] H6 H' ∧ FoundAt H' Ld Lk' ∧ FoundAt H' Rd Rk' ∧ H' Wy = some (.lst (ways'.map V.int))) ?_ ?_ ?_ ?_
            · exact ⟨Lk, Rk, rest, _, rfl, Nat.le_refl _, ap1, huL, by simp, Kp.refl, ⟨⟨lk, k6 _ _ eL5, hlk⟩, nL4⟩, ⟨⟨rk, k6 _ _ eRd5, hrk⟩, nR4⟩, k6 _ _ e5⟩
            · rintro i σ H' _ ⟨_, _, _, _, _, _, _, _, _, k7, _⟩
              exact .of (k7 _ _ nZ eZ)
            · rintro i x σ H7 hx ⟨Lk', Rk', ways', y8, rfl, hm, ap', huL', hdone, k7, ⟨⟨lk7, eL7, hlk7⟩, nL7⟩, ⟨⟨rk7, eR7, hrk7⟩, nR7⟩, e7⟩
              obtain ⟨low, hlow, rfl⟩ := map_at hx
              have hsb : SB ls u low := (row_drop S v3 low).mp (List.mem_of_getElem? hlow)
              have hlv : low ∈ vs := hsb.1.mem S hum
              have k37 : Kp [Wy, Ld, Rd] H3 H7 := k6'.trans k7
              have eU7 := k37 _ _ (off eU) (k03 _ _ eU)
              obtain ⟨w', ew⟩ := Fu.some (ap'.lm u huL').2 hsb
              have evw : valV uk (Sum.inl low) = some (.int w') := by rw [u5, ew]; rfl
              have lR : rk7.length < sizeLine := small1000 (by have := MapAt.len (p := Rd) (vs := vs) hrk7 nR7 (fun x hx => (ap'.rm x hx).1); omega)
              have lL : lk7.length < sizeLine := small1000 (by have := MapAt.len (p := Ld) (vs := vs) hlk7 nL7 (fun x hx => (ap'.lm x hx).1); omega)
              have lLk : Lk'.length ≤ vs.length := nodup_le _ _ ap'.nl fun x hx => (ap'.lm x hx).1
              have tk : ∀ l ∈ ys.dropLast.take (i + 1), l ∈ ys.dropLast.take i ∨ l = low := fun l hl' => by
                rw [List.take_add_one, hlow] at hl'
                simpa using hl'
              walk_at "g"
              rw [val_keys hrk7 low]
              refine w_itN (fun hc => ?_) (fun hc => ?_)
              · walk_at "g"
                refine w_dputI eR7 lR fun H8 e8 o8 => ?_
                have eL8 := o8.get nLR eL7
                have eU8 := o8.get (ne_of_none eU fR) eU7
                have e7' := o8.get nWR e7
                walk_at "g"
                rw [val_keys hlk7 w']
                refine w_itN (fun hd => ?_) (fun hd => ?_)
                · walk_at "g"
                  refine w_dputI eL8 lL fun H9 e9 o9 => ?_
                  have eU9 := o9.get (ne_of_none eU fL) eU8
                  have e9' := o9.get nWL e7'
                  walk_at "g"
                  refine w_app e9' (by rw [List.length_map]; exact small1000 (by omega)) fun H10 e10 o10 => ?_
                  have ap10 := ap'.add M huL' hc hsb hlv ew (.inl rfl)
                  have la : (addK Lk' w').length = Lk'.length + 1 := by
                    unfold addK
                    rw [if_neg hd]
                    simp
                  have lb : (addK Lk' w').length ≤ vs.length := nodup_le _ _ ap10.nl fun x hx => (ap10.lm x hx).1
                  refine ⟨addK Lk' w', addK Rk' low, ways' ++ [w'], _, rfl, ?_, ap10, mem_addK.mpr (.inl huL'), fun l hl' => ?_, k7.trans ((o8.kp (by simp)).trans ((o9.kp (by simp)).trans (o10.kp (by simp)))), FoundAt.put hlk7 nL7 (o10.get nWL.symm e9), FoundAt.put hrk7 nR7 (o10.get nWR.symm (o9.get nLR.symm e8)), by rw [e10, List.map_append]; rfl⟩
                  · rw [List.length_append, la]
                    simp only [List.length_cons, List.length_nil]
                    omega
                  · rcases tk l hl' with h | h
                    · exact mem_addK.mpr (.inl (hdone l h))
                    · exact mem_addK.mpr (.inr h)
                · walk_at "g"
                  have ap10 := ap'.add (ways' := ways') M huL' hc hsb hlv ew (.inr ⟨hd, rfl⟩)
                  have la : addK Lk' w' = Lk' := if_pos hd
                  rw [la] at ap10
                  refine ⟨Lk', addK Rk' low, ways', _, rfl, hm, ap10, huL', fun l hl' => ?_, k7.trans (o8.kp (by simp)), ⟨⟨lk7, eL8, hlk7⟩, nL7⟩, FoundAt.put hrk7 nR7 e8, e7'⟩
                  rcases tk l hl' with h | h
                  · exact mem_addK.mpr (.inl (hdone l h))
                  · exact mem_addK.mpr (.inr h)
              · walk_at "g"
                refine ⟨Lk', Rk', ways', _, rfl, hm, ap', huL', fun l hl' => ?_, k7, ⟨⟨lk7, eL7, hlk7⟩, nL7⟩, ⟨⟨rk7, eR7, hrk7⟩, nR7⟩, e7⟩
                rcases tk l hl' with h | h
                · exact hdone l h
                · rw [h]; exact hc
            · rintro σ H7 ⟨Lk', Rk', ways', y8, rfl, hm, ap', huL', hdone, k7, FL7, FR7, e7⟩
              rw [List.length_map, List.take_length] at hdone
              refine ⟨ways'.length + (vs.length - Lk'.length), ?_, Lk', Rk', ways', _, _, rfl, rfl, ap'.done fun l hl' => hdone l ((row_drop S v3 l).mpr hl'), k6'.trans k7, FL7, FR7, e7, by omega⟩
              rw [List.length_append]
              simp only [List.length_cons, List.length_nil]
              omega
end
/-! ### chains -/
inductive Path (up : Int → Option Int) : Int → List Int → Prop where
  | stop {v : Int} (e : up v = none) : Path up v [v]
  | step {v u : Int} {c : List Int} (e : up v = some u) (p : Path up u c) : Path up v (v :: c)
theorem Path.det {up : Int → Option Int} {v : Int} {c d : List Int} (a : Path up v c) (b : Path up v d) : c = d := by
  induction a generalizing d with
  | stop e =>
    cases b with
    | stop _ => rfl
    | step e2 _ => rw [e] at e2; cases e2
  | step e p ih =>
    cases b with
    | stop e2 => rw [e] at e2; cases e2
    | step e2 p2 =>
      rw [e] at e2
      cases e2
      rw [ih p2]
theorem Path.head {up : Int → Option Int} {v : Int} {c : List Int} (a : Path up v c) : ∃ r, c = v :: r := by
  cases a with
  | stop _ => exact ⟨[], rfl⟩
  | step _ _ => exact ⟨_, rfl⟩
theorem Path.in {vs : List Int} {ls : List (Int × Int)} {up lo : Int → Option Int} (M : Mt vs ls up lo) {v : Int} {c : List Int} (a : Path up v c) (hv : v ∈ vs) : ∀ x ∈ c, x ∈ vs := by
  induction a with
  | @stop v e =>
    intro x hx
    have : x = v := by simpa using hx
    rw [this]
    exact hv
  | step e p ih =>
    intro x hx
    rcases List.mem_cons.mp hx with rfl | h
    · exact hv
    · exact ih (M.ok _ _ e).2.1 x h
theorem Path.rise {vs : List Int} {ls : List (Int × Int)} {up lo : Int → Option Int} (S : ShOk vs ls) (M : Mt vs ls up lo) {v : Int} {c : List Int} (a : Path up v c) : c.Pairwise (· < ·) ∧ ∀ x ∈ c, v ≤ x := by
  induction a with
  | stop _ => exact ⟨by simp, fun x hx => by simp at hx; omega⟩
  | step e p ih =>
    have lt := (M.ok _ _ e).2.2.lt S
    refine ⟨List.pairwise_cons.mpr ⟨fun x hx => ?_, ih.1⟩, fun x hx => ?_⟩
    · have := ih.2 x hx
      omega
    · rcases List.mem_cons.mp hx with h | h
      · omega
      · have := ih.2 x h
        omega
theorem Path.link {up : Int → Option Int} {v : Int} {c : List Int} (a : Path up v c) : ∀ (i : Nat) (x y : Int), c[i]? = some x → c[i + 1]? = some y → up x = some y := by
  induction a with
  | stop _ => intro i x y _ h; simp at h
  | @step v u c e p ih =>
    intro i x y h1 h2
    cases i with
    | zero =>
      obtain ⟨r, hr⟩ := p.head
      have z1 : v = x := by simpa using h1
      rw [hr] at h2
      have z2 : u = y := by simpa using h2
      rw [← z1, ← z2]
      exact e
    | succ i =>
      exact ih i x y (by simpa using h1) (by simpa using h2)
theorem Path.succ {up : Int → Option Int} {v : Int} {c : List Int} (a : Path up v c) {y x : Int} (hy : y ∈ c) (e : up y = some x) : x ∈ c := by
  induction a with
  | @stop v e2 =>
    have : y = v := by simpa using hy
    rw [this, e2] at e
    cases e
  | step e2 p ih =>
    rcases List.mem_cons.mp hy with rfl | h
    · rw [e2] at e
      cases e
      obtain ⟨r, hr⟩ := p.head
      rw [hr]
      simp
    · exact List.mem_cons_of_mem _ (ih h)
theorem Path.pred {up : Int → Option Int} {v : Int} {c : List Int} (a : Path up v c) {x : Int} (hx : x ∈ c) : x = v ∨ ∃ y ∈ c, up y = some x := by
  induction a with
  | stop _ => exact .inl (by simpa using hx)
  | @step v u c e p ih =>
    rcases List.mem_cons.mp hx with h | h
    · exact .inl h
    · rcases ih h with h | ⟨y, hy, e2⟩
      · exact .inr ⟨v, by simp, by rw [h]; exact e⟩
      · exact .inr ⟨y, List.mem_cons_of_mem _ hy, e2⟩
theorem Path.uniq {vs : List Int} {ls : List (Int × Int)} {up lo : Int → Option Int} (S : ShOk vs ls) (M : Mt vs ls up lo) {r1 r2 : Int} {c1 c2 : List Int} (a : Path up r1 c1) (b : Path up r2 c2) (h1 : lo r1 = none) (h2 : lo r2 = none) : ∀ (n : Nat) (x : Int), x.toNat ≤ n → x ∈ vs → x ∈ c1 → x ∈ c2 → r1 = r2 := by
  intro n
  induction n with
  | zero =>
    intro x hn hv m1 m2
    rcases a.pred m1 with rfl | ⟨y, hy, e⟩
    · rcases b.pred m2 with h | ⟨z, _, e2⟩
      · exact h
      · rw [(M.iff _ _).mp e2] at h1; cases h1
    · have g := M.ok _ _ e
      have := g.2.2.lt S
      have := S.v0 _ g.1
      omega
  | succ n ih =>
    intro x hn hv m1 m2
    rcases a.pred m1 with rfl | ⟨y, hy, e⟩
    · rcases b.pred m2 with h | ⟨z, _, e2⟩
      · exact h
      · rw [(M.iff _ _).mp e2] at h1; cases h1
    · rcases b.pred m2 with rfl | ⟨z, hz, e2⟩
      · rw [(M.iff _ _).mp e] at h2; cases h2
      · have g1 := (M.iff _ _).mp e
        have g2 := (M.iff _ _).mp e2
        rw [g1] at g2
        cases g2
        have g := M.ok _ _ e
        have := g.2.2.lt S
        have := S.v0 _ g.1
        exact ih y (by omega) g.1 hy hz
theorem Path.root {vs : List Int} {ls : List (Int × Int)} {up lo : Int → Option Int} (S : ShOk vs ls) (M : Mt vs ls up lo) : ∀ (n : Nat) (x : Int), x.toNat ≤ n → x ∈ vs → ∃ r ∈ freeL vs lo, ∀ c, Path up r c → x ∈ c := by
  intro n
  induction n with
  | zero =>
    intro x hn hv
    cases e : lo x with
    | none => exact ⟨x, mem_freeL.mpr ⟨hv, e⟩, fun c p => by obtain ⟨r, rfl⟩ := p.head; simp⟩
    | some y =>
      have g := M.ok _ _ ((M.iff y x).mpr e)
      have := g.2.2.lt S
      have := S.v0 _ g.1
      omega
  | succ n ih =>
    intro x hn hv
    cases e : lo x with
    | none => exact ⟨x, mem_freeL.mpr ⟨hv, e⟩, fun c p => by obtain ⟨r, rfl⟩ := p.head; simp⟩
    | some y =>
      have e2 := (M.iff y x).mpr e
      have g := M.ok _ _ e2
      have := g.2.2.lt S
      have := S.v0 _ g.1
      obtain ⟨r, hr, h⟩ := ih y (by omega) g.1
      exact ⟨r, hr, fun c p => p.succ (h c p) e2⟩
/-- a cover, as the law looks at it -/
structure IsCov (vs : List Int) (ls : List (Int × Int)) (qs : List (Int × List Int)) (aps : List Int) : Prop where
  hd : ∀ q ∈ qs, ∃ r, q.2 = q.1 :: r
  rise : ∀ q ∈ qs, q.2.Pairwise (· < ·)
  link : ∀ q ∈ qs, ∀ (i : Nat) (a b : Int), q.2[i]? = some a → q.2[i + 1]? = some b → Bel ls b a
  first : (qs.map (·.1)).Pairwise (· < ·)
  nd : (qs.map (·.2)).flatten.Nodup
  mem : ∀ x, x ∈ (qs.map (·.2)).flatten ↔ x ∈ vs
  ar : aps.Pairwise (· < ·)
  am : ∀ x ∈ aps, x ∈ vs
  anti : ∀ a ∈ aps, ∀ b ∈ aps, a ≠ b → ¬ Bel ls a b
  al : aps.length = qs.length
/-- what cover tells: one thing alone -/
def CovR (vs : List Int) (ls : List (Int × Int)) (qs : List (Int × List Int)) (aps : List Int) : Prop := ∃ up lo, FR (lowsF ls) vs.reverse (fun _ => none) (fun _ => none) up lo ∧ Mt vs ls up lo ∧ qs.map (·.1) = freeL vs lo ∧ (∀ q ∈ qs, Path up q.1 q.2) ∧ aps = apartL vs ls up lo ∧ IsApart vs ls lo aps
theorem paths_det {up : Int → Option Int} : ∀ (qs rs : List (Int × List Int)), qs.map (·.1) = rs.map (·.1) → (∀ q ∈ qs, Path up q.1 q.2) → (∀ q ∈ rs, Path up q.1 q.2) → qs = rs
  | [], [], _, _, _ => rfl
  | [], _ :: _, h, _, _ => by simp at h
  | _ :: _, [], h, _, _ => by simp at h
  | ⟨a, c⟩ :: qs, ⟨b, d⟩ :: rs, h, h1, h2 => by
    rw [List.map_cons, List.map_cons, List.cons.injEq] at h
    obtain ⟨e, h⟩ := h
    have e' : a = b := e
    subst e'
    have p1 := h1 (a, c) (by simp)
    have p2 := h2 (a, d) (by simp)
    have e3 : c = d := p1.det p2
    subst e3
    rw [paths_det qs rs h (fun q hq => h1 q (List.mem_cons_of_mem _ hq)) (fun q hq => h2 q (List.mem_cons_of_mem _ hq))]
theorem CovR.det {vs : List Int} {ls : List (Int × Int)} {qs rs : List (Int × List Int)} {aps bps : List Int} (a : CovR vs ls qs aps) (b : CovR vs ls rs bps) : qs = rs ∧ aps = bps := by
  obtain ⟨up, lo, f, m, e1, p, e2, _⟩ := a
  obtain ⟨up', lo', f', m', e1', p', e2', _⟩ := b
  obtain ⟨rfl, rfl⟩ := f.det f'
  exact ⟨paths_det qs rs (e1.trans e1'.symm) p p', e2.trans e2'.symm⟩
theorem CovR.is {vs : List Int} {ls : List (Int × Int)} {qs : List (Int × List Int)} {aps : List Int} (S : ShOk vs ls) (a : CovR vs ls qs aps) : IsCov vs ls qs aps := by
  obtain ⟨up, lo, f, M, e1, p, _, A⟩ := a
  have fr : ∀ q ∈ qs, q.1 ∈ vs ∧ lo q.1 = none := fun q hq => mem_freeL.mp (by rw [← e1]; exact List.mem_map_of_mem hq)
  have first : (qs.map (·.1)).Pairwise (· < ·) := by
    rw [e1]
    exact S.vr.filter _
  refine ⟨fun q hq => (p q hq).head, fun q hq => ((p q hq).rise S M).1, fun q hq i a b h1 h2 => (M.ok _ _ ((p q hq).link i a b h1 h2)).2.2.1, first, ?_, fun x => ?_, A.rise, A.mem, A.anti, ?_⟩
  · unfold List.Nodup
    rw [List.pairwise_flatten]
    refine ⟨fun c hc => ?_, ?_⟩
    · obtain ⟨q, hq, rfl⟩ := List.mem_map.mp hc
      exact rise_nodup ((p q hq).rise S M).1
    · rw [List.pairwise_map]
      rw [List.pairwise_map] at first
      refine List.Pairwise.imp_of_mem (fun {q r} hq hr hlt x hx y hy z => ?_) first
      subst z
      have := (p q hq).uniq S M (p r hr) (fr q hq).2 (fr r hr).2 x.toNat x (Nat.le_refl _) ((p q hq).in M (fr q hq).1 x hx) hx hy
      omega
  · rw [List.mem_flatten]
    constructor
    · rintro ⟨c, hc, hx⟩
      obtain ⟨q, hq, rfl⟩ := List.mem_map.mp hc
      exact (p q hq).in M (fr q hq).1 x hx
    · intro hx
      obtain ⟨r, hr, h⟩ := Path.root S M x.toNat x (Nat.le_refl _) hx
      rw [← e1] at hr
      obtain ⟨q, hq, rfl⟩ := List.mem_map.mp hr
      exact ⟨q.2, List.mem_map_of_mem hq, h q.2 (p q hq)⟩
  · rw [A.len, ← e1, List.length_map]
def spCover : Sp := fun as H Q _ => ∃ (t : Addr) (ns : List Int) (ps : List (Addr × Int × Int)), as = [.ref t] ∧ ShAt H t ns ps ∧ ShOk ns (ps.map (·.2)) ∧ ns.length < 64 ∧ ps.length ≤ 100000 ∧
  ∀ H' p a b (css : List (Addr × Int × List Int)) aps, Same H H' → H p = none → H' p = some (.tup [.ref a, .ref b]) → H' a = some (.tup (css.map fun q => .ref q.1)) → (∀ q ∈ css, H' q.1 = some (.tup (q.2.2.map V.int))) → VL H' b aps → CovR ns (ps.map (·.2)) (css.map (·.2)) aps → Q (.ref p) H'
section
variable {P : Program} {w : World} {K : PySem.W.Frag} {mg : Str → Option Value} {base : Heap}
theorem ok_cover {f fS fG fP fA : Addr} {fd fdS fdG fdP fdA : FuncData} (T : Txt K mg) (F : Fun K "cover" "cover" s_cover f fd) (D_spans : Df K mg "spans" s_spans ["shape"] fS fdS) (D_give_way : Df K mg "give_way" s_give_way ["low", "came", "uppers", "lowers"] fG fdG)
    (D_pair_up : Df K mg "pair_up" s_pair_up ["version", "rows", "uppers", "lowers"] fP fdP) (D_apart_of : Df K mg "apart_of" s_apart_of ["versions", "rows", "uppers", "lowers"] fA fdA) : FnOk P w K mg base CX0 3 f fd ["shape"] spCover := by
  have G_spans : FnOk P w K mg base CX0 1 fS fdS ["shape"] spSpans := ok_spans T D_spans.fn
  have G_pair_up : FnOk P w K mg base CX0 2 fP fdP ["version", "rows", "uppers", "lowers"] spPair := ok_pair T D_pair_up.fn D_give_way
  have G_apart_of : FnOk P w K mg base CX0 1 fA fdA ["versions", "rows", "uppers", "lowers"] spApart := ok_apart T D_apart_of.fn
  refine F.ok sc_cover (fun vs H Q E h => ?_) (fun cdv A outer s H vs Q E hr h => ?_)
  · obtain ⟨t, ns, ps, rfl, _⟩ := h
    rfl
  · obtain ⟨t, ns, ps, rfl, hS, S, hl, hl2, q⟩ := h
    have hu := hu_of hr
    obtain ⟨Vt, Lt, et, ev, _⟩ := id hS
    have ev' : H Vt = some (.tup (ns.map V.int)) := ev
    refine ⟨_,
      (pss_cons
        (ps_set (i := 1) sc_cover.nd rfl (.inl rfl) (pe_ix (r := rIxT K) ix_tup (pv 0) pe_int (fun _ _ => rfl)))
      (pss_cons
        (ps_set (i := 2) sc_cover.nd rfl (.inl rfl) (pe_call G_spans (hr.mono (by omega)) (by rfl) D_spans.g D_spans.fn.kp D_spans.b .nil pass0 (pa_cons (pv 0) pa_nil)))
      (pss_cons
        (ps_set (i := 3) sc_cover.nd rfl (.inl rfl) pe_dnewK)
      (pss_cons
        (ps_set (i := 4) sc_cover.nd rfl (.inl rfl) pe_dnewK)
      (pss_cons
        (ps_for PassesOwn.never rfl (pi_tup (pv 1)) (pg_name (i := 5) sc_cover.nd rfl (.inl rfl))
          (pss_one
            (ps_expr (pe_call G_pair_up (hr.mono (by omega)) (by rfl) D_pair_up.g D_pair_up.fn.kp D_pair_up.b .nil pass0 (pa_cons (pv 5) (pa_cons (pv 2) (pa_cons (pv 3) (pa_cons (pv 4) pa_nil))))))))
      (pss_cons
        (ps_set (i := 6) sc_cover.nd rfl (.inl rfl) (pe_lst pa_nil))
      (pss_cons
        (ps_for PassesOwn.never rfl (pi_tup (pv 1)) (pg_name (i := 5) sc_cover.nd rfl (.inl rfl))
          (pss_one
            (ps_if (pt_cmp (pc_dnotin hu (pv 5) (pv 4)))
              (pss_cons
                (ps_set (i := 7) sc_cover.nd rfl (.inl rfl) (pe_lst (pa_cons (pv 5) pa_nil)))
              (pss_cons
                (ps_while PassesOwn.never (pt_cmp (pc_din hu (pe_ix (r := rIxL K) ix_list (pv 7) (pe_un un_neg pe_int) (fun _ _ => rfl)) (pv 3)))
                  (pss_one
                    (ps_expr (pe_bm PySem.F.plainAttrs_list PySem.F.slot_list_append PySem.F.type_list_append mt_append (pv 7) (pa_cons (pe_dget hu (pv 3) (pe_ix (r := rIxL K) ix_list (pv 7) (pe_un un_neg pe_int) (fun _ _ => rfl)) (fun _ _ => rfl)) pa_nil)))))
              (pss_one
                (ps_expr (pe_bm PySem.F.plainAttrs_list PySem.F.slot_list_append PySem.F.type_list_append mt_append (pv 6) (pa_cons (pe_callTy (r := rTupOf K) c_tupOf (by rfl) T.n_tuple (by decide +kernel) (pa_cons (pv 7) pa_nil)) pa_nil))))))
              pss_nil)))
      (pss_one
        (ps_ret (pe_tup (pa_cons (pe_callTy (r := rTupOf K) c_tupOf (by rfl) T.n_tuple (by decide +kernel) (pa_cons (pv 6) pa_nil)) (pa_cons (pe_call G_apart_of (hr.mono (by omega)) (by rfl) D_apart_of.g D_apart_of.fn.kp D_apart_of.b .nil pass0 (pa_cons (pv 1) (pa_cons (pv 2) (pa_cons (pv 3) (pa_cons (pv 4) pa_nil))))) pa_nil))))))))))))
      , ?_⟩
    rw [show L2.start N_cover [V.ref t] = [some (.ref t), none, none, none, none, none, none, none] from rfl]
    walk_at "x"
    refine ⟨t, ns, ps, rfl, hS, S, hl, hl2, fun H1 R k1 hR RA => ?_⟩
    obtain ⟨kvs, eR, hks, _, rv0⟩ := RA
    walk_at "g"
    refine w_new fun U H2 hU eU k2 => ?_
    walk_at "g"
    refine w_new fun D H3 hD eD k3 => ?_
    have nUD : U ≠ D := ne_of_none eU hD
    have k13 : Same H1 H3 := Same.trans k2 k3
    have k03 : Same H H3 := Same.trans k1 k13
    have fD1 : H1 D = none := k2.free hD
    have nRU : R ≠ U := ne_of_none eR hU
    have nRD : R ≠ D := ne_of_none eR fD1
    have rv3 : RowsV [U, D] H3 kvs (ps.map (·.2)) ns := fun v hv => by
      obtain ⟨a, ys, v1, v2, v3, _⟩ := rv0 v hv
      exact ⟨a, ys, v1, k13 _ _ v2, v3, by simp [ne_of_none v2 hU, ne_of_none v2 fD1]⟩
    have fU : H U = none := k1.free hU
    have fD : H D = none := k1.free fD1
    have ev3 := k03 _ _ ev'
    have nV : Vt ∉ [U, D] := by simp [ne_of_none ev' fU, ne_of_none ev' fD]
    walk_at "g"
    refine lp_tup (xs := ns.map V.int) (fun i σ H' => ∃ (y5 : Option V) (up lo : Int → Option Int), σ = [some (.ref t), some (.ref Vt), some (.ref R), some (.ref U), some (.ref D), y5, none, none] ∧ Kp [U, D] H3 H' ∧ MapAt H' U ns up ∧ MapAt H' D ns lo ∧ FR (lowsF (ps.map (·.2))) (ns.take i).reverse (fun _ => none) (fun _ => none) up lo ∧ Mt ns (ps.map (·.2)) up lo ∧ (∀ x, (lo x).isSome = true → x ∈ ns.take i) ∧ ∀ x ∈ ns.take i, (lo x).isSome = true ∨ ∃ L R, Cl (ps.map (·.2)) up L R ∧ L x) ?_ ?_ ?_ ?_
    · exact ⟨_, fun _ => none, fun _ => none, rfl, Kp.refl, ⟨[], [], k3 _ _ eU, rfl, List.nodup_nil, by simp, fun _ => rfl⟩, ⟨[], [], eD, rfl, List.nodup_nil, by simp, fun _ => rfl⟩, .nil, ⟨fun l u => ⟨(fun z => nomatch z), (fun z => nomatch z)⟩, (fun l u z => nomatch z)⟩, (fun x z => nomatch z), by simp⟩
    · rintro i σ H' _ ⟨_, _, _, _, k4, _⟩
      exact .of (k4 _ _ nV ev3)
    · rintro i y σ H4 hy ⟨y5, up, lo, rfl, k4, mU, mD, fr, M, dm, full⟩
      obtain ⟨v, hv, rfl⟩ := map_at hy
      have hvn := List.mem_of_getElem? hv
      have eR4 := k4 _ _ (by simp [nRU, nRD]) (k13 _ _ eR)
      have rv4 : RowsV [] H4 kvs (ps.map (·.2)) ns := fun x hx => by
        obtain ⟨a, ys, v1, v2, v3, v4⟩ := rv3 x hx
        exact ⟨a, ys, v1, k4 _ _ v4 v2, v3, by simp⟩
      have free : lo v = none := by
        cases e : lo v with
        | none => rfl
        | some z =>
          have := take_lt S.vr hv (dm v (by rw [e]; rfl))
          omega
      walk_at "g"
      refine ⟨v, R, U, D, kvs, ns, _, up, lo, rfl, nUD, eR4, nRU, nRD, rv4, mU, mD, S, hl, M, free, hvn, fun H5 up' lo' k5 mU5 mD5 pd pr => ?_⟩
      have tk : ns.take (i + 1) = ns.take i ++ [v] := by rw [List.take_add_one, hv]; rfl
      refine ⟨_, up', lo', rfl, k4.trans k5, mU5, mD5, ?_, pd.m, fun x hx => ?_, fun x hx => ?_⟩
      · rw [tk, List.reverse_append]
        exact .snoc fr pr
      · rw [tk]
        rcases pd.d1 x hx with h | h
        · exact List.mem_append_left _ (dm x h)
        · exact List.mem_append_right _ (by simp [h])
      · rw [tk] at hx
        rcases List.mem_append.mp hx with h | h
        · rcases full x h with h | ⟨L, R', c, hL⟩
          · exact .inl (pd.d2 x h)
          · exact .inr ⟨L, R', pd.cl L R' c, hL⟩
        · have e : x = v := by simpa using h
          subst e
          exact pd.hit
    · rintro σ H4 ⟨y5, up, lo, rfl, k4, mU, mD, fr, M, dm, full⟩
      rw [List.length_map, List.take_length] at fr dm full
      obtain ⟨uk, uks, eU4, u2, u3, u4, u5⟩ := id mU
      obtain ⟨dk, dks, eD4, d2, d3, d4, d5⟩ := id mD
      have ev4 := k4 _ _ nV ev3
      have eR4 := k4 _ _ (by simp [nRU, nRD]) (k13 _ _ eR)
      have rv4 : RowsV [] H4 kvs (ps.map (·.2)) ns := fun x hx => by
        obtain ⟨a, ys, v1, v2, v3, v4⟩ := rv3 x hx
        exact ⟨a, ys, v1, k4 _ _ v4 v2, v3, by simp⟩
      have kH4 : Same H H4 := fun b o e => k4 _ _ (by simp [ne_of_none e fU, ne_of_none e fD]) (k03 _ _ e)
      walk_at "g"
      refine w_new fun Ch H5 hCh eCh k5 => ?_
      have ev5 := k5 _ _ ev4
      walk_at "g"
      refine lp_tup (xs := ns.map V.int) (fun i σ H' => ∃ (y5 y7 : Option V) (css : List (Addr × Int × List Int)), σ = [some (.ref t), some (.ref Vt), some (.ref R), some (.ref U), some (.ref D), y5, some (.ref Ch), y7] ∧ Same H4 H' ∧ css.length ≤ i ∧ H' Ch = some (.lst (css.map fun q => .ref q.1)) ∧ (∀ q ∈ css, H' q.1 = some (.tup (q.2.2.map V.int))) ∧ css.map (·.2.1) = freeL (ns.take i) lo ∧ ∀ q ∈ css, Path up q.2.1 q.2.2) ?_ ?_ ?_ ?_
      · exact ⟨_, _, [], rfl, k5, Nat.le_refl _, eCh, by simp, rfl, by simp⟩
      · rintro i σ H' _ ⟨_, _, _, _, k6, _⟩
        exact .of (k6 _ _ ev4)
      · rintro i y σ H6 hy ⟨y5, y7, css, rfl, k6, hcl, e6, hce, hcf, hcp⟩
        obtain ⟨v, hv, rfl⟩ := map_at hy
        have hvn := List.mem_of_getElem? hv
        have hi : i < ns.length := (List.getElem?_eq_some_iff.mp hv).1
        have tk : freeL (ns.take (i + 1)) lo = if (lo v).isNone = true then freeL (ns.take i) lo ++ [v] else freeL (ns.take i) lo := by
          unfold freeL
          rw [List.take_add_one, hv, List.filter_append]
          by_cases e : (lo v).isNone = true
          · rw [if_pos e]; simp [e]
          · rw [if_neg e]; simp [e]
        have eD6 := k6 _ _ eD4
        walk_at "g"
        rw [MapAt.in (vs := ns) d5 v]
        refine w_itNB (fun hb => ?_) (fun hb => ?_)
        · have isn : (lo v).isNone = true := by rw [Option.isNone_iff_eq_none]; simpa using hb
          rw [if_pos isn] at tk
          walk_at "g"
          refine w_new fun Cn H7 hCn eCn k7 => ?_
          have k47 : Same H4 H7 := Same.trans k6 k7
          have fCn : H4 Cn = none := k6.free hCn
          have nChCn : Ch ≠ Cn := ne_of_none e6 hCn
          refine w_seq ?_
          refine w_whileN (fun m σ H' => ∃ (pre : List Int) (z : Int), σ = [some (.ref t), some (.ref Vt), some (.ref R), some (.ref U), some (.ref D), some (.int v), some (.ref Ch), some (.ref Cn)] ∧ m = ns.length - pre.length ∧ Kp [Cn] H7 H' ∧ H' Cn = some (.lst ((pre ++ [z]).map V.int)) ∧ (∀ x ∈ pre ++ [z], x ∈ ns ∧ x ≤ z) ∧ (pre ++ [z]).Nodup ∧ ∀ c, Path up z c → Path up v (pre ++ c)) ns.length ⟨[], v, rfl, rfl, Kp.refl, eCn, by simp [hvn], by simp, fun c p => p⟩ ?_
          rintro m σ H8 ⟨pre, z, rfl, rfl, k8, e8, hz, hnd, hp⟩
          have k48 : Same H4 H8 := fun b o e => k8 _ _ (by simpa using ne_of_none e fCn) (k47 _ _ e)
          have eU8 := k48 _ _ eU4
          have hlast : atI ((pre ++ [z]).map V.int) (-1) = some (.int z) := by
            rw [List.map_append]
            exact atI_last _ _
          have hplen : pre.length + 1 ≤ ns.length := by
            have := nodup_le _ ns hnd fun x hx => (hz x hx).1
            simpa using this
          walk_at "g"
          rw [MapAt.in (vs := ns) u5 z]
          refine w_itB (fun hc => w_turn ?_) (fun hc => ?_)
          · obtain ⟨u, eu⟩ := Option.isSome_iff_exists.mp hc
            have evu : valV uk (Sum.inl z) = some (.int u) := by rw [u5, eu]; rfl
            have g := M.ok _ _ eu
            have lt := g.2.2.lt S
            walk_at "g"
            refine w_app e8 (by rw [List.length_map, List.length_append]; exact small1000 (by simp; omega)) fun H9 e9 o9 => ?_
            refine ⟨ns.length - (pre ++ [z]).length, by rw [List.length_append]; simp; omega, pre ++ [z], u, rfl, rfl, k8.trans (o9.kp (by simp)), by rw [e9, List.map_append (l₂ := [u])]; rfl, fun x hx => ?_, ?_, fun c p => by rw [List.append_assoc]; exact hp _ (.step eu p)⟩
            · rcases List.mem_append.mp hx with h | h
              · have := hz x h
                exact ⟨this.1, by omega⟩
              · have e : x = u := by simpa using h
                subst e
                exact ⟨g.2.1, by omega⟩
            · refine List.nodup_append.mpr ⟨hnd, by simp, fun x hx y hy e => ?_⟩
              have e2 : y = u := by simpa using hy
              have := (hz x hx).2
              omega
          · have hnone : up z = none := by simpa using hc
            have hpath : Path up v (pre ++ [z]) := hp _ (.stop hnone)
            have e6' : H8 Ch = some (.lst (css.map fun q => .ref q.1)) := k8 _ _ (by simpa using nChCn) (k7 _ _ e6)
            walk_at "g"
            refine w_tupL (.of e8) fun p H9 hp9 ep9 k9 => ?_
            have e9 := k9 _ _ e6'
            walk_at "g"
            refine w_app e9 (by rw [List.length_map]; exact small1000 (by omega)) fun H10 e10 o10 => ?_
            have fCh : H4 Ch = none := hCh
            refine ⟨_, _, css ++ [(p, v, pre ++ [z])], rfl, (Off.keep (M := []) (Kp.of (Same.trans k48 k9)) o10 fCh).same, ?_, by rw [e10, List.map_append]; rfl, fun x hx => ?_, ?_, fun x hx => ?_⟩
            · rw [List.length_append]
              simp only [List.length_cons, List.length_nil]
              omega
            · rcases List.mem_append.mp hx with h | h
              · have z1 := hce x h
                have z2 := k7 _ _ z1
                exact o10.tup e9 (k9 _ _ (k8 _ _ (by simpa using ne_of z2 eCn (fun y => nomatch y)) z2))
              · have e : x = (p, v, pre ++ [z]) := by simpa using h
                subst e
                exact o10.tup e9 ep9
            · rw [tk, List.map_append, hcf]
              rfl
            · rcases List.mem_append.mp hx with h | h
              · exact hcp x h
              · have e : x = (p, v, pre ++ [z]) := by simpa using h
                subst e
                exact hpath
        · have isn : ¬ (lo v).isNone = true := fun z => by rw [Option.isNone_iff_eq_none] at z; rw [z] at hb; cases hb
          rw [if_neg isn] at tk
          walk_at "g"
          exact ⟨_, _, css, rfl, k6, by omega, e6, hce, by rw [tk]; exact hcf, hcp⟩
      · rintro σ H6 ⟨y5, y7, css, rfl, k6, hcl, e6, hce, hcf, hcp⟩
        rw [List.length_map, List.take_length] at hcf
        walk_at "g"
        refine w_tupL (.of e6) fun a H7 ha7 ea7 k7 => ?_
        have k47 : Same H4 H7 := Same.trans k6 k7
        walk_at "g"
        refine ⟨Vt, R, U, D, kvs, ns, _, up, lo, rfl, k47 _ _ ev4, k47 _ _ eR4, rv4.kp (N := []) (Kp.of k47) (by simp), mU.kp (M := []) (Kp.of k47) (by simp), mD.kp (M := []) (Kp.of k47) (by simp), S, hl, M, full, fun H8 b k8 eb IA => ?_⟩
        walk_at "g"
        refine w_new fun p H9 hp9 ep9 k9 => ?_
        have k49 : Same H4 H9 := Same.trans k47 (Same.trans k8 k9)
        refine q H9 p a b css _ (Same.trans kH4 k49) (kH4.free ((Same.trans k47 k8).free hp9)) ep9 (k9 _ _ (k8 _ _ ea7)) (fun x hx => k9 _ _ (k8 _ _ (k7 _ _ (hce x hx)))) (eb.kt (KT.of k9)) ⟨up, lo, fr, M, by rw [List.map_map]; exact hcf, fun x hx => ?_, rfl, IA⟩
        obtain ⟨z, hz, rfl⟩ := List.mem_map.mp hx
        exact hcp z hz
end
/-! ### _law_same, of data that are the same, kind for kind -/
def Sc : V → Prop
  | .non => True
  | .bl _ => True
  | .int _ => True
  | .str _ => True
  | _ => False
def SD : Nat → Hp → V → V → Prop
  | 0, _, x, y => x = y ∧ Sc x
  | n + 1, H, x, y => (x = y ∧ Sc x) ∨ ∃ p q xs ys, x = .ref p ∧ y = .ref q ∧ ((H p = some (.tup xs) ∧ H q = some (.tup ys)) ∨ (H p = some (.lst xs) ∧ H q = some (.lst ys))) ∧ xs.length = ys.length ∧ xs.length ≤ 100000 ∧
      ∀ (i : Nat) (a b : V), xs[i]? = some a → ys[i]? = some b → SD n H a b
theorem SD.ints {H : Hp} {p q : Addr} {xs : List Int} (h1 : H p = some (.lst (xs.map V.int))) (h2 : H q = some (.lst (xs.map V.int))) (hl : xs.length ≤ 100000) : SD 1 H (.ref p) (.ref q) :=
  Or.inr ⟨p, q, _, _, rfl, rfl, .inr ⟨h1, h2⟩, rfl, by simpa using hl, fun i a b ha hb => by
    rw [ha] at hb
    cases hb
    rw [List.getElem?_map] at ha
    obtain ⟨z, _, rfl⟩ := Option.map_eq_some_iff.mp ha
    exact ⟨rfl, trivial⟩⟩
theorem SD.tups {H : Hp} {p q : Addr} {xs : List Int} (h1 : H p = some (.tup (xs.map V.int))) (h2 : H q = some (.tup (xs.map V.int))) (hl : xs.length ≤ 100000) : SD 1 H (.ref p) (.ref q) :=
  Or.inr ⟨p, q, _, _, rfl, rfl, .inl ⟨h1, h2⟩, rfl, by simpa using hl, fun i a b ha hb => by
    rw [ha] at hb
    cases hb
    rw [List.getElem?_map] at ha
    obtain ⟨z, _, rfl⟩ := Option.map_eq_some_iff.mp ha
    exact ⟨rfl, trivial⟩⟩
def spSame (n : Nat) : Sp := fun vs H Q _ => ∃ (x y : V), vs = [x, y] ∧ SD n H x y ∧ Q (.bl true) H
def spIntI : Sp := fun vs H Q _ => ∃ (x : Int), vs = [.int x] ∧ Q (.bl true) H
section
variable {P : Program} {w : World} {K : PySem.W.Frag} {mg : Str → Option Value} {base : Heap}
theorem ok_int {f : Addr} {fd : FuncData} (T : Txt K mg) (F : Fun K "_law_int" "_law_int" s_law_int f fd) : FnOk P w K mg base CX0 1 f fd ["_law_thing"] spIntI := by
  refine F.ok sc_law_int (fun vs H Q E h => ?_) (fun cdv A outer s H vs Q E hr h => ?_)
  · obtain ⟨x, rfl, _⟩ := h
    rfl
  · obtain ⟨x, rfl, q⟩ := h
    refine ⟨_,
      (pss_one
        (ps_ret (pe_and (pe_callB (r := rIsi K) call_isi (by rfl) T.n_isinstance (by decide +kernel) (pa_cons (pv 0) (pa_cons (pe_bltn (v := .ty "int") (u := .type "int") (by rfl) T.n_int (by decide +kernel) rfl) pa_nil))) (pe_one (pe_not (pe_callB (r := rIsi K) call_isi (by rfl) T.n_isinstance (by decide +kernel) (pa_cons (pv 0) (pa_cons (pe_bltn (v := .ty "bool") (u := .type "bool") (by rfl) T.n_bool (by decide +kernel) rfl) pa_nil))))))))
      , ?_⟩
    walk_at "x"
    exact q
theorem ok_same0 {f fI : Addr} {fd fdI : FuncData} (T : Txt K mg) (D_law_same : Df K mg "_law_same" s_law_same ["_law_found", "_law_due"] f fd) (D_law_int : Df K mg "_law_int" s_law_int ["_law_thing"] fI fdI) : FnOk P w K mg base CX0 2 f fd ["_law_found", "_law_due"] (spSame 0) := by
  have G_law_int : FnOk P w K mg base CX0 1 fI fdI ["_law_thing"] spIntI := ok_int T D_law_int.fn
  refine D_law_same.fn.ok sc_law_same (fun vs H Q E h => ?_) (fun cdv A outer s H vs Q E hr h => ?_)
  · obtain ⟨x, y, rfl, _⟩ := h
    rfl
  · obtain ⟨x, y, rfl, ⟨rfl, hx⟩, q⟩ := h
    refine ⟨_,
      (pss_cons
        (ps_if (PW.pt (pw_or (pt_val (pe_callB (r := rIsi K) call_isi (by rfl) T.n_isinstance (by decide +kernel) (pa_cons (pv 1) (pa_cons (pe_bltn (v := .ty "tuple") (u := .type "tuple") (by rfl) T.n_tuple (by decide +kernel) rfl) pa_nil)))) (pw_or1 (pt_val (pe_callB (r := rIsi K) call_isi (by rfl) T.n_isinstance (by decide +kernel) (pa_cons (pv 1) (pa_cons (pe_bltn (v := .ty "list") (u := .type "list") (by rfl) T.n_list (by decide +kernel) rfl) pa_nil)))))))
          pss_never
          pss_nil)
      (pss_cons
        (ps_if (pt_val (pe_callB (r := rIsi K) call_isi (by rfl) T.n_isinstance (by decide +kernel) (pa_cons (pv 1) (pa_cons (pe_bltn (v := .ty "bool") (u := .type "bool") (by rfl) T.n_bool (by decide +kernel) rfl) pa_nil))))
          (pss_one
            (ps_ret (pe_and (pe_callB (r := rIsi K) call_isi (by rfl) T.n_isinstance (by decide +kernel) (pa_cons (pv 0) (pa_cons (pe_bltn (v := .ty "bool") (u := .type "bool") (by rfl) T.n_bool (by decide +kernel) rfl) pa_nil))) (pe_one (pe_cmpR op_eq (pv 0) (pv 1) (nomark _))))))
          pss_nil)
      (pss_cons
        (ps_if (pt_val (pe_callB (r := rIsi K) call_isi (by rfl) T.n_isinstance (by decide +kernel) (pa_cons (pv 1) (pa_cons (pe_bltn (v := .ty "int") (u := .type "int") (by rfl) T.n_int (by decide +kernel) rfl) pa_nil))))
          (pss_one
            (ps_ret (pe_and (pe_call G_law_int (hr.mono (by omega)) (by rfl) D_law_int.g D_law_int.fn.kp D_law_int.b .nil pass0 (pa_cons (pv 0) pa_nil)) (pe_one (pe_cmpR op_eq (pv 0) (pv 1) (nomark _))))))
          pss_nil)
      (pss_cons
        (ps_if (pt_val (pe_callB (r := rIsi K) call_isi (by rfl) T.n_isinstance (by decide +kernel) (pa_cons (pv 1) (pa_cons (pe_bltn (v := .ty "str") (u := .type "str") (by rfl) T.n_str (by decide +kernel) rfl) pa_nil))))
          (pss_one
            (ps_ret (pe_and (pe_callB (r := rIsi K) call_isi (by rfl) T.n_isinstance (by decide +kernel) (pa_cons (pv 0) (pa_cons (pe_bltn (v := .ty "str") (u := .type "str") (by rfl) T.n_str (by decide +kernel) rfl) pa_nil))) (pe_one (pe_cmpR op_eq (pv 0) (pv 1) (nomark _))))))
          pss_nil)
      (pss_one
        (ps_ret (pe_and (pe_cmpR o_isN (pv 1) pe_non (nomark _)) (pe_one (pe_cmpR o_isN (pv 0) pe_non (nomark _))))))))))
      , ?_⟩
    rw [show L2.start N_law_same [x, x] = [some x, some x, none] from rfl]
    cases x with
    | non =>
      refine w_seq ?_
      walk_at "x"
      refine w_seq ?_
      walk_at "g"
      refine w_seq ?_
      walk_at "g"
      refine w_seq ?_
      walk_at "g"
      refine w_yes rfl ?_
      walk_at "g"
      exact q
    | bl b =>
      refine w_seq ?_
      walk_at "x"
      refine w_seq ?_
      walk_at "g"
      rw [decide_eq_true rfl]
      exact q
    | int i =>
      refine w_seq ?_
      walk_at "x"
      refine w_seq ?_
      walk_at "g"
      refine w_seq ?_
      walk_at "g"
      refine ⟨i, rfl, ?_⟩
      walk_at "g"
      rw [decide_eq_true rfl]
      exact q
    | str z =>
      refine w_seq ?_
      walk_at "x"
      refine w_seq ?_
      walk_at "g"
      refine w_seq ?_
      walk_at "g"
      refine w_seq ?_
      walk_at "g"
      rw [decide_eq_true rfl]
      exact q
    | byt _ => exact hx.elim
    | flt _ => exact hx.elim
    | ref _ => exact hx.elim
    | ty _ => exact hx.elim
theorem ok_same {f fI : Addr} {fd fdI : FuncData} (T : Txt K mg) (D_law_same : Df K mg "_law_same" s_law_same ["_law_found", "_law_due"] f fd) (D_law_int : Df K mg "_law_int" s_law_int ["_law_thing"] fI fdI) : ∀ n : Nat, FnOk P w K mg base CX0 (n + 2) f fd ["_law_found", "_law_due"] (spSame n)
  | 0 => ok_same0 T D_law_same D_law_int
  | n + 1 => by
    have G_law_int : FnOk P w K mg base CX0 1 fI fdI ["_law_thing"] spIntI := ok_int T D_law_int.fn
    have G_law_same : FnOk P w K mg base CX0 (n + 2) f fd ["_law_found", "_law_due"] (spSame n) := ok_same T D_law_same D_law_int n
    refine D_law_same.fn.ok sc_law_same (fun vs H Q E h => ?_) (fun cdv A outer s H vs Q E hr h => ?_)
    · obtain ⟨x, y, rfl, _⟩ := h
      rfl
    · obtain ⟨x, y, rfl, hd, q⟩ := h
      have hmono : 1 ≤ n + 1 + 1 := by omega
      refine ⟨_,
      (pss_cons
        (ps_if (PW.pt (pw_or (pt_val (pe_callB (r := rIsi K) call_isi (by rfl) T.n_isinstance (by decide +kernel) (pa_cons (pv 1) (pa_cons (pe_bltn (v := .ty "tuple") (u := .type "tuple") (by rfl) T.n_tuple (by decide +kernel) rfl) pa_nil)))) (pw_or1 (pt_val (pe_callB (r := rIsi K) call_isi (by rfl) T.n_isinstance (by decide +kernel) (pa_cons (pv 1) (pa_cons (pe_bltn (v := .ty "list") (u := .type "list") (by rfl) T.n_list (by decide +kernel) rfl) pa_nil)))))))
          (pss_cons
            (ps_if (PW.pt (pw_or (pt_cmpR op_ne (pe_callB (r := rIsi K) call_isi (by rfl) T.n_isinstance (by decide +kernel) (pa_cons (pv 1) (pa_cons (pe_bltn (v := .ty "tuple") (u := .type "tuple") (by rfl) T.n_tuple (by decide +kernel) rfl) pa_nil))) (pe_callB (r := rIsi K) call_isi (by rfl) T.n_isinstance (by decide +kernel) (pa_cons (pv 0) (pa_cons (pe_bltn (v := .ty "tuple") (u := .type "tuple") (by rfl) T.n_tuple (by decide +kernel) rfl) pa_nil))) (nomark _)) (pw_or1 (pt_cmpR op_ne (pe_callB (r := rIsi K) call_isi (by rfl) T.n_isinstance (by decide +kernel) (pa_cons (pv 1) (pa_cons (pe_bltn (v := .ty "list") (u := .type "list") (by rfl) T.n_list (by decide +kernel) rfl) pa_nil))) (pe_callB (r := rIsi K) call_isi (by rfl) T.n_isinstance (by decide +kernel) (pa_cons (pv 0) (pa_cons (pe_bltn (v := .ty "list") (u := .type "list") (by rfl) T.n_list (by decide +kernel) rfl) pa_nil))) (nomark _)))))
              (pss_one
                (ps_ret pe_bl))
              pss_nil)
          (pss_cons
            (ps_if (pt_cmpR op_ne (pe_callB (r := rLen K) c_len (by rfl) T.n_len (by decide +kernel) (pa_cons (pv 0) pa_nil)) (pe_callB (r := rLen K) c_len (by rfl) T.n_len (by decide +kernel) (pa_cons (pv 1) pa_nil)) (nomark _))
              (pss_one
                (ps_ret pe_bl))
              pss_nil)
          (pss_cons
            (ps_for PassesOwn.never rfl (pi_range1 (by rfl) T.n_range (pa_cons (pe_callB (r := rLen K) c_len (by rfl) T.n_len (by decide +kernel) (pa_cons (pv 1) pa_nil)) pa_nil)) (pg_name (i := 2) sc_law_same.nd rfl (.inl rfl))
              (pss_one
                (ps_if (pt_not (pt_val (pe_call G_law_same (hr.mono (by omega)) (by rfl) D_law_same.g D_law_same.fn.kp D_law_same.b .nil pass0 (pa_cons (pe_ix (r := rIx K) ix_seq (pv 0) (pv 2) (fun _ _ => rfl)) (pa_cons (pe_ix (r := rIx K) ix_seq (pv 1) (pv 2) (fun _ _ => rfl)) pa_nil)))))
                  (pss_one
                    (ps_ret pe_bl))
                  pss_nil)))
          (pss_one
            (ps_ret pe_bl)))))
          pss_nil)
      (pss_cons
        (ps_if (pt_val (pe_callB (r := rIsi K) call_isi (by rfl) T.n_isinstance (by decide +kernel) (pa_cons (pv 1) (pa_cons (pe_bltn (v := .ty "bool") (u := .type "bool") (by rfl) T.n_bool (by decide +kernel) rfl) pa_nil))))
          (pss_one
            (ps_ret (pe_and (pe_callB (r := rIsi K) call_isi (by rfl) T.n_isinstance (by decide +kernel) (pa_cons (pv 0) (pa_cons (pe_bltn (v := .ty "bool") (u := .type "bool") (by rfl) T.n_bool (by decide +kernel) rfl) pa_nil))) (pe_one (pe_cmpR op_eq (pv 0) (pv 1) (nomark _))))))
          pss_nil)
      (pss_cons
        (ps_if (pt_val (pe_callB (r := rIsi K) call_isi (by rfl) T.n_isinstance (by decide +kernel) (pa_cons (pv 1) (pa_cons (pe_bltn (v := .ty "int") (u := .type "int") (by rfl) T.n_int (by decide +kernel) rfl) pa_nil))))
          (pss_one
            (ps_ret (pe_and (pe_call G_law_int (hr.mono (by omega)) (by rfl) D_law_int.g D_law_int.fn.kp D_law_int.b .nil pass0 (pa_cons (pv 0) pa_nil)) (pe_one (pe_cmpR op_eq (pv 0) (pv 1) (nomark _))))))
          pss_nil)
      (pss_cons
        (ps_if (pt_val (pe_callB (r := rIsi K) call_isi (by rfl) T.n_isinstance (by decide +kernel) (pa_cons (pv 1) (pa_cons (pe_bltn (v := .ty "str") (u := .type "str") (by rfl) T.n_str (by decide +kernel) rfl) pa_nil))))
          (pss_one
            (ps_ret (pe_and (pe_callB (r := rIsi K) call_isi (by rfl) T.n_isinstance (by decide +kernel) (pa_cons (pv 0) (pa_cons (pe_bltn (v := .ty "str") (u := .type "str") (by rfl) T.n_str (by decide +kernel) rfl) pa_nil))) (pe_one (pe_cmpR op_eq (pv 0) (pv 1) (nomark _))))))
          pss_nil)
      (pss_one
        (ps_ret (pe_and (pe_cmpR o_isN (pv 1) pe_non (nomark _)) (pe_one (pe_cmpR o_isN (pv 0) pe_non (nomark _))))))))))
        , ?_⟩
      rw [show L2.start N_law_same [x, y] = [some x, some y, none] from rfl]
      rcases hd with ⟨rfl, hx⟩ | ⟨p, r, xs, ys, rfl, rfl, hk, hlen, hle, hd⟩
      · cases x with
        | non =>
          refine w_seq ?_
          walk_at "x"
          refine w_seq ?_
          walk_at "g"
          refine w_seq ?_
          walk_at "g"
          refine w_seq ?_
          walk_at "g"
          refine w_yes rfl ?_
          walk_at "g"
          exact q
        | bl b =>
          refine w_seq ?_
          walk_at "x"
          refine w_seq ?_
          walk_at "g"
          rw [decide_eq_true rfl]
          exact q
        | int i =>
          refine w_seq ?_
          walk_at "x"
          refine w_seq ?_
          walk_at "g"
          refine w_seq ?_
          walk_at "g"
          refine ⟨i, rfl, ?_⟩
          walk_at "g"
          rw [decide_eq_true rfl]
          exact q
        | str z =>
          refine w_seq ?_
          walk_at "x"
          refine w_seq ?_
          walk_at "g"
          refine w_seq ?_
          walk_at "g"
          refine w_seq ?_
          walk_at "g"
          rw [decide_eq_true rfl]
          exact q
        | byt _ => exact hx.elim
        | flt _ => exact hx.elim
        | ref _ => exact hx.elim
        | ty _ => exact hx.elim
      · have turn : ∀ (i : Nat), i < ys.length → ∃ a b, atI xs (0 + (i : Int)) = some a ∧ atI ys (0 + (i : Int)) = some b ∧ SD n H a b := fun i hi => by
          have h1 : xs[i]? = some xs[i] := List.getElem?_eq_getElem (by omega)
          have h2 : ys[i]? = some ys[i] := List.getElem?_eq_getElem hi
          rw [show 0 + (i : Int) = (i : Int) by omega]
          exact ⟨_, _, atI_nat h1, atI_nat h2, hd i _ _ h1 h2⟩
        rcases hk with ⟨h1, h2⟩ | ⟨h1, h2⟩
        all_goals
          refine w_seq ?_
          walk_at "x"
          refine w_seq ?_
          walk_at "g"
          walk_at "dg"
          walk_at "dg"
          refine w_seq ?_
          walk_at "g"
          walk_at "dg"
          refine lp_range (fun i σ H' => H' = H ∧ ∃ y2, σ = [some (.ref p), some (.ref r), y2]) ⟨rfl, _, rfl⟩ ?_ ?_
          · rintro i σ H' hi ⟨rfl, y2, rfl⟩
            obtain ⟨a, b, ha, hb, hab⟩ := turn i (by omega)
            walk_at "g"
            refine ⟨a, b, rfl, hab, ?_⟩
            walk_at "g"
            exact ⟨rfl, _, rfl⟩
          · rintro σ H' ⟨rfl, y2, rfl⟩
            walk_at "g"
            exact q
end
def spRising : Sp := fun vs H Q _ => ∃ (a : Addr) (ns : List Int), vs = [.ref a] ∧ VL H a ns ∧ ns.Pairwise (· < ·) ∧ (∀ v ∈ ns, 0 ≤ v) ∧ Q (.bl true) H
theorem nd_at {css : List (Addr × Int × List Int)} (nd : (css.map (·.2.2)).flatten.Nodup) {i k : Nat} {q : Addr × Int × List Int} {x : Int} (hq : css[i]? = some q) (hx : q.2.2[k]? = some x) : x ∉ ((css.take i).map (·.2.2)).flatten ++ q.2.2.take k := by
  have e1 : css = css.take i ++ q :: css.drop (i + 1) := by rw [← drop_of hq, List.take_append_drop]
  have e2 : q.2.2 = q.2.2.take k ++ x :: q.2.2.drop (k + 1) := by rw [← drop_of hx, List.take_append_drop]
  have e3 : (css.map (·.2.2)).flatten = (((css.take i).map (·.2.2)).flatten ++ q.2.2.take k) ++ (x :: (q.2.2.drop (k + 1) ++ ((css.drop (i + 1)).map (·.2.2)).flatten)) := by
    have e4 : (css.map (·.2.2)).flatten = ((css.take i ++ q :: css.drop (i + 1)).map (·.2.2)).flatten := by rw [← e1]
    rw [e4, List.map_append, List.flatten_append, List.map_cons, List.flatten_cons]
    have e5 : q.2.2 ++ ((css.drop (i + 1)).map (·.2.2)).flatten = (q.2.2.take k ++ x :: q.2.2.drop (k + 1)) ++ ((css.drop (i + 1)).map (·.2.2)).flatten := by rw [← e2]
    rw [e5]
    simp only [List.append_assoc, List.cons_append]
  rw [e3, List.nodup_append] at nd
  exact fun h => nd.2.2 x h x (by simp) rfl
def spIsCover : Sp := fun as H Q _ => ∃ (t R p a b : Addr) (kvs : List (Key × V)) (ns aps : List Int) (ps : List (Addr × Int × Int)) (css : List (Addr × Int × List Int)), as = [.ref t, .ref R, .ref p] ∧ ShAt H t ns ps ∧ ShOk ns (ps.map (·.2)) ∧ ns.length < 64 ∧ H R = some (.dK kvs) ∧ kvs.map (·.1) = ns.map (Sum.inl : Int → Key) ∧ RowsV [] H kvs (ps.map (·.2)) ns ∧
  H p = some (.tup [.ref a, .ref b]) ∧ H a = some (.tup (css.map fun q => .ref q.1)) ∧ (∀ q ∈ css, H q.1 = some (.tup (q.2.2.map V.int))) ∧ VL H b aps ∧ IsCov ns (ps.map (·.2)) (css.map (·.2)) aps ∧ ∀ H', Same H H' → Q (.bl true) H'
section
variable {P : Program} {w : World} {K : PySem.W.Frag} {mg : Str → Option Value} {base : Heap}
theorem ok_lrising {f fW : Addr} {fd fdW : FuncData} (T : Txt K mg) (F : Fun K "_law_rising" "_law_rising" s_law_rising f fd) (D_law_int : Df K mg "_law_int" s_law_int ["_law_thing"] fW fdW) : FnOk P w K mg base CX0 2 f fd ["_law_thing"] spRising := by
  have G_law_int : FnOk P w K mg base CX0 1 fW fdW ["_law_thing"] spIntI := ok_int T D_law_int.fn
  refine F.ok sc_law_rising (fun vs H Q E h => ?_) (fun cdv A outer s H vs Q E hr h => ?_)
  · obtain ⟨a, ns, rfl, _⟩ := h
    rfl
  · obtain ⟨a, ns, rfl, ha, hs, h0, q⟩ := h
    have ha' : H a = some (.tup (ns.map V.int)) := ha
    refine ⟨_,
      (pss_cons
        (ps_if (pt_not (pt_val (pe_callB (r := rIsi K) call_isi (by rfl) T.n_isinstance (by decide +kernel) (pa_cons (pv 0) (pa_cons (pe_bltn (v := .ty "tuple") (u := .type "tuple") (by rfl) T.n_tuple (by decide +kernel) rfl) pa_nil)))))
          (pss_one
            (ps_ret pe_bl))
          pss_nil)
      (pss_cons
        (ps_set (i := 1) sc_law_rising.nd rfl (.inl rfl) (pe_un un_neg pe_int))
      (pss_cons
        (ps_for PassesOwn.never rfl (pi_tup (pv 0)) (pg_name (i := 2) sc_law_rising.nd rfl (.inl rfl))
          (pss_cons
            (ps_if (PW.pt (pw_or (pt_not (pt_val (pe_call G_law_int (hr.mono (by omega)) (by rfl) D_law_int.g D_law_int.fn.kp D_law_int.b .nil pass0 (pa_cons (pv 2) pa_nil)))) (pw_or1 (pt_cmpR op_le (pv 2) (pv 1) (nomark _)))))
              (pss_one
                (ps_ret pe_bl))
              pss_nil)
          (pss_one
            (ps_set (i := 1) sc_law_rising.nd rfl (.inl rfl) (pv 2)))))
      (pss_one
        (ps_ret pe_bl)))))
      , ?_⟩
    rw [show L2.start N_law_rising [V.ref a] = [some (.ref a), none, none] from rfl]
    refine w_seq ?_
    walk_at "x"
    refine lp_tup (xs := ns.map V.int) (fun i σ H' => H' = H ∧ ∃ (l : Int) (y : Option V), σ = [some (.ref a), some (.int l), y] ∧ -1 ≤ l ∧ ∀ x ∈ ns.drop i, l < x) ?_ ?_ ?_ ?_
    · exact ⟨rfl, -1, none, rfl, by omega, fun x hx => by have := h0 x (by simpa using hx); omega⟩
    · rintro i σ H' _ ⟨rfl, _⟩
      exact .of ha
    · rintro i y σ H' hy ⟨rfl, l, y0, rfl, hl, hd⟩
      obtain ⟨v, hv, rfl⟩ := map_at hy
      have hlv : l < v := hd v (by rw [drop_of hv]; simp)
      refine w_seq ?_
      walk_at "g"
      refine ⟨v, rfl, ?_⟩
      walk_at "g"
      refine w_no (by omega) ?_
      walk_at "g"
      refine ⟨rfl, v, _, rfl, by omega, fun x hx => ?_⟩
      have hs' : (ns.drop i).Pairwise (· < ·) := hs.drop
      rw [drop_of hv, List.pairwise_cons] at hs'
      exact hs'.1 x hx
    · rintro σ H' ⟨rfl, l, y0, rfl, _⟩
      walk_at "g"
      exact q
theorem ok_iscover {f fI fR : Addr} {fd fdI fdR : FuncData} (T : Txt K mg) (F : Fun K "_law_is_cover" "_law_is_cover" s_law_is_cover f fd) (D_law_int : Df K mg "_law_int" s_law_int ["_law_thing"] fI fdI) (D_law_rising : Df K mg "_law_rising" s_law_rising ["_law_thing"] fR fdR) : FnOk P w K mg base CX0 3 f fd ["_law_web", "_law_rows", "_law_thing"] spIsCover := by
  have G_law_rising : FnOk P w K mg base CX0 2 fR fdR ["_law_thing"] spRising := ok_lrising T D_law_rising.fn D_law_int
  refine F.ok sc_law_is_cover (fun vs H Q E h => ?_) (fun cdv A outer s H vs Q E hr h => ?_)
  · obtain ⟨t, R, p, a, b, kvs, ns, aps, ps, css, rfl, _⟩ := h
    rfl
  · obtain ⟨t, R, p, a, b, kvs, ns, aps, ps, css, rfl, hS, S, hl, eR, hks, rv, ep, ea, hc, hb, C, q⟩ := h
    have hu := hu_of hr
    have eb : H b = some (.tup (aps.map V.int)) := hb
    obtain ⟨Vt, Lt, et, ev, _⟩ := id hS
    have ev' : H Vt = some (.tup (ns.map V.int)) := ev
    have clen : css.length = aps.length := by
      have := C.al
      rw [List.length_map] at this
      exact this.symm
    have cmem : ∀ z ∈ css, ∀ x ∈ z.2.2, x ∈ ns := fun z hz x hx => (C.mem x).mp (List.mem_flatten.mpr ⟨z.2.2, List.mem_map.mpr ⟨z.2, List.mem_map_of_mem hz, rfl⟩, hx⟩)
    have nd : (css.map (·.2.2)).flatten.Nodup := by
      have := C.nd
      rw [List.map_map] at this
      exact this
    have first : css.Pairwise fun x y => x.2.1 < y.2.1 := by
      have := C.first
      rw [List.map_map, List.pairwise_map] at this
      exact this
    refine ⟨_,
      (pss_cons
        (ps_if (PW.pt (pw_or (pt_not (pt_val (pe_callB (r := rIsi K) call_isi (by rfl) T.n_isinstance (by decide +kernel) (pa_cons (pv 2) (pa_cons (pe_bltn (v := .ty "tuple") (u := .type "tuple") (by rfl) T.n_tuple (by decide +kernel) rfl) pa_nil))))) (pw_or (pt_cmpR op_ne (pe_callB (r := rLen K) c_len (by rfl) T.n_len (by decide +kernel) (pa_cons (pv 2) pa_nil)) pe_int (nomark _)) (pw_or1 (pt_not (pt_val (pe_callB (r := rIsi K) call_isi (by rfl) T.n_isinstance (by decide +kernel) (pa_cons (pe_ix (r := rIxT K) ix_tup (pv 2) pe_int (fun _ _ => rfl)) (pa_cons (pe_bltn (v := .ty "tuple") (u := .type "tuple") (by rfl) T.n_tuple (by decide +kernel) rfl) pa_nil)))))))))
          (pss_one
            (ps_ret pe_bl))
          pss_nil)
      (pss_cons
        (ps_if (PW.pt (pw_or (pt_not (pt_val (pe_call G_law_rising (hr.mono (by omega)) (by rfl) D_law_rising.g D_law_rising.fn.kp D_law_rising.b .nil pass0 (pa_cons (pe_ix (r := rIxT K) ix_tup (pv 2) pe_int (fun _ _ => rfl)) pa_nil)))) (pw_or1 (pt_cmpR op_ne (pe_callB (r := rLen K) c_len (by rfl) T.n_len (by decide +kernel) (pa_cons (pe_ix (r := rIxT K) ix_tup (pv 2) pe_int (fun _ _ => rfl)) pa_nil)) (pe_callB (r := rLen K) c_len (by rfl) T.n_len (by decide +kernel) (pa_cons (pe_ix (r := rIxT K) ix_tup (pv 2) pe_int (fun _ _ => rfl)) pa_nil)) (nomark _)))))
          (pss_one
            (ps_ret pe_bl))
          pss_nil)
      (pss_cons
        (ps_set (i := 3) sc_law_is_cover.nd rfl (.inl rfl) (pe_lst pa_nil))
      (pss_cons
        (ps_set (i := 4) sc_law_is_cover.nd rfl (.inl rfl) (pe_un un_neg pe_int))
      (pss_cons
        (ps_for PassesOwn.never rfl (pi_tup (pe_ix (r := rIxT K) ix_tup (pv 2) pe_int (fun _ _ => rfl))) (pg_name (i := 5) sc_law_is_cover.nd rfl (.inl rfl))
          (pss_cons
            (ps_if (PW.pt (pw_or (pt_not (pt_val (pe_call G_law_rising (hr.mono (by omega)) (by rfl) D_law_rising.g D_law_rising.fn.kp D_law_rising.b .nil pass0 (pa_cons (pv 5) pa_nil)))) (pw_or (pt_cmpR op_eq (pe_callB (r := rLen K) c_len (by rfl) T.n_len (by decide +kernel) (pa_cons (pv 5) pa_nil)) pe_int (nomark _)) (pw_or1 (pt_cmpR op_le (pe_ix (r := rIxT K) ix_tup (pv 5) pe_int (fun _ _ => rfl)) (pv 4) (nomark _))))))
              (pss_one
                (ps_ret pe_bl))
              pss_nil)
          (pss_cons
            (ps_set (i := 4) sc_law_is_cover.nd rfl (.inl rfl) (pe_ix (r := rIxT K) ix_tup (pv 5) pe_int (fun _ _ => rfl)))
          (pss_one
            (ps_for PassesOwn.never rfl (pi_range1 (by rfl) T.n_range (pa_cons (pe_callB (r := rLen K) c_len (by rfl) T.n_len (by decide +kernel) (pa_cons (pv 5) pa_nil)) pa_nil)) (pg_name (i := 6) sc_law_is_cover.nd rfl (.inl rfl))
              (pss_cons
                (ps_if (PW.pt (pw_or (pt_cmp (pc_dnotin hu (pe_ix (r := rIxT K) ix_tup (pv 5) (pv 6) (fun _ _ => rfl)) (pv 1))) (pw_or1 (pt_cmpR (r := rIn K false) op_in_seq (pe_ix (r := rIxT K) ix_tup (pv 5) (pv 6) (fun _ _ => rfl)) (pv 3) rfl))))
                  (pss_one
                    (ps_ret pe_bl))
                  pss_nil)
              (pss_cons
                (ps_if (PW.pt (pw_and (pt_cmpR op_gt (pv 6) pe_int (nomark _)) (pw_and1 (pt_cmpR (r := rIn K true) op_notIn_seq (pe_ix (r := rIxT K) ix_tup (pv 5) (pe_op op_sub (pv 6) pe_int) (fun _ _ => rfl)) (pe_dget hu (pv 1) (pe_ix (r := rIxT K) ix_tup (pv 5) (pv 6) (fun _ _ => rfl)) (fun _ _ => rfl)) rfl))))
                  (pss_one
                    (ps_ret pe_bl))
                  pss_nil)
              (pss_one
                (ps_expr (pe_bm PySem.F.plainAttrs_list PySem.F.slot_list_append PySem.F.type_list_append mt_append (pv 3) (pa_cons (pe_ix (r := rIxT K) ix_tup (pv 5) (pv 6) (fun _ _ => rfl)) pa_nil)))))))))))
      (pss_cons
        (ps_for PassesOwn.never rfl (pi_tup (pe_ix (r := rIxT K) ix_tup (pv 2) pe_int (fun _ _ => rfl))) (pg_name (i := 7) sc_law_is_cover.nd rfl (.inl rfl))
          (pss_one
            (ps_if (pt_cmp (pc_dnotin hu (pv 7) (pv 1)))
              (pss_one
                (ps_ret pe_bl))
              pss_nil)))
      (pss_cons
        (ps_for PassesOwn.never rfl (pi_tup (pe_ix (r := rIxT K) ix_tup (pv 2) pe_int (fun _ _ => rfl))) (pg_name (i := 7) sc_law_is_cover.nd rfl (.inl rfl))
          (pss_one
            (ps_for PassesOwn.never rfl (pi_tup (pe_ix (r := rIxT K) ix_tup (pv 2) pe_int (fun _ _ => rfl))) (pg_name (i := 8) sc_law_is_cover.nd rfl (.inl rfl))
              (pss_one
                (ps_if (PW.pt (pw_and (pt_cmpR op_ne (pv 7) (pv 8) (nomark _)) (pw_and1 (pt_cmpR (r := rIn K false) op_in_seq (pv 8) (pe_dget hu (pv 1) (pv 7) (fun _ _ => rfl)) rfl))))
                  (pss_one
                    (ps_ret pe_bl))
                  pss_nil)))))
      (pss_one
        (ps_ret (pe_cmpR op_eq (pe_callB (r := rLen K) c_len (by rfl) T.n_len (by decide +kernel) (pa_cons (pv 3) pa_nil)) (pe_callB (r := rLen K) c_len (by rfl) T.n_len (by decide +kernel) (pa_cons (pe_ix (r := rIxT K) ix_tup (pv 0) pe_int (fun _ _ => rfl)) pa_nil)) (nomark _)))))))))))
      , ?_⟩
    rw [show L2.start N_law_is_cover [V.ref t, V.ref R, V.ref p] = [some (.ref t), some (.ref R), some (.ref p), none, none, none, none, none, none] from rfl]
    refine w_seq ?_
    walk_at "x"
    refine w_nyes (show (([V.ref a, V.ref b] : List V).length : Int) = 2 from rfl) ?_
    walk_at "g"
    refine w_seq ?_
    walk_at "g"
    refine ⟨b, aps, rfl, hb, C.ar, fun v hv => S.v0 v (C.am v hv), ?_⟩
    walk_at "g"
    refine w_nyes (by rw [List.length_map, List.length_map, clen]) ?_
    walk_at "g"
    refine w_new fun Sn H1 hSn eSn k1 => ?_
    have ea1 := k1 _ _ ea
    have ep1 := k1 _ _ ep
    walk_at "g"
    have lenF : ((css.map (·.2.2)).flatten).length = ns.length := same_len nd (rise_nodup S.vr) fun x => by
      have := C.mem x
      rw [List.map_map] at this
      exact this
    have lenT : ∀ i, (((css.take i).map (·.2.2)).flatten).length ≤ ns.length := fun i => by
      rw [← lenF]
      have : (css.map (·.2.2)).flatten = ((css.take i).map (·.2.2)).flatten ++ ((css.drop i).map (·.2.2)).flatten := by
        rw [← List.flatten_append, ← List.map_append, List.take_append_drop]
      rw [this, List.length_append]
      omega
    refine lp_tup (xs := css.map fun q => .ref q.1) (fun i σ H' => ∃ (fi : Int) (y5 y6 : Option V), σ = [some (.ref t), some (.ref R), some (.ref p), some (.ref Sn), some (.int fi), y5, y6, none, none] ∧ Kp [Sn] H1 H' ∧ H' Sn = some (.lst ((((css.take i).map (·.2.2)).flatten).map V.int)) ∧ ∀ z ∈ css.drop i, fi < z.2.1) ?_ ?_ ?_ ?_
    · refine ⟨-1, _, _, rfl, Kp.refl, eSn, fun z hz => ?_⟩
      have hz' : z ∈ css := by simpa using hz
      obtain ⟨r, hr'⟩ := C.hd z.2 (List.mem_map_of_mem hz')
      have := S.v0 _ (cmem z hz' z.2.1 (by rw [hr']; simp))
      omega
    · rintro i σ H' _ ⟨_, _, _, _, k2, _⟩
      exact .of (k2 _ _ (by simpa using ne_of_none ea hSn) ea1)
    · rintro i y σ H2 hy ⟨fi, y5, y6, rfl, k2, e2, hfi⟩
      obtain ⟨z, hz, rfl⟩ := map_at hy
      have hzm := List.mem_of_getElem? hz
      have offS : ∀ {x : Addr} {o : HO}, H x = some o → x ∉ [Sn] := fun {x o} e => by simpa using ne_of_none e hSn
      have ez := k2 _ _ (offS (hc z hzm)) (k1 _ _ (hc z hzm))
      obtain ⟨r, hr'⟩ := C.hd z.2 (List.mem_map_of_mem hzm)
      have hlt : fi < z.2.1 := hfi z (by rw [drop_of hz]; simp)
      have zlen : z.2.2.length ≤ ns.length := nodup_le _ _ (rise_nodup (C.rise z.2 (List.mem_map_of_mem hzm))) (cmem z hzm)
      have at0 : atI (z.2.2.map V.int) 0 = some (.int z.2.1) := by
        rw [hr']
        show atI (V.int z.2.1 :: r.map V.int) ((0 : Nat) : Int) = _
        exact atI_nat rfl
      refine w_seq ?_
      walk_at "g"
      refine ⟨z.1, z.2.2, rfl, ez, C.rise z.2 (List.mem_map_of_mem hzm), fun v hv => S.v0 v (cmem z hzm v hv), ?_⟩
      walk_at "g"
      refine w_no (by rw [List.length_map, hr']; simp; omega) ?_
      walk_at "g"
      refine w_no (by omega) ?_
      walk_at "g"
      have eR2 := k2 _ _ (offS eR) (k1 _ _ eR)
      refine w_rng1' (by omega) (by rw [List.length_map]; omega) ?_
      refine lp_range (fun k σ H' => ∃ (y6 : Option V), σ = [some (.ref t), some (.ref R), some (.ref p), some (.ref Sn), some (.int z.2.1), some (.ref z.1), y6, none, none] ∧ Kp [Sn] H1 H' ∧ H' Sn = some (.lst ((((css.take i).map (·.2.2)).flatten ++ z.2.2.take k).map V.int))) ?_ ?_ ?_
      · exact ⟨_, rfl, k2, by rw [List.take_zero, List.append_nil]; exact e2⟩
      · rintro k σ H3 hk ⟨y6, rfl, k3, e3⟩
        have hk' : k < z.2.2.length := by
          rw [List.length_map] at hk
          omega
        have hx : z.2.2[k]? = some z.2.2[k] := List.getElem?_eq_getElem hk'
        have hxn : z.2.2[k] ∈ ns := cmem z hzm _ (List.getElem_mem hk')
        have hat : atI (z.2.2.map V.int) (0 + (k : Int)) = some (.int z.2.2[k]) := by
          rw [Int.zero_add]
          exact atI_nat (by rw [List.getElem?_map, hx]; rfl)
        have ez3 := k3 _ _ (offS (hc z hzm)) (k1 _ _ (hc z hzm))
        have eR3 := k3 _ _ (offS eR) (k1 _ _ eR)
        have hnot := nd_at nd hz hx
        obtain ⟨ra, ys, v1, v2, v3, _⟩ := rv _ hxn
        have v2' := k3 _ _ (offS v2) (k1 _ _ v2)
        refine w_name ?_
        dsimp only [List.set_cons_zero, List.set_cons_succ]
        refine w_seq ?_
        walk_at "g"
        rw [val_keys hks]
        refine w_nyes hxn ?_
        walk_at "g"
        refine w_no hnot ?_
        walk_at "g"
        refine w_seq ?_
        walk_at "g"
        have fin : ∀ (y6 : Option V), rAppend (.ref Sn) [.int z.2.2[k]] H3 fun _ H4 => ∃ (y6 : Option V), [some (V.ref t), some (.ref R), some (.ref p), some (.ref Sn), some (.int z.2.1), some (.ref z.1), some (.int (0 + (k : Int))), none, none] = [some (.ref t), some (.ref R), some (.ref p), some (.ref Sn), some (.int z.2.1), some (.ref z.1), y6, none, none] ∧ Kp [Sn] H1 H4 ∧ H4 Sn = some (.lst ((((css.take i).map (·.2.2)).flatten ++ z.2.2.take (k + 1)).map V.int)) := fun _ => by
          refine w_app e3 ?_ fun H4 e4 o4 => ⟨_, rfl, k3.trans (o4.kp (by simp)), ?_⟩
          · rw [List.length_map, List.length_append, List.length_take]
            exact small1000 (by have := lenT i; omega)
          · have e5 : z.2.2.take (k + 1) = z.2.2.take k ++ [z.2.2[k]] := by
              rw [List.take_add_one, hx]
              rfl
            rw [e4, e5, ← List.append_assoc, List.map_append (l₂ := [z.2.2[k]])]
            rfl
        refine w_ite (fun hk0 => ?_) (fun hk0 => ?_)
        · have hk1 : z.2.2[k - 1]? = some z.2.2[k - 1] := List.getElem?_eq_getElem (by omega)
          have hat1 : atI (z.2.2.map V.int) (0 + (k : Int) - 1) = some (.int z.2.2[k - 1]) := by
            have e : (0 + (k : Int) - 1) = ((k - 1 : Nat) : Int) := by omega
            rw [e]
            exact atI_nat (by rw [List.getElem?_map, hk1]; rfl)
          have hbel : Bel (ps.map (·.2)) z.2.2[k] z.2.2[k - 1] := C.link z.2 (List.mem_map_of_mem hzm) (k - 1) _ _ hk1 (by rw [Nat.sub_add_cancel (by omega)]; exact hx)
          walk_at "g"
          refine w_nyes ((v3.mem _).mpr hbel) ?_
          walk_at "g"
          exact fin none
        · walk_at "g"
          exact fin none
      · rintro σ H3 ⟨y6, rfl, k3, e3⟩
        rw [List.length_map] at e3
        have e3' : z.2.2.take ((z.2.2.length : Int) ).toNat = z.2.2 := by simp
        rw [e3'] at e3
        refine ⟨_, _, _, rfl, k3, ?_, fun z' hz' => ?_⟩
        · rw [e3, List.take_add_one, hz]
          simp
        · have hp' : (css.drop i).Pairwise fun x y => x.2.1 < y.2.1 := first.drop
          rw [drop_of hz, List.pairwise_cons] at hp'
          exact hp'.1 z' hz'
    · rintro σ H2 ⟨fi, y5, y6, rfl, k2, e2, _⟩
      rw [List.length_map, List.take_length] at e2
      have offS : ∀ {x : Addr} {o : HO}, H x = some o → x ∉ [Sn] := fun {x o} e => by simpa using ne_of_none e hSn
      have st : ∀ {x : Addr} {o : HO}, H x = some o → H2 x = some o := fun {x o} e => k2 _ _ (offS e) (k1 _ _ e)
      have ep2 := st ep
      have eb2 := st eb
      have eR2 := st eR
      have et2 := st et
      have ev2 := st ev'
      walk_at "g"
      refine lp_tup (xs := aps.map V.int) (fun i σ H' => ∃ (y7 : Option V), σ = [some (.ref t), some (.ref R), some (.ref p), some (.ref Sn), some (.int fi), y5, y6, y7, none] ∧ H' = H2) ⟨_, rfl, rfl⟩ ?_ ?_ ?_
      · rintro i σ H' _ ⟨_, _, rfl⟩
        exact .of eb2
      · rintro i y σ H' hy ⟨y7, rfl, rfl⟩
        obtain ⟨x, hx, rfl⟩ := map_at hy
        walk_at "g"
        rw [val_keys hks]
        refine w_nyes (C.am x (List.mem_of_getElem? hx)) ?_
        walk_at "g"
        exact ⟨_, rfl, rfl⟩
      · rintro σ H' ⟨y7, rfl, rfl⟩
        walk_at "g"
        refine lp_tup (xs := aps.map V.int) (fun i σ H'' => ∃ (y7 y8 : Option V), σ = [some (.ref t), some (.ref R), some (.ref p), some (.ref Sn), some (.int fi), y5, y6, y7, y8] ∧ H'' = H') ⟨_, _, rfl, rfl⟩ ?_ ?_ ?_
        · rintro i σ H' _ ⟨_, _, _, rfl⟩
          exact .of eb2
        · rintro i y σ H'' hy ⟨y7, y8, rfl, rfl⟩
          obtain ⟨x, hx, rfl⟩ := map_at hy
          have hxa := List.mem_of_getElem? hx
          obtain ⟨ra, ys, v1, v2, v3, _⟩ := rv x (C.am x hxa)
          have v2' := st v2
          walk_at "g"
          refine lp_tup (xs := aps.map V.int) (fun i σ H3 => ∃ (y8 : Option V), σ = [some (.ref t), some (.ref R), some (.ref p), some (.ref Sn), some (.int fi), y5, y6, some (.int x), y8] ∧ H3 = H'') ⟨_, rfl, rfl⟩ ?_ ?_ ?_
          · rintro j σ H3 _ ⟨_, _, rfl⟩
            exact .of eb2
          · rintro j y σ H3 hy' ⟨y8, rfl, rfl⟩
            obtain ⟨x', hx', rfl⟩ := map_at hy'
            walk_at "g"
            refine w_itN (fun hne => ?_) (fun he => ?_)
            · walk_at "g"
              refine w_no (fun hin => C.anti x hxa x' (List.mem_of_getElem? hx') hne ((v3.mem x').mp hin)) ?_
              walk_at "g"
              exact ⟨_, rfl, rfl⟩
            · walk_at "g"
              exact ⟨_, rfl, rfl⟩
          · rintro σ H3 ⟨y8, rfl, rfl⟩
            exact ⟨_, _, rfl, rfl⟩
        · rintro σ H'' ⟨y7, y8, rfl, rfl⟩
          walk_at "g"
          rw [show decide ((((css.map (·.2.2)).flatten.map V.int).length : Int) = ((ns.map V.int).length : Int)) = true from decide_eq_true (by rw [List.length_map, List.length_map, lenF])]
          exact q _ (fun x o e => st e)
end
/-! ### answers -/
def AL (H : Hp) (b : Addr) (an : List (Addr × Int × Bool)) : Prop := H b = some (.tup (an.map fun q => .ref q.1)) ∧ ∀ q ∈ an, H q.1 = some (.tup [.int q.2.1, .bl q.2.2])
theorem AL.kt {H H' : Hp} {a : Addr} {an : List (Addr × Int × Bool)} (h : AL H a an) (k : KT H H') : AL H' a an := ⟨k _ _ h.1, fun q hq => k _ _ (h.2 q hq)⟩
/-- what is held by the answers, what lacks -/
def hasP (ls : List (Int × Int)) (an : List (Int × Bool)) (v : Int) : Prop := ∃ u, (u, true) ∈ an ∧ Bel ls u v
def lackP (ls : List (Int × Int)) (an : List (Int × Bool)) (v : Int) : Prop := ∃ u, (u, false) ∈ an ∧ Bel ls v u
noncomputable def hasB (ls : List (Int × Int)) (an : List (Int × Bool)) (v : Int) : Bool := @decide (hasP ls an v) (Classical.propDecidable _)
noncomputable def lackB (ls : List (Int × Int)) (an : List (Int × Bool)) (v : Int) : Bool := @decide (lackP ls an v) (Classical.propDecidable _)
theorem hasB_iff {ls : List (Int × Int)} {an : List (Int × Bool)} {v : Int} : hasB ls an v = true ↔ hasP ls an v := by unfold hasB; exact @decide_eq_true_iff _ (Classical.propDecidable _)
theorem lackB_iff {ls : List (Int × Int)} {an : List (Int × Bool)} {v : Int} : lackB ls an v = true ↔ lackP ls an v := by unfold lackB; exact @decide_eq_true_iff _ (Classical.propDecidable _)
noncomputable def hasL (ls : List (Int × Int)) (an : List (Int × Bool)) (ns : List Int) : List Int := ns.filter (hasB ls an)
noncomputable def lackL (ls : List (Int × Int)) (an : List (Int × Bool)) (ns : List Int) : List Int := ns.filter fun v => !hasB ls an v && lackB ls an v
noncomputable def leftL (ls : List (Int × Int)) (an : List (Int × Bool)) (ns : List Int) : List Int := ns.filter fun v => !hasB ls an v && !lackB ls an v
def noL (an : List (Addr × Int × Bool)) : List Int := (an.filter fun q => !q.2.2).map (·.2.1)
def yesL (an : List (Addr × Int × Bool)) : List Int := (an.filter fun q => q.2.2).map (·.2.1)
theorem mem_noL {an : List (Addr × Int × Bool)} {x : Int} : x ∈ noL an ↔ (x, false) ∈ an.map (·.2) := by
  unfold noL
  rw [List.mem_map, List.mem_map]
  constructor
  · rintro ⟨q, hq, rfl⟩
    obtain ⟨h1, h2⟩ := List.mem_filter.mp hq
    exact ⟨q, h1, by obtain ⟨a, b, c⟩ := q; cases c with | true => simp at h2 | false => rfl⟩
  · rintro ⟨q, hq, e⟩
    exact ⟨q, List.mem_filter.mpr ⟨hq, by rw [e]; rfl⟩, by rw [e]⟩
theorem mem_yesL {an : List (Addr × Int × Bool)} {x : Int} : x ∈ yesL an ↔ (x, true) ∈ an.map (·.2) := by
  unfold yesL
  rw [List.mem_map, List.mem_map]
  constructor
  · rintro ⟨q, hq, rfl⟩
    obtain ⟨h1, h2⟩ := List.mem_filter.mp hq
    exact ⟨q, h1, by obtain ⟨a, b, c⟩ := q; cases c with | true => rfl | false => simp at h2⟩
  · rintro ⟨q, hq, e⟩
    exact ⟨q, List.mem_filter.mpr ⟨hq, by rw [e]⟩, by rw [e]⟩
def noF (q : Addr × Int × Bool) : Option (Key × V) := if q.2.2 = true then none else some (Sum.inl q.2.1, .bl true)
def yesF (q : Addr × Int × Bool) : Option V := if q.2.2 = true then some (.int q.2.1) else none
theorem noF_map : ∀ an : List (Addr × Int × Bool), an.filterMap noF = (noL an).map fun x => ((Sum.inl x : Key), V.bl true)
  | [] => rfl
  | ⟨a, x, b⟩ :: r => by
    have h := noF_map r
    cases b with
    | true =>
      show r.filterMap noF = _
      rw [h]; rfl
    | false =>
      show ((Sum.inl x : Key), V.bl true) :: r.filterMap noF = _
      rw [h]; rfl
theorem yesF_map : ∀ an : List (Addr × Int × Bool), an.filterMap yesF = (yesL an).map V.int
  | [] => rfl
  | ⟨a, x, b⟩ :: r => by
    have h := yesF_map r
    cases b with
    | true =>
      show V.int x :: r.filterMap yesF = _
      rw [h]; rfl
    | false =>
      show r.filterMap yesF = _
      rw [h]; rfl
theorem yesL_len (an : List (Addr × Int × Bool)) : (yesL an).length ≤ an.length := by
  unfold yesL
  rw [List.length_map]
  exact List.length_filter_le _ _
theorem no_in (an : List (Addr × Int × Bool)) (x : Int) : (valV (mergeK [] ((List.range an.length).filterMap fun i => an[i]?.bind noF)) (Sum.inl x)).isSome = decide (x ∈ noL an) := by
  rw [range_fm, noF_map]
  exact known_in (noL an) (fun _ => .bl true) x
/-- no answer is against another: nothing is raised -/
def Clear (ls : List (Int × Int)) (an : List (Int × Bool)) : Prop := ∀ u l, (u, true) ∈ an → (l, false) ∈ an → ¬ Bel ls u l
def Clash (ls : List (Int × Int)) (an : List (Int × Bool)) (p : Int × Int) : Prop := (p.1, true) ∈ an ∧ (p.2, false) ∈ an ∧ Bel ls p.1 p.2
def LeastC (ls : List (Int × Int)) (an : List (Int × Bool)) (p : Int × Int) : Prop := Clash ls an p ∧ ∀ r, Clash ls an r → ¬ LtP r p
theorem LeastC.uniq {ls : List (Int × Int)} {an : List (Int × Bool)} {p q : Int × Int} (a : LeastC ls an p) (b : LeastC ls an q) : p = q := by
  have h1 := a.2 q b.1
  have h2 := b.2 p a.1
  unfold LtP at h1 h2
  obtain ⟨p1, p2⟩ := p
  obtain ⟨q1, q2⟩ := q
  simp only at h1 h2
  have e1 : p1 = q1 := by omega
  have e2 : p2 = q2 := by omega
  rw [e1, e2]
theorem LeastC.not {ls : List (Int × Int)} {an : List (Int × Bool)} {p : Int × Int} (a : LeastC ls an p) : ¬ Clear ls an := fun h => h p.1 p.2 a.1.1 a.1.2.1 a.1.2.2
theorem take_le {ys : List Int} (h : ys.Pairwise (· ≤ ·)) {i : Nat} {u x : Int} (hu : ys[i]? = some u) (hx : x ∈ ys) (hlt : x < u) : x ∈ ys.take i := by
  have e : ys = ys.take i ++ u :: ys.drop (i + 1) := by rw [← drop_of hu, List.take_append_drop]
  have hd : (ys.drop i).Pairwise (· ≤ ·) := h.drop
  rw [drop_of hu, List.pairwise_cons] at hd
  rw [e] at hx
  rcases List.mem_append.mp hx with z | z
  · exact z
  · rcases List.mem_cons.mp z with rfl | z
    · omega
    · have := hd.1 x z
      omega
def spNoClashX (C : Addr) : Sp := fun vs H Q E => ∃ (R A : Addr) (kvs : List (Key × V)) (ls : List (Int × Int)) (ns : List Int) (an : List (Addr × Int × Bool)), vs = [.ref R, .ref A] ∧ H R = some (.dK kvs) ∧ RowsV [] H kvs ls ns ∧ AL H A an ∧ an.length < 64 ∧ (∀ q ∈ an, q.2.1 ∈ ns) ∧
  (Clear ls (an.map (·.2)) → ∀ H', Same H H' → Q .non H') ∧ ∀ p d H', LeastC ls (an.map (·.2)) p → Same H H' → H d = none → H' d = some (.xd [("lower", .int p.2), ("upper", .int p.1)]) → E (.ref C) (some d) H'
section
variable {P : Program} {w : World} {K : PySem.W.Frag} {mg : Str → Option Value} {base : Heap}
theorem ok_cinit {f C : Addr} {fd : FuncData} (F : Fun K "__init__" "Contrary.__init__" s_Contrary___init__ f fd) (XT : OexC K C) (n1 : PySem.W.findIn K (.ref C) "upper" = some none) (n2 : PySem.W.findIn K (.ref C) "lower" = some none) : FnOk P w K mg base CX0 1 f fd ["self", "upper", "lower"] (spInit2 K C "upper" "lower") := by
  refine F.ok sc_Contrary___init__ (fun vs H Q E h => ?_) (fun cdv A outer s H vs Q E hr h => ?_)
  · obtain ⟨a, x, y, rfl, _⟩ := h
    rfl
  · obtain ⟨a, x, y, rfl, e, q⟩ := h
    refine ⟨_,
      (pss_cons
        (ps_ost (pv 0) (pv 1))
      (pss_one
        (ps_ost (pv 0) (pv 2))))
      , ?_⟩
    rw [show L2.start N_Contrary___init__ [V.ref a, x, y] = [some (.ref a), some x, some y] from rfl]
    refine w_seq (w_ost ?_)
    walk_at "x"
    refine ⟨a, C, rfl, XT, n1, .inl ⟨e, fun dx hd hne => ?_⟩⟩
    refine w_ost ?_
    walk_at "g"
    exact ⟨a, C, rfl, XT, n2, .inr ⟨dx, _, upd_same, by rw [upd_ne hne, upd_same], by simp, q dx hd hne⟩⟩
theorem ok_noclashX {f fI C_Contrary : Addr} {fd fdI : FuncData} (T : Txt K mg) (F : Fun K "no_clash" "no_clash" s_no_clash f fd) (FI : Fun K "__init__" "Contrary.__init__" s_Contrary___init__ fI fdI) (X_Contrary : ExnI K mg "Contrary" C_Contrary fI fdI ["self", "upper", "lower"] ["upper", "lower"]) : FnOk P w K mg base (L2.CX P w) 3 f fd ["rows", "answers"] (spNoClashX C_Contrary) := by
  have G_Contrary___init__ : FnOk P w K mg base CX0 1 fI fdI ["self", "upper", "lower"] (spInit2 K C_Contrary "upper" "lower") := ok_cinit FI X_Contrary.T (X_Contrary.nf "upper" (by simp)) (X_Contrary.nf "lower" (by simp))
  refine F.okX sc_no_clash (fun vs H Q E h => ?_) (fun cdv A outer s H vs Q E hr h => ?_)
  · obtain ⟨R, A, kvs, ls, ns, an, rfl, _⟩ := h
    rfl
  · obtain ⟨R, Aa, kvs, ls, ns, an, rfl, eR, rv, ⟨hA, hAe⟩, hl, hm, q, qx⟩ := h
    have hu := hu_of hr
    refine ⟨_,
      (pss_cons
        (ps_setDc (i := 2) (own := [("version", 5), ("truth", 6)]) (g := (gTup K 2 (gCons (gName 5) (gCons (gName 6) gNil)))) rfl sc_no_clash.nd rfl rfl (sw_trueD rfl rfl rfl (by decide +kernel)) (pi_tup (pv 1)) (blkOk_by (own := [("version", 5), ("truth", 6)]) (N := N_no_clash) (sc := defScope s_no_clash) (by decide +kernel)) (fun _ _ _ _ _ => (pg_tup rfl (pgs_cons (pg_name (i := 5) sc_no_clash.nd rfl (.inl rfl)) (pgs_cons (pg_name (i := 6) sc_no_clash.nd rfl (.inl rfl)) pgs_nil)))) (fun _ _ _ _ _ => (pts_one (pt_not (pt_val (pv 6))))) (fun _ _ _ _ _ => (pv 5)) (fun _ _ _ _ _ => pe_bl))
      (pss_one
        (ps_for (passes_of rfl) rfl (pi_list (pe_callB (r := rSorted K) cr_sorted (by rfl) T.n_sorted (by decide +kernel) (pa_cons (pe_lc (own := [("version", 5), ("truth", 6)]) (g := (gTup K 2 (gCons (gName 5) (gCons (gName 6) gNil)))) rfl sc_no_clash.nd (pi_tup (pv 1)) (blkOk_by (own := [("version", 5), ("truth", 6)]) (N := N_no_clash) (sc := defScope s_no_clash) (by decide +kernel)) (fun _ _ _ _ _ => (pg_tup rfl (pgs_cons (pg_name (i := 5) sc_no_clash.nd rfl (.inl rfl)) (pgs_cons (pg_name (i := 6) sc_no_clash.nd rfl (.inl rfl)) pgs_nil)))) (fun _ _ _ _ _ => (pts_one (pt_val (pv 6)))) (fun _ _ _ _ _ => (pv 5))) pa_nil))) (pg_name (i := 3) sc_no_clash.nd rfl (.inl rfl))
          (pss_one
            (ps_for (passes_of rfl) rfl (pi_list (pe_dget hu (pv 0) (pv 3) (fun _ _ => rfl))) (pg_name (i := 4) sc_no_clash.nd rfl (.inl rfl))
              (pss_one
                (ps_if (pt_cmp (pc_din hu (pv 4) (pv 2)))
                  (pss_one
                    (ps_raise rfl (takes_of rfl rfl rfl rfl) (pmk_oex X_Contrary.T X_Contrary.i X_Contrary.t G_Contrary___init__ (hr.mono (by omega)) X_Contrary.b .nil pass0 (by rfl) X_Contrary.g (pa_cons (pv 3) (pa_cons (pv 4) pa_nil)))))
                  pss_nil)))))))
      , ?_⟩
    rw [show L2.start N_no_clash [V.ref R, V.ref Aa] = [some (.ref R), some (.ref Aa), none, none, none, none, none] from rfl]
    walk_at "x"
    refine dcp_sel (walk_tup (K := K) (a := Aa) (xs := an.map fun q => .ref q.1)) [] (fun i => an[i]?.bind noF) (by rw [List.length_map]; omega) (fun H' k => .of (k _ _ (by simp) hA)) ?_ (by simp) ?_
    · rintro i x H1 H2 Rr R0 hi k1 ⟨rfl, hx⟩ h1 h2
      obtain ⟨y, hy, rfl⟩ := map_at hx
      have ey := k1 _ _ (by simp) (hAe y (List.mem_of_getElem? hy))
      walk_at "g"
      refine ⟨rfl, ?_⟩
      walk_at "g"
      refine w_itNB (fun hb => ?_) (fun hb => ?_)
      · walk_at "g"
        exact h1 (Sum.inl y.2.1, .bl true) _ (by rw [hy]; show noF y = _; unfold noF; rw [hb]; rfl) Kp.refl
      · exact h2 _ (by rw [hy]; show noF y = _; unfold noF; rw [hb]; rfl) Kp.refl
    · intro N H1 hN k1 eN
      rw [List.length_map] at eN
      have k1' := k1.same
      have eR1 := k1' _ _ eR
      have hA1 := k1' _ _ hA
      have rv1 := rv.kp (N := []) k1 (by simp)
      walk_at "g"
      refine lcp_sel (walk_tup (K := K) (a := Aa) (xs := an.map fun q => .ref q.1)) [] (fun i => an[i]?.bind yesF) (by rw [List.length_map]; omega) (fun H' k => .of (k _ _ (by simp) hA1)) ?_ (by simp) ?_
      · rintro i x H2 H3 Rr R0 hi k2 ⟨rfl, hx⟩ h1 h2
        obtain ⟨y, hy, rfl⟩ := map_at hx
        have ey := k2 _ _ (by simp) (k1' _ _ (hAe y (List.mem_of_getElem? hy)))
        walk_at "g"
        refine ⟨rfl, ?_⟩
        walk_at "g"
        refine w_itB (fun hb => ?_) (fun hb => ?_)
        · walk_at "g"
          exact h1 _ _ (by rw [hy]; show yesF y = _; unfold yesF; rw [hb]; rfl) Kp.refl
        · exact h2 _ (by rw [hy]; show yesF y = _; unfold yesF; rw [hb]; rfl) Kp.refl
      · intro L H2 hL k2 eL
        rw [List.length_map, range_fm, yesF_map] at eL
        walk_at "g"
        refine w_sorted (.of eL) (by have := yesL_len an; omega) fun ys S H3 hp hs hS eS k3 => ?_
        have kk : Same H1 H3 := Same.trans k2.same k3
        walk_at "g"
        refine lp_list (xs := ys.map V.int) (fun i σ H' => ∃ (y3 y4 : Option V), σ = [some (.ref R), some (.ref Aa), some (.ref N), y3, y4, none, none] ∧ H' = H3 ∧ ∀ u ∈ ys.take i, ∀ l, ¬ Clash ls (an.map (·.2)) (u, l)) ⟨_, _, rfl, rfl, by simp⟩ ?_ ?_ ?_
        · rintro i σ H' _ ⟨_, _, _, rfl, _⟩
          exact .of eS
        · rintro i y σ H' hy ⟨y3, y4, rfl, rfl, hno⟩
          obtain ⟨u, hu', rfl⟩ := map_at hy
          have huy : (u, true) ∈ an.map (·.2) := mem_yesL.mp (hp.mem_iff.mp (List.mem_of_getElem? hu'))
          have hun : u ∈ ns := by
            obtain ⟨z, hz, e⟩ := List.mem_map.mp huy
            have := hm z hz
            rw [e] at this
            exact this
          obtain ⟨a, zs, v1, v2, v3, v4⟩ := rv1 u hun
          have eR3 := kk _ _ eR1
          have v2' := kk _ _ v2
          have eN3 := kk _ _ eN
          walk_at "g"
          refine lp_list (xs := zs.map V.int) (fun j σ H'' => ∃ (y4 : Option V), σ = [some (.ref R), some (.ref Aa), some (.ref N), some (.int u), y4, none, none] ∧ H'' = H' ∧ ∀ l ∈ zs.take j, l ∉ noL an) ⟨_, rfl, rfl, by simp⟩ ?_ ?_ ?_
          · rintro j σ H'' _ ⟨_, _, rfl, _⟩
            exact .of v2'
          · rintro j y σ H'' hy' ⟨y4, rfl, rfl, hj⟩
            obtain ⟨l, hl', rfl⟩ := map_at hy'
            have hlm := List.mem_of_getElem? hl'
            walk_at "g"
            rw [no_in]
            refine w_ite (fun hin => ?_) (fun hin => ?_)
            · have cl : Clash ls (an.map (·.2)) (u, l) := ⟨huy, mem_noL.mp hin, (v3.mem l).mp hlm⟩
              have least : LeastC ls (an.map (·.2)) (u, l) := by
                refine ⟨cl, fun r hr' hlt => ?_⟩
                rcases hlt with h | ⟨h1, h2⟩
                · exact hno r.1 (take_le hs hu' (hp.mem_iff.mpr (mem_yesL.mpr hr'.1)) h) r.2 hr'
                · have hb : Bel ls u r.2 := by
                    have := hr'.2.2
                    rw [h1] at this
                    exact this
                  exact hj r.2 (take_le (v3.rise.imp Int.le_of_lt) hl' ((v3.mem r.2).mpr hb) h2) (mem_noL.mpr hr'.2.1)
              refine w_mkO ?_
              walk_at "g"
              refine ⟨by simp, fun a ha => mk2_same ha fun d H4 k4 hd e4 => ?_⟩
              exact qx (u, l) d H4 least (Same.trans k1' (Same.trans kk k4)) ((Same.trans k1' kk).free hd) e4
            · walk_at "g"
              refine ⟨_, rfl, rfl, fun x hx => ?_⟩
              rw [List.take_add_one, hl'] at hx
              rcases List.mem_append.mp hx with h | h
              · exact hj x h
              · have e : x = l := by simpa using h
                rw [e]
                exact hin
          · rintro σ H'' ⟨y4, rfl, rfl, hj⟩
            rw [List.length_map, List.take_length] at hj
            refine ⟨_, _, rfl, rfl, fun x hx l hcl => ?_⟩
            rw [List.take_add_one, hu'] at hx
            rcases List.mem_append.mp hx with h | h
            · exact hno x h l hcl
            · have e : x = u := by simpa using h
              subst e
              exact hj l ((v3.mem l).mpr hcl.2.2) (mem_noL.mpr hcl.2.1)
        · rintro σ H' ⟨y3, y4, rfl, rfl, hno⟩
          rw [List.length_map, List.take_length] at hno
          exact q (fun u l h1 h2 h3 => hno u (hp.mem_iff.mpr (mem_yesL.mpr h1)) l ⟨h1, h2, h3⟩) _ (Same.trans k1' kk)
end
def spSettledX (C : Addr) : Sp := fun vs H Q E => ∃ (t A : Addr) (ns : List Int) (ps : List (Addr × Int × Int)) (an : List (Addr × Int × Bool)), vs = [.ref t, .ref A] ∧ ShAt H t ns ps ∧ ShOk ns (ps.map (·.2)) ∧ ns.length < 64 ∧ ps.length ≤ 100000 ∧ AL H A an ∧ an.length < 64 ∧ (∀ q ∈ an, q.2.1 ∈ ns) ∧
  (Clear (ps.map (·.2)) (an.map (·.2)) → ∀ H' r a1 a2 a3, Same H H' → H' r = some (.tup [.ref a1, .ref a2, .ref a3]) → VL H' a1 (hasL (ps.map (·.2)) (an.map (·.2)) ns) → VL H' a2 (lackL (ps.map (·.2)) (an.map (·.2)) ns) → VL H' a3 (leftL (ps.map (·.2)) (an.map (·.2)) ns) → Q (.ref r) H') ∧ ∀ p d H', LeastC (ps.map (·.2)) (an.map (·.2)) p → Same H H' → H d = none → H' d = some (.xd [("lower", .int p.2), ("upper", .int p.1)]) → E (.ref C) (some d) H'
theorem hasP.mem {ns : List Int} {ls : List (Int × Int)} {an : List (Int × Bool)} {v : Int} (S : ShOk ns ls) (hm : ∀ q ∈ an, q.1 ∈ ns) (h : hasP ls an v) : v ∈ ns := by
  obtain ⟨u, hu, b⟩ := h
  exact b.mem S (hm _ hu)
theorem filter_snoc {p : Int → Bool} {ns : List Int} {i : Nat} {v : Int} (h : ns[i]? = some v) : (ns.take (i + 1)).filter p = if p v = true then (ns.take i).filter p ++ [v] else (ns.take i).filter p := by
  rw [List.take_add_one, h, List.filter_append]
  by_cases e : p v = true
  · rw [if_pos e]; simp [e]
  · rw [if_neg e]; simp [e]
theorem hasL_snoc {ls : List (Int × Int)} {an : List (Int × Bool)} {ns : List Int} {i : Nat} {v : Int} (h : ns[i]? = some v) : hasL ls an (ns.take (i + 1)) = if hasB ls an v = true then hasL ls an (ns.take i) ++ [v] else hasL ls an (ns.take i) := filter_snoc h
theorem lackL_snoc {ls : List (Int × Int)} {an : List (Int × Bool)} {ns : List Int} {i : Nat} {v : Int} (h : ns[i]? = some v) : lackL ls an (ns.take (i + 1)) = if (!hasB ls an v && lackB ls an v) = true then lackL ls an (ns.take i) ++ [v] else lackL ls an (ns.take i) := filter_snoc h
theorem leftL_snoc {ls : List (Int × Int)} {an : List (Int × Bool)} {ns : List Int} {i : Nat} {v : Int} (h : ns[i]? = some v) : leftL ls an (ns.take (i + 1)) = if (!hasB ls an v && !lackB ls an v) = true then leftL ls an (ns.take i) ++ [v] else leftL ls an (ns.take i) := filter_snoc h
section
variable {P : Program} {w : World} {K : PySem.W.Frag} {mg : Str → Option Value} {base : Heap}
theorem ok_settledX {f fS fN fI C_Contrary : Addr} {fd fdS fdN fdI : FuncData} (T : Txt K mg) (F : Fun K "settled" "settled" s_settled f fd) (D_spans : Df K mg "spans" s_spans ["shape"] fS fdS) (D_no_clash : Df K mg "no_clash" s_no_clash ["rows", "answers"] fN fdN)
    (FI : Fun K "__init__" "Contrary.__init__" s_Contrary___init__ fI fdI) (X_Contrary : ExnI K mg "Contrary" C_Contrary fI fdI ["self", "upper", "lower"] ["upper", "lower"]) : FnOk P w K mg base (L2.CX P w) 4 f fd ["shape", "answers"] (spSettledX C_Contrary) := by
  have G_spans : FnOk P w K mg base CX0 1 fS fdS ["shape"] spSpans := ok_spans T D_spans.fn
  have G_no_clash : FnOk P w K mg base (L2.CX P w) 3 fN fdN ["rows", "answers"] (spNoClashX C_Contrary) := ok_noclashX T D_no_clash.fn FI X_Contrary
  refine F.okX sc_settled (fun vs H Q E h => ?_) (fun cdv A outer s H vs Q E hr h => ?_)
  · obtain ⟨t, A, ns, ps, an, rfl, _⟩ := h
    rfl
  · obtain ⟨t, Aa, ns, ps, an, rfl, hS, S, hl, hl2, hA, hal, ham, q, qx⟩ := h
    have hu := hu_of hr
    refine ⟨_,
      (pss_cons
        (ps_set (i := 2) sc_settled.nd rfl (.inr rfl) (pe_call G_spans (hr.mono (by omega)) (by rfl) D_spans.g D_spans.fn.kp D_spans.b .nil pass0 (pa_cons (pv 0) pa_nil)))
      (pss_cons
        (ps_expr (pe_call G_no_clash (hr.mono (by omega)) (by rfl) D_no_clash.g D_no_clash.fn.kp D_no_clash.b .nil (passes_call (takes_of rfl rfl rfl rfl) (fun _ _ _ _ h => h)) (pa_cons (pv 2) (pa_cons (pv 1) pa_nil))))
      (pss_cons
        (ps_set (i := 3) sc_settled.nd rfl (.inr rfl) (pe_dc (own := [("version", 8), ("truth", 9)]) (g := (gTup K 2 (gCons (gName 8) (gCons (gName 9) gNil)))) rfl sc_settled.nd (pi_tup (pv 1)) (blkOk_by (own := [("version", 8), ("truth", 9)]) (N := N_settled) (sc := defScope s_settled) (by decide +kernel)) (fun _ _ _ _ _ => (pg_tup rfl (pgs_cons (pg_name (i := 8) sc_settled.nd rfl (.inl rfl)) (pgs_cons (pg_name (i := 9) sc_settled.nd rfl (.inl rfl)) pgs_nil)))) (fun _ _ _ _ _ => (pts_one (pt_not (pt_val (pv 9))))) (fun _ _ _ _ _ => (pv 8)) (fun _ _ _ _ _ => pe_bl)))
      (pss_cons
        (ps_setDc2 (i := 4) (own := [("version", 8), ("truth", 9), ("low", 10)]) (us := [10]) (ga := (gTup K 2 (gCons (gName 8) (gCons (gName 9) gNil)))) (gb := (gName 10)) rfl sc_settled.nd rfl rfl (sw_trueD rfl rfl rfl (by decide +kernel)) (pi_tup (pv 1)) (blkOk_by (own := [("version", 8), ("truth", 9), ("low", 10)]) (N := N_settled) (sc := defScope s_settled) (by decide +kernel)) (by decide) (fun _ _ _ _ _ => (pg_tup rfl (pgs_cons (pg_name (i := 8) sc_settled.nd rfl (.inl rfl)) (pgs_cons (pg_name (i := 9) sc_settled.nd rfl (.inl rfl)) pgs_nil)))) (fun _ _ _ _ _ => (pts_one (pt_val (pv 9)))) (fun _ _ _ _ _ => (pi_listK (K := K) rfl (pe_dget hu (pv 2) (pv 8) (fun _ _ => rfl)))) (fun _ _ _ _ _ => (pg_name (i := 10) sc_settled.nd rfl (.inl rfl))) (fun _ _ _ _ _ => pts_nil) (fun _ _ _ _ _ => (pv 10)) (fun _ _ _ _ _ => pe_bl))
      (pss_cons
        (ps_set (i := 5) sc_settled.nd rfl (.inl rfl) (pe_lst pa_nil))
      (pss_cons
        (ps_set (i := 6) sc_settled.nd rfl (.inl rfl) (pe_lst pa_nil))
      (pss_cons
        (ps_set (i := 7) sc_settled.nd rfl (.inl rfl) (pe_lst pa_nil))
      (pss_cons
        (ps_for (passes_of rfl) rfl (pi_tup (pe_ix (r := rIxT K) ix_tup (pv 0) pe_int (fun _ _ => rfl))) (pg_name (i := 8) sc_settled.nd rfl (.inl rfl))
          (pss_one
            (ps_if (pt_cmp (pc_din hu (pv 8) (pv 4)))
              (pss_one
                (ps_expr (pe_bm PySem.F.plainAttrs_list PySem.F.slot_list_append PySem.F.type_list_append mt_append (pv 5) (pa_cons (pv 8) pa_nil))))
              (pss_one
                (ps_if (pt_val (pe_callB (r := rAny K) (cr_any rfl) (by rfl) T.n_any (by decide +kernel) (pa_cons (pe_lc (own := [("low", 10)]) (g := (gName 10)) rfl sc_settled.nd (pi_list (pe_dget hu (pv 2) (pv 8) (fun _ _ => rfl))) (blkOk_by (own := [("low", 10)]) (N := N_settled) (sc := defScope s_settled) (by decide +kernel)) (fun _ _ _ _ _ => (pg_name (i := 10) sc_settled.nd rfl (.inl rfl))) (fun _ _ _ _ _ => pts_nil) (fun _ _ _ _ _ => (pe_cmp (pc_din hu (pv 10) (pv 3))))) pa_nil)))
                  (pss_one
                    (ps_expr (pe_bm PySem.F.plainAttrs_list PySem.F.slot_list_append PySem.F.type_list_append mt_append (pv 6) (pa_cons (pv 8) pa_nil))))
                  (pss_one
                    (ps_expr (pe_bm PySem.F.plainAttrs_list PySem.F.slot_list_append PySem.F.type_list_append mt_append (pv 7) (pa_cons (pv 8) pa_nil)))))))))
      (pss_one
        (ps_ret (pe_tup (pa_cons (pe_callTy (r := rTupOf K) c_tupOf (by rfl) T.n_tuple (by decide +kernel) (pa_cons (pv 5) pa_nil)) (pa_cons (pe_callTy (r := rTupOf K) c_tupOf (by rfl) T.n_tuple (by decide +kernel) (pa_cons (pv 6) pa_nil)) (pa_cons (pe_callTy (r := rTupOf K) c_tupOf (by rfl) T.n_tuple (by decide +kernel) (pa_cons (pv 7) pa_nil)) pa_nil))))))))))))))
      , ?_⟩
    rw [show L2.start N_settled [V.ref t, V.ref Aa] = [some (.ref t), some (.ref Aa), none, none, none, none, none, none, none, none, none] from rfl]
    walk_at "x"
    refine ⟨t, ns, ps, rfl, hS, S, hl, hl2, fun H1 R k1 hR RA => ?_⟩
    obtain ⟨kvs, eR, hks, _, rv0⟩ := RA
    have rv : RowsV [] H1 kvs (ps.map (·.2)) ns := fun v hv => by
      obtain ⟨a, ys, v1, v2, v3, v4⟩ := rv0 v hv
      exact ⟨a, ys, v1, v2, v3, by simp⟩
    have hA1 := hA.kt (KT.of k1)
    walk_at "g"
    refine ⟨R, Aa, kvs, _, ns, an, rfl, eR, rv, hA1, hal, ham, fun hc H2 k2 => ?_, fun p d H2 hp k2 hd e => qx p d H2 hp (Same.trans k1 k2) (k1.free hd) e⟩
    have eR2 := k2 _ _ eR
    have rv2 := rv.kp (N := []) (Kp.of k2) (by simp)
    obtain ⟨hAt, hAe⟩ := hA1.kt (KT.of k2)
    walk_at "g"
    refine dcp_sel (walk_tup (K := K) (a := Aa) (xs := an.map fun q => .ref q.1)) [] (fun i => an[i]?.bind noF) (by rw [List.length_map]; omega) (fun H' k => .of (k _ _ (by simp) hAt)) ?_ (by simp) ?_
    · rintro i x H3 H4 Rr R0 hi k3 ⟨rfl, hx⟩ h1 h2
      obtain ⟨y, hy, rfl⟩ := map_at hx
      have ey := k3 _ _ (by simp) (hAe y (List.mem_of_getElem? hy))
      walk_at "g"
      refine ⟨rfl, ?_⟩
      walk_at "g"
      refine w_itNB (fun hb => ?_) (fun hb => ?_)
      · walk_at "g"
        exact h1 (Sum.inl y.2.1, .bl true) _ (by rw [hy]; show noF y = _; unfold noF; rw [hb]; rfl) Kp.refl
      · exact h2 _ (by rw [hy]; show noF y = _; unfold noF; rw [hb]; rfl) Kp.refl
    · intro N H3 hN k3' eN
      rw [List.length_map] at eN
      have k3 := k3'.same
      have eR3 := k3 _ _ eR2
      have rv3 := rv2.kp (N := []) k3' (by simp)
      have hAt3 := k3 _ _ hAt
      walk_at "g"
      refine dc2_it (walk_tup (K := K) (a := Aa) (xs := an.map fun q => .ref q.1)) (fun D i H' => Same H3 H' ∧ ∃ (ks : List Int), FoundAt H' D ks ∧ ∀ x, x ∈ ks ↔ hasP (ps.map (·.2)) ((an.take i).map (·.2)) x) ?_ ?_ ?_ ?_
      · intro D hD
        refine ⟨Same.new hD, [], ⟨⟨[], upd_same, rfl⟩, List.nodup_nil⟩, fun x => ?_⟩
        constructor
        · intro z; cases z
        · rintro ⟨u, hu', _⟩
          simp at hu'
      · rintro D i H' _ ⟨k4, _⟩
        exact .of (k4 _ _ hAt3)
      · rintro D i x H4 H5 hD hi ⟨k4, ks, FA, hin⟩ ⟨rfl, hx⟩
        obtain ⟨y, hy, rfl⟩ := map_at hx
        have hym := List.mem_of_getElem? hy
        have ey := k4 _ _ (k3 _ _ (hAe y hym))
        have tk : (an.take (i + 1)).map (·.2) = (an.take i).map (·.2) ++ [y.2] := by
          rw [List.take_add_one, hy, List.map_append]
          rfl
        have hmt : ∀ z ∈ (an.take i).map (·.2), z.1 ∈ ns := fun z hz => by
          obtain ⟨z', hz', rfl⟩ := List.mem_map.mp hz
          exact ham _ (List.mem_of_mem_take hz')
        walk_at "g"
        refine ⟨rfl, ?_⟩
        walk_at "g"
        refine w_itB (fun hb => ?_) (fun hb => ?_)
        · obtain ⟨a, zs, v1, v2, v3, _⟩ := rv3 y.2.1 (ham y hym)
          have eR5 := k4 _ _ eR3
          have v2' := k4 _ _ v2
          walk_at "g"
          refine inner_it (walk_list (K := K) (a := a) (xs := zs.map V.int)) (fun j H' => Same H3 H' ∧ ∃ (ks : List Int), FoundAt H' D ks ∧ ∀ x, x ∈ ks ↔ hasP (ps.map (·.2)) ((an.take i).map (·.2)) x ∨ x ∈ zs.take j) ?_ ?_ ?_ ?_
          · exact ⟨k4, ks, FA, fun x => by rw [hin]; simp⟩
          · rintro j H' _ ⟨k5, _⟩
            exact .of (k5 _ _ v2)
          · rintro j x H6 H7 hj ⟨k6, ks6, ⟨⟨fk, ef, hfk⟩, nd6⟩, hin6⟩ ⟨rfl, hx6⟩
            obtain ⟨u, hu', rfl⟩ := map_at hx6
            refine w_name ⟨rfl, ?_⟩
            walk_at "g"
            have hlen : fk.length < sizeLine := by
              have h1 : fk.length = ks6.length := by
                have := congrArg List.length hfk
                simpa using this
              have h2 : ks6.length ≤ ns.length := nodup_le ks6 ns nd6 fun z hz => by
                rcases (hin6 z).mp hz with a | a
                · exact a.mem S hmt
                · exact ((v3.mem z).mp (List.mem_of_mem_take a)).mem S (ham y hym)
              exact small1000 (by omega)
            refine ⟨fk, Sum.inl u, rfl, ef, hlen, ?_, addK ks6 u, FoundAt.put hfk nd6 upd_same, fun z => ?_⟩
            · exact (Kp.mutN (M := []) (Kp.of k6) hD).same
            · rw [mem_addK, hin6, List.take_add_one, hu']
              simp only [Option.toList_some, List.mem_append, List.mem_singleton]
              rw [or_assoc]
          · rintro H6 ⟨k6, ks6, FA6, hin6⟩
            rw [List.length_map, List.take_length] at hin6
            refine ⟨k6, ks6, FA6, fun z => ?_⟩
            rw [hin6, tk, v3.mem]
            constructor
            · rintro (⟨u, h1, h2⟩ | h1)
              · exact ⟨u, List.mem_append_left _ h1, h2⟩
              · exact ⟨y.2.1, List.mem_append_right _ (by rw [← hb]; simp), h1⟩
            · rintro ⟨u, h1, h2⟩
              rcases List.mem_append.mp h1 with h1 | h1
              · exact .inl ⟨u, h1, h2⟩
              · have e : (u, true) = y.2 := by simpa using h1
                rw [← e]
                exact .inr h2
        · refine ⟨k4, ks, FA, fun z => ?_⟩
          rw [hin, tk]
          constructor
          · rintro ⟨u, h1, h2⟩
            exact ⟨u, List.mem_append_left _ h1, h2⟩
          · rintro ⟨u, h1, h2⟩
            rcases List.mem_append.mp h1 with h1 | h1
            · exact ⟨u, h1, h2⟩
            · have e : (u, true) = y.2 := by simpa using h1
              rw [← e] at hb
              cases hb
      · rintro D H4 hD ⟨k4, ks, ⟨⟨fk, ef, hfk⟩, nd4⟩, hin⟩
        rw [List.length_map, List.take_length] at hin
        have hinB : ∀ x, (valV fk (Sum.inl x)).isSome = hasB (ps.map (·.2)) (an.map (·.2)) x := fun x => by
          rw [val_keys hfk, Bool.eq_iff_iff, decide_eq_true_iff, hin, hasB_iff]
        walk_at "g"
        refine w_new fun a1 H5 h1 e1 k5 => ?_
        walk_at "g"
        refine w_new fun a2 H6 h2 e2 k6 => ?_
        walk_at "g"
        refine w_new fun a3 H7 h3 e3 k7 => ?_
        have n12 : a1 ≠ a2 := ne_of_none e1 h2
        have n13 : a1 ≠ a3 := ne_of_none (k6 _ _ e1) h3
        have n23 : a2 ≠ a3 := ne_of_none e2 h3
        have k47 : Same H4 H7 := Same.trans k5 (Same.trans k6 k7)
        have k37 : Same H3 H7 := Same.trans k4 k47
        have kk : Same H H7 := Same.trans k1 (Same.trans k2 (Same.trans k3 k37))
        obtain ⟨ta, tb, et, ea, eb⟩ := hS.kt (KT.of kk)
        have ea' : H7 ta = some (.tup (ns.map V.int)) := ea
        have f1 : H4 a1 = none := h1
        have f2 : H4 a2 = none := k5.free h2
        have f3 : H4 a3 = none := k5.free (k6.free h3)
        walk_at "g"
        refine lp_tup (xs := ns.map V.int) (fun i σ H' => ∃ (y8 : Option V), σ = [some (.ref t), some (.ref Aa), some (.ref R), some (.ref N), some (.ref D), some (.ref a1), some (.ref a2), some (.ref a3), y8, none, none] ∧ Same H4 H' ∧ H' a1 = some (.lst ((hasL (ps.map (·.2)) (an.map (·.2)) (ns.take i)).map V.int)) ∧ H' a2 = some (.lst ((lackL (ps.map (·.2)) (an.map (·.2)) (ns.take i)).map V.int)) ∧ H' a3 = some (.lst ((leftL (ps.map (·.2)) (an.map (·.2)) (ns.take i)).map V.int))) ?_ ?_ ?_ ?_
        · exact ⟨_, rfl, k47, k7 _ _ (k6 _ _ e1), k7 _ _ e2, e3⟩
        · rintro i σ H' _ ⟨_, _, k8, _⟩
          refine .of (k8 _ _ ?_)
          have z := hS.kt (KT.of (Same.trans k1 (Same.trans k2 (Same.trans k3 k4))))
          obtain ⟨ta', tb', et', ea2, _⟩ := z
          have z2 := k47 _ _ et'
          rw [et] at z2
          cases z2
          exact ea2
        · rintro i y σ H8 hy ⟨y8, rfl, k8, g1, g2, g3⟩
          obtain ⟨v, hv, rfl⟩ := map_at hy
          have hvn := List.mem_of_getElem? hv
          have sz : ∀ p : Int → Bool, (List.filter p (ns.take i)).length < sizeLine := fun p => small1000 (Nat.le_trans (List.length_filter_le _ _) (by rw [List.length_take]; omega))
          have ef8 := k8 _ _ ef
          have s1 := hasL_snoc (ls := ps.map (·.2)) (an := an.map (·.2)) hv
          have s2 := lackL_snoc (ls := ps.map (·.2)) (an := an.map (·.2)) hv
          have s3 := leftL_snoc (ls := ps.map (·.2)) (an := an.map (·.2)) hv
          walk_at "g"
          rw [hinB]
          refine w_itB (fun hb => ?_) (fun hb => ?_)
          · walk_at "g"
            refine w_app g1 (by rw [List.length_map]; exact sz _) fun H9 e9 o9 => ?_
            refine ⟨_, rfl, (Off.keep (M := []) (Kp.of k8) o9 f1).same, ?_, ?_, ?_⟩
            · rw [e9, s1, if_pos hb, List.map_append]; rfl
            · rw [o9.get n12.symm g2, s2, if_neg (by rw [hb]; simp)]
            · rw [o9.get n13.symm g3, s3, if_neg (by rw [hb]; simp)]
          · obtain ⟨a, zs, v1, v2, v3, _⟩ := rv3 v hvn
            have eR8 := k8 _ _ (k4 _ _ eR3)
            have v2' := k8 _ _ (k4 _ _ v2)
            have eN8 := k8 _ _ (k4 _ _ eN)
            have zl : zs.length ≤ ns.length := RowsV.len (M := []) (H := H3) (kvs := kvs) (dn := ns) S hvn v3
            walk_at "g"
            refine lcp_map (walk_list (K := K) (a := a) (xs := zs.map V.int)) [] ((zs.map fun x => decide (x ∈ noL an)).map V.bl) (by simp) (by rw [List.length_map]; omega) (fun H' k => .of (k _ _ (by simp) v2')) ?_ (by simp) ?_
            · rintro j x H9 H10 Rr hj k9 ⟨rfl, hx⟩ hR
              obtain ⟨u, hu', rfl⟩ := map_at hx
              have eN9 := k9 _ _ (by simp) eN8
              refine w_name ⟨rfl, ?_⟩
              walk_at "g"
              rw [no_in]
              exact hR _ _ (by rw [List.getElem?_map, List.getElem?_map, hu']; rfl) Kp.refl
            · intro L H9 hL k9' eL
              have k9 := k9'.same
              have g1' := k9 _ _ g1
              have g2' := k9 _ _ g2
              have g3' := k9 _ _ g3
              have eany : (zs.map fun x => decide (x ∈ noL an)).any id = lackB (ps.map (·.2)) (an.map (·.2)) v := by
                rw [Bool.eq_iff_iff, lackB_iff, List.any_eq_true]
                constructor
                · rintro ⟨b, hb1, hb2⟩
                  obtain ⟨u, hu1, rfl⟩ := List.mem_map.mp hb1
                  exact ⟨u, mem_noL.mp (of_decide_eq_true hb2), (v3.mem u).mp hu1⟩
                · rintro ⟨u, hu1, hu2⟩
                  exact ⟨true, List.mem_map.mpr ⟨u, (v3.mem u).mpr hu2, decide_eq_true (mem_noL.mpr hu1)⟩, rfl⟩
              walk_at "g"
              rw [eany]
              refine w_itB (fun hc' => ?_) (fun hc' => ?_)
              · walk_at "g"
                refine w_app g2' (by rw [List.length_map]; exact sz _) fun H10 e10 o10 => ?_
                refine ⟨_, rfl, (Off.keep (M := []) (Kp.of (Same.trans k8 k9)) o10 f2).same, ?_, ?_, ?_⟩
                · rw [o10.get n12 g1', s1, if_neg (by rw [hb]; simp)]
                · rw [e10, s2, if_pos (by rw [hb, hc']; rfl), List.map_append]; rfl
                · rw [o10.get n23.symm g3', s3, if_neg (by rw [hb, hc']; simp)]
              · walk_at "g"
                refine w_app g3' (by rw [List.length_map]; exact sz _) fun H10 e10 o10 => ?_
                refine ⟨_, rfl, (Off.keep (M := []) (Kp.of (Same.trans k8 k9)) o10 f3).same, ?_, ?_, ?_⟩
                · rw [o10.get n13 g1', s1, if_neg (by rw [hb]; simp)]
                · rw [o10.get n23 g2', s2, if_neg (by rw [hb, hc']; simp)]
                · rw [e10, s3, if_pos (by rw [hb, hc']; rfl), List.map_append]; rfl
        · rintro σ H8 ⟨y8, rfl, k8, g1, g2, g3⟩
          rw [List.length_map, List.take_length] at g1 g2 g3
          walk_at "g"
          refine w_tupL (.of g1) fun b1 H9 hb1 eb1 k9 => ?_
          have g2' := k9 _ _ g2
          have g3' := k9 _ _ g3
          walk_at "g"
          refine w_tupL (.of g2') fun b2 H10 hb2 eb2 k10 => ?_
          have g3'' := k10 _ _ g3'
          walk_at "g"
          refine w_tupL (.of g3'') fun b3 H11 hb3 eb3 k11 => ?_
          walk_at "g"
          refine w_new fun r H12 hr12 e12 k12 => ?_
          refine q hc H12 r b1 b2 b3 ?_ e12 (k12 _ _ (k11 _ _ (k10 _ _ eb1))) (k12 _ _ (k11 _ _ eb2)) (k12 _ _ eb3)
          exact Same.trans k1 (Same.trans k2 (Same.trans k3 (Same.trans k4 (Same.trans k8 (Same.trans k9 (Same.trans k10 (Same.trans k11 k12)))))))
end
def midS (L : Int → Bool) (few : Int) (as c : List Int) : List Int := if c.filter L ≠ [] ∧ (as.length : Int) < few then as ++ [(c.filter L).getD ((c.filter L).length / 2) 0] else as
def midF (L : Int → Bool) (few : Int) (cs : List (List Int)) : List Int := cs.foldl (midS L few) []
theorem midF_snoc {L : Int → Bool} {few : Int} {cs : List (List Int)} {i : Nat} {c : List Int} (h : cs[i]? = some c) : midF L few (cs.take (i + 1)) = midS L few (midF L few (cs.take i)) c := by
  unfold midF
  rw [List.take_add_one, h, List.foldl_append]
  rfl
theorem midF_len {L : Int → Bool} {few : Int} : ∀ (cs : List (List Int)), (midF L few cs).length ≤ cs.length := by
  have key : ∀ (cs : List (List Int)) (as : List Int), (cs.foldl (midS L few) as).length ≤ as.length + cs.length := by
    intro cs
    induction cs with
    | nil => intro as; simp
    | cons c cs ih =>
      intro as
      have h1 := ih (midS L few as c)
      have h2 : (midS L few as c).length ≤ as.length + 1 := by
        unfold midS
        split
        · simp
        · omega
      simp only [List.foldl_cons, List.length_cons]
      omega
  intro cs
  show (cs.foldl (midS L few) []).length ≤ cs.length
  have := key cs []
  simpa using this
theorem mid_at {c : List Int} (h : c ≠ []) : atI (c.map V.int) ((c.length : Int) / 2) = some (.int (c.getD (c.length / 2) 0)) := by
  have hl : 0 < c.length := List.length_pos_iff.mpr h
  have e : ((c.length : Int) / 2) = ((c.length / 2 : Nat) : Int) := by omega
  rw [e]
  refine atI_nat ?_
  have h2 : c.length / 2 < c.length := by omega
  rw [List.getElem?_map, List.getElem?_eq_getElem h2, List.getD_eq_getElem?_getD, List.getElem?_eq_getElem h2]
  rfl
def ChsAt (H : Hp) (css : List (Addr × List Int)) : Prop := ∀ q ∈ css, H q.1 = some (.tup (q.2.map V.int)) ∧ q.2.length ≤ 1000
def spNext : Sp := fun vs H Q E => ∃ (t A cv ca : Addr) (u : V) (few : Int) (ns : List Int) (ps : List (Addr × Int × Int)) (an : List (Addr × Int × Bool)) (css : List (Addr × List Int)), vs = [.ref t, .ref cv, .ref A, .int few] ∧ ShAt H t ns ps ∧ ShOk ns (ps.map (·.2)) ∧ ns.length < 64 ∧ ps.length ≤ 100000 ∧ AL H A an ∧ an.length < 64 ∧ (∀ q ∈ an, q.2.1 ∈ ns) ∧
  Clear (ps.map (·.2)) (an.map (·.2)) ∧ H cv = some (.tup [.ref ca, u]) ∧ H ca = some (.tup (css.map fun q => .ref q.1)) ∧ ChsAt H css ∧ css.length ≤ 1000 ∧ ∀ H' r, Same H H' → VL H' r (midF (fun v => decide (v ∈ leftL (ps.map (·.2)) (an.map (·.2)) ns)) few (css.map (·.2))) → Q (.ref r) H'
section
variable {P : Program} {w : World} {K : PySem.W.Frag} {mg : Str → Option Value} {base : Heap}
theorem ok_next {f fS fN fT fI C_Contrary : Addr} {fd fdS fdN fdT fdI : FuncData} (T : Txt K mg) (D : DfK K mg "next_asks" s_next_asks ["shape", "cover", "answers", "few"] [("few", .int 4)] [.int 4] f fd) (D_spans : Df K mg "spans" s_spans ["shape"] fS fdS) (D_no_clash : Df K mg "no_clash" s_no_clash ["rows", "answers"] fN fdN) (D_settled : Df K mg "settled" s_settled ["shape", "answers"] fT fdT)
    (FI : Fun K "__init__" "Contrary.__init__" s_Contrary___init__ fI fdI) (X_Contrary : ExnI K mg "Contrary" C_Contrary fI fdI ["self", "upper", "lower"] ["upper", "lower"]) : FnOk P w K mg base (L2.CX P w) 5 f fd ["shape", "cover", "answers", "few"] spNext := by
  have G_settled : FnOk P w K mg base (L2.CX P w) 4 fT fdT ["shape", "answers"] (spSettledX C_Contrary) := ok_settledX T D_settled.fn D_spans D_no_clash FI X_Contrary
  refine D.fn.ok sc_next_asks (fun vs H Q E h => ?_) (fun cdv A outer s H vs Q E hr h => ?_)
  · obtain ⟨t, A, cv, ca, u, few, ns, ps, an, css, rfl, _⟩ := h
    rfl
  · obtain ⟨t, Aa, cv, ca, u, few, ns, ps, an, css, rfl, hS, S, hl, hl2, hA, hal, ham, hcl, ecv, eca, hch, hcn, q⟩ := h
    have hu := hu_of hr
    refine ⟨_,
      (pss_cons
        (ps_set (i := 4) sc_next_asks.nd rfl (.inr rfl) (pe_ix (r := rIxT K) ix_tup (pe_call G_settled (hr.mono (by omega)) (by rfl) D_settled.g D_settled.fn.kp D_settled.b .nil (passes_call (takes_of rfl rfl rfl rfl) (fun _ _ _ _ h => h)) (pa_cons (pv 0) (pa_cons (pv 2) pa_nil))) pe_int (fun _ _ => rfl)))
      (pss_cons
        (ps_set (i := 5) sc_next_asks.nd rfl (.inl rfl) (pe_lst pa_nil))
      (pss_cons
        (ps_for (passes_of rfl) rfl (pi_tup (pe_ix (r := rIxT K) ix_tup (pv 1) pe_int (fun _ _ => rfl))) (pg_name (i := 6) sc_next_asks.nd rfl (.inl rfl))
          (pss_cons
            (ps_setLc (i := 7) (own := [("version", 8)]) (g := (gName 8)) rfl sc_next_asks.nd rfl rfl (sw_true rfl rfl rfl (by decide +kernel)) (pi_tup (pv 6)) (blkOk_by (own := [("version", 8)]) (N := N_next_asks) (sc := defScope s_next_asks) (by decide +kernel)) (fun _ _ _ _ _ => (pg_name (i := 8) sc_next_asks.nd rfl (.inl rfl))) (fun _ _ _ _ _ => (pts_one (pt_cmpR (r := rIn K false) op_in_seq (pv 8) (pv 4) rfl))) (fun _ _ _ _ _ => (pv 8)))
          (pss_one
            (ps_if (PW.pt (pw_and (p_truth (pv 7) (by intro _; rfl)) (pw_and1 (pt_cmpR op_lt (pe_callB (r := rLen K) c_len (by rfl) T.n_len (by decide +kernel) (pa_cons (pv 5) pa_nil)) (pv 3) (nomark _)))))
              (pss_one
                (ps_expr (pe_bm PySem.F.plainAttrs_list PySem.F.slot_list_append PySem.F.type_list_append mt_append (pv 5) (pa_cons (pe_ix (r := rIxL K) ix_list (pv 7) (pe_op op_fdivW (pe_callB (r := rLen K) c_len (by rfl) T.n_len (by decide +kernel) (pa_cons (pv 7) pa_nil)) pe_int) (fun _ _ => rfl)) pa_nil))))
              pss_nil))))
      (pss_one
        (ps_ret (pe_callTy (r := rTupOf K) c_tupOf (by rfl) T.n_tuple (by decide +kernel) (pa_cons (pv 5) pa_nil)))))))
      , ?_⟩
    rw [show L2.start N_next_asks [V.ref t, V.ref cv, V.ref Aa, V.int few] = [some (.ref t), some (.ref cv), some (.ref Aa), some (.int few), none, none, none, none, none] from rfl]
    walk_at "x"
    refine ⟨t, Aa, ns, ps, an, rfl, hS, S, hl, hl2, hA, hal, ham, fun _ H1 r a1 a2 a3 k1 er v1 v2 v3 => ?_, fun p' d H' hp' => absurd hcl hp'.not⟩
    have v3' : H1 a3 = some (.tup ((leftL (ps.map (·.2)) (an.map (·.2)) ns).map V.int)) := v3
    generalize hlf : leftL (ps.map (·.2)) (an.map (·.2)) ns = lf at q v3'
    walk_at "g"
    refine w_new fun b H2 hb eb k2 => ?_
    have k02 : Same H H2 := Same.trans k1 k2
    have ecv2 := k02 _ _ ecv
    have eca2 := k02 _ _ eca
    have off : ∀ {x : Addr} {o : HO}, H1 x = some o → x ∉ [b] := fun {x o} e => by simpa using ne_of_none e hb
    walk_at "g"
    refine lp_tup (xs := css.map fun q => .ref q.1) (fun i σ H' => ∃ (y6 y7 y8 : Option V), σ = [some (.ref t), some (.ref cv), some (.ref Aa), some (.int few), some (.ref a3), some (.ref b), y6, y7, y8] ∧ Kp [b] H2 H' ∧ H' b = some (.lst ((midF (fun v => decide (v ∈ lf)) few ((css.map (·.2)).take i)).map V.int))) ?_ ?_ ?_ ?_
    · exact ⟨_, _, _, rfl, Kp.refl, eb⟩
    · rintro i σ H' _ ⟨_, _, _, _, k3, _⟩
      exact .of (k3 _ _ (off (k1 _ _ eca)) eca2)
    · rintro i y σ H3 hy ⟨y6, y7, y8, rfl, k3, e3⟩
      obtain ⟨c, hc, rfl⟩ := map_at hy
      have hil : i < css.length := (List.getElem?_eq_some_iff.mp hc).1
      obtain ⟨ec, hcl'⟩ := hch c (List.mem_of_getElem? hc)
      have ec3 := k3 _ _ (off (k1 _ _ ec)) (k02 _ _ ec)
      have el3 := k3 _ _ (off v3') (k2 _ _ v3')
      have hc2 : (css.map (·.2))[i]? = some c.2 := by rw [List.getElem?_map, hc]; rfl
      walk_at "g"
      refine lcp_sel (walk_tup (K := K) (a := c.1) (xs := c.2.map V.int)) [] (fun i => c.2[i]?.bind (pickI fun v => decide (v ∈ lf))) (by rw [List.length_map]; omega) (fun H' k => .of (k _ _ (by simp) ec3)) ?_ (by simp) ?_
      · rintro j x H4 H5 Rr R0 hj k4 ⟨rfl, hx⟩ h1 h2
        obtain ⟨v, hv, rfl⟩ := map_at hx
        have el4 := k4 _ _ (by simp) el3
        refine w_name ⟨rfl, ?_⟩
        walk_at "g"
        refine w_ite (fun hz => ?_) (fun hz => ?_)
        · walk_at "g"
          exact h1 _ _ (sel_yes hv (decide_eq_true hz)) Kp.refl
        · exact h2 _ (sel_no hv (by simpa using hz)) Kp.refl
      · intro G H4 hG k4 eG
        rw [List.length_map, range_fm, pickI_map] at eG
        have e4 := k4 _ _ (by simp) e3
        have k24 : Kp [b] H2 H4 := k3.trans (Kp.of k4.same)
        have nGb : b ≠ G := ne_of_none e3 hG
        have sn := midF_snoc (L := fun v => decide (v ∈ lf)) (few := few) hc2
        generalize hF : c.2.filter (fun v => decide (v ∈ lf)) = F at eG
        walk_at "g"
        by_cases hF0 : F = []
        · have sn' : midF (fun v => decide (v ∈ lf)) few ((css.map (·.2)).take (i + 1)) = midF (fun v => decide (v ∈ lf)) few ((css.map (·.2)).take i) := by
            rw [sn]
            unfold midS
            rw [hF, if_neg (fun z => z.1 hF0)]
          rw [hF0]
          refine (iteF ?_ : if false = true then _ else _)
          walk_at "g"
          exact ⟨_, _, _, rfl, k24, by rw [sn']; exact e4⟩
        · rw [show (!(F.map V.int).isEmpty) = true by cases F with | nil => exact absurd rfl hF0 | cons _ _ => rfl]
          refine iteT ?_
          walk_at "g"
          refine w_ite (fun hlt => ?_) (fun hge => ?_)
          · rw [List.length_map] at hlt
            have hm := mid_at hF0
            walk_at "g"
            rw [List.length_map]
            refine w_ixL (.of eG) hm ?_
            walk_at "g"
            refine w_app e4 ?_ fun H5 e5 o5 => ?_
            · rw [List.length_map]
              refine small1000 (Nat.le_trans (midF_len _) ?_)
              rw [List.length_take, List.length_map]
              omega
            · refine ⟨_, _, _, rfl, k24.trans (o5.kp (by simp)), ?_⟩
              rw [e5, sn]
              unfold midS
              rw [hF, if_pos ⟨hF0, hlt⟩, List.map_append]
              rfl
          · rw [List.length_map] at hge
            have sn' : midF (fun v => decide (v ∈ lf)) few ((css.map (·.2)).take (i + 1)) = midF (fun v => decide (v ∈ lf)) few ((css.map (·.2)).take i) := by
              rw [sn]
              unfold midS
              rw [hF, if_neg (fun z => hge z.2)]
            walk_at "g"
            exact ⟨_, _, _, rfl, k24, by rw [sn']; exact e4⟩
    · rintro σ H3 ⟨y6, y7, y8, rfl, k3, e3⟩
      rw [List.length_map, show (css.map (·.2)).take css.length = css.map (·.2) by rw [List.take_of_length_le (by simp)]] at e3
      walk_at "g"
      refine w_tupL (.of e3) fun r2 H4 hr2 er2 k4 => ?_
      exact q H4 r2 (fun x o e => k4 _ _ (k3 _ _ (off (k1 _ _ e)) (k02 _ _ e))) er2
end
local macro_rules | `(tactic| walk_at "sq") => `(tactic| first | assumption | exact SqL.of (by assumption) | exact SqT.of (by assumption))
local macro_rules | `(tactic| walk_at "c") => `(tactic| first | ((with_reducible refine cdivw ?_ ?_) <;> first | decide | omega | assumption) | ((with_reducible refine cmul_r ?_ ?_) <;> first | decide | omega) | ((with_reducible refine cmul_l ?_ ?_) <;> first | decide | omega) | with_reducible assumption | decide | omega | exact ⟨by decide, by decide, by first | decide | omega⟩)
local macro_rules | `(tactic| walk_at "at") => `(tactic| first | assumption | exact rfl)
local macro_rules | `(tactic| walk_at "ty") => `(tactic| first | exact .base (.int _) | exact .base (.bl _) | exact .base (.str _) | exact .base .non | exact .base (.tup (by assumption)) | exact .base (.lst (by assumption)) | exact .base (.dK (by assumption)))
local macro_rules | `(tactic| walk_at "kb") => `(tactic| first | exact kb_int_int | exact kb_int_bool | exact kb_int_str | exact kb_int_tuple | exact kb_int_list | exact kb_int_dict | exact kb_bool_int | exact kb_bool_bool | exact kb_bool_str | exact kb_bool_tuple | exact kb_bool_list | exact kb_bool_dict | exact kb_str_int | exact kb_str_bool | exact kb_str_str | exact kb_str_tuple | exact kb_str_list | exact kb_str_dict | exact kb_tuple_int | exact kb_tuple_bool | exact kb_tuple_str | exact kb_tuple_tuple | exact kb_tuple_list | exact kb_tuple_dict | exact kb_list_int | exact kb_list_bool | exact kb_list_str | exact kb_list_tuple | exact kb_list_list | exact kb_list_dict | exact kb_dict_int | exact kb_dict_bool | exact kb_dict_str | exact kb_dict_tuple | exact kb_dict_list | exact kb_dict_dict | exact kb_NoneType_int | exact kb_NoneType_bool | exact kb_NoneType_str | exact kb_NoneType_tuple | exact kb_NoneType_list | exact kb_NoneType_dict)
local macro_rules | `(tactic| walk_at "s") => `(tactic| first
  | with_reducible refine w_seqA ?_
  | with_reducible refine w_seqD ?_
  | with_reducible refine w_seqF ?_
  | with_reducible refine w_seqW ?_
  | with_reducible refine w_seqG ?_
  | with_reducible refine w_seqP ?_
  | with_reducible refine w_asg ?_
  | ((with_reducible refine' w_var ?hv ?_); (case hv => exact rfl))
  | with_reducible refine w_c ?_
  | ((with_reducible refine w_name ?_); dsimp only [List.set_cons_zero, List.set_cons_succ])
  | with_reducible refine w_name ?_
  | with_reducible refine w_op ?_
  | with_reducible refine w_un ?_
  | with_reducible refine w_neg ?_
  | with_reducible refine w_i0 ?_
  | ((with_reducible refine w_i ?hc ?_); (case hc => walk_at "c"))
  | with_reducible refine w_eqI ?_
  | with_reducible refine w_neI ?_
  | ((with_reducible refine' w_ixL ?h1 ?h2 ?_); (case h1 => walk_at "sq"); (case h2 => walk_at "at"))
  | ((with_reducible refine' w_ixT ?h1 ?h2 ?_); (case h1 => walk_at "sq"); (case h2 => walk_at "at"))
  | ((with_reducible refine' w_ixSL ?h1 ?h2 ?_); (case h1 => walk_at "sq"); (case h2 => walk_at "at"))
  | ((with_reducible refine' w_ixST ?h1 ?h2 ?_); (case h1 => walk_at "sq"); (case h2 => walk_at "at"))
  | with_reducible refine w_neB ?_
  | with_reducible refine w_eqN ?_
  | with_reducible refine w_sub ?_
  | with_reducible refine w_if ?_
  | with_reducible refine w_test ?_
  | with_reducible refine w_tb ?_
  | with_reducible refine w_bl ?_
  | with_reducible refine w_and ?_
  | with_reducible refine w_or ?_
  | with_reducible refine w_not ?_
  | with_reducible refine w_andV ?_
  | with_reducible refine w_orV ?_
  | with_reducible refine w_notV ?_
  | with_reducible refine w_ret ?_
  | with_reducible refine w_drop ?_
  | with_reducible refine w_next ?_
  | with_reducible refine w_cb ?_
  | with_reducible refine w_nil ?_
  | with_reducible refine w_cons ?_
  | with_reducible refine w_call ?_
  | with_reducible refine w_lst ?_
  | with_reducible refine w_tup ?_
  | with_reducible refine w_bm ?_
  | ((with_reducible refine' w_tyL ?h1 ?_); (case h1 => assumption))
  | ((with_reducible refine' w_lenL ?h1 ?_); (case h1 => walk_at "sq"))
  | ((with_reducible refine' w_lenT ?h1 ?_); (case h1 => walk_at "sq"))
  | ((with_reducible refine w_sz ?h1 ?_); (case h1 => first | decide | (simp only [List.length_cons, List.length_nil]; decide)))
  | with_reducible refine w_min2 ?_
  | with_reducible refine w_max2 ?_
  | with_reducible refine w_tupRg ?_
  | with_reducible refine w_rg2 ?_
  | with_reducible refine w_rg2' ?_
  | with_reducible refine w_bits ?_
  | with_reducible refine w_bits' ?_
  | with_reducible refine w_for ?_
  | with_reducible refine w_rng1 ?_
  | ((with_reducible refine w_rng1' ?h1 ?h2 ?_); (case h1 => omega); (case h2 => omega))
  | with_reducible refine w_rng2 ?_
  | ((with_reducible refine w_rng2' ?h1 ?_); (case h1 => omega))
  | with_reducible refine w_itL ?_
  | ((with_reducible refine' w_itL' ?h1 ?_); (case h1 => walk_at "sq"))
  | with_reducible refine w_itT ?_
  | ((with_reducible refine' w_itT' ?h1 ?_); (case h1 => walk_at "sq"))
  | with_reducible refine w_lc ?_
  | ((with_reducible refine' w_isi ?ty ?hk ?_); (case ty => walk_at "ty"); (case hk => walk_at "kb"))
  | with_reducible refine iteT ?_
  | with_reducible refine iteF ?_
  | with_reducible refine w_nT ?_
  | with_reducible refine w_nF ?_
  | with_reducible refine w_eqS ?_
  | with_reducible refine w_eqB ?_
  | ((with_reducible refine' w_sum ?h1 ?_); (case h1 => walk_at "sq"))
  | ((with_reducible refine' w_gtup ?h1 ?h2 ?_); (case h1 => walk_at "sq"); (case h2 => exact rfl))
  | with_reducible refine w_gcons ?_
  | with_reducible refine w_gnil ?_
  | with_reducible refine w_din ?_
  | with_reducible refine w_dnotin ?_
  | with_reducible refine w_dget ?_
  | ((with_reducible refine' w_dinI ?h1 ?_); (case h1 => assumption))
  | ((with_reducible refine' w_dnotinI ?h1 ?_); (case h1 => assumption))
  | ((with_reducible refine' w_dgetI ?h1 ?h2 ?_); (case h1 => assumption); (case h2 => assumption))
  | with_reducible refine w_dnewK ?_
  | with_reducible refine w_dput ?_
  | with_reducible refine w_dget2 ?_
  | ((with_reducible refine' w_isD ?h1 ?_); (case h1 => assumption))
  | ((with_reducible refine' w_dget2I ?h1 ?_); (case h1 => assumption))
  | with_reducible refine w_dsetd ?_
  | ((with_reducible refine' w_leT2 ?h1 ?h2 ?_); (case h1 => walk_at "sq"); (case h2 => walk_at "sq"))
  | ((with_reducible refine' w_inT ?h1 ?_); (case h1 => walk_at "sq"))
  | ((with_reducible refine' w_ninT ?h1 ?_); (case h1 => walk_at "sq"))
  | ((with_reducible refine' w_inL ?h1 ?_); (case h1 => walk_at "sq"))
  | ((with_reducible refine' w_ninL ?h1 ?_); (case h1 => walk_at "sq"))
  | with_reducible refine w_pair ?_
  | with_reducible refine w_pnil ?_
  | with_reducible refine w_callS ?_
  | with_reducible refine w_try ?_
  | with_reducible refine w_isB ?_
  | with_reducible refine w_isN ?_
  | with_reducible refine w_notN ?_
  | with_reducible refine w_chain ?_
  | with_reducible refine w_tru ?_
  | ((with_reducible refine' w_trL ?h1 ?_); (case h1 => walk_at "sq"))
  | ((with_reducible refine' w_trT ?h1 ?_); (case h1 => walk_at "sq"))
  | with_reducible refine w_dc ?_
  | with_reducible refine w_dc2 ?_
  | with_reducible refine w_dget1 ?_
  | ((with_reducible refine' w_dget1I ?h1 ?_); (case h1 => assumption))
  | with_reducible refine w_rev ?_
  | ((with_reducible refine' w_rev' ?h1 ?_); (case h1 => walk_at "sq"))
  | with_reducible refine w_slice ?_
  | with_reducible refine w_noPart ?_
  | with_reducible refine w_part ?_
  | with_reducible refine w_part' ?_
  | with_reducible refine w_enum ?_
  | ((with_reducible refine' w_enum' ?h1 ?_); (case h1 => walk_at "sq"))
  | with_reducible refine w_bm0 ?_
  | with_reducible refine w_retN ?_
  | with_reducible refine w_tyes ?_
  | with_reducible refine w_keys ?_
  | ((with_reducible refine' w_keys' ?h1 ?_); (case h1 => assumption))
  | ((with_reducible refine' w_dinF ?h1 ?_); (case h1 => assumption))
  | ((with_reducible refine' w_dgetF ?h1 ?h2 ?_); (case h1 => assumption); (case h2 => assumption))
  | ((with_reducible refine' w_any ?h1 ?_); (case h1 => walk_at "sq"))
  | with_reducible refine w_zipA ?_
  | ((with_reducible refine' w_zipT' ?h1 ?h2 ?_); (case h1 => walk_at "sq"); (case h2 => walk_at "sq"))
  | with_reducible refine w_dct ?_
  | with_reducible refine w_tryG ?_
  | with_reducible refine w_inS ?_
  | with_reducible refine w_neS ?_
  | with_reducible refine w_ltS ?_
  | with_reducible refine w_gtS ?_
  | ((with_reducible refine' w_augI ?hv ?_); (case hv => exact rfl))
  | ((with_reducible refine w_ipI ?_); dsimp only [List.set_cons_zero, List.set_cons_succ])
  | with_reducible refine w_callD ?_
  | with_reducible refine w_m1 ?_
  | with_reducible refine w_isS ?_
  | with_reducible refine w_istr ?_
  | with_reducible refine w_istr' ?_
  | ((with_reducible refine' w_all ?h1 ?_); (case h1 => walk_at "sq"))
  | ((with_reducible refine' w_glst ?h1 ?h2 ?_); (case h1 => walk_at "sq"); (case h2 => exact rfl))
  | with_reducible refine w_callN ?_
  | with_reducible refine w_step ?_
  | dsimp only [Bool.not_true, Bool.not_false]
  )
local macro_rules | `(tactic| walk_at "p") => `(tactic| first | assumption | omega | (simp only [List.length_cons, List.length_nil, List.length_map]; omega) | exact rfl | decide)
local macro_rules | `(tactic| walk_at "d") => `(tactic| first
  | ((with_reducible refine w_yes ?hp ?_); (case hp => walk_at "p"))
  | ((with_reducible refine w_no ?hp ?_); (case hp => walk_at "p"))
  | ((with_reducible refine w_nyes ?hp ?_); (case hp => walk_at "p"))
  | ((with_reducible refine w_nno ?hp ?_); (case hp => walk_at "p")))
local macro_rules | `(tactic| walk_at "g") => `(tactic| repeat walk_at "s")
local macro_rules | `(tactic| walk_at "dg") => `(tactic| (walk_at "d"; repeat walk_at "s"))
local macro_rules | `(tactic| walk_at "x") => `(tactic| ((try dsimp only [cxOf, Cx.nox, Cx.wish]); repeat walk_at "s"))
local macro_rules | `(tactic| walk_at "s") => `(tactic| with_reducible refine w_revT ?_)
local macro_rules | `(tactic| walk_at "s") => `(tactic| first
  | with_reducible refine w_fld ?_
  | ((with_reducible refine' w_fld' ?h1 ?h2 ?h3 ?h4 ?_); (case h1 => assumption); (case h2 => assumption); (case h3 => assumption); (case h4 => exact rfl))
  | with_reducible refine w_seqFS ?_
  | with_reducible refine w_fldS ?_
  | with_reducible refine w_meth ?_
  | ((with_reducible refine' w_meth' ?h1 ?h2 ?_); (case h1 => assumption); (case h2 => exact rfl))
  | with_reducible refine w_make ?_
  | with_reducible refine w_nin ?_
  | with_reducible refine w_nget ?_
  | with_reducible refine w_nget1 ?_
  | with_reducible refine w_seqNP ?_
  | with_reducible refine w_nput ?_
  | with_reducible refine w_maxD ?_
  )
local macro_rules | `(tactic| walk_at "s") => `(tactic| first
  | with_reducible refine w_revL ?_
  )
/-! ### the law's own pairing -/
/-- what the search has found: a free one, and how it came there -/
structure Fnd (vs : List Int) (ls : List (Int × Int)) (up : Int → Option Int) (v : Int) (cs : List (Int × Int)) (low : Int) : Prop where
  came : Came ls up v cs
  mem : ∀ q ∈ cs, q.1 ∈ vs
  free : up low = none
  lm : low ∈ vs
  at' : ∃ (i : Nat) (u : Int), cs[i]? = some (low, u)
theorem Fnd.len {vs : List Int} {ls : List (Int × Int)} {up : Int → Option Int} {v : Int} {cs : List (Int × Int)} {low : Int} (s : Fnd vs ls up v cs low) : cs.length ≤ vs.length := by
  have := nodup_le (cs.map (·.1)) vs s.came.nd fun x hx => by
    obtain ⟨q, hq, rfl⟩ := List.mem_map.mp hx
    exact s.mem q hq
  simpa using this
def spLPair : Sp := fun as H Q _ => ∃ (v : Int) (d c R U D : Addr) (n : Nat) (kvs : List (Key × V)) (vs : List Int) (ls : List (Int × Int)) (up lo : Int → Option Int), as = [.ref d, .ref R, .ref U, .ref D, .int v] ∧ Deck H d c n ∧ n + 70 ≤ MOSTD ∧ U ≠ D ∧ H R = some (.dK kvs) ∧ R ≠ U ∧ R ≠ D ∧ RowsV [d] H kvs ls vs ∧ MapAt H U vs up ∧ MapAt H D vs lo ∧
  ShOk vs ls ∧ vs.length < 64 ∧ Mt vs ls up lo ∧ lo v = none ∧ v ∈ vs ∧
  ∀ H' up' lo', Deck H' d c (n + 70) → Kp [U, D, d] H H' → MapAt H' U vs up' → MapAt H' D vs lo' → Prd vs ls v up lo up' lo' → Q .non H'
section
variable {P : Program} {w : World} {K : PySem.W.Frag} {mg : Str → Option Value} {base : Heap}
theorem ok_lpair {f fM fD : Addr} {fd fdM fdD : FuncData} (T : Txt K mg) (F : Fun K "_law_pair_up" "_law_pair_up" s_law_pair_up f fd) (D_law_mixed : Df K mg "_law_mixed" s_law_mixed ["_law_cell", "_law_turn"] fM fdM) (D_law_draw : Df K mg "_law_draw" s_law_draw ["_law_deck_here", "_law_many"] fD fdD) : FnOk P w K mg base CX0 3 f fd ["_law_deck_here", "_law_rows", "_law_ups", "_law_downs", "_law_one"] spLPair := by
  have G_law_draw : FnOk P w K mg base CX0 2 fD fdD ["_law_deck_here", "_law_many"] spDraw := ok_draw T D_law_draw.fn D_law_mixed
  refine F.ok sc_law_pair_up (fun vs H Q E h => ?_) (fun cdv A outer s H vs Q E hr h => ?_)
  · obtain ⟨v, d, c, R, U, D, n, kvs, vs, ls, up, lo, rfl, _⟩ := h
    rfl
  · obtain ⟨v, d, c, R, U, D, n, kvs, vs, ls, up, lo, rfl, D0, hn, nUD, eR, nRU, nRD, rv, mU, mD, S, hl, M, hv0, hv, q⟩ := h
    have hu := hu_of hr
    refine ⟨_,
      (pss_cons
        (ps_set (i := 5) sc_law_pair_up.nd rfl (.inl rfl) pe_dnewK)
      (pss_cons
        (ps_set (i := 6) sc_law_pair_up.nd rfl (.inl rfl) (pe_lst (pa_cons (pv 4) pa_nil)))
      (pss_cons
        (ps_set (i := 7) sc_law_pair_up.nd rfl (.inl rfl) pe_non)
      (pss_cons
        (ps_while PassesOwn.never (PW.pt (pw_and (pt_cmpR op_gt (pe_callB (r := rLen K) c_len (by rfl) T.n_len (by decide +kernel) (pa_cons (pv 6) pa_nil)) pe_int (nomark _)) (pw_and1 (pt_cmpR o_isN (pv 7) pe_non (nomark _)))))
          (pss_cons
            (ps_set (i := 8) sc_law_pair_up.nd rfl (.inl rfl) (pe_bm0 PySem.F.plainAttrs_list PySem.F.slot_list_pop PySem.F.type_list_pop mt_pop (pv 6)))
          (pss_cons
            (ps_set (i := 9) sc_law_pair_up.nd rfl (.inl rfl) (pe_slice sl_list (pe_dget hu (pv 1) (pv 8) (fun _ _ => rfl)) po_none (po_some (pe_un un_neg pe_int))))
          (pss_cons
            (ps_if (pt_cmpR op_eq (pe_call G_law_draw (hr.mono (by omega)) (by rfl) D_law_draw.g D_law_draw.fn.kp D_law_draw.b .nil pass0 (pa_cons (pv 0) (pa_cons pe_int pa_nil))) pe_int (nomark _))
              (pss_one
                (ps_set (i := 9) sc_law_pair_up.nd rfl (.inl rfl) (pe_revL (pv 9) (pe_un un_neg pe_int))))
              pss_nil)
          (pss_one
            (ps_for PassesOwn.never rfl (pi_list (pv 9)) (pg_name (i := 10) sc_law_pair_up.nd rfl (.inl rfl))
              (pss_one
                (ps_if (PW.pt (pw_and (pt_cmp (pc_dnotin hu (pv 10) (pv 5))) (pw_and1 (pt_cmpR o_isN (pv 7) pe_non (nomark _)))))
                  (pss_cons
                    (ps_dput hu (pv 5) (pv 10) (pv 8) rfl)
                  (pss_one
                    (ps_if (pt_cmp (pc_din hu (pv 10) (pv 2)))
                      (pss_one
                        (ps_expr (pe_bm PySem.F.plainAttrs_list PySem.F.slot_list_append PySem.F.type_list_append mt_append (pv 6) (pa_cons (pe_dget hu (pv 2) (pv 10) (fun _ _ => rfl)) pa_nil))))
                      (pss_one
                        (ps_set (i := 7) sc_law_pair_up.nd rfl (.inl rfl) (pv 10))))))
                  pss_nil))))))))
      (pss_one
        (ps_while PassesOwn.never (pt_cmpR o_notN (pv 7) pe_non (nomark _))
          (pss_cons
            (ps_set (i := 8) sc_law_pair_up.nd rfl (.inl rfl) (pe_dget hu (pv 5) (pv 7) (fun _ _ => rfl)))
          (pss_cons
            (ps_set (i := 11) sc_law_pair_up.nd rfl (.inl rfl) (pe_dget1 hu (pv 3) (pv 8) ⟨rfl, rfl, rfl, rfl⟩))
          (pss_cons
            (ps_dput hu (pv 2) (pv 7) (pv 8) rfl)
          (pss_cons
            (ps_dput hu (pv 3) (pv 8) (pv 7) rfl)
          (pss_one
            (ps_set (i := 7) sc_law_pair_up.nd rfl (.inl rfl) (pv 11)))))))))))))
      , ?_⟩
    rw [show L2.start N_law_pair_up [V.ref d, V.ref R, V.ref U, V.ref D, V.int v] = [some (.ref d), some (.ref R), some (.ref U), some (.ref D), some (.int v), none, none, none, none, none, none, none] from rfl]
    walk_at "x"
    refine w_new fun C H1 hC eC k1 => ?_
    walk_at "g"
    refine w_new fun Wy H2 hW eW k2 => ?_
    have k02 : Same H H2 := Same.trans k1 k2
    have hW0 : H Wy = none := k1.free hW
    have nCW : C ≠ Wy := ne_of_none eC hW
    obtain ⟨uk, uks, eU, u2, u3, u4, u5⟩ := id mU
    obtain ⟨dk, dks, eD, d2, d3, d4, d5⟩ := id mD
    obtain ⟨⟨dxs, ed⟩, ⟨cxs, ec⟩⟩ := D0.at
    have nCU : C ≠ U := (ne_of_none eU hC).symm
    have nCD : C ≠ D := (ne_of_none eD hC).symm
    have nCR : C ≠ R := (ne_of_none eR hC).symm
    have nWU : Wy ≠ U := (ne_of_none eU hW0).symm
    have nWD : Wy ≠ D := (ne_of_none eD hW0).symm
    have nWR : Wy ≠ R := (ne_of_none eR hW0).symm
    obtain ⟨nCd, nCc⟩ := D0.ne1 hC
    obtain ⟨nWd, nWc⟩ := D0.ne1 hW0
    have nUd : U ≠ d := ne_of eU ed (fun z => nomatch z)
    have nUc : U ≠ c := ne_of eU ec (fun z => nomatch z)
    have nDd : D ≠ d := ne_of eD ed (fun z => nomatch z)
    have nDc : D ≠ c := ne_of eD ec (fun z => nomatch z)
    have nRd : R ≠ d := ne_of eR ed (fun z => nomatch z)
    have mU2 : MapAt H2 U vs up := mU.kp (M := []) (Kp.of k02) (by simp)
    have mD2 : MapAt H2 D vs lo := mD.kp (M := []) (Kp.of k02) (by simp)
    have D2 : Deck H2 d c n := D0.kp (M := []) (Kp.of k02) (by simp) (by simp)
    have eR2 := k02 _ _ eR
    have rv2 : RowsV [C, Wy, d] H2 kvs ls vs := fun x hx => by
      obtain ⟨a, ys, v1, v2, v3, v4⟩ := rv x hx
      exact ⟨a, ys, v1, k02 _ _ v2, v3, by simp [ne_of_none v2 hC, ne_of_none v2 hW0]; simpa using v4⟩
    walk_at "g"
    refine w_whileN (fun m σ H' => (∃ (cs : List (Int × Int)) (ways : List Int) (y8 y9 y10 : Option V), σ = [some (.ref d), some (.ref R), some (.ref U), some (.ref D), some (.int v), some (.ref C), some (.ref Wy), some .non, y8, y9, y10, none] ∧ m = 1 + ways.length + 2 * (vs.length - cs.length) ∧ ways.length + 2 * (vs.length - cs.length) ≤ 1 + 2 * vs.length ∧ Srch vs ls up v cs ways (fun _ => False) ∧ Kp [C, Wy, d] H2 H' ∧ MapAt H' C vs (lookI cs) ∧ H' Wy = some (.lst (ways.map V.int)) ∧ ways.length ≤ 1 + cs.length ∧ Deck H' d c (n + (1 + cs.length - ways.length))) ∨
      (∃ (cs : List (Int × Int)) (low : Int) (ws : List Int) (y8 y9 y10 : Option V), σ = [some (.ref d), some (.ref R), some (.ref U), some (.ref D), some (.int v), some (.ref C), some (.ref Wy), some (.int low), y8, y9, y10, none] ∧ m = 0 ∧ Fnd vs ls up v cs low ∧ Kp [C, Wy, d] H2 H' ∧ MapAt H' C vs (lookI cs) ∧ H' Wy = some (.lst (ws.map V.int)) ∧ Deck H' d c (n + 66))) (2 + 2 * vs.length)
      (.inl ⟨[], [v], _, _, _, rfl, by simp only [List.length_cons, List.length_nil]; omega, by simp only [List.length_cons, List.length_nil]; omega, Srch.start hv, Kp.refl, ⟨[], [], k2 _ _ eC, rfl, List.nodup_nil, by simp, fun _ => rfl⟩, eW, by simp, D2⟩) ?_
    rintro m σ H3 (⟨cs, ways, y8, y9, y10, rfl, rfl, hwl0, sr, k3, mC, e3, hwc, D3⟩ | ⟨cs, low, ws, y8, y9, y10, rfl, rfl, fn, k3, mC, e3, D3⟩)
    · walk_at "g"
      rcases List.eq_nil_or_concat ways with rfl | ⟨rest, u, rfl⟩
      · -- none is left
        refine w_no (by simp) ?_
        walk_at "g"
        refine w_whileN (fun m σ' H' => σ' = [some (.ref d), some (.ref R), some (.ref U), some (.ref D), some (.int v), some (.ref C), some (.ref Wy), some .non, y8, y9, y10, none] ∧ H' = H3) 0 ⟨rfl, rfl⟩ ?_
        rintro m σ' H' ⟨rfl, rfl⟩
        walk_at "g"
        have hcl := sr.len
        refine q H' up lo (D3.mono (by omega)) (fun b o hb e => ?_) (mU2.kp k3 (by simp [nCU.symm, nWU.symm, nUd])) (mD2.kp k3 (by simp [nCD.symm, nWD.symm, nDd])) (Prd.failed M sr)
        have hb' : b ≠ U ∧ b ≠ D ∧ b ≠ d := by simpa using hb
        exact k3 _ _ (by simp [ne_of_none e hC, ne_of_none e hW0, hb'.2.2]) (k02 _ _ e)
      · rw [List.concat_eq_append] at sr e3 hwl0 hwc D3 ⊢
        have hwl1 : rest.length + 2 * (vs.length - cs.length) ≤ 2 * vs.length := by
          rw [List.length_append] at hwl0
          simp only [List.length_cons, List.length_nil] at hwl0
          omega
        have hwc1 : rest.length ≤ cs.length := by
          rw [List.length_append] at hwc
          simp only [List.length_cons, List.length_nil] at hwc
          omega
        have hcl0 := sr.len
        refine w_yes (by simp) ?_
        walk_at "g"
        refine w_turn ?_
        obtain ⟨sr1, hum, hvis⟩ := sr.pop
        rw [List.map_append] at e3
        have e3' : H3 Wy = some (.lst (rest.map V.int ++ [.int u])) := e3
        walk_at "g"
        refine w_pop e3' fun H4 e4 o4 => ?_
        obtain ⟨a, ys, v1, v2, v3, v4⟩ := rv2 u hum
        have k4 : Kp [C, Wy, d] H2 H4 := k3.trans (o4.kp (by simp))
        have eR4 := k4 _ _ (by simp [nCR.symm, nWR.symm, nRd]) eR2
        have v2' := k4 _ _ v4 v2
        have mC4 : MapAt H4 C vs (lookI cs) := mC.kp (o4.kp (M := [Wy]) (by simp)) (by simpa using nCW)
        have D4 : Deck H4 d c _ := D3.kp (M := [Wy]) (o4.kp (by simp)) (by simpa using nWd.symm) (by simpa using nWc.symm)
        walk_at "g"
        refine w_slL (.of v2') fun Z H5 hZ eZ k5 => ?_
        rw [cut_last, ← List.map_dropLast] at eZ
        have k5' : Kp [C, Wy, d] H2 H5 := k4.trans (Kp.of k5)
        have mC5 : MapAt H5 C vs (lookI cs) := mC4.kp (M := []) (Kp.of k5) (by simp)
        have e5 := k5 _ _ e4
        have D5 : Deck H5 d c _ := D4.kp (M := []) (Kp.of k5) (by simp) (by simp)
        obtain ⟨ck4, cks4, eC4, _⟩ := id mC4
        have nZC : Z ≠ C := (ne_of_none eC4 hZ).symm
        have nZW : Z ≠ Wy := (ne_of_none e4 hZ).symm
        obtain ⟨nZd, nZc⟩ := D4.ne1 hZ
        refine w_seqJ (fun σ' H' => ∃ (Z' : Addr) (zs : List Int), σ' = [some (.ref d), some (.ref R), some (.ref U), some (.ref D), some (.int v), some (.ref C), some (.ref Wy), some .non, some (.int u), some (.ref Z'), y10, none] ∧ H' Z' = some (.lst (zs.map V.int)) ∧ (∀ l, l ∈ zs ↔ l ∈ ys.dropLast) ∧ Z' ≠ C ∧ Z' ≠ Wy ∧ Z' ≠ d ∧ Kp [C, Wy, d] H2 H' ∧ MapAt H' C vs (lookI cs) ∧ H' Wy = some (.lst (rest.map V.int)) ∧ Deck H' d c (n + (1 + cs.length - rest.length))) ?_ ?_
        rotate_left
        · intro W hWW
          walk_at "g"
          refine w_draw D5 (by omega) (by decide) (by decide) fun vv H6 hvv D6 o6 => ?_
          have D6' : Deck H6 d c (n + (1 + cs.length - rest.length)) := D6.mono (by rw [List.length_append]; simp only [List.length_cons, List.length_nil]; omega)
          have k6 : Kp [C, Wy, d] H2 H6 := k5'.trans (o6.kp (by simp))
          have eZ6 := o6.get nZd eZ
          walk_at "g"
          refine w_ite (fun h => ?_) (fun h => ?_)
          · walk_at "g"
            refine w_revL' eZ6 fun Z2 H7 hZ2 e7 k7 => ?_
            rw [← List.map_reverse] at e7
            have mC6 : MapAt H6 C vs (lookI cs) := mC5.kp (M := [d]) (o6.kp (by simp)) (by simpa using nCd)
            obtain ⟨ck6, cks6, eC6, _⟩ := id mC6
            have e6 := o6.get nWd e5
            walk_at "g"
            exact hWW _ _ ⟨Z2, _, rfl, e7, fun l => List.mem_reverse, (ne_of_none eC6 hZ2).symm, (ne_of_none e6 hZ2).symm, (D6.ne1 hZ2).1, k6.trans (Kp.of k7), mC6.kp (M := []) (Kp.of k7) (by simp), k7 _ _ e6, D6'.kp (M := []) (Kp.of k7) (by simp) (by simp)⟩
          · walk_at "g"
            exact hWW _ _ ⟨Z, _, rfl, eZ6, fun l => Iff.rfl, nZC, nZW, nZd, k6, mC5.kp (M := [d]) (o6.kp (by simp)) (by simpa using nCd), o6.get nWd e5, D6'⟩
        rintro σ' H6 ⟨Z', zs, rfl, eZ6, hzs, nZC', nZW', nZd', k6, mC6, e6, D6⟩
        walk_at "g"
        refine lp_list (xs := zs.map V.int) (fun i σ H' => (∃ (cs' : List (Int × Int)) (ways' : List Int) (y10 : Option V), σ = [some (.ref d), some (.ref R), some (.ref U), some (.ref D), some (.int v), some (.ref C), some (.ref Wy), some .non, some (.int u), some (.ref Z'), y10, none] ∧ ways'.length + 2 * (vs.length - cs'.length) ≤ rest.length + 2 * (vs.length - cs.length) ∧ cs'.length + rest.length = cs.length + ways'.length ∧ Srch vs ls up v cs' ways' (fun w => w = u) ∧ Vis up v cs' u ∧ (∀ l ∈ zs.take i, l ∈ cs'.map (·.1)) ∧ Kp [C, Wy] H6 H' ∧ MapAt H' C vs (lookI cs') ∧ H' Wy = some (.lst (ways'.map V.int))) ∨
          (∃ (cs' : List (Int × Int)) (low : Int) (ws : List Int) (y10 : Option V), σ = [some (.ref d), some (.ref R), some (.ref U), some (.ref D), some (.int v), some (.ref C), some (.ref Wy), some (.int low), some (.int u), some (.ref Z'), y10, none] ∧ Fnd vs ls up v cs' low ∧ Kp [C, Wy] H6 H' ∧ MapAt H' C vs (lookI cs') ∧ H' Wy = some (.lst (ws.map V.int)))) ?_ ?_ ?_ ?_
        · exact .inl ⟨cs, rest, _, rfl, Nat.le_refl _, rfl, sr1, hvis, by simp, Kp.refl, mC6, e6⟩
        · rintro i σ H' _ (⟨_, _, _, _, _, _, _, _, _, k7, _⟩ | ⟨_, _, _, _, _, _, k7, _⟩)
          · exact .of (k7 _ _ (by simp [nZC', nZW']) eZ6)
          · exact .of (k7 _ _ (by simp [nZC', nZW']) eZ6)
        · rintro i x σ H7 hx (⟨cs', ways', y10', rfl, hm, hcw, sr', hvis', hdone, k7, mC7, e7⟩ | ⟨cs', low, ws, y10', rfl, fn, k7, mC7, e7⟩)
          · obtain ⟨low, hlow, rfl⟩ := map_at hx
            have hlm : low ∈ ys.dropLast := (hzs low).mp (List.mem_of_getElem? hlow)
            have hsb : SB ls u low := (row_drop S v3 low).mp hlm
            have hlv : low ∈ vs := hsb.1.mem S hum
            obtain ⟨ck, cks, eC7, c2, c3, c4, c5⟩ := id mC7
            have hcl' := sr'.len
            have dstep : ∀ l ∈ zs.take (i + 1), l = low ∨ l ∈ zs.take i := fun l hl' => by
              rw [List.take_add_one, hlow] at hl'
              rcases List.mem_append.mp hl' with a | a
              · exact .inr a
              · exact .inl (by simpa using a)
            have k27 : Kp [C, Wy, d] H2 H7 := fun b o hb e => k7 _ _ (by simp only [List.mem_cons, List.not_mem_nil, or_false, not_or] at hb ⊢; exact ⟨hb.1, hb.2.1⟩) (k6 _ _ hb e)
            have mU7 : MapAt H7 U vs up := mU2.kp k27 (by simp [nCU.symm, nWU.symm, nUd])
            obtain ⟨uk7, uks7, eU7, w2, w3, w4, w5⟩ := id mU7
            walk_at "g"
            rw [MapAt.in (vs := vs) c5 low]
            by_cases hc : (lookI cs' low).isSome = true
            · rw [hc]
              walk_at "g"
              have hin : low ∈ cs'.map (·.1) := by
                apply Classical.byContradiction
                intro z
                rw [lookI_none.mpr z] at hc
                cases hc
              refine .inl ⟨cs', ways', _, rfl, hm, hcw, sr', hvis', fun l hl' => ?_, k7, mC7, e7⟩
              rcases dstep l hl' with h | h
              · rw [h]; exact hin
              · exact hdone l h
            have hc' : (lookI cs' low).isSome = false := by simpa using hc
            rw [hc']
            walk_at "g"
            have hnin : low ∉ cs'.map (·.1) := lookI_none.mp (by
              cases h : lookI cs' low with
              | none => rfl
              | some z => rw [h] at hc'; cases hc')
            have lC : ck.length < sizeLine := small1000 (by have := MapAt.len (p := C) c2 c3 c4; omega)
            refine w_yes rfl ?_
            walk_at "g"
            refine w_dputI eC7 lC fun H8 e8 o8 => ?_
            have mC8 : MapAt H8 C vs (lookI (cs' ++ [(low, u)])) := by
              rw [lookI_snoc hnin]
              exact MapAt.put c2 c3 c4 c5 hlv e8
            have eU8 := o8.get nCU.symm eU7
            have e7' := o8.get nCW.symm e7
            walk_at "g"
            rw [MapAt.in (vs := vs) w5 low]
            by_cases hf : (up low).isSome = true
            · rw [hf]
              obtain ⟨w', ew⟩ := Option.isSome_iff_exists.mp hf
              have evw : valV uk7 (Sum.inl low) = some (.int w') := by rw [w5, ew]; rfl
              have hwl : ways'.length ≤ 1000 := by omega
              walk_at "g"
              refine w_app e7' (by rw [List.length_map]; exact small1000 (by omega)) fun H9 e9 o9 => ?_
              walk_at "g"
              obtain ⟨sr9, vis9⟩ := sr'.add M hvis' hnin hsb hlv ew
              refine .inl ⟨cs' ++ [(low, u)], ways' ++ [w'], _, rfl, ?_, by rw [List.length_append, List.length_append]; simp only [List.length_cons, List.length_nil]; omega, sr9, vis9, fun l hl' => ?_, k7.trans ((o8.kp (by simp)).trans (o9.kp (by simp))), mC8.kp (o9.kp (M := [Wy]) (by simp)) (by simpa using nCW), by rw [e9, List.map_append]; rfl⟩
              · have := sr9.len
                rw [List.length_append, List.length_append]
                rw [List.length_append] at this
                simp only [List.length_cons, List.length_nil] at this ⊢
                omega
              · rw [List.map_append]
                rcases dstep l hl' with h | h
                · exact List.mem_append_right _ (by simp [h])
                · exact List.mem_append_left _ (hdone l h)
            · have hf' : (up low).isSome = false := by simpa using hf
              rw [hf']
              walk_at "g"
              have hfree : up low = none := by
                cases h : up low with
                | none => rfl
                | some z => rw [h] at hf'; cases hf'
              refine .inr ⟨cs' ++ [(low, u)], low, ways', _, rfl, ⟨sr'.came.snoc hnin hsb hvis', fun q hq => ?_, hfree, hlv, cs'.length, u, by simp⟩, k7.trans (o8.kp (by simp)), mC8, e7'⟩
              rcases List.mem_append.mp hq with a | a
              · exact sr'.mem q a
              · rw [List.mem_singleton.mp a]
                exact hlv
          · obtain ⟨low2, hlow2, rfl⟩ := map_at hx
            obtain ⟨ck, cks, eC7, c2, c3, c4, c5⟩ := id mC7
            walk_at "g"
            rw [MapAt.in (vs := vs) c5 low2]
            by_cases hc : (lookI cs' low2).isSome = true
            · rw [hc]
              walk_at "g"
              exact .inr ⟨cs', low, ws, _, rfl, fn, k7, mC7, e7⟩
            · have hc' : (lookI cs' low2).isSome = false := by simpa using hc
              rw [hc']
              walk_at "g"
              exact .inr ⟨cs', low, ws, _, rfl, fn, k7, mC7, e7⟩
        · rintro σ H7 (⟨cs', ways', y10', rfl, hm, hcw, sr', hvis', hdone, k7, mC7, e7⟩ | ⟨cs', low, ws, y10', rfl, fn, k7, mC7, e7⟩)
          · rw [List.length_map, List.take_length] at hdone
            have k27 : Kp [C, Wy, d] H2 H7 := fun b o hb e => k7 _ _ (by simp only [List.mem_cons, List.not_mem_nil, or_false, not_or] at hb ⊢; exact ⟨hb.1, hb.2.1⟩) (k6 _ _ hb e)
            have hcl' := sr'.len
            refine ⟨1 + ways'.length + 2 * (vs.length - cs'.length), ?_, .inl ⟨cs', ways', _, _, _, rfl, rfl, by omega, sr'.done fun l hl' => hdone l ((hzs l).mpr ((row_drop S v3 l).mpr hl')), k27, mC7, e7, by omega, ?_⟩⟩
            · rw [List.length_append]
              simp only [List.length_cons, List.length_nil]
              omega
            · rw [show 1 + cs'.length - ways'.length = 1 + cs.length - rest.length by omega]
              exact D6.kp k7 (by simp [nCd.symm, nWd.symm]) (by simp [nCc.symm, nWc.symm])
          · have k27 : Kp [C, Wy, d] H2 H7 := fun b o hb e => k7 _ _ (by simp only [List.mem_cons, List.not_mem_nil, or_false, not_or] at hb ⊢; exact ⟨hb.1, hb.2.1⟩) (k6 _ _ hb e)
            exact ⟨0, by omega, .inr ⟨cs', low, ws, _, _, _, rfl, rfl, fn, k27, mC7, e7, (D6.kp k7 (by simp [nCd.symm, nWd.symm]) (by simp [nCc.symm, nWc.symm])).mono (by omega)⟩⟩
    · obtain ⟨i0, u0, e0⟩ := fn.at'
      -- it is given
      walk_at "g"
      refine w_ite (fun hws => ?_) (fun hws => ?_)
      · walk_at "g"
        refine w_no (fun z => nomatch z) ?_
        walk_at "g"
        have mU3 := mU2.kp k3 (by simp [nCU.symm, nWU.symm, nUd])
        have mD3 := mD2.kp k3 (by simp [nCD.symm, nWD.symm, nDd])
        refine w_whileN (fun m σ H' => (∃ (low : Int) (i : Nat) (up' lo' : Int → Option Int) (y8 y9 y10 y11 : Option V), σ = [some (.ref d), some (.ref R), some (.ref U), some (.ref D), some (.int v), some (.ref C), some (.ref Wy), some (.int low), y8, y9, y10, y11] ∧ m = i + 1 ∧ low ∈ vs ∧ Giv vs ls up lo cs i low up' lo' ∧ Kp [U, D] H3 H' ∧ MapAt H' U vs up' ∧ MapAt H' D vs lo') ∨
          (∃ (up' lo' : Int → Option Int) (y8 y9 y10 y11 : Option V), σ = [some (.ref d), some (.ref R), some (.ref U), some (.ref D), some (.int v), some (.ref C), some (.ref Wy), some .non, y8, y9, y10, y11] ∧ Given vs ls v up lo up' lo' ∧ Kp [U, D] H3 H' ∧ MapAt H' U vs up' ∧ MapAt H' D vs lo')) (i0 + 1) (.inl ⟨low, i0, up, lo, _, _, _, _, rfl, rfl, fn.lm, Giv.start M fn.free e0, Kp.refl, mU3, mD3⟩) ?_
        rintro m σ H4 (⟨low, i, up', lo', y8, y9, y10, y11, rfl, rfl, lm, G, k4, mU4, mD4⟩ | ⟨up', lo', y8, y9, y10, y11, rfl, G, k4, mU4, mD4⟩)
        · walk_at "g"
          refine w_nno (fun z => nomatch z) (w_turn ?_)
          obtain ⟨u, eu⟩ := G.at'
          have mC4 := mC.kp k4 (by simp [nCU, nCD])
          obtain ⟨ck, cks, eC4, c2, c3, c4, c5⟩ := mC4
          obtain ⟨uk4, uks4, eU4, w2, w3, w4, w5⟩ := mU4
          obtain ⟨dk4, dks4, eD4, z2, z3, z4, z5⟩ := mD4
          have el : valV ck (Sum.inl low) = some (.int u) := by rw [c5, lookI_at fn.came.nd eu]; rfl
          walk_at "g"
          have lU : uk4.length < sizeLine := small1000 (by have := MapAt.len (p := U) w2 w3 w4; omega)
          have lD : dk4.length < sizeLine := small1000 (by have := MapAt.len (p := D) z2 z3 z4; omega)
          have um : u ∈ vs := by
            rcases fn.came.fr i _ eu with h | ⟨k, q', hk, ek, e3⟩
            · have h' : u = v := h
              rw [h']
              exact hv
            · exact (M.ok _ _ e3).2.1
          refine w_dputI eU4 lU fun H5 e5 o5 => ?_
          have eD5 := o5.get nUD.symm eD4
          walk_at "g"
          refine w_dputI eD5 lD fun H6 e6 o6 => ?_
          have mU6 : MapAt H6 U vs (setM up' low u) := MapAt.put w2 w3 w4 w5 lm (o6.get nUD e5)
          have mD6 : MapAt H6 D vs (setM lo' u low) := MapAt.put z2 z3 z4 z5 um e6
          have k6 : Kp [U, D] H3 H6 := k4.trans ((o5.kp (by simp)).trans (o6.kp (by simp)))
          walk_at "g"
          rcases Giv.step M hv0 hv S fn.came G eu lm with ⟨b, j, eb, hj, hbm, G'⟩ | ⟨rfl, eb, M', dm, cl'⟩
          · rw [show (valV dk4 (Sum.inl u)).getD V.non = .int b by rw [z5, eb]; rfl]
            exact ⟨j + 1, by omega, .inl ⟨b, j, _, _, _, _, _, _, rfl, rfl, hbm, G', k6, mU6, mD6⟩⟩
          · rw [show (valV dk4 (Sum.inl u)).getD V.non = .non by rw [z5, eb]; rfl]
            exact ⟨0, by omega, .inr ⟨_, _, _, _, _, _, rfl, ⟨M', dm, cl'⟩, k6, mU6, mD6⟩⟩
        · walk_at "g"
          refine w_nyes rfl ?_
          walk_at "g"
          refine q H4 up' lo' ((D3.kp k4 (by simp [nUd.symm, nDd.symm]) (by simp [nUc.symm, nDc.symm])).mono (by omega)) (fun b o hb e => ?_) mU4 mD4 (Prd.given G)
          have hb' : b ≠ U ∧ b ≠ D ∧ b ≠ d := by simpa using hb
          exact k4 _ _ (by simp [hb'.1, hb'.2.1]) (k3 _ _ (by simp [ne_of_none e hC, ne_of_none e hW0, hb'.2.2]) (k02 _ _ e))
      · walk_at "g"
        have mU3 := mU2.kp k3 (by simp [nCU.symm, nWU.symm, nUd])
        have mD3 := mD2.kp k3 (by simp [nCD.symm, nWD.symm, nDd])
        refine w_whileN (fun m σ H' => (∃ (low : Int) (i : Nat) (up' lo' : Int → Option Int) (y8 y9 y10 y11 : Option V), σ = [some (.ref d), some (.ref R), some (.ref U), some (.ref D), some (.int v), some (.ref C), some (.ref Wy), some (.int low), y8, y9, y10, y11] ∧ m = i + 1 ∧ low ∈ vs ∧ Giv vs ls up lo cs i low up' lo' ∧ Kp [U, D] H3 H' ∧ MapAt H' U vs up' ∧ MapAt H' D vs lo') ∨
          (∃ (up' lo' : Int → Option Int) (y8 y9 y10 y11 : Option V), σ = [some (.ref d), some (.ref R), some (.ref U), some (.ref D), some (.int v), some (.ref C), some (.ref Wy), some .non, y8, y9, y10, y11] ∧ Given vs ls v up lo up' lo' ∧ Kp [U, D] H3 H' ∧ MapAt H' U vs up' ∧ MapAt H' D vs lo')) (i0 + 1) (.inl ⟨low, i0, up, lo, _, _, _, _, rfl, rfl, fn.lm, Giv.start M fn.free e0, Kp.refl, mU3, mD3⟩) ?_
        rintro m σ H4 (⟨low, i, up', lo', y8, y9, y10, y11, rfl, rfl, lm, G, k4, mU4, mD4⟩ | ⟨up', lo', y8, y9, y10, y11, rfl, G, k4, mU4, mD4⟩)
        · walk_at "g"
          refine w_nno (fun z => nomatch z) (w_turn ?_)
          obtain ⟨u, eu⟩ := G.at'
          have mC4 := mC.kp k4 (by simp [nCU, nCD])
          obtain ⟨ck, cks, eC4, c2, c3, c4, c5⟩ := mC4
          obtain ⟨uk4, uks4, eU4, w2, w3, w4, w5⟩ := mU4
          obtain ⟨dk4, dks4, eD4, z2, z3, z4, z5⟩ := mD4
          have el : valV ck (Sum.inl low) = some (.int u) := by rw [c5, lookI_at fn.came.nd eu]; rfl
          walk_at "g"
          have lU : uk4.length < sizeLine := small1000 (by have := MapAt.len (p := U) w2 w3 w4; omega)
          have lD : dk4.length < sizeLine := small1000 (by have := MapAt.len (p := D) z2 z3 z4; omega)
          have um : u ∈ vs := by
            rcases fn.came.fr i _ eu with h | ⟨k, q', hk, ek, e3⟩
            · have h' : u = v := h
              rw [h']
              exact hv
            · exact (M.ok _ _ e3).2.1
          refine w_dputI eU4 lU fun H5 e5 o5 => ?_
          have eD5 := o5.get nUD.symm eD4
          walk_at "g"
          refine w_dputI eD5 lD fun H6 e6 o6 => ?_
          have mU6 : MapAt H6 U vs (setM up' low u) := MapAt.put w2 w3 w4 w5 lm (o6.get nUD e5)
          have mD6 : MapAt H6 D vs (setM lo' u low) := MapAt.put z2 z3 z4 z5 um e6
          have k6 : Kp [U, D] H3 H6 := k4.trans ((o5.kp (by simp)).trans (o6.kp (by simp)))
          walk_at "g"
          rcases Giv.step M hv0 hv S fn.came G eu lm with ⟨b, j, eb, hj, hbm, G'⟩ | ⟨rfl, eb, M', dm, cl'⟩
          · rw [show (valV dk4 (Sum.inl u)).getD V.non = .int b by rw [z5, eb]; rfl]
            exact ⟨j + 1, by omega, .inl ⟨b, j, _, _, _, _, _, _, rfl, rfl, hbm, G', k6, mU6, mD6⟩⟩
          · rw [show (valV dk4 (Sum.inl u)).getD V.non = .non by rw [z5, eb]; rfl]
            exact ⟨0, by omega, .inr ⟨_, _, _, _, _, _, rfl, ⟨M', dm, cl'⟩, k6, mU6, mD6⟩⟩
        · walk_at "g"
          refine w_nyes rfl ?_
          walk_at "g"
          refine q H4 up' lo' ((D3.kp k4 (by simp [nUd.symm, nDd.symm]) (by simp [nUc.symm, nDc.symm])).mono (by omega)) (fun b o hb e => ?_) mU4 mD4 (Prd.given G)
          have hb' : b ≠ U ∧ b ≠ D ∧ b ≠ d := by simpa using hb
          exact k4 _ _ (by simp [hb'.1, hb'.2.1]) (k3 _ _ (by simp [ne_of_none e hC, ne_of_none e hW0, hb'.2.2]) (k02 _ _ e))
end
/-! ### those that stand apart, from below -/
inductive RchD (vs : List Int) (ls : List (Int × Int)) (up lo : Int → Option Int) : Int → Prop where
  | free {x : Int} (h : x ∈ vs) (e : up x = none) : RchD vs ls up lo x
  | on {l u x : Int} (h : RchD vs ls up lo l) (s : SB ls u l) (e : lo u = some x) : RchD vs ls up lo x
def RchU (vs : List Int) (ls : List (Int × Int)) (up lo : Int → Option Int) (u : Int) : Prop := ∃ l, RchD vs ls up lo l ∧ SB ls u l
noncomputable def apartDB (vs : List Int) (ls : List (Int × Int)) (up lo : Int → Option Int) (x : Int) : Bool := @decide (RchD vs ls up lo x ∧ ¬ RchU vs ls up lo x) (Classical.propDecidable _)
noncomputable def apartDL (vs : List Int) (ls : List (Int × Int)) (up lo : Int → Option Int) : List Int := vs.filter (apartDB vs ls up lo)
theorem apartDB_iff {vs : List Int} {ls : List (Int × Int)} {up lo : Int → Option Int} {x : Int} : apartDB vs ls up lo x = true ↔ RchD vs ls up lo x ∧ ¬ RchU vs ls up lo x := by unfold apartDB; exact @decide_eq_true_iff _ (Classical.propDecidable _)
theorem RchD.out {vs : List Int} {ls : List (Int × Int)} {up lo : Int → Option Int} (M : Mt vs ls up lo) {x : Int} (h : RchD vs ls up lo x) : ∀ L R, Cl ls up L R → ¬ R x := by
  induction h with
  | free h e =>
    intro L R c hr
    obtain ⟨u, e2, _⟩ := c.bk _ hr
    rw [e] at e2
    cases e2
  | @on l u y h s e ih =>
    intro L R c hr
    obtain ⟨u2, e2, hu⟩ := c.bk _ hr
    have : u2 = u := by
      have g := (M.iff _ _).mpr e
      rw [g] at e2
      exact (Option.some.inj e2).symm
    subst this
    exact ih L R c (c.dn _ hu _ s)
theorem Full.someD {vs : List Int} {ls : List (Int × Int)} {up lo : Int → Option Int} (F : Full vs ls up lo) (M : Mt vs ls up lo) {u l : Int} (hu : u ∈ vs) (h : RchD vs ls up lo l) (s : SB ls u l) : ∃ w, lo u = Option.some w := by
  rcases F u hu with a | ⟨L, R, c, hl⟩
  · exact Option.isSome_iff_exists.mp a
  · exact absurd (c.dn _ hl _ s) (h.out M L R c)
structure AptD (vs : List Int) (ls : List (Int × Int)) (up lo : Int → Option Int) (Lk Rk ways : List Int) (ex : Int → Prop) : Prop where
  nl : Lk.Nodup
  nr : Rk.Nodup
  fl : ∀ x ∈ vs, up x = none → x ∈ Rk
  rm : ∀ x ∈ Rk, x ∈ vs ∧ RchD vs ls up lo x
  lm : ∀ u ∈ Lk, u ∈ vs ∧ RchU vs ls up lo u ∧ ∃ l, lo u = some l ∧ l ∈ Rk
  wy : ∀ x ∈ ways, x ∈ Rk
  dn : ∀ x ∈ Rk, x ∉ ways → ¬ ex x → ∀ u ∈ vs, SB ls u x → u ∈ Lk
theorem AptD.pop {vs : List Int} {ls : List (Int × Int)} {up lo : Int → Option Int} {Lk Rk ways : List Int} {u : Int} (a : AptD vs ls up lo Lk Rk (ways ++ [u]) (fun _ => False)) : AptD vs ls up lo Lk Rk ways (fun w => w = u) ∧ u ∈ Rk :=
  ⟨⟨a.nl, a.nr, a.fl, a.rm, a.lm, fun x hx => a.wy x (List.mem_append_left _ hx), fun x hx hn hne => a.dn x hx (fun z => by
    rcases List.mem_append.mp z with h | h
    · exact hn h
    · exact hne (by simpa using h)) (fun z => z)⟩, a.wy u (by simp)⟩
theorem AptD.done {vs : List Int} {ls : List (Int × Int)} {up lo : Int → Option Int} {Lk Rk ways : List Int} {l : Int} (a : AptD vs ls up lo Lk Rk ways (fun w => w = l)) (h : ∀ u ∈ vs, SB ls u l → u ∈ Lk) : AptD vs ls up lo Lk Rk ways (fun _ => False) :=
  ⟨a.nl, a.nr, a.fl, a.rm, a.lm, a.wy, fun x hx hn _ u hu hs => by
    by_cases e : x = l
    · subst e; exact h u hu hs
    · exact a.dn x hx hn e u hu hs⟩
theorem AptD.add {vs : List Int} {ls : List (Int × Int)} {up lo : Int → Option Int} {Lk Rk ways ways' : List Int} {l u w : Int} (M : Mt vs ls up lo) (a : AptD vs ls up lo Lk Rk ways (fun w => w = l)) (hl : l ∈ Rk) (hn : u ∉ Lk) (hs : SB ls u l) (hm : u ∈ vs) (e : lo u = some w)
    (hw : ways' = ways ++ [w] ∨ (w ∈ Rk ∧ ways' = ways)) : AptD vs ls up lo (addK Lk u) (addK Rk w) ways' (fun w => w = l) := by
  have rw' : RchD vs ls up lo w := .on (a.rm l hl).2 hs e
  refine ⟨nd_addK a.nl, nd_addK a.nr, fun x hx h => mem_addK.mpr (.inl (a.fl x hx h)), fun x hx => ?_, fun r hr => ?_, fun x hx => ?_, fun x hx hx2 hne u2 hu2 hs2 => ?_⟩
  · rcases mem_addK.mp hx with h | rfl
    · exact a.rm x h
    · exact ⟨(M.ok _ _ ((M.iff _ _).mpr e)).1, rw'⟩
  · rcases mem_addK.mp hr with h | rfl
    · obtain ⟨h1, h2, u', h3, h4⟩ := a.lm r h
      exact ⟨h1, h2, u', h3, mem_addK.mpr (.inl h4)⟩
    · exact ⟨hm, ⟨l, (a.rm l hl).2, hs⟩, w, e, mem_addK.mpr (.inr rfl)⟩
  · rcases hw with rfl | ⟨h, rfl⟩
    · rcases List.mem_append.mp hx with h | h
      · exact mem_addK.mpr (.inl (a.wy x h))
      · exact mem_addK.mpr (.inr (by simpa using h))
    · exact mem_addK.mpr (.inl (a.wy x hx))
  · have old : x ∈ Rk ∧ x ∉ ways := by
      rcases hw with rfl | ⟨h, rfl⟩
      · refine ⟨?_, fun z => hx2 (List.mem_append_left _ z)⟩
        rcases mem_addK.mp hx with h | rfl
        · exact h
        · exact absurd (by simp) hx2
      · refine ⟨?_, hx2⟩
        rcases mem_addK.mp hx with h' | rfl
        · exact h'
        · exact h
    exact mem_addK.mpr (.inl (a.dn x old.1 old.2 hne u2 hu2 hs2))
theorem AptD.end' {vs : List Int} {ls : List (Int × Int)} {up lo : Int → Option Int} {Lk Rk : List Int} (M : Mt vs ls up lo) (a : AptD vs ls up lo Lk Rk [] (fun _ => False)) : (∀ x ∈ vs, (x ∈ Rk ↔ RchD vs ls up lo x)) ∧ ∀ x ∈ vs, (x ∈ Lk ↔ RchU vs ls up lo x) := by
  have h1 : ∀ x, RchD vs ls up lo x → x ∈ Rk := fun x h => by
    induction h with
    | free h e => exact a.fl _ h e
    | on h s e ih =>
      have hu := (M.ok _ _ ((M.iff _ _).mpr e)).2.1
      obtain ⟨_, _, l, e2, hl⟩ := a.lm _ (a.dn _ ih (by simp) (fun z => z) _ hu s)
      rw [e] at e2
      cases e2
      exact hl
  exact ⟨fun x _ => ⟨fun h => (a.rm x h).2, h1 x⟩, fun x hx => ⟨fun h => (a.lm x h).2.1, fun ⟨l, h, s⟩ => a.dn l (h1 l h) (by simp) (fun z => z) x hx s⟩⟩
theorem part_len (vs : List Int) (f : Int → Option Int) : (freeL vs f).length + (vs.filter fun x => (f x).isSome).length = vs.length := by
  unfold freeL
  induction vs with
  | nil => rfl
  | cons x vs ih =>
    rw [List.filter_cons, List.filter_cons]
    cases f x with
    | none => simp only [Option.isNone_none, Option.isSome_none, if_true, List.length_cons]; simp; omega
    | some y => simp only [Option.isNone_some, Option.isSome_some, if_true, List.length_cons]; simp; omega
theorem free_le {vs : List Int} {ls : List (Int × Int)} {up lo : Int → Option Int} (S : ShOk vs ls) (M : Mt vs ls up lo) : (vs.filter fun x => (up x).isSome).length ≤ (vs.filter fun x => (lo x).isSome).length := by
  have h := nodup_le ((vs.filter fun x => (up x).isSome).map fun x => (up x).getD 0) (vs.filter fun x => (lo x).isSome) ?_ ?_
  · rwa [List.length_map] at h
  · unfold List.Nodup
    rw [List.pairwise_map]
    refine List.Pairwise.imp_of_mem (fun {x y} hx hy hne z => ?_) ((rise_nodup S.vr).filter _)
    obtain ⟨u1, h1⟩ := Option.isSome_iff_exists.mp (List.mem_filter.mp hx).2
    obtain ⟨u2, h2⟩ := Option.isSome_iff_exists.mp (List.mem_filter.mp hy).2
    rw [h1, h2] at z
    have z' : u1 = u2 := z
    subst z'
    have g1 := (M.iff _ _).mp h1
    have g2 := (M.iff _ _).mp h2
    rw [g1] at g2
    exact hne (Option.some.inj g2)
  · intro x hx
    obtain ⟨y, hy, rfl⟩ := List.mem_map.mp hx
    obtain ⟨u1, h1⟩ := Option.isSome_iff_exists.mp (List.mem_filter.mp hy).2
    rw [h1]
    have g := M.ok _ _ h1
    exact List.mem_filter.mpr ⟨g.2.1, by show (lo u1).isSome = true; rw [(M.iff _ _).mp h1]; rfl⟩
theorem free_ge {vs : List Int} {ls : List (Int × Int)} {up lo : Int → Option Int} (S : ShOk vs ls) (M : Mt vs ls up lo) : (vs.filter fun x => (lo x).isSome).length ≤ (vs.filter fun x => (up x).isSome).length := by
  have h := nodup_le ((vs.filter fun x => (lo x).isSome).map fun x => (lo x).getD 0) (vs.filter fun x => (up x).isSome) ?_ ?_
  · rwa [List.length_map] at h
  · unfold List.Nodup
    rw [List.pairwise_map]
    refine List.Pairwise.imp_of_mem (fun {x y} hx hy hne z => ?_) ((rise_nodup S.vr).filter _)
    obtain ⟨u1, h1⟩ := Option.isSome_iff_exists.mp (List.mem_filter.mp hx).2
    obtain ⟨u2, h2⟩ := Option.isSome_iff_exists.mp (List.mem_filter.mp hy).2
    rw [h1, h2] at z
    have z' : u1 = u2 := z
    subst z'
    have g1 := (M.iff _ _).mpr h1
    have g2 := (M.iff _ _).mpr h2
    rw [g1] at g2
    exact hne (Option.some.inj g2)
  · intro x hx
    obtain ⟨y, hy, rfl⟩ := List.mem_map.mp hx
    obtain ⟨u1, h1⟩ := Option.isSome_iff_exists.mp (List.mem_filter.mp hy).2
    rw [h1]
    have g0 := (M.iff _ _).mpr h1
    have g := M.ok _ _ g0
    exact List.mem_filter.mpr ⟨g.1, by show (up u1).isSome = true; rw [g0]; rfl⟩
theorem free_eq {vs : List Int} {ls : List (Int × Int)} {up lo : Int → Option Int} (S : ShOk vs ls) (M : Mt vs ls up lo) : (freeL vs up).length = (freeL vs lo).length := by
  have := part_len vs up
  have := part_len vs lo
  have := free_le S M
  have := free_ge S M
  omega
theorem apartD_is {vs : List Int} {ls : List (Int × Int)} {up lo : Int → Option Int} {Lk Rk : List Int} (S : ShOk vs ls) (M : Mt vs ls up lo) (a : AptD vs ls up lo Lk Rk [] (fun _ => False)) : IsApart vs ls lo (apartDL vs ls up lo) := by
  obtain ⟨hR, hL⟩ := a.end' M
  have vn := rise_nodup S.vr
  have mem : ∀ x, x ∈ apartDL vs ls up lo ↔ x ∈ Rk ∧ x ∉ Lk := fun x => by
    unfold apartDL
    rw [List.mem_filter, apartDB_iff]
    constructor
    · exact fun h => ⟨(hR x h.1).mpr h.2.1, fun z => h.2.2 ((hL x h.1).mp z)⟩
    · exact fun h => ⟨(a.rm x h.1).1, (hR x (a.rm x h.1).1).mp h.1, fun z => h.2 ((hL x (a.rm x h.1).1).mpr z)⟩
  have sub : ∀ u ∈ Lk, u ∈ Rk := fun u hu => by
    obtain ⟨hv, ⟨l, hl, hs⟩, _⟩ := a.lm u hu
    cases e : up u with
    | none => exact a.fl u hv e
    | some w =>
      have g := M.ok _ _ e
      have hs2 := g.2.2.trans S hs
      exact (hR u hv).mpr (.on hl hs2 ((M.iff _ _).mp e))
  refine ⟨S.vr.filter _, fun x hx => (List.mem_filter.mp hx).1, fun x hx y hy hne hb => ?_, ?_⟩
  · have h1 := (mem x).mp hx
    have h2 := (mem y).mp hy
    exact h1.2 (a.dn y h2.1 (by simp) (fun z => z) x (a.rm x h1.1).1 ⟨hb, fun z => hne z.symm⟩)
  · rw [← free_eq S M]
    have n1 : (apartDL vs ls up lo).Nodup := vn.filter _
    have e1 : Rk.length = (apartDL vs ls up lo ++ Lk).length := same_len a.nr (List.nodup_append.mpr ⟨n1, a.nl, fun x hx y hy z => ((mem x).mp hx).2 (by rw [z]; exact hy)⟩) fun x => by
      rw [List.mem_append, mem]
      constructor
      · intro h
        by_cases q : x ∈ Lk
        · exact .inr q
        · exact .inl ⟨h, q⟩
      · rintro (h | h)
        · exact h.1
        · exact sub x h
    have inj : (Lk.map fun u => (lo u).getD 0).Nodup := by
      unfold List.Nodup
      rw [List.pairwise_map]
      refine List.Pairwise.imp_of_mem (fun {x y} hx hy hne z => ?_) a.nl
      obtain ⟨_, _, u1, h1, _⟩ := a.lm x hx
      obtain ⟨_, _, u2, h2, _⟩ := a.lm y hy
      rw [h1, h2] at z
      have z' : u1 = u2 := z
      subst z'
      have g1 := (M.iff _ _).mpr h1
      have g2 := (M.iff _ _).mpr h2
      rw [g1] at g2
      exact hne (Option.some.inj g2)
    have e2 : Rk.length = (freeL vs up ++ Lk.map fun u => (lo u).getD 0).length := same_len a.nr (List.nodup_append.mpr ⟨vn.filter _, inj, fun x hx y hy z => by
        obtain ⟨r, hr, rfl⟩ := List.mem_map.mp hy
        obtain ⟨_, _, u1, h1, _⟩ := a.lm r hr
        rw [h1] at z
        have z' : x = u1 := z
        subst z'
        have g := (M.iff _ _).mpr h1
        rw [(mem_freeL.mp hx).2] at g
        cases g⟩) fun x => by
      rw [List.mem_append]
      constructor
      · intro h
        cases e : up x with
        | none => exact .inl (mem_freeL.mpr ⟨(a.rm x h).1, e⟩)
        | some r =>
          refine .inr (List.mem_map.mpr ⟨r, ?_, ?_⟩)
          · have g := M.ok _ _ e
            cases (hR x (a.rm x h).1).mp h with
            | free hv e2 => rw [e] at e2; cases e2
            | on hu hs e2 =>
              have g2 := (M.iff _ _).mpr e2
              rw [e] at g2
              cases g2
              exact a.dn _ ((hR _ (hs.1.mem S g.2.1)).mpr hu) (by simp) (fun z => z) _ g.2.1 hs
          · rw [(M.iff x r).mp e]
            rfl
      · rintro (h | h)
        · exact a.fl x (mem_freeL.mp h).1 (mem_freeL.mp h).2
        · obtain ⟨r, hr, rfl⟩ := List.mem_map.mp h
          obtain ⟨_, _, u1, h1, h2⟩ := a.lm r hr
          rw [h1]
          exact h2
    rw [List.length_append] at e1 e2
    rw [List.length_map] at e2
    omega
/-! ### those that stand apart, walked -/
theorem w_lockE {σ : L2.St} {H : Hp} {Q : VK} {t : TE} {d : Addr} {kvs : List (Key × V)} (e : H d = some (.dK kvs)) (h : ∀ od H1, H1 d = some (.frz od (.dK kvs)) → Off d H H1 → t σ H1 fun v H' => H' d = some (.frz od (.dK kvs)) ∧ Q v (upd H' d (.dK kvs))) : tLockE t σ H Q :=
  ⟨d, _, e, trivial, fun od => h od _ upd_same fun x hx => upd_ne hx⟩
theorem lock_kp {H H1 H2 : Hp} {R : Addr} {kvs : List (Key × V)} {M : List Addr} (e : H R = some (.dK kvs)) (o : Off R H H1) (k : Kp M H1 H2) : Kp M H (upd H2 R (.dK kvs)) := fun b ob hb eb => by
  by_cases h : b = R
  · subst h
    rw [e] at eb
    cases eb
    exact upd_same
  · rw [upd_ne h]
    exact k _ _ hb (o.get h eb)
def spLHi : Sp := fun as H Q _ => ∃ (R U D : Addr) (kvs : List (Key × V)) (vs : List Int) (ls : List (Int × Int)) (up lo : Int → Option Int), as = [.ref R, .ref U, .ref D] ∧ H R = some (.dK kvs) ∧ kvs.map (·.1) = vs.map (Sum.inl : Int → Key) ∧ RowsV [] H kvs ls vs ∧ MapAt H U vs up ∧ MapAt H D vs lo ∧
  ShOk vs ls ∧ vs.length < 64 ∧ Mt vs ls up lo ∧ Full vs ls up lo ∧ R ≠ U ∧ R ≠ D ∧ ∀ H' p aps, Same H H' → VL H' p aps → IsApart vs ls lo aps → Q (.ref p) H'
section
variable {P : Program} {w : World} {K : PySem.W.Frag} {mg : Str → Option Value} {base : Heap}
theorem key_at {kvs : List (Key × V)} {vs : List Int} (hk : kvs.map (·.1) = vs.map (Sum.inl : Int → Key)) {i : Nat} {k : Key} {v : V} (h : kvs[i]? = some (k, v)) : ∃ y, vs[i]? = some y ∧ k = Sum.inl y := by
  have h1 : (kvs.map (·.1))[i]? = some k := by rw [List.getElem?_map, h]; rfl
  rw [hk, List.getElem?_map] at h1
  obtain ⟨y, hy, e⟩ := Option.map_eq_some_iff.mp h1
  exact ⟨y, hy, e.symm⟩
theorem ok_lhigh {f : Addr} {fd : FuncData} (T : Txt K mg) (F : Fun K "_law_high_apart" "_law_high_apart" s_law_high_apart f fd) : FnOk P w K mg base CX0 1 f fd ["_law_rows", "_law_ups", "_law_downs"] spLHi := by
  refine F.ok sc_law_high_apart (fun vs H Q E h => ?_) (fun cdv A outer s H vs Q E hr h => ?_)
  · obtain ⟨R, U, D, kvs, vs, ls, up, lo, rfl, _⟩ := h
    rfl
  · obtain ⟨R, U, D, kvs, vs, ls, up, lo, rfl, eR, hk, rv, mU, mD, S, hl, M, Fu, nRU, nRD, q⟩ := h
    have hu := hu_of hr
    obtain ⟨uk, uks, eU, u2, u3, u4, u5⟩ := id mU
    obtain ⟨dk, dks, eD, d2, d3, d4, d5⟩ := id mD
    have hkl : kvs.length = vs.length := by
      have := congrArg List.length hk
      simpa using this
    refine ⟨_,
      (pss_cons
        (ps_lock (ps_setLc (i := 3) (own := [("_law_one", 7)]) (g := (gName 7)) rfl sc_law_high_apart.nd rfl rfl (sw_true rfl rfl rfl (by decide +kernel)) (pi_keys (pv 0)) (blkOk_by (own := [("_law_one", 7)]) (N := N_law_high_apart) (sc := defScope s_law_high_apart) (by decide +kernel)) (fun _ _ _ _ _ => (pg_name (i := 7) sc_law_high_apart.nd rfl (.inl rfl))) (fun _ _ _ _ _ => (pts_one (pt_cmp (pc_dnotin hu (pv 7) (pv 2))))) (fun _ _ _ _ _ => (pv 7))))
      (pss_cons
        (ps_set (i := 4) sc_law_high_apart.nd rfl (.inr rfl) (pe_callTy (r := rListOf K) c_listOf (by rfl) T.n_list (by decide +kernel) (pa_cons (pv 3) pa_nil)))
      (pss_cons
        (ps_set (i := 5) sc_law_high_apart.nd rfl (.inr rfl) (pe_lst pa_nil))
      (pss_cons
        (ps_while PassesOwn.never (pt_cmpR op_gt (pe_callB (r := rLen K) c_len (by rfl) T.n_len (by decide +kernel) (pa_cons (pv 3) pa_nil)) pe_int (nomark _))
          (pss_one
            (ps_for PassesOwn.never rfl (pi_list (pe_slice sl_list (pe_dget hu (pv 0) (pe_bm0 PySem.F.plainAttrs_list PySem.F.slot_list_pop PySem.F.type_list_pop mt_pop (pv 3)) (fun _ _ => rfl)) po_none (po_some (pe_un un_neg pe_int)))) (pg_name (i := 6) sc_law_high_apart.nd rfl (.inl rfl))
              (pss_one
                (ps_if (pt_cmpR (r := rIn K true) op_notIn_seq (pv 6) (pv 5) rfl)
                  (pss_cons
                    (ps_expr (pe_bm PySem.F.plainAttrs_list PySem.F.slot_list_append PySem.F.type_list_append mt_append (pv 5) (pa_cons (pv 6) pa_nil)))
                  (pss_one
                    (ps_if (pt_cmpR (r := rIn K true) op_notIn_seq (pe_dget hu (pv 1) (pv 6) (fun _ _ => rfl)) (pv 4) rfl)
                      (pss_cons
                        (ps_expr (pe_bm PySem.F.plainAttrs_list PySem.F.slot_list_append PySem.F.type_list_append mt_append (pv 4) (pa_cons (pe_dget hu (pv 1) (pv 6) (fun _ _ => rfl)) pa_nil)))
                      (pss_one
                        (ps_expr (pe_bm PySem.F.plainAttrs_list PySem.F.slot_list_append PySem.F.type_list_append mt_append (pv 3) (pa_cons (pe_dget hu (pv 1) (pv 6) (fun _ _ => rfl)) pa_nil)))))
                      pss_nil)))
                  pss_nil)))))
      (pss_one
        (ps_ret (pe_callTy (r := rTupOf K) c_tupOf (by rfl) T.n_tuple (by decide +kernel) (pa_cons (pe_lock (pe_lc (own := [("_law_one", 7)]) (g := (gName 7)) rfl sc_law_high_apart.nd (pi_keys (pv 0)) (blkOk_by (own := [("_law_one", 7)]) (N := N_law_high_apart) (sc := defScope s_law_high_apart) (by decide +kernel)) (fun _ _ _ _ _ => (pg_name (i := 7) sc_law_high_apart.nd rfl (.inl rfl))) (fun _ _ _ _ _ => (pts_one (PW.pt (pw_and (pt_cmpR (r := rIn K false) op_in_seq (pv 7) (pv 4) rfl) (pw_and1 (pt_cmpR (r := rIn K true) op_notIn_seq (pv 7) (pv 5) rfl)))))) (fun _ _ _ _ _ => (pv 7)))) pa_nil))))))))
      , ?_⟩
    rw [show L2.start N_law_high_apart [V.ref R, V.ref U, V.ref D] = [some (.ref R), some (.ref U), some (.ref D), none, none, none, none, none] from rfl]
    refine w_seq ?_
    walk_at "x"
    refine w_lock eR fun od H1 eR1 o1 => ?_
    have eD1 := o1.get nRD.symm eD
    walk_at "g"
    try refine w_keys' eR1 ?_
    refine lcp_sel (walk_keys (d := R) (o := od) (kvs := kvs)) [] (fun i => vs[i]?.bind (pickI fun x => (lo x).isNone)) (by omega) (fun H' k => k _ _ (by simp) eR1) ?_ (by simp) ?_
    · rintro i x Ha Hb Rr R0 hi ka ⟨rfl, ky, vy, hkv, rfl⟩ h1 h2
      obtain ⟨y, hy, rfl⟩ := key_at hk hkv
      rw [show kV (Sum.inl y : Key) = V.int y from rfl]
      have eDa := ka.same _ _ eD1
      refine w_name ⟨rfl, ?_⟩
      walk_at "g"
      rw [MapAt.in (vs := vs) d5 y]
      by_cases hb : (lo y).isSome = true
      · rw [hb]
        walk_at "g"
        exact h2 _ (sel_no hy (fun z => by rw [Option.isNone_iff_eq_none] at z; rw [z] at hb; cases hb)) Kp.refl
      · have hb' : (lo y).isSome = false := by simpa using hb
        rw [hb']
        walk_at "g"
        exact h1 _ _ (sel_yes (p := fun x => (lo x).isNone) hy (by rw [Option.isNone_iff_eq_none]; simpa using hb)) Kp.refl
    intro Wy H2 hW k2 eW
    rw [hkl, range_fm, pickI_map] at eW
    have eW' : H2 Wy = some (.lst ((freeL vs lo).map V.int)) := eW
    have nWR : Wy ≠ R := fun z => by rw [z, eR1] at hW; cases hW
    refine ⟨k2 _ _ (by simp) eR1, ?_⟩
    have s3 : Same H (upd H2 R (.dK kvs)) := (lock_kp eR o1 k2).same
    have hW0 : H Wy = none := by
      cases e : H Wy with
      | none => rfl
      | some o => rw [o1.get nWR e] at hW; cases hW
    have eW3 : (upd H2 R (.dK kvs)) Wy = some (.lst ((freeL vs lo).map V.int)) := by rw [upd_ne nWR]; exact eW'
    generalize upd H2 R (.dK kvs) = H3 at s3 eW3
    have fll : (freeL vs lo).length ≤ vs.length := List.length_filter_le _ _
    walk_at "g"
    refine w_listL (.of eW3) fun Lf H4 hLf eLf k4 => ?_
    walk_at "g"
    refine w_new fun Rt H5 hRt eRt k5 => ?_
    have s5 : Same H H5 := Same.trans s3 (Same.trans k4 k5)
    have fL : H Lf = none := s3.free hLf
    have fR : H Rt = none := s3.free (k4.free hRt)
    have nWL : Wy ≠ Lf := ne_of_none eW3 hLf
    have nWR2 : Wy ≠ Rt := ne_of_none (k4 _ _ eW3) hRt
    have nLR : Lf ≠ Rt := ne_of_none eLf hRt
    have off : ∀ {b : Addr} {o : HO}, H b = some o → b ∉ [Wy, Lf, Rt] := fun {b o} e => by simp [ne_of_none e hW0, ne_of_none e fL, ne_of_none e fR]
    have hfr : ∀ x ∈ freeL vs lo, x ∈ vs ∧ Rch vs ls up lo x := fun x hx => ⟨(mem_freeL.mp hx).1, .free (mem_freeL.mp hx).1 (mem_freeL.mp hx).2⟩
    walk_at "g"
    refine w_whileN (fun m σ H' => ∃ (Lk Rk ways : List Int) (y6 : Option V), σ = [some (.ref R), some (.ref U), some (.ref D), some (.ref Wy), some (.ref Lf), some (.ref Rt), y6, none] ∧ m = ways.length + (vs.length - Lk.length) ∧ ways.length + (vs.length - Lk.length) ≤ 200 ∧ Apt vs ls up lo Lk Rk ways (fun _ => False) ∧ Kp [Wy, Lf, Rt] H5 H' ∧ H' Lf = some (.lst (Lk.map V.int)) ∧ H' Rt = some (.lst (Rk.map V.int)) ∧ H' Wy = some (.lst (ways.map V.int))) ((freeL vs lo).length + (vs.length - (freeL vs lo).length))
      ⟨freeL vs lo, [], freeL vs lo, _, rfl, rfl, by omega, ⟨(rise_nodup S.vr).filter _, List.nodup_nil, fun x hx e => mem_freeL.mpr ⟨hx, e⟩, hfr, by simp, fun x hx => hx, fun x hx hn => absurd hx hn⟩, Kp.refl, k5 _ _ eLf, eRt, k5 _ _ (k4 _ _ eW3)⟩ ?_
    rintro m σ H6 ⟨Lk, Rk, ways, y6, rfl, rfl, hm2, ap, k6, e6L, e6R, e6W⟩
    walk_at "g"
    rcases List.eq_nil_or_concat ways with rfl | ⟨rest, u, rfl⟩
    · obtain ⟨hLi, hRi⟩ := ap.end'
      refine w_no (by simp) ?_
      have eR6 := k6 _ _ (off eR) (s5 _ _ eR)
      have nRL : R ≠ Lf := ne_of_none eR fL
      have nRRt : R ≠ Rt := ne_of_none eR fR
      walk_at "g"
      refine w_lockE eR6 fun od2 H7 e7 o7 => ?_
      have e7L := o7.get nRL.symm e6L
      have e7R := o7.get nRRt.symm e6R
      walk_at "g"
      try refine w_keys' e7 ?_
      refine lcp_sel (walk_keys (d := R) (o := od2) (kvs := kvs)) [] (fun i => vs[i]?.bind (pickI (apartB vs ls up lo))) (by omega) (fun H' k => k _ _ (by simp) e7) ?_ (by simp) ?_
      · rintro i x Ha Hb Rr R0 hi ka ⟨rfl, ky, vy, hkv, rfl⟩ h1 h2
        obtain ⟨y, hy, rfl⟩ := key_at hk hkv
        rw [show kV (Sum.inl y : Key) = V.int y from rfl]
        have eLa := ka.same _ _ e7L
        have eRa := ka.same _ _ e7R
        refine w_name ⟨rfl, ?_⟩
        walk_at "g"
        by_cases hz : y ∈ Lk
        · rw [decide_eq_true hz]
          walk_at "g"
          by_cases hz2 : y ∈ Rk
          · rw [decide_eq_true hz2]
            walk_at "g"
            exact h2 _ (sel_no hy (fun z => (apartB_iff.mp z).2 ((hRi y).mp hz2))) Kp.refl
          · rw [decide_eq_false hz2]
            walk_at "g"
            exact h1 _ _ (sel_yes hy (apartB_iff.mpr ⟨(hLi y).mp hz, fun z => hz2 ((hRi y).mpr z)⟩)) Kp.refl
        · rw [decide_eq_false hz]
          walk_at "g"
          exact h2 _ (sel_no hy (fun z => hz ((hLi y).mpr (apartB_iff.mp z).1))) Kp.refl
      intro G H8 hG k8 eG
      rw [hkl, range_fm, pickI_map] at eG
      have eG' : H8 G = some (.lst ((apartL vs ls up lo).map V.int)) := eG
      have nGR : G ≠ R := fun z => by rw [z, e7] at hG; cases hG
      refine ⟨k8 _ _ (by simp) e7, ?_⟩
      have s9 : Same H6 (upd H8 R (.dK kvs)) := (lock_kp eR6 o7 k8).same
      have eG9 : (upd H8 R (.dK kvs)) G = some (.lst ((apartL vs ls up lo).map V.int)) := by rw [upd_ne nGR]; exact eG'
      generalize upd H8 R (.dK kvs) = H9 at s9 eG9
      walk_at "g"
      refine w_tupL (.of eG9) fun p H10 hp ep k10 => ?_
      exact q H10 p _ (fun b o e => k10 _ _ (s9 _ _ (k6 _ _ (off e) (s5 _ _ e)))) ep (apart_is S M ap)
    · rw [List.concat_eq_append] at ap e6W hm2 ⊢
      refine w_yes (by simp) ?_
      refine w_turn ?_
      obtain ⟨ap1, huL⟩ := ap.pop
      have hum : u ∈ vs := (ap.lm u huL).1
      rw [List.map_append] at e6W
      have e6W' : H6 Wy = some (.lst (rest.map V.int ++ [.int u])) := e6W
      walk_at "g"
      refine w_pop e6W' fun H7 e7 o7 => ?_
      obtain ⟨a, ys, v1, v2, v3, _⟩ := rv u hum
      have k7 : Kp [Wy, Lf, Rt] H5 H7 := k6.trans (o7.kp (by simp))
      have eR7 := k7 _ _ (off eR) (s5 _ _ eR)
      have v2' := k7 _ _ (off v2) (s5 _ _ v2)
      walk_at "g"
      refine w_slL (.of v2') fun Z H8 hZ eZ k8 => ?_
      rw [cut_last, ← List.map_dropLast] at eZ
      have k8' : Kp [Wy, Lf, Rt] H5 H8 := k7.trans (Kp.of k8)
      have e7L := o7.get nWL.symm e6L
      have e7R := o7.get nWR2.symm e6R
      have nZ : Z ∉ [Wy, Lf, Rt] := by simp [(ne_of_none e7 hZ).symm, (ne_of_none e7L hZ).symm, (ne_of_none e7R hZ).symm]
      have rl : rest.length + 1 + (vs.length - Lk.length) ≤ 200 := by
        rw [List.length_append] at hm2
        simpa using hm2
      walk_at "g"
      refine lp_list (xs := ys.dropLast.map V.int) (fun i σ H' => ∃ (Lk' Rk' ways' : List Int) (y6 : Option V), σ = [some (.ref R), some (.ref U), some (.ref D), some (.ref Wy), some (.ref Lf), some (.ref Rt), y6, none] ∧ ways'.length + (vs.length - Lk'.length) ≤ rest.length + (vs.length - Lk.length) ∧ Apt vs ls up lo Lk' Rk' ways' (fun w => w = u) ∧ u ∈ Lk' ∧ (∀ l ∈ ys.dropLast.take i, l ∈ Rk') ∧ Kp [Wy, Lf, Rt] H8 H' ∧ H' Lf = some (.lst (Lk'.map V.int)) ∧ H' Rt = some (.lst (Rk'.map V.int)) ∧ H' Wy = some (.lst (ways'.map V.int))) ?_ ?_ ?_ ?_
      · exact ⟨Lk, Rk, rest, _, rfl, Nat.le_refl _, ap1, huL, by simp, Kp.refl, k8 _ _ e7L, k8 _ _ e7R, k8 _ _ e7⟩
      · rintro i σ H' _ ⟨_, _, _, _, _, _, _, _, _, k9, _⟩
        exact .of (k9 _ _ nZ eZ)
      · rintro i x σ H9 hx ⟨Lk', Rk', ways', y6', rfl, hm, ap', huL', hdone, k9, e9L, e9R, e9W⟩
        obtain ⟨low, hlow, rfl⟩ := map_at hx
        have hsb : SB ls u low := (row_drop S v3 low).mp (List.mem_of_getElem? hlow)
        have hlv : low ∈ vs := hsb.1.mem S hum
        have k59 : Kp [Wy, Lf, Rt] H5 H9 := k8'.trans k9
        have eU9 := k59 _ _ (off eU) (s5 _ _ eU)
        obtain ⟨w', ew⟩ := Fu.some (ap'.lm u huL').2 hsb
        have evw : valV uk (Sum.inl low) = some (.int w') := by rw [u5, ew]; rfl
        have lRk : Rk'.length ≤ vs.length := nodup_le _ _ ap'.nr fun x hx => (ap'.rm x hx).1
        have lLk : Lk'.length ≤ vs.length := nodup_le _ _ ap'.nl fun x hx => (ap'.lm x hx).1
        have tk : ∀ l ∈ ys.dropLast.take (i + 1), l ∈ ys.dropLast.take i ∨ l = low := fun l hl' => by
          rw [List.take_add_one, hlow] at hl'
          simpa using hl'
        walk_at "g"
        by_cases hc : low ∈ Rk'
        · rw [decide_eq_true hc]
          walk_at "g"
          refine ⟨Lk', Rk', ways', _, rfl, hm, ap', huL', fun l hl' => ?_, k9, e9L, e9R, e9W⟩
          rcases tk l hl' with h | rfl
          · exact hdone l h
          · exact hc
        rw [decide_eq_false hc]
        walk_at "g"
        refine w_app e9R (by rw [List.length_map]; exact small1000 (by omega)) fun H10 e10 o10 => ?_
        have e10L := o10.get nLR e9L
        have e10W := o10.get nWR2 e9W
        have eU10 := o10.get (by have := off eU; simp at this; exact this.2.2) eU9
        have eRk : addK Rk' low = Rk' ++ [low] := by unfold addK; rw [if_neg hc]
        have hd' : ∀ l ∈ ys.dropLast.take (i + 1), l ∈ addK Rk' low := fun l hl' => by
          rcases tk l hl' with h | rfl
          · exact mem_addK.mpr (.inl (hdone l h))
          · exact mem_addK.mpr (.inr rfl)
        walk_at "g"
        by_cases hw : w' ∈ Lk'
        · rw [decide_eq_true hw]
          walk_at "g"
          have ap2 := ap'.add M huL' hc hsb hlv ew (ways' := ways') (.inr ⟨hw, rfl⟩)
          have eLk : addK Lk' w' = Lk' := by unfold addK; rw [if_pos hw]
          rw [eLk] at ap2
          exact ⟨Lk', addK Rk' low, ways', _, rfl, hm, ap2, huL', hd', k9.trans (o10.kp (by simp)), e10L, by rw [e10, eRk, List.map_append]; rfl, e10W⟩
        · rw [decide_eq_false hw]
          walk_at "g"
          refine w_app e10L (by rw [List.length_map]; exact small1000 (by omega)) fun H11 e11 o11 => ?_
          have e11W := o11.get nWL e10W
          have e11R := o11.get nLR.symm e10
          have eU11 := o11.get (by have := off eU; simp at this; exact this.2.1) eU10
          have hww : ways'.length ≤ 300 := by omega
          walk_at "g"
          refine w_app e11W (by rw [List.length_map]; exact small1000 (by omega)) fun H12 e12 o12 => ?_
          walk_at "g"
          have ap2 := ap'.add M huL' hc hsb hlv ew (ways' := ways' ++ [w']) (.inl rfl)
          have eLk : addK Lk' w' = Lk' ++ [w'] := by unfold addK; rw [if_neg hw]
          have lLk2 : (addK Lk' w').length ≤ vs.length := nodup_le _ _ ap2.nl fun x hx => (ap2.lm x hx).1
          refine ⟨addK Lk' w', addK Rk' low, ways' ++ [w'], _, rfl, ?_, ap2, mem_addK.mpr (.inl huL'), hd', k9.trans ((o10.kp (by simp)).trans ((o11.kp (by simp)).trans (o12.kp (by simp)))), by rw [o12.get nWL.symm e11, eLk, List.map_append]; rfl, by rw [o12.get nWR2.symm e11R, eRk, List.map_append]; rfl, by rw [e12, List.map_append]; rfl⟩
          rw [eLk] at lLk2 ⊢
          rw [List.length_append] at lLk2 ⊢
          rw [List.length_append]
          simp only [List.length_cons, List.length_nil] at lLk2 ⊢
          omega
      · rintro σ H9 ⟨Lk', Rk', ways', y6', rfl, hm, ap', huL', hdone, k9, e9L, e9R, e9W⟩
        rw [List.length_map, List.take_length] at hdone
        refine ⟨ways'.length + (vs.length - Lk'.length), ?_, Lk', Rk', ways', _, rfl, rfl, by omega, ap'.done fun l hl' => hdone l ((row_drop S v3 l).mpr hl'), k8'.trans k9, e9L, e9R, e9W⟩
        rw [List.length_append]
        simp only [List.length_cons, List.length_nil]
        omega
end
section
variable {P : Program} {w : World} {K : PySem.W.Frag} {mg : Str → Option Value} {base : Heap}
theorem ok_llow {f : Addr} {fd : FuncData} (T : Txt K mg) (F : Fun K "_law_low_apart" "_law_low_apart" s_law_low_apart f fd) : FnOk P w K mg base CX0 1 f fd ["_law_rows", "_law_ups", "_law_downs"] spLHi := by
  refine F.ok sc_law_low_apart (fun vs H Q E h => ?_) (fun cdv A outer s H vs Q E hr h => ?_)
  · obtain ⟨R, U, D, kvs, vs, ls, up, lo, rfl, _⟩ := h
    rfl
  · obtain ⟨R, U, D, kvs, vs, ls, up, lo, rfl, eR, hk, rv, mU, mD, S, hl, M, Fu, nRU, nRD, q⟩ := h
    have hu := hu_of hr
    obtain ⟨uk, uks, eU, u2, u3, u4, u5⟩ := id mU
    obtain ⟨dk, dks, eD, d2, d3, d4, d5⟩ := id mD
    have hkl : kvs.length = vs.length := by
      have := congrArg List.length hk
      simpa using this
    refine ⟨_,
      (pss_cons
        (ps_lock (ps_setLc (i := 3) (own := [("_law_one", 8)]) (g := (gName 8)) rfl sc_law_low_apart.nd rfl rfl (sw_true rfl rfl rfl (by decide +kernel)) (pi_keys (pv 0)) (blkOk_by (own := [("_law_one", 8)]) (N := N_law_low_apart) (sc := defScope s_law_low_apart) (by decide +kernel)) (fun _ _ _ _ _ => (pg_name (i := 8) sc_law_low_apart.nd rfl (.inl rfl))) (fun _ _ _ _ _ => (pts_one (pt_cmp (pc_dnotin hu (pv 8) (pv 1))))) (fun _ _ _ _ _ => (pv 8))))
      (pss_cons
        (ps_set (i := 4) sc_law_low_apart.nd rfl (.inr rfl) (pe_callTy (r := rListOf K) c_listOf (by rfl) T.n_list (by decide +kernel) (pa_cons (pv 3) pa_nil)))
      (pss_cons
        (ps_set (i := 5) sc_law_low_apart.nd rfl (.inr rfl) (pe_lst pa_nil))
      (pss_cons
        (ps_while PassesOwn.never (pt_cmpR op_gt (pe_callB (r := rLen K) c_len (by rfl) T.n_len (by decide +kernel) (pa_cons (pv 3) pa_nil)) pe_int (nomark _))
          (pss_cons
            (ps_set (i := 6) sc_law_low_apart.nd rfl (.inl rfl) (pe_bm0 PySem.F.plainAttrs_list PySem.F.slot_list_pop PySem.F.type_list_pop mt_pop (pv 3)))
          (pss_one
            (ps_lock (ps_for PassesOwn.never rfl (pi_keys (pv 0)) (pg_name (i := 7) sc_law_low_apart.nd rfl (.inl rfl))
              (pss_one
                (ps_if (PW.pt (pw_and (pt_cmpR op_ne (pv 7) (pv 6) (nomark _)) (pw_and (pt_cmpR (r := rIn K false) op_in_seq (pv 6) (pe_dget hu (pv 0) (pv 7) (fun _ _ => rfl)) rfl) (pw_and1 (pt_cmpR (r := rIn K true) op_notIn_seq (pv 7) (pv 5) rfl)))))
                  (pss_cons
                    (ps_expr (pe_bm PySem.F.plainAttrs_list PySem.F.slot_list_append PySem.F.type_list_append mt_append (pv 5) (pa_cons (pv 7) pa_nil)))
                  (pss_one
                    (ps_if (pt_cmpR (r := rIn K true) op_notIn_seq (pe_dget hu (pv 2) (pv 7) (fun _ _ => rfl)) (pv 4) rfl)
                      (pss_cons
                        (ps_expr (pe_bm PySem.F.plainAttrs_list PySem.F.slot_list_append PySem.F.type_list_append mt_append (pv 4) (pa_cons (pe_dget hu (pv 2) (pv 7) (fun _ _ => rfl)) pa_nil)))
                      (pss_one
                        (ps_expr (pe_bm PySem.F.plainAttrs_list PySem.F.slot_list_append PySem.F.type_list_append mt_append (pv 3) (pa_cons (pe_dget hu (pv 2) (pv 7) (fun _ _ => rfl)) pa_nil)))))
                      pss_nil)))
                  pss_nil)))))))
      (pss_one
        (ps_ret (pe_callTy (r := rTupOf K) c_tupOf (by rfl) T.n_tuple (by decide +kernel) (pa_cons (pe_lock (pe_lc (own := [("_law_one", 8)]) (g := (gName 8)) rfl sc_law_low_apart.nd (pi_keys (pv 0)) (blkOk_by (own := [("_law_one", 8)]) (N := N_law_low_apart) (sc := defScope s_law_low_apart) (by decide +kernel)) (fun _ _ _ _ _ => (pg_name (i := 8) sc_law_low_apart.nd rfl (.inl rfl))) (fun _ _ _ _ _ => (pts_one (PW.pt (pw_and (pt_cmpR (r := rIn K false) op_in_seq (pv 8) (pv 4) rfl) (pw_and1 (pt_cmpR (r := rIn K true) op_notIn_seq (pv 8) (pv 5) rfl)))))) (fun _ _ _ _ _ => (pv 8)))) pa_nil))))))))
      , ?_⟩
    rw [show L2.start N_law_low_apart [V.ref R, V.ref U, V.ref D] = [some (.ref R), some (.ref U), some (.ref D), none, none, none, none, none, none] from rfl]
    refine w_seq ?_
    walk_at "x"
    refine w_lock eR fun od H1 eR1 o1 => ?_
    have eU1 := o1.get nRU.symm eU
    walk_at "g"
    try refine w_keys' eR1 ?_
    refine lcp_sel (walk_keys (d := R) (o := od) (kvs := kvs)) [] (fun i => vs[i]?.bind (pickI fun x => (up x).isNone)) (by omega) (fun H' k => k _ _ (by simp) eR1) ?_ (by simp) ?_
    · rintro i x Ha Hb Rr R0 hi ka ⟨rfl, ky, vy, hkv, rfl⟩ h1 h2
      obtain ⟨y, hy, rfl⟩ := key_at hk hkv
      rw [show kV (Sum.inl y : Key) = V.int y from rfl]
      have eUa := ka.same _ _ eU1
      refine w_name ⟨rfl, ?_⟩
      walk_at "g"
      rw [MapAt.in (vs := vs) u5 y]
      by_cases hb : (up y).isSome = true
      · rw [hb]
        walk_at "g"
        exact h2 _ (sel_no hy (fun z => by rw [Option.isNone_iff_eq_none] at z; rw [z] at hb; cases hb)) Kp.refl
      · have hb' : (up y).isSome = false := by simpa using hb
        rw [hb']
        walk_at "g"
        exact h1 _ _ (sel_yes (p := fun x => (up x).isNone) hy (by rw [Option.isNone_iff_eq_none]; simpa using hb)) Kp.refl
    intro Wy H2 hW k2 eW
    rw [hkl, range_fm, pickI_map] at eW
    have eW' : H2 Wy = some (.lst ((freeL vs up).map V.int)) := eW
    have nWR : Wy ≠ R := fun z => by rw [z, eR1] at hW; cases hW
    refine ⟨k2 _ _ (by simp) eR1, ?_⟩
    have s3 : Same H (upd H2 R (.dK kvs)) := (lock_kp eR o1 k2).same
    have hW0 : H Wy = none := by
      cases e : H Wy with
      | none => rfl
      | some o => rw [o1.get nWR e] at hW; cases hW
    have eW3 : (upd H2 R (.dK kvs)) Wy = some (.lst ((freeL vs up).map V.int)) := by rw [upd_ne nWR]; exact eW'
    generalize upd H2 R (.dK kvs) = H3 at s3 eW3
    have fll : (freeL vs up).length ≤ vs.length := List.length_filter_le _ _
    walk_at "g"
    refine w_listL (.of eW3) fun Rt H4 hRt eRt k4 => ?_
    walk_at "g"
    refine w_new fun Lf H5 hLf eLf k5 => ?_
    have s5 : Same H H5 := Same.trans s3 (Same.trans k4 k5)
    have fR : H Rt = none := s3.free hRt
    have fL : H Lf = none := s3.free (k4.free hLf)
    have nWR2 : Wy ≠ Rt := ne_of_none eW3 hRt
    have nWL : Wy ≠ Lf := ne_of_none (k4 _ _ eW3) hLf
    have nRL2 : Rt ≠ Lf := ne_of_none eRt hLf
    have off : ∀ {b : Addr} {o : HO}, H b = some o → b ∉ [Wy, Lf, Rt] := fun {b o} e => by simp [ne_of_none e hW0, ne_of_none e fL, ne_of_none e fR]
    have hfr : ∀ x ∈ freeL vs up, x ∈ vs ∧ RchD vs ls up lo x := fun x hx => ⟨(mem_freeL.mp hx).1, .free (mem_freeL.mp hx).1 (mem_freeL.mp hx).2⟩
    walk_at "g"
    refine w_whileN (fun m σ H' => ∃ (Lk Rk ways : List Int) (y6 y7 : Option V), σ = [some (.ref R), some (.ref U), some (.ref D), some (.ref Wy), some (.ref Rt), some (.ref Lf), y6, y7, none] ∧ m = ways.length + (vs.length - Rk.length) ∧ ways.length + (vs.length - Rk.length) ≤ 200 ∧ AptD vs ls up lo Lk Rk ways (fun _ => False) ∧ Kp [Wy, Lf, Rt] H5 H' ∧ H' Lf = some (.lst (Lk.map V.int)) ∧ H' Rt = some (.lst (Rk.map V.int)) ∧ H' Wy = some (.lst (ways.map V.int))) ((freeL vs up).length + (vs.length - (freeL vs up).length))
      ⟨[], freeL vs up, freeL vs up, _, _, rfl, rfl, by omega, ⟨List.nodup_nil, (rise_nodup S.vr).filter _, fun x hx e => mem_freeL.mpr ⟨hx, e⟩, hfr, by simp, fun x hx => hx, fun x hx hn => absurd hx hn⟩, Kp.refl, eLf, k5 _ _ eRt, k5 _ _ (k4 _ _ eW3)⟩ ?_
    rintro m σ H6 ⟨Lk, Rk, ways, y6, y7, rfl, rfl, hm2, ap, k6, e6L, e6R, e6W⟩
    walk_at "g"
    rcases List.eq_nil_or_concat ways with rfl | ⟨rest, l0, rfl⟩
    · obtain ⟨hRi, hLi⟩ := ap.end' M
      refine w_no (by simp) ?_
      have eR6 := k6 _ _ (off eR) (s5 _ _ eR)
      have nRL : R ≠ Lf := ne_of_none eR fL
      have nRRt : R ≠ Rt := ne_of_none eR fR
      walk_at "g"
      refine w_lockE eR6 fun od2 H7 e7 o7 => ?_
      have e7L := o7.get nRL.symm e6L
      have e7R := o7.get nRRt.symm e6R
      walk_at "g"
      try refine w_keys' e7 ?_
      refine lcp_sel (walk_keys (d := R) (o := od2) (kvs := kvs)) [] (fun i => vs[i]?.bind (pickI (apartDB vs ls up lo))) (by omega) (fun H' k => k _ _ (by simp) e7) ?_ (by simp) ?_
      · rintro i x Ha Hb Rr R0 hi ka ⟨rfl, ky, vy, hkv, rfl⟩ h1 h2
        obtain ⟨y, hy, rfl⟩ := key_at hk hkv
        rw [show kV (Sum.inl y : Key) = V.int y from rfl]
        have hyv := List.mem_of_getElem? hy
        have eLa := ka.same _ _ e7L
        have eRa := ka.same _ _ e7R
        refine w_name ⟨rfl, ?_⟩
        walk_at "g"
        by_cases hz : y ∈ Rk
        · rw [decide_eq_true hz]
          walk_at "g"
          by_cases hz2 : y ∈ Lk
          · rw [decide_eq_true hz2]
            walk_at "g"
            exact h2 _ (sel_no hy (fun z => (apartDB_iff.mp z).2 ((hLi y hyv).mp hz2))) Kp.refl
          · rw [decide_eq_false hz2]
            walk_at "g"
            exact h1 _ _ (sel_yes hy (apartDB_iff.mpr ⟨(hRi y hyv).mp hz, fun z => hz2 ((hLi y hyv).mpr z)⟩)) Kp.refl
        · rw [decide_eq_false hz]
          walk_at "g"
          exact h2 _ (sel_no hy (fun z => hz ((hRi y hyv).mpr (apartDB_iff.mp z).1))) Kp.refl
      intro G H8 hG k8 eG
      rw [hkl, range_fm, pickI_map] at eG
      have eG' : H8 G = some (.lst ((apartDL vs ls up lo).map V.int)) := eG
      have nGR : G ≠ R := fun z => by rw [z, e7] at hG; cases hG
      refine ⟨k8 _ _ (by simp) e7, ?_⟩
      have s9 : Same H6 (upd H8 R (.dK kvs)) := (lock_kp eR6 o7 k8).same
      have eG9 : (upd H8 R (.dK kvs)) G = some (.lst ((apartDL vs ls up lo).map V.int)) := by rw [upd_ne nGR]; exact eG'
      generalize upd H8 R (.dK kvs) = H9 at s9 eG9
      walk_at "g"
      refine w_tupL (.of eG9) fun p H10 hp ep k10 => ?_
      exact q H10 p _ (fun b o e => k10 _ _ (s9 _ _ (k6 _ _ (off e) (s5 _ _ e)))) ep (apartD_is S M ap)
    · rw [List.concat_eq_append] at ap e6W hm2 ⊢
      refine w_yes (by simp) ?_
      refine w_turn ?_
      obtain ⟨ap1, hlR⟩ := ap.pop
      have hlm : l0 ∈ vs := (ap.rm l0 hlR).1
      rw [List.map_append] at e6W
      have e6W' : H6 Wy = some (.lst (rest.map V.int ++ [.int l0])) := e6W
      walk_at "g"
      refine w_pop e6W' fun H7 e7 o7 => ?_
      have k7 : Kp [Wy, Lf, Rt] H5 H7 := k6.trans (o7.kp (by simp))
      have eR7 := k7 _ _ (off eR) (s5 _ _ eR)
      have e7L := o7.get nWL.symm e6L
      have e7R := o7.get nWR2.symm e6R
      have rl : rest.length + 1 + (vs.length - Rk.length) ≤ 200 := by
        rw [List.length_append] at hm2
        simpa using hm2
      have nRW : R ≠ Wy := nWR.symm
      have nRL : R ≠ Lf := ne_of_none eR fL
      have nRRt : R ≠ Rt := ne_of_none eR fR
      walk_at "g"
      refine w_lock eR7 fun od3 H8 e8 o8 => ?_
      walk_at "g"
      refine lp_keys hk (fun i σ H' => ∃ (Lk' Rk' ways' : List Int) (y7 : Option V), σ = [some (.ref R), some (.ref U), some (.ref D), some (.ref Wy), some (.ref Rt), some (.ref Lf), some (.int l0), y7, none] ∧ ways'.length + (vs.length - Rk'.length) ≤ rest.length + (vs.length - Rk.length) ∧ AptD vs ls up lo Lk' Rk' ways' (fun w => w = l0) ∧ l0 ∈ Rk' ∧ (∀ u ∈ vs.take i, SB ls u l0 → u ∈ Lk') ∧ Kp [Wy, Lf, Rt] H8 H' ∧ H' Lf = some (.lst (Lk'.map V.int)) ∧ H' Rt = some (.lst (Rk'.map V.int)) ∧ H' Wy = some (.lst (ways'.map V.int))) ?_ ?_ ?_ ?_
      · exact ⟨Lk, Rk, rest, _, rfl, Nat.le_refl _, ap1, hlR, by simp, Kp.refl, o8.get nRL.symm e7L, o8.get nRRt.symm e7R, o8.get nWR e7⟩
      · rintro i σ H' _ ⟨_, _, _, _, _, _, _, _, _, k9, _⟩
        exact k9 _ _ (by simp [nRW, nRL, nRRt]) e8
      · rintro i u σ H9 hu9 ⟨Lk', Rk', ways', y7', rfl, hm, ap', hlR', hdone, k9, e9L, e9R, e9W⟩
        have huv := List.mem_of_getElem? hu9
        have eR9 := k9 _ _ (by simp [nRW, nRL, nRRt]) e8
        obtain ⟨a, ys, v1, v2, v3, _⟩ := rv u huv
        have naR : a ≠ R := ne_of v2 eR (fun z => nomatch z)
        have v29 := k9 _ _ (off v2) (o8.get naR (k7 _ _ (off v2) (s5 _ _ v2)))
        have eD9 := k9 _ _ (off eD) (o8.get nRD.symm (k7 _ _ (off eD) (s5 _ _ eD)))
        have lRk : Rk'.length ≤ vs.length := nodup_le _ _ ap'.nr fun x hx => (ap'.rm x hx).1
        have lLk : Lk'.length ≤ vs.length := nodup_le _ _ ap'.nl fun x hx => (ap'.lm x hx).1
        have tk : ∀ z ∈ vs.take (i + 1), z ∈ vs.take i ∨ z = u := fun l hl' => by
          rw [List.take_add_one, hu9] at hl'
          simpa using hl'
        have skip : (SB ls u l0 → u ∈ Lk') → ∀ z ∈ vs.take (i + 1), SB ls z l0 → z ∈ Lk' := fun h z hz hs => by
          rcases tk z hz with g | rfl
          · exact hdone z g hs
          · exact h hs
        walk_at "g"
        by_cases hne : u = l0
        · subst hne
          refine w_nyes rfl ?_
          walk_at "g"
          exact ⟨Lk', Rk', ways', _, rfl, hm, ap', hlR', skip fun hs => absurd rfl hs.2, k9, e9L, e9R, e9W⟩
        refine w_nno hne ?_
        walk_at "g"
        by_cases hin : l0 ∈ ys
        rotate_left
        · rw [decide_eq_false hin]
          walk_at "g"
          exact ⟨Lk', Rk', ways', _, rfl, hm, ap', hlR', skip fun hs => absurd ((v3.mem l0).mpr hs.1) hin, k9, e9L, e9R, e9W⟩
        rw [decide_eq_true hin]
        have hsb : SB ls u l0 := ⟨(v3.mem l0).mp hin, fun z => hne z.symm⟩
        walk_at "g"
        by_cases hc : u ∈ Lk'
        · rw [decide_eq_true hc]
          walk_at "g"
          exact ⟨Lk', Rk', ways', _, rfl, hm, ap', hlR', skip fun _ => hc, k9, e9L, e9R, e9W⟩
        rw [decide_eq_false hc]
        obtain ⟨w', ew⟩ := Fu.someD M huv (ap'.rm l0 hlR').2 hsb
        have evw : valV dk (Sum.inl u) = some (.int w') := by rw [d5, ew]; rfl
        walk_at "g"
        refine w_app e9L (by rw [List.length_map]; exact small1000 (by omega)) fun H10 e10 o10 => ?_
        have e10R := o10.get nRL2 e9R
        have e10W := o10.get nWL e9W
        have eD10 := o10.get (by have := off eD; simp at this; exact this.2.1) eD9
        have eLk : addK Lk' u = Lk' ++ [u] := by unfold addK; rw [if_neg hc]
        have hd' : ∀ z ∈ vs.take (i + 1), SB ls z l0 → z ∈ addK Lk' u := fun z hz hs => by
          rcases tk z hz with h | rfl
          · exact mem_addK.mpr (.inl (hdone z h hs))
          · exact mem_addK.mpr (.inr rfl)
        walk_at "g"
        by_cases hw : w' ∈ Rk'
        · rw [decide_eq_true hw]
          walk_at "g"
          have ap2 := ap'.add M hlR' hc hsb huv ew (ways' := ways') (.inr ⟨hw, rfl⟩)
          have eRk : addK Rk' w' = Rk' := by unfold addK; rw [if_pos hw]
          rw [eRk] at ap2
          exact ⟨addK Lk' u, Rk', ways', _, rfl, hm, ap2, hlR', hd', k9.trans (o10.kp (by simp)), by rw [e10, eLk, List.map_append]; rfl, e10R, e10W⟩
        · rw [decide_eq_false hw]
          walk_at "g"
          refine w_app e10R (by rw [List.length_map]; exact small1000 (by omega)) fun H11 e11 o11 => ?_
          have e11W := o11.get nWR2 e10W
          have e11L := o11.get nRL2.symm e10
          have eD11 := o11.get (by have := off eD; simp at this; exact this.2.2) eD10
          have hww : ways'.length ≤ 300 := by omega
          walk_at "g"
          refine w_app e11W (by rw [List.length_map]; exact small1000 (by omega)) fun H12 e12 o12 => ?_
          walk_at "g"
          have ap2 := ap'.add M hlR' hc hsb huv ew (ways' := ways' ++ [w']) (.inl rfl)
          have eRk : addK Rk' w' = Rk' ++ [w'] := by unfold addK; rw [if_neg hw]
          have lRk2 : (addK Rk' w').length ≤ vs.length := nodup_le _ _ ap2.nr fun x hx => (ap2.rm x hx).1
          refine ⟨addK Lk' u, addK Rk' w', ways' ++ [w'], _, rfl, ?_, ap2, mem_addK.mpr (.inl hlR'), hd', k9.trans ((o10.kp (by simp)).trans ((o11.kp (by simp)).trans (o12.kp (by simp)))), by rw [o12.get nWL.symm e11L, eLk, List.map_append]; rfl, by rw [o12.get nWR2.symm e11, eRk, List.map_append]; rfl, by rw [e12, List.map_append]; rfl⟩
          rw [eRk] at lRk2 ⊢
          rw [List.length_append] at lRk2 ⊢
          rw [List.length_append]
          simp only [List.length_cons, List.length_nil] at lRk2 ⊢
          omega
      · rintro σ H9 ⟨Lk', Rk', ways', y7', rfl, hm, ap', hlR', hdone, k9, e9L, e9R, e9W⟩
        rw [List.take_length] at hdone
        refine ⟨k9 _ _ (by simp [nRW, nRL, nRRt]) e8, ?_⟩
        have e10 : upd H9 R (.dK kvs) R = some (.dK kvs) := upd_same
        have o10 : Off R H9 (upd H9 R (.dK kvs)) := fun x hx => upd_ne hx
        generalize upd H9 R (.dK kvs) = H10 at e10 o10 ⊢
        have kk : Kp [Wy, Lf, Rt] H7 H10 := fun b o hb e => by
          by_cases hbR : b = R
          · subst hbR
            rw [eR7] at e
            cases e
            exact e10
          · exact o10.get hbR (k9 _ _ hb (o8.get hbR e))
        refine ⟨ways'.length + (vs.length - Rk'.length), ?_, Lk', Rk', ways', _, _, rfl, rfl, by omega, ap'.done fun u hu' hs => hdone u hu' hs, k7.trans kk, o10.get nRL.symm e9L, o10.get nRRt.symm e9R, o10.get nWR e9W⟩
        rw [List.length_append]
        simp only [List.length_cons, List.length_nil]
        omega
end
/-! ### the law's own cover -/
theorem covIs {vs : List Int} {ls : List (Int × Int)} {qs : List (Int × List Int)} {aps : List Int} {up lo : Int → Option Int} (S : ShOk vs ls) (M : Mt vs ls up lo) (e1 : qs.map (·.1) = freeL vs lo) (p : ∀ q ∈ qs, Path up q.1 q.2) (A : IsApart vs ls lo aps) : IsCov vs ls qs aps := by
  have fr : ∀ q ∈ qs, q.1 ∈ vs ∧ lo q.1 = none := fun q hq => mem_freeL.mp (by rw [← e1]; exact List.mem_map_of_mem hq)
  have first : (qs.map (·.1)).Pairwise (· < ·) := by
    rw [e1]
    exact S.vr.filter _
  refine ⟨fun q hq => (p q hq).head, fun q hq => ((p q hq).rise S M).1, fun q hq i a b h1 h2 => (M.ok _ _ ((p q hq).link i a b h1 h2)).2.2.1, first, ?_, fun x => ?_, A.rise, A.mem, A.anti, ?_⟩
  · unfold List.Nodup
    rw [List.pairwise_flatten]
    refine ⟨fun c hc => ?_, ?_⟩
    · obtain ⟨q, hq, rfl⟩ := List.mem_map.mp hc
      exact rise_nodup ((p q hq).rise S M).1
    · rw [List.pairwise_map]
      rw [List.pairwise_map] at first
      refine List.Pairwise.imp_of_mem (fun {q r} hq hr hlt x hx y hy z => ?_) first
      subst z
      have := (p q hq).uniq S M (p r hr) (fr q hq).2 (fr r hr).2 x.toNat x (Nat.le_refl _) ((p q hq).in M (fr q hq).1 x hx) hx hy
      omega
  · rw [List.mem_flatten]
    constructor
    · rintro ⟨c, hc, hx⟩
      obtain ⟨q, hq, rfl⟩ := List.mem_map.mp hc
      exact (p q hq).in M (fr q hq).1 x hx
    · intro hx
      obtain ⟨r, hr, h⟩ := Path.root S M x.toNat x (Nat.le_refl _) hx
      rw [← e1] at hr
      obtain ⟨q, hq, rfl⟩ := List.mem_map.mp hr
      exact ⟨q.2, List.mem_map_of_mem hq, h q.2 (p q hq)⟩
  · rw [A.len, ← e1, List.length_map]
theorem seqIxN {r n : Nat} (h : r < n) : seqIndex? (r : Int) n = some r := by
  unfold seqIndex?
  simp
  omega
theorem mapErase {α β : Type} (f : α → β) : ∀ (l : List α) (r : Nat), (l.map f).eraseIdx r = (l.eraseIdx r).map f
  | [], _ => rfl
  | _ :: _, 0 => rfl
  | x :: l, r + 1 => by
    show f x :: (l.map f).eraseIdx r = f x :: (l.eraseIdx r).map f
    rw [mapErase f l r]
theorem memErase : ∀ {xs : List Int} (_ : xs.Nodup) {j : Nat} (hj : j < xs.length) (x : Int), x ∈ xs.eraseIdx j ↔ x ∈ xs ∧ x ≠ xs[j]
  | y :: ys, nd, 0, hj, x => by
    have n := (List.nodup_cons.mp nd).1
    show x ∈ ys ↔ x ∈ y :: ys ∧ x ≠ y
    constructor
    · exact fun h => ⟨List.mem_cons_of_mem _ h, fun z => n (z ▸ h)⟩
    · exact fun h => (List.mem_cons.mp h.1).resolve_left h.2
  | y :: ys, nd, j + 1, hj, x => by
    have n := List.nodup_cons.mp nd
    have hj' : j < ys.length := by simpa using hj
    show x ∈ y :: ys.eraseIdx j ↔ x ∈ y :: ys ∧ x ≠ ys[j]
    rw [List.mem_cons, List.mem_cons, memErase n.2 hj' x]
    constructor
    · rintro (h | h)
      · exact ⟨.inl h, fun z => n.1 (by rw [← h, z]; exact List.getElem_mem _)⟩
      · exact ⟨.inr h.1, h.2⟩
    · rintro ⟨h | h, h2⟩
      · exact .inl h
      · exact .inr ⟨h, h2⟩
def spLOwn : Sp := fun as H Q _ => ∃ (d c R : Addr) (n : Nat) (kvs : List (Key × V)) (vs : List Int) (ls : List (Int × Int)), as = [.ref d, .ref R] ∧ Deck H d c n ∧ n + 5000 ≤ MOSTD ∧ H R = some (.dK kvs) ∧ kvs.map (·.1) = vs.map (Sum.inl : Int → Key) ∧ RowsV [d] H kvs ls vs ∧ ShOk vs ls ∧ vs.length < 64 ∧
  ∀ H' p a b (css : List (Addr × Int × List Int)) aps, Deck H' d c (n + 5000) → Kp [d] H H' → H p = none → H' p = some (.tup [.ref a, .ref b]) → H' a = some (.tup (css.map fun q => .ref q.1)) → (∀ q ∈ css, H' q.1 = some (.tup (q.2.2.map V.int))) → VL H' b aps → IsCov vs ls (css.map (·.2)) aps → Q (.ref p) H'
section
variable {P : Program} {w : World} {K : PySem.W.Frag} {mg : Str → Option Value} {base : Heap}
theorem ok_lowncover {f fM fD fP fH fL : Addr} {fd fdM fdD fdP fdH fdL : FuncData} (T : Txt K mg) (F : Fun K "_law_own_cover" "_law_own_cover" s_law_own_cover f fd) (D_law_mixed : Df K mg "_law_mixed" s_law_mixed ["_law_cell", "_law_turn"] fM fdM) (D_law_draw : Df K mg "_law_draw" s_law_draw ["_law_deck_here", "_law_many"] fD fdD)
    (D_law_pair_up : Df K mg "_law_pair_up" s_law_pair_up ["_law_deck_here", "_law_rows", "_law_ups", "_law_downs", "_law_one"] fP fdP) (D_law_high_apart : Df K mg "_law_high_apart" s_law_high_apart ["_law_rows", "_law_ups", "_law_downs"] fH fdH) (D_law_low_apart : Df K mg "_law_low_apart" s_law_low_apart ["_law_rows", "_law_ups", "_law_downs"] fL fdL) : FnOk P w K mg base CX0 4 f fd ["_law_deck_here", "_law_rows"] spLOwn := by
  have G_law_draw : FnOk P w K mg base CX0 2 fD fdD ["_law_deck_here", "_law_many"] spDraw := ok_draw T D_law_draw.fn D_law_mixed
  have G_law_pair_up : FnOk P w K mg base CX0 3 fP fdP ["_law_deck_here", "_law_rows", "_law_ups", "_law_downs", "_law_one"] spLPair := ok_lpair T D_law_pair_up.fn D_law_mixed D_law_draw
  have G_law_high_apart : FnOk P w K mg base CX0 1 fH fdH ["_law_rows", "_law_ups", "_law_downs"] spLHi := ok_lhigh T D_law_high_apart.fn
  have G_law_low_apart : FnOk P w K mg base CX0 1 fL fdL ["_law_rows", "_law_ups", "_law_downs"] spLHi := ok_llow T D_law_low_apart.fn
  refine F.ok sc_law_own_cover (fun vs H Q E h => ?_) (fun cdv A outer s H vs Q E hr h => ?_)
  · obtain ⟨d, c, R, n, kvs, vs, ls, rfl, _⟩ := h
    rfl
  · obtain ⟨d, c, R, n, kvs, vs, ls, rfl, D0, hn, eR, hk, rv, S, hl, q⟩ := h
    have hu := hu_of hr
    have hkl : kvs.length = vs.length := by
      have := congrArg List.length hk
      simpa using this
    have hkv : (kvs.map fun kv => kV kv.1) = vs.map V.int := by
      have e : (kvs.map (·.1)).map kV = (vs.map (Sum.inl : Int → Key)).map kV := by rw [hk]
      rw [List.map_map, List.map_map] at e
      exact e
    obtain ⟨⟨dxs, ed⟩, ⟨cxs, ec⟩⟩ := D0.at
    refine ⟨_,
      (pss_cons
        (ps_set (i := 2) sc_law_own_cover.nd rfl (.inl rfl) pe_dnewK)
      (pss_cons
        (ps_set (i := 3) sc_law_own_cover.nd rfl (.inl rfl) pe_dnewK)
      (pss_cons
        (ps_set (i := 4) sc_law_own_cover.nd rfl (.inl rfl) (pe_callTy (call_listD rfl) (by rfl) T.n_list (by decide +kernel) (pa_cons (pv 1) pa_nil)))
      (pss_cons
        (ps_while PassesOwn.never (pt_cmpR op_gt (pe_callB (r := rLen K) c_len (by rfl) T.n_len (by decide +kernel) (pa_cons (pv 4) pa_nil)) pe_int (nomark _))
          (pss_one
            (ps_expr (pe_call G_law_pair_up (hr.mono (by omega)) (by rfl) D_law_pair_up.g D_law_pair_up.fn.kp D_law_pair_up.b .nil pass0 (pa_cons (pv 0) (pa_cons (pv 1) (pa_cons (pv 2) (pa_cons (pv 3) (pa_cons (pe_bm PySem.F.plainAttrs_list PySem.F.slot_list_pop PySem.F.type_list_pop mt_popAt (pv 4) (pa_cons (pe_call G_law_draw (hr.mono (by omega)) (by rfl) D_law_draw.g D_law_draw.fn.kp D_law_draw.b .nil pass0 (pa_cons (pv 0) (pa_cons (pe_callB (r := rLen K) c_len (by rfl) T.n_len (by decide +kernel) (pa_cons (pv 4) pa_nil)) pa_nil))) pa_nil)) pa_nil)))))))))
      (pss_cons
        (ps_set (i := 5) sc_law_own_cover.nd rfl (.inl rfl) (pe_lst pa_nil))
      (pss_cons
        (ps_lock (ps_for PassesOwn.never rfl (pi_keys (pv 1)) (pg_name (i := 6) sc_law_own_cover.nd rfl (.inl rfl))
          (pss_one
            (ps_if (pt_cmp (pc_dnotin hu (pv 6) (pv 3)))
              (pss_cons
                (ps_set (i := 7) sc_law_own_cover.nd rfl (.inl rfl) (pe_lst (pa_cons (pv 6) pa_nil)))
              (pss_cons
                (ps_while PassesOwn.never (pt_cmp (pc_din hu (pe_ix (r := rIxL K) ix_list (pv 7) (pe_un un_neg pe_int) (fun _ _ => rfl)) (pv 2)))
                  (pss_one
                    (ps_expr (pe_bm PySem.F.plainAttrs_list PySem.F.slot_list_append PySem.F.type_list_append mt_append (pv 7) (pa_cons (pe_dget hu (pv 2) (pe_ix (r := rIxL K) ix_list (pv 7) (pe_un un_neg pe_int) (fun _ _ => rfl)) (fun _ _ => rfl)) pa_nil)))))
              (pss_one
                (ps_expr (pe_bm PySem.F.plainAttrs_list PySem.F.slot_list_append PySem.F.type_list_append mt_append (pv 5) (pa_cons (pe_callTy (r := rTupOf K) c_tupOf (by rfl) T.n_tuple (by decide +kernel) (pa_cons (pv 7) pa_nil)) pa_nil))))))
              pss_nil))))
      (pss_cons
        (ps_if (pt_cmpR op_eq (pe_call G_law_draw (hr.mono (by omega)) (by rfl) D_law_draw.g D_law_draw.fn.kp D_law_draw.b .nil pass0 (pa_cons (pv 0) (pa_cons pe_int pa_nil))) pe_int (nomark _))
          (pss_one
            (ps_ret (pe_tup (pa_cons (pe_callTy (r := rTupOf K) c_tupOf (by rfl) T.n_tuple (by decide +kernel) (pa_cons (pv 5) pa_nil)) (pa_cons (pe_call G_law_high_apart (hr.mono (by omega)) (by rfl) D_law_high_apart.g D_law_high_apart.fn.kp D_law_high_apart.b .nil pass0 (pa_cons (pv 1) (pa_cons (pv 2) (pa_cons (pv 3) pa_nil)))) pa_nil)))))
          pss_nil)
      (pss_one
        (ps_ret (pe_tup (pa_cons (pe_callTy (r := rTupOf K) c_tupOf (by rfl) T.n_tuple (by decide +kernel) (pa_cons (pv 5) pa_nil)) (pa_cons (pe_call G_law_low_apart (hr.mono (by omega)) (by rfl) D_law_low_apart.g D_law_low_apart.fn.kp D_law_low_apart.b .nil pass0 (pa_cons (pv 1) (pa_cons (pv 2) (pa_cons (pv 3) pa_nil)))) pa_nil))))))))))))
      , ?_⟩
    rw [show L2.start N_law_own_cover [V.ref d, V.ref R] = [some (.ref d), some (.ref R), none, none, none, none, none, none] from rfl]
    walk_at "x"
    refine w_new fun U H1 hU eU k1 => ?_
    walk_at "g"
    refine w_new fun D H2 hD eD k2 => ?_
    have k02 : Same H H2 := Same.trans k1 k2
    have fD : H D = none := k1.free hD
    have nUD : U ≠ D := ne_of_none eU hD
    have nRU : R ≠ U := ne_of_none eR hU
    have nRD : R ≠ D := ne_of_none eR fD
    have nRd : R ≠ d := ne_of eR ed (fun z => nomatch z)
    have nUd : U ≠ d := (ne_of_none ed hU).symm
    have nDd : D ≠ d := (ne_of_none ed fD).symm
    have nUc : U ≠ c := (ne_of_none ec hU).symm
    have nDc : D ≠ c := (ne_of_none ec fD).symm
    walk_at "g"
    refine ⟨R, kvs, rfl, .of (k02 _ _ eR), ?_⟩
    rw [hkv]
    refine fun Rs hRs => ?_
    have eRs : upd H2 Rs (.lst (vs.map V.int)) Rs = some (.lst (vs.map V.int)) := upd_same
    have k3 : Same H2 (upd H2 Rs (.lst (vs.map V.int))) := fun b o e => (upd_ne (ne_of_none e hRs)).trans e
    generalize upd H2 Rs (.lst (vs.map V.int)) = H3 at eRs k3 ⊢
    have k03 : Same H H3 := Same.trans k02 k3
    have fRs : H Rs = none := k02.free hRs
    have nRsU : Rs ≠ U := (ne_of_none (k2 _ _ eU) hRs).symm
    have nRsD : Rs ≠ D := (ne_of_none eD hRs).symm
    have nRsd : Rs ≠ d := (ne_of_none ed fRs).symm
    have nRsc : Rs ≠ c := (ne_of_none ec fRs).symm
    have nRRs : R ≠ Rs := ne_of_none eR fRs
    have D3 : Deck H3 d c n := D0.kp (M := []) (Kp.of k03) (by simp) (by simp)
    have rv3 : RowsV [U, D, d, Rs] H3 kvs ls vs := fun x hx => by
      obtain ⟨a, ys, v1, v2, v3, v4⟩ := rv x hx
      exact ⟨a, ys, v1, k03 _ _ v2, v3, by simp [ne_of_none v2 hU, ne_of_none v2 fD, ne_of_none v2 fRs]; simpa using v4⟩
    walk_at "g"
    refine w_whileN (fun m σ H' => ∃ (xs : List Int) (up lo : Int → Option Int), σ = [some (.ref d), some (.ref R), some (.ref U), some (.ref D), some (.ref Rs), none, none, none] ∧ m = xs.length ∧ xs.Nodup ∧ (∀ x ∈ xs, x ∈ vs ∧ lo x = none) ∧ Kp [U, D, d, Rs] H3 H' ∧ Deck H' d c (n + 71 * (vs.length - xs.length)) ∧ H' Rs = some (.lst (xs.map V.int)) ∧ MapAt H' U vs up ∧ MapAt H' D vs lo ∧ Mt vs ls up lo ∧ ∀ x ∈ vs, x ∉ xs → (lo x).isSome = true ∨ ∃ L R, Cl ls up L R ∧ L x) vs.length
      ⟨vs, fun _ => none, fun _ => none, rfl, rfl, rise_nodup S.vr, fun x hx => ⟨hx, rfl⟩, Kp.refl, D3.mono (by omega), eRs, ⟨[], [], k3 _ _ (k2 _ _ eU), rfl, List.nodup_nil, by simp, fun _ => rfl⟩, ⟨[], [], k3 _ _ eD, rfl, List.nodup_nil, by simp, fun _ => rfl⟩, ⟨fun l u => ⟨(fun z => nomatch z), (fun z => nomatch z)⟩, (fun l u z => nomatch z)⟩, fun x hx hn => absurd hx hn⟩ ?_
    rintro m σ H4 ⟨xs, up, lo, rfl, rfl, nd, hx, k4, D4, e4, mU, mD, M, full⟩
    have xl : xs.length ≤ vs.length := nodup_le _ _ nd fun x h => (hx x h).1
    walk_at "g"
    rcases Nat.eq_zero_or_pos xs.length with hz | hz
    · have e0 : xs = [] := List.length_eq_zero_iff.mp hz
      subst e0
      have Fu : Full vs ls up lo := fun x hx => full x hx (by simp)
      refine w_no (by simp) ?_
      obtain ⟨uk, uks, eU4, u2, u3, u4, u5⟩ := id mU
      obtain ⟨dk, dks, eD4, d2, d3, d4, d5⟩ := id mD
      have eR4 := k4 _ _ (by simp [nRU, nRD, nRd, nRRs]) (k03 _ _ eR)
      have rv4 : RowsV [] H4 kvs ls vs := fun x hx => by
        obtain ⟨a, ys, v1, v2, v3, v4⟩ := rv3 x hx
        exact ⟨a, ys, v1, k4 _ _ v4 v2, v3, by simp⟩
      have kH4 : Kp [d] H H4 := fun b o hb e => k4 _ _ (by
        have hb' : b ≠ d := by simpa using hb
        simp [ne_of_none e hU, ne_of_none e fD, ne_of_none e fRs, hb']) (k03 _ _ e)
      walk_at "g"
      refine w_new fun Ch H5 hCh eCh k5 => ?_
      have eR5 := k5 _ _ eR4
      walk_at "g"
      refine w_lock eR5 fun od H6 eR6 o6 => ?_
      have nChR : Ch ≠ R := fun z => by rw [z, eR4] at hCh; cases hCh
      have eCh6 := o6.get nChR eCh
      have eU6 := o6.get nRU.symm (k5 _ _ eU4)
      have eD6 := o6.get nRD.symm (k5 _ _ eD4)
      have k46 : Kp [R] H4 H6 := (Kp.of k5).trans (o6.kp (by simp))
      walk_at "g"
      refine lp_keys hk (fun i σ H' => ∃ (y6 y7 : Option V) (css : List (Addr × Int × List Int)), σ = [some (.ref d), some (.ref R), some (.ref U), some (.ref D), some (.ref Rs), some (.ref Ch), y6, y7] ∧ Kp [Ch] H6 H' ∧ css.length ≤ i ∧ H' Ch = some (.lst (css.map fun q => .ref q.1)) ∧ (∀ q ∈ css, H' q.1 = some (.tup (q.2.2.map V.int))) ∧ css.map (·.2.1) = freeL (vs.take i) lo ∧ ∀ q ∈ css, Path up q.2.1 q.2.2) ?_ ?_ ?_ ?_
      · exact ⟨_, _, [], rfl, Kp.refl, Nat.le_refl _, eCh6, by simp, rfl, by simp⟩
      · rintro i σ H' _ ⟨_, _, _, _, k7, _⟩
        exact k7 _ _ (by simpa using nChR.symm) eR6
      · rintro i v σ H7 hv ⟨y6, y7, css, rfl, k7, hcl, e7, hce, hcf, hcp⟩
        have hvn := List.mem_of_getElem? hv
        have hi : i < vs.length := (List.getElem?_eq_some_iff.mp hv).1
        have tk : freeL (vs.take (i + 1)) lo = if (lo v).isNone = true then freeL (vs.take i) lo ++ [v] else freeL (vs.take i) lo := by
          unfold freeL
          rw [List.take_add_one, hv, List.filter_append]
          by_cases e : (lo v).isNone = true
          · rw [if_pos e]; simp [e]
          · rw [if_neg e]; simp [e]
        have nChD : D ≠ Ch := fun z => by rw [← z, eD4] at hCh; cases hCh
        have nChU : U ≠ Ch := fun z => by rw [← z, eU4] at hCh; cases hCh
        have eD7 := k7 _ _ (by simpa using nChD) eD6
        have eU7 := k7 _ _ (by simpa using nChU) eU6
        walk_at "g"
        rw [MapAt.in (vs := vs) d5 v]
        by_cases hb : (lo v).isSome = true
        · have isn : ¬ (lo v).isNone = true := fun z => by rw [Option.isNone_iff_eq_none] at z; rw [z] at hb; cases hb
          rw [if_neg isn] at tk
          rw [hb]
          walk_at "g"
          exact ⟨_, _, css, rfl, k7, by omega, e7, hce, by rw [tk]; exact hcf, hcp⟩
        · have hb' : (lo v).isSome = false := by simpa using hb
          have isn : (lo v).isNone = true := by rw [Option.isNone_iff_eq_none]; simpa using hb
          rw [if_pos isn] at tk
          rw [hb']
          walk_at "g"
          refine w_new fun Cn H8 hCn eCn k8 => ?_
          have nChCn : Ch ≠ Cn := ne_of_none e7 hCn
          have nUCn : U ≠ Cn := ne_of_none eU7 hCn
          walk_at "g"
          refine w_whileN (fun m σ H' => ∃ (pre : List Int) (z : Int), σ = [some (.ref d), some (.ref R), some (.ref U), some (.ref D), some (.ref Rs), some (.ref Ch), some (.int v), some (.ref Cn)] ∧ m = vs.length - pre.length ∧ Kp [Cn] H8 H' ∧ H' Cn = some (.lst ((pre ++ [z]).map V.int)) ∧ (∀ x ∈ pre ++ [z], x ∈ vs ∧ x ≤ z) ∧ (pre ++ [z]).Nodup ∧ ∀ c, Path up z c → Path up v (pre ++ c)) vs.length ⟨[], v, rfl, rfl, Kp.refl, eCn, by simp [hvn], by simp, fun c p => p⟩ ?_
          rintro m σ H9 ⟨pre, z, rfl, rfl, k9, e9, hz, hnd, hp⟩
          have eU9 := k9 _ _ (by simpa using nUCn) (k8 _ _ eU7)
          have hlast : atI ((pre ++ [z]).map V.int) (-1) = some (.int z) := by
            rw [List.map_append]
            exact atI_last _ _
          have hplen : pre.length + 1 ≤ vs.length := by
            have := nodup_le _ vs hnd fun x hx => (hz x hx).1
            simpa using this
          walk_at "g"
          rw [MapAt.in (vs := vs) u5 z]
          refine w_itB (fun hc => w_turn ?_) (fun hc => ?_)
          · obtain ⟨u, eu⟩ := Option.isSome_iff_exists.mp hc
            have evu : valV uk (Sum.inl z) = some (.int u) := by rw [u5, eu]; rfl
            have g := M.ok _ _ eu
            have lt := g.2.2.lt S
            walk_at "g"
            refine w_app e9 (by rw [List.length_map, List.length_append]; exact small1000 (by simp; omega)) fun H10 e10 o10 => ?_
            refine ⟨vs.length - (pre ++ [z]).length, by rw [List.length_append]; simp; omega, pre ++ [z], u, rfl, rfl, k9.trans (o10.kp (by simp)), by rw [e10, List.map_append (l₂ := [u])]; rfl, fun x hx => ?_, ?_, fun c p => by rw [List.append_assoc]; exact hp _ (.step eu p)⟩
            · rcases List.mem_append.mp hx with h | h
              · have := hz x h
                exact ⟨this.1, by omega⟩
              · have e : x = u := by simpa using h
                subst e
                exact ⟨g.2.1, by omega⟩
            · refine List.nodup_append.mpr ⟨hnd, by simp, fun x hx y hy e => ?_⟩
              have e2 : y = u := by simpa using hy
              have := (hz x hx).2
              omega
          · have hnone : up z = none := by simpa using hc
            have hpath : Path up v (pre ++ [z]) := hp _ (.stop hnone)
            have e7' : H9 Ch = some (.lst (css.map fun q => .ref q.1)) := k9 _ _ (by simpa using nChCn) (k8 _ _ e7)
            walk_at "g"
            refine w_tupL (.of e9) fun p H10 hp10 ep10 k10 => ?_
            have e10 := k10 _ _ e7'
            walk_at "g"
            refine w_app e10 (by rw [List.length_map]; exact small1000 (by omega)) fun H11 e11 o11 => ?_
            refine ⟨_, _, css ++ [(p, v, pre ++ [z])], rfl, fun b o hb e => ?_, ?_, by rw [e11, List.map_append]; rfl, fun x hx => ?_, ?_, fun x hx => ?_⟩
            · have hb' : b ≠ Ch := by simpa using hb
              have e' := k7 _ _ hb e
              exact o11.get hb' (k10 _ _ (k9 _ _ (by simpa using ne_of_none e' hCn) (k8 _ _ e')))
            · rw [List.length_append]
              simp only [List.length_cons, List.length_nil]
              omega
            · rcases List.mem_append.mp hx with h | h
              · have z1 := hce x h
                have z2 := k8 _ _ z1
                exact o11.tup e10 (k10 _ _ (k9 _ _ (by simpa using ne_of z2 eCn (fun y => nomatch y)) z2))
              · have e : x = (p, v, pre ++ [z]) := by simpa using h
                subst e
                exact o11.tup e10 ep10
            · rw [tk, List.map_append, hcf]
              rfl
            · rcases List.mem_append.mp hx with h | h
              · exact hcp x h
              · have e : x = (p, v, pre ++ [z]) := by simpa using h
                subst e
                exact hpath
      · rintro σ H7 ⟨y6, y7, css, rfl, k7, hcl, e7, hce, hcf, hcp⟩
        rw [List.take_length] at hcf
        have eR7 := k7 _ _ (by simpa using nChR.symm) eR6
        refine ⟨eR7, ?_⟩
        have e8 : upd H7 R (.dK kvs) R = some (.dK kvs) := upd_same
        have o8 : Off R H7 (upd H7 R (.dK kvs)) := fun x hx => upd_ne hx
        generalize upd H7 R (.dK kvs) = H8 at e8 o8 ⊢
        have k48 : Same H4 H8 := fun b o e => by
          by_cases hbR : b = R
          · subst hbR
            rw [eR4] at e
            cases e
            exact e8
          · exact o8.get hbR (k7 _ _ (by simpa using fun z => by rw [z, hCh] at e; cases e) (o6.get hbR (k5 _ _ e)))
        have eCh8 := o8.get nChR e7
        have hce8 : ∀ q ∈ css, H8 q.1 = some (.tup (q.2.2.map V.int)) := fun x hx => o8.get (ne_of (hce x hx) eR7 (fun y => nomatch y)) (hce x hx)
        have D8 : Deck H8 d c _ := D4.kp (M := []) (Kp.of k48) (by simp) (by simp)
        have l71 : 71 * (vs.length - ([] : List Int).length) ≤ 71 * 63 := Nat.mul_le_mul_left _ (by simp; omega)
        refine w_seq ?_
        walk_at "g"
        refine w_draw D8 (by omega) (by decide) (by decide) fun vv H9 hvv D9 o9 => ?_
        have ed8 := k48
        obtain ⟨⟨dxs4, ed4⟩, _⟩ := D4.at
        have nChd : Ch ≠ d := fun z => by rw [z, ed4] at hCh; cases hCh
        have eCh9 := o9.get nChd eCh8
        have eR9 := o9.get nRd (k48 _ _ eR4)
        have mU9 : MapAt H9 U vs up := (mU.kp (M := []) (Kp.of k48) (by simp)).kp (M := [d]) (o9.kp (by simp)) (by simpa using nUd)
        have mD9 : MapAt H9 D vs lo := (mD.kp (M := []) (Kp.of k48) (by simp)).kp (M := [d]) (o9.kp (by simp)) (by simpa using nDd)
        have rv9 : RowsV [] H9 kvs ls vs := fun x hx => by
          obtain ⟨a, ys, v1, v2, v3, v4⟩ := rv3 x hx
          have nad : a ≠ d := by
            simp only [List.mem_cons, List.not_mem_nil, or_false, not_or] at v4
            exact v4.2.2.1
          exact ⟨a, ys, v1, o9.get nad (k48 _ _ (k4 _ _ v4 v2)), v3, by simp⟩
        have ed8 : ∃ xs, H8 d = some (.lst xs) := D8.at.1
        obtain ⟨dxs8, ed8⟩ := ed8
        have hce9 : ∀ q ∈ css, H9 q.1 = some (.tup (q.2.2.map V.int)) := fun x hx => o9.get (ne_of (hce8 x hx) ed8 (fun y => nomatch y)) (hce8 x hx)
        have kH9 : Kp [d] H H9 := fun b o hb e => o9.get (by simpa using hb) (k48 _ _ (kH4 _ _ hb e))
        have fin : ∀ H' p a b aps, Same H9 H' → H p = none → H' p = some (.tup [.ref a, .ref b]) → H' a = some (.tup (css.map fun q => .ref q.1)) → VL H' b aps → IsApart vs ls lo aps → Q (.ref p) H' := fun H' p a b aps k hp e1 e2 hb A =>
          q H' p a b css aps ((D9.kp (M := []) (Kp.of k) (by simp) (by simp)).mono (by omega)) (fun b o hb e => k _ _ (kH9 _ _ hb e)) hp e1 e2 (fun x hx => k _ _ (hce9 x hx)) hb (covIs S M (by rw [List.map_map]; exact hcf) (fun x hx => by
            obtain ⟨z, hz, rfl⟩ := List.mem_map.mp hx
            exact hcp z hz) A)
        have free : ∀ {p : Addr}, H9 p = none → H p = none := fun {p} hp => by
          cases e : H p with
          | none => rfl
          | some o =>
            by_cases hpd : p = d
            · subst hpd
              obtain ⟨⟨dxs9, ed9⟩, _⟩ := D9.at
              rw [ed9] at hp
              cases hp
            · rw [kH9 _ _ (by simpa using hpd) e] at hp
              cases hp
        walk_at "g"
        refine w_ite (fun h => ?_) (fun h => ?_)
        · walk_at "g"
          refine w_tupL (.of eCh9) fun a H10 ha ea k10 => ?_
          walk_at "g"
          refine ⟨R, U, D, kvs, vs, ls, up, lo, rfl, k10 _ _ eR9, hk, rv9.kp (N := []) (Kp.of k10) (by simp), mU9.kp (M := []) (Kp.of k10) (by simp), mD9.kp (M := []) (Kp.of k10) (by simp), S, hl, M, Fu, nRU, nRD, fun H11 b aps k11 hb A => ?_⟩
          walk_at "g"
          refine w_new fun p H12 hp ep k12 => ?_
          exact fin H12 p a b aps (Same.trans k10 (Same.trans k11 k12)) (free (k10.free (k11.free hp))) ep (k12 _ _ (k11 _ _ ea)) (hb.kt (KT.of k12)) A
        · walk_at "g"
          refine w_tupL (.of eCh9) fun a H10 ha ea k10 => ?_
          walk_at "g"
          refine ⟨R, U, D, kvs, vs, ls, up, lo, rfl, k10 _ _ eR9, hk, rv9.kp (N := []) (Kp.of k10) (by simp), mU9.kp (M := []) (Kp.of k10) (by simp), mD9.kp (M := []) (Kp.of k10) (by simp), S, hl, M, Fu, nRU, nRD, fun H11 b aps k11 hb A => ?_⟩
          walk_at "g"
          refine w_new fun p H12 hp ep k12 => ?_
          exact fin H12 p a b aps (Same.trans k10 (Same.trans k11 k12)) (free (k10.free (k11.free hp))) ep (k12 _ _ (k11 _ _ ea)) (hb.kt (KT.of k12)) A
    · refine w_yes (by simpa using hz) (w_turn ?_)
      walk_at "g"
      have l71 : 71 * (vs.length - xs.length) ≤ 71 * 62 := Nat.mul_le_mul_left _ (by omega)
      have hlx : (xs.map V.int).length = xs.length := List.length_map ..
      refine w_draw D4 (by omega) (by omega) (by omega) fun i H5 hi D5 o5 => ?_
      have hil : i < xs.length := by omega
      have e5 := o5.get nRsd e4
      walk_at "g"
      refine w_popAt (k := i) (y := .int xs[i]) e5 (by omega) (by omega) (seqIxN (by rw [List.length_map]; omega)) (by rw [List.getElem?_map, List.getElem?_eq_getElem hil]; rfl) fun H6 e6 o6 => ?_
      rw [mapErase] at e6
      have k6 : Kp [U, D, d, Rs] H3 H6 := k4.trans ((o5.kp (by simp)).trans (o6.kp (by simp)))
      have D6 : Deck H6 d c _ := D5.kp (M := [Rs]) (o6.kp (by simp)) (by simpa using nRsd.symm) (by simpa using nRsc.symm)
      have eR6 := k6 _ _ (by simp [nRU, nRD, nRd, nRRs]) (k03 _ _ eR)
      have mU6 : MapAt H6 U vs up := (mU.kp (M := [d]) (o5.kp (by simp)) (by simpa using nUd)).kp (M := [Rs]) (o6.kp (by simp)) (by simpa using nRsU.symm)
      have mD6 : MapAt H6 D vs lo := (mD.kp (M := [d]) (o5.kp (by simp)) (by simpa using nDd)).kp (M := [Rs]) (o6.kp (by simp)) (by simpa using nRsD.symm)
      have rv6 : RowsV [d] H6 kvs ls vs := fun x hx => by
        obtain ⟨a, ys, v1, v2, v3, v4⟩ := rv3 x hx
        refine ⟨a, ys, v1, k6 _ _ v4 v2, v3, ?_⟩
        simp only [List.mem_cons, List.not_mem_nil, or_false, not_or] at v4 ⊢
        exact v4.2.2.1
      have hxi := hx xs[i] (List.getElem_mem _)
      walk_at "g"
      refine ⟨xs[i], d, c, R, U, D, _, kvs, vs, ls, up, lo, rfl, D6, by omega, nUD, eR6, nRU, nRD, rv6, mU6, mD6, S, hl, M, hxi.2, hxi.1, fun H7 up' lo' D7 k7 mU7 mD7 pd => ?_⟩
      have me := memErase nd hil
      have el : (xs.eraseIdx i).length = xs.length - 1 := List.length_eraseIdx_of_lt hil
      refine ⟨(xs.eraseIdx i).length, by omega, xs.eraseIdx i, up', lo', rfl, rfl, (List.eraseIdx_sublist xs i).nodup nd, fun x h => ?_, k6.trans (fun b o hb e => k7 _ _ (by simp only [List.mem_cons, List.not_mem_nil, or_false, not_or] at hb ⊢; exact ⟨hb.1, hb.2.1, hb.2.2.1⟩) e), D7.mono (by rw [el]; omega), k7 _ _ (by simp [nRsU, nRsD, nRsd]) e6, mU7, mD7, pd.m, fun x h1 h2 => ?_⟩
      · have h' := (me x).mp h
        refine ⟨(hx x h'.1).1, ?_⟩
        cases e : lo' x with
        | none => rfl
        | some z =>
          rcases pd.d1 x (by rw [e]; rfl) with g | g
          · rw [(hx x h'.1).2] at g
            cases g
          · exact absurd g h'.2
      · by_cases hxx : x = xs[i]
        · rw [hxx]
          exact pd.hit
        · rcases full x h1 (fun z => h2 ((me x).mpr ⟨z, hxx⟩)) with h | ⟨L, R', c, hL⟩
          · exact .inl (pd.d2 x h)
          · exact .inr ⟨L, R', pd.cl L R' c, hL⟩
end
/-! ### must_ask -/
def spMust : Sp := fun vs H Q _ => ∃ (t td cb : Addr) (u : V) (ns : List Int) (ps : List (Addr × Int × Int)) (aps : List Int), vs = [.ref t, .ref td] ∧ ShAt H t ns ps ∧ ShOk ns (ps.map (·.2)) ∧ ns.length < 64 ∧ ps.length ≤ 100000 ∧ H td = some (.tup [u, .ref cb]) ∧ VL H cb aps ∧ (∀ x ∈ aps, x ∈ ns) ∧ aps.length < 64 ∧
  ∀ H' r ms, Same H H' → VL H' r ms → ms.Pairwise (· < ·) → (∀ x, x ∈ ms ↔ ∃ a ∈ aps, SB (ps.map (·.2)) a x) → Q (.ref r) H'
section
variable {P : Program} {w : World} {K : PySem.W.Frag} {mg : Str → Option Value} {base : Heap}
theorem ok_must {f fS : Addr} {fd fdS : FuncData} (T : Txt K mg) (F : Fun K "must_ask" "must_ask" s_must_ask f fd) (D_spans : Df K mg "spans" s_spans ["shape"] fS fdS) : FnOk P w K mg base CX0 2 f fd ["shape", "cover"] spMust := by
  have G_spans : FnOk P w K mg base CX0 1 fS fdS ["shape"] spSpans := ok_spans T D_spans.fn
  refine F.ok sc_must_ask (fun vs H Q E h => ?_) (fun cdv A outer s H vs Q E hr h => ?_)
  · obtain ⟨t, td, cb, u, ns, ps, aps, rfl, _⟩ := h
    rfl
  · obtain ⟨t, td, cb, u, ns, ps, aps, rfl, hS, S, hl, hl2, etd, hcb, ham, hal, q⟩ := h
    have hu := hu_of hr
    have hcb' : H cb = some (.tup (aps.map V.int)) := hcb
    refine ⟨_,
      (pss_cons
        (ps_set (i := 2) sc_must_ask.nd rfl (.inr rfl) (pe_call G_spans (hr.mono (by omega)) (by rfl) D_spans.g D_spans.fn.kp D_spans.b .nil pass0 (pa_cons (pv 0) pa_nil)))
      (pss_one
        (ps_ret (pe_callTy (r := rTupOf K) c_tupOf (by rfl) T.n_tuple (by decide +kernel) (pa_cons (pe_callB (r := rSortS w) (c_sortS rfl) (by rfl) T.n_sorted (by decide +kernel) (pa_cons (pe_sc2 (own := [("version", 3), ("low", 4)]) (us := [4]) (ga := (gName 3)) (gb := (gName 4)) rfl sc_must_ask.nd (pi_tup (pe_ix (r := rIxT K) ix_tup (pv 1) pe_int (fun _ _ => rfl))) (blkOk_by (own := [("version", 3), ("low", 4)]) (N := N_must_ask) (sc := defScope s_must_ask) (by decide +kernel)) (by decide) (fun _ _ _ _ _ => (pg_name (i := 3) sc_must_ask.nd rfl (.inl rfl))) (fun _ _ _ _ _ => pts_nil) (fun _ _ _ _ _ => (pi_listK (K := K) rfl (pe_slice (r := rSlL K) sl_list (pe_dget hu (pv 2) (pv 3) (fun _ _ => rfl)) po_none (po_some (pe_un un_neg pe_int))))) (fun _ _ _ _ _ => (pg_name (i := 4) sc_must_ask.nd rfl (.inl rfl))) (fun _ _ _ _ _ => pts_nil) (fun _ _ _ _ _ => (pv 4))) pa_nil)) pa_nil)))))
      , ?_⟩
    rw [show L2.start N_must_ask [V.ref t, V.ref td] = [some (.ref t), some (.ref td), none, none, none] from rfl]
    walk_at "x"
    refine ⟨t, ns, ps, rfl, hS, S, hl, hl2, fun H1 R k1 hR RA => ?_⟩
    obtain ⟨kvs, eR, hks, _, rv0⟩ := RA
    have etd1 := k1 _ _ etd
    have ecb1 := k1 _ _ hcb'
    walk_at "g"
    try refine w_sc2 ?_
    try walk_at "g"
    refine sc2_it (walk_tup (K := K) (a := cb) (xs := aps.map V.int)) (fun D i H' => Same H1 H' ∧ SetP w H' D (fun x => ∃ a ∈ aps.take i, SB (ps.map (·.2)) a x) (63 * i)) ?_ ?_ ?_ ?_
    · intro D hD
      exact ⟨Same.new hD, SetP.none.congr (fun x => by simp) (by omega)⟩
    · rintro D i H' _ ⟨k4, _⟩
      exact .of (k4 _ _ ecb1)
    · rintro D i x H4 H5 hD hi ⟨k4, sp⟩ ⟨rfl, hx⟩
      obtain ⟨v, hv, rfl⟩ := map_at hx
      have hvn := ham v (List.mem_of_getElem? hv)
      have tk : aps.take (i + 1) = aps.take i ++ [v] := by rw [List.take_add_one, hv]; rfl
      obtain ⟨a, ys, v1, v2, v3, _⟩ := rv0 v hvn
      have eR4 := k4 _ _ eR
      have v24 := k4 _ _ v2
      have yl : ys.length ≤ 63 := by
        have := nodup_le ys ns (rise_nodup v3.rise) fun y hy => ((v3.mem y).mp hy).mem S hvn
        omega
      refine w_name ⟨rfl, ?_⟩
      walk_at "g"
      refine w_slL (.of v24) fun Z H6 hZ eZ k6 => ?_
      rw [cut_last, ← List.map_dropLast] at eZ
      obtain ⟨S0, n0, eD4, _⟩ := id sp
      have nZD : Z ≠ D := (ne_of_none eD4 hZ).symm
      have dl : ys.dropLast.length ≤ 62 := by rw [List.length_dropLast]; omega
      walk_at "g"
      refine innS_it (walk_list (K := K) (a := Z) (xs := ys.dropLast.map V.int)) (fun j H' => Kp [D] H6 H' ∧ SetP w H' D (fun x => (∃ a ∈ aps.take i, SB (ps.map (·.2)) a x) ∨ x ∈ ys.dropLast.take j) (63 * i + j)) ?_ ?_ ?_ ?_
      · exact ⟨Kp.refl, (sp.kp (M := []) (Kp.of k6) (by simp)).congr (fun x => by simp) (by omega)⟩
      · rintro j H' _ ⟨k7, _⟩
        exact .of (k7 _ _ (by simpa using nZD) eZ)
      · rintro j x H7 H8 hj ⟨k7, sp7⟩ ⟨rfl, hx7⟩
        obtain ⟨z, hz, rfl⟩ := map_at hx7
        have hi' : i < aps.length := by simpa using hi
        have hj' : j < ys.dropLast.length := by simpa using hj
        refine w_name ⟨rfl, ?_⟩
        walk_at "g"
        refine w_setadd (R := fun H' => Kp [D] H6 H' ∧ SetP w H' D (fun x => (∃ a ∈ aps.take i, SB (ps.map (·.2)) a x) ∨ x ∈ ys.dropLast.take (j + 1)) (63 * i + (j + 1))) sp7 (by unfold scanBound; omega) fun H9 o9 sp9 => ⟨k7.trans (o9.kp (by simp)), sp9.congr (fun x => ?_) (by omega)⟩
        rw [List.take_add_one, hz, List.mem_append]
        simp only [Option.toList_some, List.mem_singleton]
        rw [or_assoc]
      · rintro H7 ⟨k7, sp7⟩
        rw [List.length_map, List.take_length] at sp7
        refine ⟨fun b o e => k7 _ _ (by simpa using ne_of_none e hD) (k6 _ _ (k4 _ _ e)), sp7.congr (fun x => ?_) (by omega)⟩
        rw [row_drop S v3 x, tk]
        constructor
        · rintro (⟨b, hb, hs⟩ | hs)
          · exact ⟨b, List.mem_append_left _ hb, hs⟩
          · exact ⟨v, by simp, hs⟩
        · rintro ⟨b, hb, hs⟩
          rcases List.mem_append.mp hb with h | h
          · exact .inl ⟨b, h, hs⟩
          · have e : b = v := by simpa using h
            rw [e] at hs
            exact .inr hs
    · rintro D H3 hD ⟨k3, S3, n3, e3, hn3, hS3⟩
      rw [List.length_map] at hn3 hS3
      rw [List.take_length] at hS3
      walk_at "g"
      refine w_sortS e3 (by omega) fun ms p H4 hup hmem hp ep k4 => ?_
      walk_at "g"
      refine w_tupL (.of ep) fun r H5 hr5 er k5 => ?_
      exact q H5 r ms (Same.trans k1 (Same.trans k3 (Same.trans k4 k5))) er hup fun x => by rw [hmem, hS3]
end
/-! ### asking and settling: the plain law -/
def bits (n : Nat) : Int := (Builtin.Int.intBits (n : Int) : Nat)
theorem bits_zero : bits 0 = 0 := rfl
theorem bits_half {n : Nat} (h : 0 < n) : bits n = bits (n / 2) + 1 := by
  unfold bits Builtin.Int.intBits
  have e : ∀ m : Nat, ((m : Int) == 0) = decide (m = 0) := fun m => by
    by_cases q : m = 0
    · subst q; rfl
    · rw [decide_eq_false q]; exact beq_false_of_ne (by omega)
  rw [e, e]
  simp only [Int.natAbs_natCast]
  rw [decide_eq_false (show ¬ n = 0 by omega)]
  by_cases h2 : 2 ≤ n
  · rw [decide_eq_false (show ¬ n / 2 = 0 by omega), Nat.log2_def n, if_pos h2]
    simp
  · have e1 : n = 1 := by omega
    subst e1
    rfl
theorem bits_nn (n : Nat) : 0 ≤ bits n := by unfold bits; exact Int.natCast_nonneg _
theorem bits_pos {n : Nat} (h : 0 < n) : 0 < bits n := by
  rw [bits_half h]
  have := bits_nn (n / 2)
  omega
theorem bits_mono : ∀ (m n : Nat), n ≤ m → bits n ≤ bits m := by
  intro m
  induction m using Nat.strongRecOn with
  | ind m ih =>
    intro n h
    by_cases hn : n = 0
    · subst hn
      rw [bits_zero]
      exact bits_nn m
    · rw [bits_half (show 0 < n by omega), bits_half (show 0 < m by omega)]
      have := ih (m / 2) (by omega) (n / 2) (by omega)
      omega
theorem bits_le (n : Nat) : bits n ≤ n := by
  induction n using Nat.strongRecOn with
  | ind n ih =>
    by_cases hn : n = 0
    · subst hn
      rw [bits_zero]
      exact Int.le_refl _
    · rw [bits_half (show 0 < n by omega)]
      have := ih (n / 2) (by omega)
      omega
def PhS (L : Int → Bool) (cs : List (List Int)) : Int := (cs.map fun c => bits (c.filter L).length).sum
theorem PhS_cons {L : Int → Bool} {c : List Int} {cs : List (List Int)} : PhS L (c :: cs) = bits (c.filter L).length + PhS L cs := by
  unfold PhS
  rw [List.map_cons, List.sum_cons]
theorem PhS_nn (L : Int → Bool) : ∀ cs : List (List Int), 0 ≤ PhS L cs
  | [] => Int.le_refl _
  | c :: cs => by
    rw [PhS_cons]
    have := bits_nn (c.filter L).length
    have := PhS_nn L cs
    omega
theorem PhS_none {L : Int → Bool} : ∀ {cs : List (List Int)}, PhS L cs ≤ 0 → ∀ c ∈ cs, c.filter L = []
  | [], _, c, hc => by cases hc
  | d :: cs, h, c, hc => by
    rw [PhS_cons] at h
    have h1 := bits_nn (d.filter L).length
    have h2 := PhS_nn L cs
    rcases List.mem_cons.mp hc with rfl | hc
    · refine List.length_eq_zero_iff.mp ?_
      rcases Nat.eq_zero_or_pos (c.filter L).length with z | z
      · exact z
      · have := bits_pos z
        omega
    · exact PhS_none (cs := cs) (by omega) c hc
theorem PhS_some {L : Int → Bool} : ∀ {cs : List (List Int)}, 0 < PhS L cs → ∃ c ∈ cs, c.filter L ≠ []
  | [], h => absurd h (by show ¬ (0 : Int) < 0; decide)
  | d :: cs, h => by
    by_cases e : d.filter L = []
    · rw [PhS_cons, e, List.length_nil, bits_zero] at h
      obtain ⟨c, hc, z⟩ := PhS_some (L := L) (cs := cs) (by omega)
      exact ⟨c, List.mem_cons_of_mem _ hc, z⟩
    · exact ⟨d, by simp, e⟩
theorem PhS_all (L : Int → Bool) : ∀ cs : List (List Int), PhS L cs ≤ (cs.map fun c => bits c.length).sum
  | [] => Int.le_refl _
  | c :: cs => by
    rw [PhS_cons, List.map_cons, List.sum_cons]
    have := bits_mono c.length (c.filter L).length (List.length_filter_le _ _)
    have := PhS_all L cs
    omega
theorem mid_mem {F : List Int} (h : F ≠ []) : F.getD (F.length / 2) 0 ∈ F := by
  have hl : 0 < F.length := List.length_pos_iff.mpr h
  have h2 : F.length / 2 < F.length := by omega
  rw [List.getD_eq_getElem?_getD, List.getElem?_eq_getElem h2]
  exact List.getElem_mem _
theorem fold_mem {L : Int → Bool} {few : Int} : ∀ (cs : List (List Int)) (as : List Int) (x : Int), x ∈ as → x ∈ cs.foldl (midS L few) as
  | [], _, _, h => h
  | c :: cs, as, x, h => fold_mem cs _ x (by
    unfold midS
    split
    · exact List.mem_append_left _ h
    · exact h)
theorem fold_L {L : Int → Bool} {few : Int} : ∀ (cs : List (List Int)) (as : List Int), (∀ x ∈ as, L x = true) → ∀ x ∈ cs.foldl (midS L few) as, L x = true
  | [], _, h => h
  | c :: cs, as, h => fold_L cs _ (by
    unfold midS
    split
    · next g =>
      intro x hx
      rcases List.mem_append.mp hx with z | z
      · exact h x z
      · rw [List.mem_singleton.mp z]
        exact (List.mem_filter.mp (mid_mem g.1)).2
    · exact h)
theorem fold_ne {L : Int → Bool} {few : Int} (hf : 0 < few) : ∀ (cs : List (List Int)), (∃ c ∈ cs, c.filter L ≠ []) → cs.foldl (midS L few) [] ≠ []
  | [], h => by obtain ⟨_, h, _⟩ := h; cases h
  | c :: cs, h => by
    by_cases e : c.filter L = []
    · obtain ⟨d, hd, hn⟩ := h
      have e2 : midS L few [] c = [] := by unfold midS; rw [if_neg (fun z => z.1 e)]
      rw [List.foldl_cons, e2]
      refine fold_ne hf cs ⟨d, ?_, hn⟩
      rcases List.mem_cons.mp hd with rfl | z
      · exact absurd e hn
      · exact z
    · rw [List.foldl_cons]
      have e2 : midS L few [] c = [] ++ [(c.filter L).getD ((c.filter L).length / 2) 0] := by unfold midS; rw [if_pos ⟨e, by simpa using hf⟩]
      rw [e2]
      exact List.ne_nil_of_mem (fold_mem cs _ _ (List.mem_append_right _ (List.mem_singleton.mpr rfl)))
theorem filter_sub {L L' : Int → Bool} (hL : ∀ x, L' x = true → L x = true) (c : List Int) : c.filter L' = (c.filter L).filter L' := by
  rw [List.filter_filter]
  refine List.filter_congr fun x _ => ?_
  cases hx : L' x with
  | false => rfl
  | true => rw [hL x hx]; rfl
theorem fold_sum {L L' : Int → Bool} {few : Int} (hL : ∀ x, L' x = true → L x = true) : ∀ (cs : List (List Int)) (as : List Int), (∀ c ∈ cs, c.filter L ≠ [] → (c.filter L).getD ((c.filter L).length / 2) 0 ∈ cs.foldl (midS L few) as → (c.filter L').length ≤ (c.filter L).length / 2) →
    ((cs.foldl (midS L few) as).length : Int) + PhS L' cs ≤ as.length + PhS L cs
  | [], as, _ => Int.le_refl _
  | c :: cs, as, h => by
    have ih := fold_sum (few := few) hL cs (midS L few as c) (fun d hd hn hm => h d (List.mem_cons_of_mem _ hd) hn hm)
    rw [List.foldl_cons, PhS_cons, PhS_cons]
    have le : (c.filter L').length ≤ (c.filter L).length := by
      rw [filter_sub hL c]
      exact List.length_filter_le _ _
    have key : ((midS L few as c).length : Int) + bits (c.filter L').length ≤ as.length + bits (c.filter L).length := by
      by_cases g : c.filter L ≠ [] ∧ (as.length : Int) < few
      · have e2 : midS L few as c = as ++ [(c.filter L).getD ((c.filter L).length / 2) 0] := by unfold midS; rw [if_pos g]
        have hh := h c (by simp) g.1 (by
          rw [List.foldl_cons, e2]
          exact fold_mem cs _ _ (List.mem_append_right _ (List.mem_singleton.mpr rfl)))
        have b1 := bits_mono _ _ hh
        have b2 := bits_half (List.length_pos_iff.mpr g.1)
        rw [e2, List.length_append]
        simp only [List.length_cons, List.length_nil]
        omega
      · have e2 : midS L few as c = as := by unfold midS; rw [if_neg g]
        rw [e2]
        have := bits_mono _ _ le
        omega
    omega
theorem half_le {ls : List (Int × Int)} {F : List Int} (hp : F.Pairwise (fun a b => Bel ls b a)) (h0 : F ≠ []) {L' : Int → Bool} (h : (∀ x, Bel ls (F.getD (F.length / 2) 0) x → L' x = false) ∨ ∀ x, Bel ls x (F.getD (F.length / 2) 0) → L' x = false) : (F.filter L').length ≤ F.length / 2 := by
  have hl : 0 < F.length := List.length_pos_iff.mpr h0
  have h2 : F.length / 2 < F.length := by omega
  have em : F.getD (F.length / 2) 0 = F[F.length / 2] := by rw [List.getD_eq_getElem?_getD, List.getElem?_eq_getElem h2]; rfl
  rw [em] at h
  have sp : F = F.take (F.length / 2) ++ F[F.length / 2] :: F.drop (F.length / 2 + 1) := by
    conv => lhs; rw [← List.take_append_drop (F.length / 2) F]
    rw [List.drop_eq_getElem_cons h2]
  have hp2 := hp
  rw [sp, List.pairwise_append] at hp2
  obtain ⟨_, p2, p3⟩ := hp2
  have p2' := (List.pairwise_cons.mp p2).1
  generalize hm : F[F.length / 2] = m at *
  rcases h with h | h
  · have z1 : (F.take (F.length / 2)).filter L' = [] := List.filter_eq_nil_iff.mpr fun x hx => by rw [h x (p3 x hx m (by simp))]; simp
    have z2 : L' m = false := h m (.refl m)
    have e : F.filter L' = (F.drop (F.length / 2 + 1)).filter L' := by
      conv => lhs; rw [sp]
      rw [List.filter_append, z1, List.filter_cons, z2]
      rfl
    rw [e]
    refine Nat.le_trans (List.length_filter_le _ _) ?_
    rw [List.length_drop]
    omega
  · have z1 : (F.drop (F.length / 2 + 1)).filter L' = [] := List.filter_eq_nil_iff.mpr fun x hx => by rw [h x (p2' x hx)]; simp
    have z2 : L' m = false := h m (.refl m)
    have e : F.filter L' = (F.take (F.length / 2)).filter L' := by
      conv => lhs; rw [sp]
      rw [List.filter_append, List.filter_cons, z1, z2]
      simp
    rw [e]
    refine Nat.le_trans (List.length_filter_le _ _) ?_
    rw [List.length_take]
    omega
theorem chain_pw {ls : List (Int × Int)} : ∀ {c : List Int}, (∀ (i : Nat) (a b : Int), c[i]? = some a → c[i + 1]? = some b → Bel ls b a) → c.Pairwise (fun a b => Bel ls b a)
  | [], _ => .nil
  | [x], _ => by simp
  | x :: y :: r, h => by
    have ih := chain_pw (c := y :: r) fun i a b h1 h2 => h (i + 1) a b (by simpa using h1) (by simpa using h2)
    have h0 : Bel ls y x := h 0 x y rfl rfl
    refine List.pairwise_cons.mpr ⟨fun z hz => ?_, ih⟩
    rcases List.mem_cons.mp hz with rfl | hz
    · exact h0
    · exact ((List.pairwise_cons.mp ih).1 z hz).trans h0
theorem mem_leftL {ls : List (Int × Int)} {an : List (Int × Bool)} {ns : List Int} {v : Int} : v ∈ leftL ls an ns ↔ v ∈ ns ∧ ¬ hasP ls an v ∧ ¬ lackP ls an v := by
  unfold leftL
  rw [List.mem_filter, Bool.and_eq_true, Bool.not_eq_true', Bool.not_eq_true', ← Bool.not_eq_true, ← Bool.not_eq_true, hasB_iff, lackB_iff]
/-- the answers are right -/
def Told (ns hs : List Int) (an : List (Int × Bool)) : Prop := ∀ q ∈ an, q.1 ∈ ns ∧ q.2 = decide (q.1 ∈ hs)
section
variable {ns hs : List Int} {ls : List (Int × Int)} {an an' : List (Int × Bool)}
theorem Told.clear (h : Told ns hs an) (dn : ∀ x ∈ hs, ∀ y, Bel ls x y → y ∈ hs) : Clear ls an := fun u l hu hl b => by
  have h1 : u ∈ hs := of_decide_eq_true (h _ hu).2.symm
  exact (of_decide_eq_false (h _ hl).2.symm) (dn u h1 l b)
theorem Told.out (h : Told ns hs an) {v : Int} (hv : v ∈ leftL ls an ns) : ∀ b, (v, b) ∉ an := fun b hb => by
  obtain ⟨_, h1, h2⟩ := mem_leftL.mp hv
  cases b with
  | true => exact h1 ⟨v, hb, .refl v⟩
  | false => exact h2 ⟨v, hb, .refl v⟩
/-- what the answers to the asked ones add -/
def Adds (hs as : List Int) (an an' : List (Int × Bool)) : Prop := ∀ x, x ∈ an' ↔ x ∈ an ∨ ∃ v ∈ as, x = (v, decide (v ∈ hs))
theorem Adds.told {as : List Int} (a : Adds hs as an an') (h : Told ns hs an) (m : ∀ v ∈ as, v ∈ ns) : Told ns hs an' := fun q hq => by
  rcases (a q).mp hq with z | ⟨v, hv, rfl⟩
  · exact h q z
  · exact ⟨m v hv, rfl⟩
theorem turn_sum {as : List Int} {few : Int} {cs : List (List Int)} (hcs : ∀ c ∈ cs, c.Pairwise (fun a b => Bel ls b a)) (e : as = midF (fun v => decide (v ∈ leftL ls an ns)) few cs) (a : Adds hs as an an') :
    (as.length : Int) + PhS (fun v => decide (v ∈ leftL ls an' ns)) cs ≤ PhS (fun v => decide (v ∈ leftL ls an ns)) cs := by
  have hL : ∀ x, (fun v => decide (v ∈ leftL ls an' ns)) x = true → (fun v => decide (v ∈ leftL ls an ns)) x = true := fun x hx => by
    obtain ⟨h1, h2, h3⟩ := mem_leftL.mp (of_decide_eq_true hx)
    refine decide_eq_true (mem_leftL.mpr ⟨h1, fun ⟨u, hu, b⟩ => h2 ⟨u, (a _).mpr (.inl hu), b⟩, fun ⟨u, hu, b⟩ => h3 ⟨u, (a _).mpr (.inl hu), b⟩⟩)
  have := fold_sum (few := few) hL cs [] (fun c hc hn hm => by
    rw [filter_sub hL c]
    refine half_le ((hcs c hc).filter _) hn ?_
    have hm' : (c.filter fun v => decide (v ∈ leftL ls an ns)).getD ((c.filter fun v => decide (v ∈ leftL ls an ns)).length / 2) 0 ∈ as := by rw [e]; exact hm
    generalize (c.filter fun v => decide (v ∈ leftL ls an ns)).getD ((c.filter fun v => decide (v ∈ leftL ls an ns)).length / 2) 0 = m at hm'
    have ha := (a (m, decide (m ∈ hs))).mpr (.inr ⟨m, hm', rfl⟩)
    by_cases hmh : m ∈ hs
    · rw [decide_eq_true hmh] at ha
      exact .inl fun x hx => decide_eq_false fun z => (mem_leftL.mp z).2.1 ⟨m, ha, hx⟩
    · rw [decide_eq_false hmh] at ha
      exact .inr fun x hx => decide_eq_false fun z => (mem_leftL.mp z).2.2 ⟨m, ha, hx⟩)
  rw [e]
  unfold midF
  simpa using this
theorem turn_ne {few : Int} {cs : List (List Int)} (hf : 0 < few) {L : Int → Bool} (h : 0 < PhS L cs) : 1 ≤ (midF L few cs).length := by
  have := fold_ne (L := L) hf cs (PhS_some h)
  exact List.length_pos_iff.mpr this
theorem turn_L {L : Int → Bool} {few : Int} {cs : List (List Int)} : ∀ x ∈ midF L few cs, L x = true := fold_L cs [] (by simp)
theorem all_left {cs : List (List Int)} (hm : ∀ x, x ∈ cs.flatten ↔ x ∈ ns) (h : PhS (fun v => decide (v ∈ leftL ls an ns)) cs ≤ 0) : leftL ls an ns = [] := by
  refine List.eq_nil_iff_forall_not_mem.mpr fun v hv => ?_
  have hvn := (mem_leftL.mp hv).1
  obtain ⟨c, hc, hvc⟩ := List.mem_flatten.mp ((hm v).mpr hvn)
  have := PhS_none h c hc
  have hx : v ∈ c.filter fun v => decide (v ∈ leftL ls an ns) := List.mem_filter.mpr ⟨hvc, decide_eq_true hv⟩
  rw [this] at hx
  cases hx
theorem rise_eq : ∀ {xs ys : List Int}, xs.Pairwise (· < ·) → ys.Pairwise (· < ·) → (∀ x, x ∈ xs ↔ x ∈ ys) → xs = ys
  | [], [], _, _, _ => rfl
  | [], y :: ys, _, _, h => by have := (h y).mpr (by simp); cases this
  | x :: xs, [], _, _, h => by have := (h x).mp (by simp); cases this
  | x :: xs, y :: ys, h1, h2, h => by
    obtain ⟨a1, a2⟩ := List.pairwise_cons.mp h1
    obtain ⟨b1, b2⟩ := List.pairwise_cons.mp h2
    have e : x = y := by
      rcases List.mem_cons.mp ((h x).mp (by simp)) with e | m
      · exact e
      · rcases List.mem_cons.mp ((h y).mpr (by simp)) with e | m2
        · exact e.symm
        · have := b1 x m
          have := a1 y m2
          omega
    subst e
    rw [rise_eq a2 b2 fun z => ?_]
    constructor
    · intro hz
      rcases List.mem_cons.mp ((h z).mp (List.mem_cons_of_mem _ hz)) with e | m
      · subst e
        have := a1 z hz
        omega
      · exact m
    · intro hz
      rcases List.mem_cons.mp ((h z).mpr (List.mem_cons_of_mem _ hz)) with e | m
      · subst e
        have := b1 z hz
        omega
      · exact m
end
theorem bits_sum_le : ∀ cs : List (List Int), (cs.map fun c => bits c.length).sum ≤ cs.flatten.length
  | [] => Int.le_refl _
  | c :: cs => by
    rw [List.map_cons, List.sum_cons, List.flatten_cons, List.length_append]
    have := bits_le c.length
    have := bits_sum_le cs
    omega
/-! ### must_ask: the plain law -/
/-- [x for .. if ..]: A tells what is gathered so far, and where it stands -/
theorem lcp_accH {σ : L2.St} {H : Hp} {Q : VK} {J : It} {n : Nat} {G : Hp → Prop} {Y : Nat → Hp → V → Hp → Prop} (w : Walk J n G Y) {g : TG} {tt : TT} {te : TE} {vs : List Nat} (M : List Addr) (A : Nat → List V → Hp → Prop) (hz : n ≤ 1000000)
    (mono : ∀ i acc H1 H2, KT H1 H2 → A i acc H1 → A i acc H2) (hG : ∀ (i : Nat) (H' : Hp), Kp M H H' → G H') (A0 : A 0 [] H) (hA : ∀ i acc H', A i acc H' → acc.length ≤ i)
    (hs : ∀ i x H1 H2 (acc : List V) (R : V → Hp → Prop) (R0 : Hp → Prop), i < n → Kp M H H1 → KT H H1 → A i acc H1 → Y i H1 x H2 → (∀ y H4, A (i + 1) (acc ++ [y]) H4 → Kp M H1 H4 → KT H1 H4 → R y H4) → (∀ H4, A (i + 1) acc H4 → Kp M H1 H4 → KT H1 H4 → R0 H4) → g x (wipe σ vs) H2 fun σ2 H3 => wipe σ2 vs = wipe σ vs ∧ tt σ2 H3 fun b H4 => if b = true then te σ2 H4 R else R0 H4)
    (hM : ∀ b ∈ M, ∃ o, H b = some o)
    (hd : ∀ D H' ys, A n ys H' → H D = none → Kp M H H' → KT H H' → H' D = some (.lst ys) → Q (.ref D) H') : LcP J g tt te vs Q σ H := by
  intro D hD
  have hDM : D ∉ M := fun z => by obtain ⟨o, e⟩ := hM D z; rw [hD] at e; cases e
  refine lc_it w (fun i H' => Kp M H H' ∧ KT H H' ∧ ∃ ys, A i ys H' ∧ H' D = some (.lst ys)) ⟨Kp.new hD, KT.refl.upd hD, [], mono _ _ _ _ (KT.refl.upd hD) A0, upd_same⟩ (fun i H' _ z => hG i H' z.1) ?_ ?_
  · rintro i x H1 H2 hi ⟨k1, t1, ys, ha, e1⟩ y
    have hl := hA i ys _ ha
    refine hs i x H1 H2 ys _ _ hi k1 t1 ha y ?_ ?_
    · intro z H4 az k4 t4
      have e4 := k4 _ _ hDM e1
      exact ⟨ys, e4, Nat.lt_of_le_of_lt hl (Nat.lt_of_lt_of_le (Nat.lt_of_lt_of_le hi hz) (by decide)), (k1.trans k4).mutN hD, (t1.trans t4).upd hD, ys ++ [z], mono _ _ _ _ (KT.updL e4) az, upd_same⟩
    · intro H4 a4 k4 t4
      exact ⟨k1.trans k4, t1.trans t4, ys, a4, k4 _ _ hDM e1⟩
  · rintro H' ⟨k, t, ys, ha, e⟩
    exact hd D H' ys ha hD k t e
theorem SB.dn {vs : List Int} {ls : List (Int × Int)} (S : ShOk vs ls) {a x y : Int} (h : SB ls a x) (b : Bel ls x y) : SB ls a y := by
  refine ⟨h.1.trans b, fun e => ?_⟩
  subst e
  have h1 := h.1.le S
  have h2 := b.le S
  exact h.2 (by omega)
noncomputable def dueB (ls : List (Int × Int)) (aps : List Int) (v : Int) : Bool := @decide (∃ a ∈ aps, SB ls a v) (Classical.propDecidable _)
theorem dueB_iff {ls : List (Int × Int)} {aps : List Int} {v : Int} : dueB ls aps v = true ↔ ∃ a ∈ aps, SB ls a v := by unfold dueB; exact @decide_eq_true_iff _ (Classical.propDecidable _)
noncomputable def dueL (ls : List (Int × Int)) (aps ns : List Int) : List Int := ns.filter (dueB ls aps)
section
variable {ns aps : List Int} {ls : List (Int × Int)} {an : List (Int × Bool)}
theorem mem_dueL (S : ShOk ns ls) (am : ∀ x ∈ aps, x ∈ ns) {x : Int} : x ∈ dueL ls aps ns ↔ ∃ a ∈ aps, SB ls a x := by
  unfold dueL
  rw [List.mem_filter, dueB_iff]
  exact ⟨fun h => h.2, fun h => ⟨by obtain ⟨a, ha, hs⟩ := h; exact hs.1.mem S (am a ha), h⟩⟩
theorem due_dn (S : ShOk ns ls) (am : ∀ x ∈ aps, x ∈ ns) : ∀ x ∈ dueL ls aps ns, ∀ y, Bel ls x y → y ∈ dueL ls aps ns := fun x hx y hb => by
  obtain ⟨a, ha, hs⟩ := (mem_dueL S am).mp hx
  exact (mem_dueL S am).mpr ⟨a, ha, hs.dn S hb⟩
theorem must_is (S : ShOk ns ls) (am : ∀ x ∈ aps, x ∈ ns) {ms : List Int} (hr : ms.Pairwise (· < ·)) (hm : ∀ x, x ∈ ms ↔ ∃ a ∈ aps, SB ls a x) : ms = dueL ls aps ns :=
  rise_eq hr (S.vr.filter _) fun x => by rw [hm, ← mem_dueL S am]
theorem apart_left (S : ShOk ns ls) (am : ∀ x ∈ aps, x ∈ ns) (anti : ∀ a ∈ aps, ∀ b ∈ aps, a ≠ b → ¬ Bel ls a b) (hT : Told ns (dueL ls aps ns) an) {one : Int} (ho : one ∈ aps) (hn : ∀ b, (one, b) ∉ an) : one ∈ leftL ls an ns := by
  refine mem_leftL.mpr ⟨am one ho, fun ⟨u, hu, b⟩ => ?_, fun ⟨u, hu, b⟩ => ?_⟩
  · have h1 : u ∈ dueL ls aps ns := of_decide_eq_true (hT _ hu).2.symm
    obtain ⟨a, ha, hs⟩ := (mem_dueL S am).mp (due_dn S am u h1 one b)
    exact anti a ha one ho (fun e => hs.2 e.symm) hs.1
  · have h1 : u ∉ dueL ls aps ns := of_decide_eq_false (hT _ hu).2.symm
    by_cases e : u = one
    · subst e
      exact hn _ hu
    · exact h1 ((mem_dueL S am).mpr ⟨one, ho, b, e⟩)
theorem one_left (S : ShOk ns ls) (am : ∀ x ∈ aps, x ∈ ns) (anti : ∀ a ∈ aps, ∀ b ∈ aps, a ≠ b → ¬ Bel ls a b) {one : Int} (ho : one ∈ aps) (e : an = (ns.filter fun v => decide (v ≠ one)).map fun v => (v, decide (v ∈ dueL ls aps ns))) : leftL ls an ns = [one] := by
  have hT : Told ns (dueL ls aps ns) an := fun q hq => by
    rw [e] at hq
    obtain ⟨v, hv, rfl⟩ := List.mem_map.mp hq
    exact ⟨(List.mem_filter.mp hv).1, rfl⟩
  have hin : ∀ v, v ∈ ns → v ≠ one → (v, decide (v ∈ dueL ls aps ns)) ∈ an := fun v hv hne => by
    rw [e]
    exact List.mem_map.mpr ⟨v, List.mem_filter.mpr ⟨hv, decide_eq_true hne⟩, rfl⟩
  have hn : ∀ b, (one, b) ∉ an := fun b hb => by
    rw [e] at hb
    obtain ⟨v, hv, e2⟩ := List.mem_map.mp hb
    exact of_decide_eq_true (List.mem_filter.mp hv).2 (congrArg Prod.fst e2)
  refine rise_eq (S.vr.filter _) (by simp) fun x => ?_
  rw [List.mem_singleton]
  constructor
  · intro hx
    apply Classical.byContradiction
    intro hne
    have hx' : x ∈ leftL ls an ns := hx
    exact hT.out hx' _ (hin x (mem_leftL.mp hx').1 hne)
  · rintro rfl
    exact apart_left S am anti hT ho hn
end
def spLaw (K : PySem.W.Frag) : Sp := fun vs H Q _ => ∃ (a : Addr) (ns : List Int), vs = [.ref a] ∧ SqL K H a (ns.map V.int) ∧ ns.length ≤ 63 ∧ ∀ H', Q (.bl true) H'
noncomputable def sbB (ls : List (Int × Int)) (v a : Int) : Bool := @decide (SB ls a v) (Classical.propDecidable _)
theorem sbB_iff {ls : List (Int × Int)} {v a : Int} : sbB ls v a = true ↔ SB ls a v := by unfold sbB; exact @decide_eq_true_iff _ (Classical.propDecidable _)
theorem sb_some {ls : List (Int × Int)} {v : Int} {aps : List Int} : 0 < (aps.filter (sbB ls v)).length ↔ dueB ls aps v = true := by
  rw [dueB_iff, List.length_pos_iff_exists_mem]
  constructor
  · rintro ⟨a, ha⟩
    exact ⟨a, (List.mem_filter.mp ha).1, sbB_iff.mp (List.mem_filter.mp ha).2⟩
  · rintro ⟨a, ha, hs⟩
    exact ⟨a, List.mem_filter.mpr ⟨ha, sbB_iff.mpr hs⟩⟩
section
variable {P : Program} {w : World} {K : PySem.W.Frag} {mg : Str → Option Value} {base : Heap}
theorem ok_law {f_Contrary___init__ f_spans f_no_clash f_settled f_next_asks f_must_ask f_give_way f_pair_up f_apart_of f_cover f_law_deck f_law_mixed f_law_draw f_law_int f_law_same f_law_shape f_law_spans f_law_rising f_law_is_cover f_law_pair_up f_law_high_apart f_law_low_apart f_law_own_cover f C_Contrary C_HouseError : Addr} {fd_Contrary___init__ fd_spans fd_no_clash fd_settled fd_next_asks fd_must_ask fd_give_way fd_pair_up fd_apart_of fd_cover fd_law_deck fd_law_mixed fd_law_draw fd_law_int fd_law_same fd_law_shape fd_law_spans fd_law_rising fd_law_is_cover fd_law_pair_up fd_law_high_apart fd_law_low_apart fd_law_own_cover fd : FuncData} (T : Txt K mg)
    (F_Contrary___init__ : Fun K "__init__" "Contrary.__init__" s_Contrary___init__ f_Contrary___init__ fd_Contrary___init__)
    (D_spans : Df K mg "spans" s_spans ["shape"] f_spans fd_spans)
    (D_no_clash : Df K mg "no_clash" s_no_clash ["rows", "answers"] f_no_clash fd_no_clash)
    (D_settled : Df K mg "settled" s_settled ["shape", "answers"] f_settled fd_settled)
    (D_next_asks : DfK K mg "next_asks" s_next_asks ["shape", "cover", "answers", "few"] [("few", V.int 4)] [V.int 4] f_next_asks fd_next_asks)
    (D_must_ask : Df K mg "must_ask" s_must_ask ["shape", "cover"] f_must_ask fd_must_ask)
    (D_give_way : Df K mg "give_way" s_give_way ["low", "came", "uppers", "lowers"] f_give_way fd_give_way)
    (D_pair_up : Df K mg "pair_up" s_pair_up ["version", "rows", "uppers", "lowers"] f_pair_up fd_pair_up)
    (D_apart_of : Df K mg "apart_of" s_apart_of ["versions", "rows", "uppers", "lowers"] f_apart_of fd_apart_of)
    (D_cover : Df K mg "cover" s_cover ["shape"] f_cover fd_cover)
    (D_law_deck : Df K mg "_law_deck" s_law_deck ["_law_script"] f_law_deck fd_law_deck)
    (D_law_mixed : Df K mg "_law_mixed" s_law_mixed ["_law_cell", "_law_turn"] f_law_mixed fd_law_mixed)
    (D_law_draw : Df K mg "_law_draw" s_law_draw ["_law_deck_here", "_law_many"] f_law_draw fd_law_draw)
    (D_law_int : Df K mg "_law_int" s_law_int ["_law_thing"] f_law_int fd_law_int)
    (D_law_same : Df K mg "_law_same" s_law_same ["_law_found", "_law_due"] f_law_same fd_law_same)
    (D_law_shape : Df K mg "_law_shape" s_law_shape ["_law_deck_here", "_law_most"] f_law_shape fd_law_shape)
    (D_law_spans : Df K mg "_law_spans" s_law_spans ["_law_web"] f_law_spans fd_law_spans)
    (D_law_rising : Df K mg "_law_rising" s_law_rising ["_law_thing"] f_law_rising fd_law_rising)
    (D_law_is_cover : Df K mg "_law_is_cover" s_law_is_cover ["_law_web", "_law_rows", "_law_thing"] f_law_is_cover fd_law_is_cover)
    (D_law_pair_up : Df K mg "_law_pair_up" s_law_pair_up ["_law_deck_here", "_law_rows", "_law_ups", "_law_downs", "_law_one"] f_law_pair_up fd_law_pair_up)
    (D_law_high_apart : Df K mg "_law_high_apart" s_law_high_apart ["_law_rows", "_law_ups", "_law_downs"] f_law_high_apart fd_law_high_apart)
    (D_law_low_apart : Df K mg "_law_low_apart" s_law_low_apart ["_law_rows", "_law_ups", "_law_downs"] f_law_low_apart fd_law_low_apart)
    (D_law_own_cover : Df K mg "_law_own_cover" s_law_own_cover ["_law_deck_here", "_law_rows"] f_law_own_cover fd_law_own_cover)
    (D_law : Df K mg "law" s_law ["_law_script"] f fd)
    (X_Contrary : ExnI K mg "Contrary" C_Contrary f_Contrary___init__ fd_Contrary___init__ ["self", "upper", "lower"] ["upper", "lower"])
    (g_HouseError : mg "HouseError" = some (.ref C_HouseError))
    : FnOk P w K mg base CX0 6 f fd ["_law_script"] (spLaw K) := by
  obtain ⟨ds_next_asks, V_next_asks, B_next_asks⟩ := D_next_asks.b
  obtain ⟨tk_FEW, g_FEW⟩ := T.g_FEW
  have g_Contrary := X_Contrary.g
  obtain ⟨kg_next_asks, KB_next_asks⟩ := D_next_asks.kb
  have G_law_deck : FnOk P w K mg base CX0 1 f_law_deck fd_law_deck ["_law_script"] (spDeck K) := ok_deck T D_law_deck.fn
  have G_law_draw : FnOk P w K mg base CX0 2 f_law_draw fd_law_draw ["_law_deck_here", "_law_many"] spDraw := ok_draw T D_law_draw.fn D_law_mixed
  have G_law_same : FnOk P w K mg base CX0 3 f_law_same fd_law_same ["_law_found", "_law_due"] (spSame 1) := ok_same T D_law_same D_law_int 1
  have G_law_spans : FnOk P w K mg base CX0 1 f_law_spans fd_law_spans ["_law_web"] spSpans := ok_lspans T D_law_spans.fn
  have G_law_shape : FnOk P w K mg base CX0 3 f_law_shape fd_law_shape ["_law_deck_here", "_law_most"] spShape := ok_shape T D_law_shape.fn D_law_mixed D_law_draw
  have G_law_is_cover : FnOk P w K mg base CX0 3 f_law_is_cover fd_law_is_cover ["_law_web", "_law_rows", "_law_thing"] spIsCover := ok_iscover T D_law_is_cover.fn D_law_int D_law_rising
  have G_cover : FnOk P w K mg base CX0 3 f_cover fd_cover ["shape"] spCover := ok_cover T D_cover.fn D_spans D_give_way D_pair_up D_apart_of
  have G_law_own_cover : FnOk P w K mg base CX0 4 f_law_own_cover fd_law_own_cover ["_law_deck_here", "_law_rows"] spLOwn := ok_lowncover T D_law_own_cover.fn D_law_mixed D_law_draw D_law_pair_up D_law_high_apart D_law_low_apart
  have G_next_asks : FnOk P w K mg base (L2.CX P w) 5 f_next_asks fd_next_asks ["shape", "cover", "answers", "few"] spNext := ok_next T D_next_asks D_spans D_no_clash D_settled F_Contrary___init__ X_Contrary
  have G_settled : FnOk P w K mg base (L2.CX P w) 4 f_settled fd_settled ["shape", "answers"] (spSettledX C_Contrary) := ok_settledX T D_settled.fn D_spans D_no_clash F_Contrary___init__ X_Contrary
  have G_must_ask : FnOk P w K mg base CX0 2 f_must_ask fd_must_ask ["shape", "cover"] spMust := ok_must T D_must_ask.fn D_spans
  refine D_law.fn.ok sc_law (fun vs H Q E h => ?_) (fun cdv A outer s H vs Q E hr h => ?_)
  · obtain ⟨a, ns, rfl, _⟩ := h
    rfl
  · obtain ⟨a0, ns0, rfl, hS0, hl0, q⟩ := h
    have hu := hu_of hr
    refine ⟨_,
      (pss_cons
        (ps_set (i := 1) sc_law.nd rfl (.inl rfl) (pe_call G_law_deck (hr.mono (by omega)) (by rfl) D_law_deck.g D_law_deck.fn.kp D_law_deck.b .nil pass0 (pa_cons (pv 0) pa_nil)))
      (pss_cons
        (ps_set (i := 2) sc_law.nd rfl (.inl rfl) (pe_call G_law_shape (hr.mono (by omega)) (by rfl) D_law_shape.g D_law_shape.fn.kp D_law_shape.b .nil pass0 (pa_cons (pv 1) (pa_cons pe_int pa_nil))))
      (pss_cons
        (ps_set (i := 3) sc_law.nd rfl (.inr rfl) (pe_call G_law_spans (hr.mono (by omega)) (by rfl) D_law_spans.g D_law_spans.fn.kp D_law_spans.b .nil pass0 (pa_cons (pv 2) pa_nil)))
      (pss_cons
        (ps_set (i := 4) sc_law.nd rfl (.inl rfl) (pe_call G_cover (hr.mono (by omega)) (by rfl) D_cover.g D_cover.fn.kp D_cover.b .nil pass0 (pa_cons (pv 2) pa_nil)))
      (pss_cons
        (ps_if (pt_cmpR op_eq (pe_call G_law_draw (hr.mono (by omega)) (by rfl) D_law_draw.g D_law_draw.fn.kp D_law_draw.b .nil pass0 (pa_cons (pv 1) (pa_cons pe_int pa_nil))) pe_int (nomark _))
          (pss_one
            (ps_set (i := 4) sc_law.nd rfl (.inl rfl) (pe_call G_law_own_cover (hr.mono (by omega)) (by rfl) D_law_own_cover.g D_law_own_cover.fn.kp D_law_own_cover.b .nil pass0 (pa_cons (pv 1) (pa_cons (pv 3) pa_nil)))))
          pss_nil)
      (pss_cons
        (ps_if (pt_not (pt_val (pe_call G_law_is_cover (hr.mono (by omega)) (by rfl) D_law_is_cover.g D_law_is_cover.fn.kp D_law_is_cover.b .nil pass0 (pa_cons (pv 2) (pa_cons (pv 3) (pa_cons (pv 4) pa_nil))))))
          (pss_one
            (ps_ret pe_bl))
          pss_nil)
      (pss_cons
        (ps_set (i := 5) sc_law.nd rfl (.inr rfl) (pe_lst pa_nil))
      (pss_cons
        (ps_for PassesOwn.never rfl (pi_tup (pe_ix (r := rIxT K) ix_tup (pv 2) pe_int (fun _ _ => rfl))) (pg_name (i := 6) sc_law.nd rfl (.inr rfl))
          (pss_one
            (ps_if (pt_cmpR op_gt (pe_callB (r := rLen K) c_len (by rfl) T.n_len (by decide +kernel) (pa_cons (pe_lc (own := [("_law_one", 8)]) (g := (gName 8)) rfl sc_law.nd (pi_tup (pe_ix (r := rIxT K) ix_tup (pv 4) pe_int (fun _ _ => rfl))) (blkOk_by (own := [("_law_one", 8)]) (N := N_law) (sc := defScope s_law) (by decide +kernel)) (fun _ _ _ _ _ => (pg_name (i := 8) sc_law.nd rfl (.inl rfl))) (fun _ _ _ _ _ => (pts_one (PW.pt (pw_and (pt_cmpR op_ne (pv 8) (pv 6) (nomark _)) (pw_and1 (pt_cmpR (r := rIn K false) op_in_seq (pv 6) (pe_dget hu (pv 3) (pv 8) (fun _ _ => rfl)) rfl)))))) (fun _ _ _ _ _ => (pv 8))) pa_nil)) pe_int (nomark _))
              (pss_one
                (ps_expr (pe_bm PySem.F.plainAttrs_list PySem.F.slot_list_append PySem.F.type_list_append mt_append (pv 5) (pa_cons (pv 6) pa_nil))))
              pss_nil)))
      (pss_cons
        (ps_set (i := 7) sc_law.nd rfl (.inl rfl) (pe_call G_must_ask (hr.mono (by omega)) (by rfl) D_must_ask.g D_must_ask.fn.kp D_must_ask.b .nil pass0 (pa_cons (pv 2) (pa_cons (pv 4) pa_nil))))
      (pss_cons
        (ps_if (pt_not (pt_val (pe_call G_law_same (hr.mono (by omega)) (by rfl) D_law_same.g D_law_same.fn.kp D_law_same.b .nil pass0 (pa_cons (pv 7) (pa_cons (pe_callTy (r := rTupOf K) c_tupOf (by rfl) T.n_tuple (by decide +kernel) (pa_cons (pv 5) pa_nil)) pa_nil)))))
          (pss_one
            (ps_ret pe_bl))
          pss_nil)
      (pss_cons
        (ps_for PassesOwn.never rfl (pi_tup (pe_ix (r := rIxT K) ix_tup (pv 4) pe_int (fun _ _ => rfl))) (pg_name (i := 8) sc_law.nd rfl (.inr rfl))
          (pss_cons
            (ps_set (i := 9) sc_law.nd rfl (.inl rfl) (pe_callTy (r := rTupOf K) c_tupOf (by rfl) T.n_tuple (by decide +kernel) (pa_cons (pe_lc (own := [("_law_version", 6)]) (g := (gName 6)) rfl sc_law.nd (pi_tup (pe_ix (r := rIxT K) ix_tup (pv 2) pe_int (fun _ _ => rfl))) (blkOk_by (own := [("_law_version", 6)]) (N := N_law) (sc := defScope s_law) (by decide +kernel)) (fun _ _ _ _ _ => (pg_name (i := 6) sc_law.nd rfl (.inl rfl))) (fun _ _ _ _ _ => (pts_one (pt_cmpR op_ne (pv 6) (pv 8) (nomark _)))) (fun _ _ _ _ _ => (pe_tup (pa_cons (pv 6) (pa_cons (pe_cmpR (r := rIn K false) op_in_seq (pv 6) (pv 5) rfl) pa_nil))))) pa_nil)))
          (pss_cons
            (ps_set (i := 10) sc_law.nd rfl (.inl rfl) (pe_call G_settled (hr.mono (by omega)) (by rfl) D_settled.g D_settled.fn.kp D_settled.b .nil passL (pa_cons (pv 2) (pa_cons (pv 9) pa_nil))))
          (pss_one
            (ps_if (PW.pt (pw_or (pt_not (pt_val (pe_callB (r := rIsi K) call_isi (by rfl) T.n_isinstance (by decide +kernel) (pa_cons (pv 10) (pa_cons (pe_bltn (v := .ty "tuple") (u := .type "tuple") (by rfl) T.n_tuple (by decide +kernel) rfl) pa_nil))))) (pw_or (pt_cmpR op_ne (pe_callB (r := rLen K) c_len (by rfl) T.n_len (by decide +kernel) (pa_cons (pv 10) pa_nil)) pe_int (nomark _)) (pw_or1 (pt_not (pt_val (pe_call G_law_same (hr.mono (by omega)) (by rfl) D_law_same.g D_law_same.fn.kp D_law_same.b .nil pass0 (pa_cons (pe_ix (r := rIxT K) ix_tup (pv 10) pe_int (fun _ _ => rfl)) (pa_cons (pe_tup (pa_cons (pv 8) pa_nil)) pa_nil)))))))))
              (pss_one
                (ps_ret pe_bl))
              pss_nil)))))
      (pss_cons
        (ps_set (i := 11) sc_law.nd rfl (.inl rfl) (pe_op op_add pe_int (pe_call G_law_draw (hr.mono (by omega)) (by rfl) D_law_draw.g D_law_draw.fn.kp D_law_draw.b .nil pass0 (pa_cons (pv 1) (pa_cons pe_int pa_nil)))))
      (pss_cons
        (ps_set (i := 9) sc_law.nd rfl (.inl rfl) (pe_tup pa_nil))
      (pss_cons
        (ps_for PassesOwn.never rfl (pi_range1 (by rfl) T.n_range (pa_cons pe_int pa_nil)) (pg_name (i := 12) sc_law.nd rfl (.inl rfl))
          (pss_cons
            (ps_set (i := 13) sc_law.nd rfl (.inl rfl) (pe_callN G_next_asks (hr.mono (by omega)) (by rfl) D_next_asks.g D_next_asks.kp KB_next_asks passL (pa_cons (pv 2) (pa_cons (pv 4) (pa_cons (pv 9) pa_nil))) (pk_cons (pv 11) pk_nil)))
          (pss_cons
            (ps_if (pt_not (pt_val (pe_callB (r := rIsi K) call_isi (by rfl) T.n_isinstance (by decide +kernel) (pa_cons (pv 13) (pa_cons (pe_bltn (v := .ty "tuple") (u := .type "tuple") (by rfl) T.n_tuple (by decide +kernel) rfl) pa_nil)))))
              (pss_one
                (ps_ret pe_bl))
              pss_nil)
          (pss_one
            (ps_for PassesOwn.never rfl (pi_tup (pv 13)) (pg_name (i := 6) sc_law.nd rfl (.inr rfl))
              (pss_one
                (ps_set (i := 9) sc_law.nd rfl (.inl rfl) (pe_op op_catA (pv 9) (pe_tup (pa_cons (pe_tup (pa_cons (pv 6) (pa_cons (pe_cmpR (r := rIn K false) op_in_seq (pv 6) (pv 5) rfl) pa_nil))) pa_nil))))))))))
      (pss_cons
        (ps_set (i := 14) sc_law.nd rfl (.inr rfl) (pe_lc (own := [("_law_one", 8)]) (g := (gName 8)) rfl sc_law.nd (pi_tup (pv 9)) (blkOk_by (own := [("_law_one", 8)]) (N := N_law) (sc := defScope s_law) (by decide +kernel)) (fun _ _ _ _ _ => (pg_name (i := 8) sc_law.nd rfl (.inl rfl))) (fun _ _ _ _ _ => pts_nil) (fun _ _ _ _ _ => (pe_ix (r := rIxT K) ix_tup (pv 8) pe_int (fun _ _ => rfl)))))
      (pss_one
        (ps_ret (pe_cmpR op_eq (pe_callB (r := rLen K) c_len (by rfl) T.n_len (by decide +kernel) (pa_cons (pe_lc (own := [("_law_one", 8)]) (g := (gName 8)) rfl sc_law.nd (pi_tup (pe_ix (r := rIxT K) ix_tup (pv 4) pe_int (fun _ _ => rfl))) (blkOk_by (own := [("_law_one", 8)]) (N := N_law) (sc := defScope s_law) (by decide +kernel)) (fun _ _ _ _ _ => (pg_name (i := 8) sc_law.nd rfl (.inl rfl))) (fun _ _ _ _ _ => (pts_one (pt_cmpR (r := rIn K true) op_notIn_seq (pv 8) (pv 14) rfl))) (fun _ _ _ _ _ => (pv 8))) pa_nil)) pe_int (nomark _)))))))))))))))))))
      , ?_⟩
    rw [show L2.start N_law [V.ref a0] = [some (.ref a0), none, none, none, none, none, none, none, none, none, none, none, none, none, none] from rfl]
    walk_at "x"
    refine w_deck hS0 fun H1 d c k1 hd hc D1 => ?_
    walk_at "g"
    refine ⟨d, c, _, 9, rfl, D1, by decide, by decide, fun H2 t ns ps D2 k2 hS S hl hpl => ?_⟩
    obtain ⟨⟨xs, ed2⟩, _⟩ := D2.at
    walk_at "g"
    refine ⟨t, ns, ps, rfl, hS, S, by omega, by omega, fun H4 R k3 hR ⟨kvs, eR4, hks, _, rv0⟩ => ?_⟩
    have D4 := D2.kp (M := []) (Kp.of k3) (by simp) (by simp)
    have hS4 := hS.kt (KT.of k3)
    obtain ⟨⟨xs4, ed4⟩, _⟩ := D4.at
    have rv4 : RowsV [d] H4 kvs (ps.map (·.2)) ns := fun v hv => by
      obtain ⟨b, ys, v1, v2, v3, v4⟩ := rv0 v hv
      exact ⟨b, ys, v1, v2, v3, by simpa using (ne_of_none ed2 v4).symm⟩
    have nRd : R ≠ d := ne_of eR4 ed4 (fun z => nomatch z)
    walk_at "g"
    refine ⟨t, ns, ps, rfl, hS4, S, by omega, by omega, fun H5 p a b css aps k5 hp ep ea hcs hb R1 => ?_⟩
    have C1 := R1.is S
    have D5 := D4.kp (M := []) (Kp.of k5) (by simp) (by simp)
    walk_at "g"
    refine w_seqJ (fun σ' H' => ∃ (td ca cb : Addr) (css : List (Addr × Int × List Int)) (aps : List Int), σ' = [some (.ref a0), some (.ref d), some (.ref t), some (.ref R), some (.ref td), none, none, none, none, none, none, none, none, none, none] ∧ Deck H' d c 20000 ∧ Kp [d] H4 H' ∧ H' td = some (.tup [.ref ca, .ref cb]) ∧ H' ca = some (.tup (css.map fun q => .ref q.1)) ∧ (∀ q ∈ css, H' q.1 = some (.tup (q.2.2.map V.int))) ∧ VL H' cb aps ∧ IsCov ns (ps.map (·.2)) (css.map (·.2)) aps) ?_ ?_
    rotate_left
    · intro U hU
      walk_at "g"
      refine w_draw D5 (by unfold MOSTD; omega) (by decide) (by decide) fun v0 H6 hv0 D6 o6 => ?_
      obtain ⟨⟨xs5, ed5⟩, _⟩ := D5.at
      have k46 : Kp [d] H4 H6 := (Kp.of k5).trans (o6.kp (by simp))
      walk_at "g"
      refine w_ite (fun h0 => ?_) (fun h0 => ?_)
      · have eR6 := o6.get nRd (k5 _ _ eR4)
        have rv6 := (rv4.kp (N := []) (Kp.of k5) (by simp)).kp (N := [d]) (o6.kp (by simp)) (fun x h => h)
        walk_at "g"
        refine ⟨d, c, R, _, kvs, ns, _, rfl, D6, by unfold MOSTD; omega, eR6, hks, rv6, S, by omega, fun H7 p2 a2 b2 css2 aps2 D7 k7 hp7 ep7 ea7 hcs7 hb7 C7 => ?_⟩
        walk_at "g"
        exact hU _ _ ⟨p2, a2, b2, css2, aps2, rfl, D7.mono (by omega), k46.trans k7, ep7, ea7, hcs7, hb7, C7⟩
      · walk_at "g"
        exact hU _ _ ⟨p, a, b, css, aps, rfl, D6.mono (by omega), k46, o6.tup ed5 ep, o6.tup ed5 ea, fun x hx => o6.tup ed5 (hcs x hx), hb.kt (KT.kp (o6.kp (M := [d]) (by simp)) (by simp [ed5])), C1⟩
    rintro σ' H6 ⟨td, ca, cb, css, aps, rfl, D6, k6, etd, eca, hcs, hcb, C⟩
    have hS6 := hS4.kt (KT.kp k6 (by simp [ed4]))
    have eR6 := k6 _ _ (by simpa using nRd) eR4
    have rv6 := rv4.kp k6 (fun x h => h)
    have rvN : RowsV [] H6 kvs (ps.map (·.2)) ns := fun v hv => by
      obtain ⟨b, ys, v1, v2, v3, v4⟩ := rv6 v hv
      exact ⟨b, ys, v1, v2, v3, by simp⟩
    have fl : ((css.map (·.2)).map (·.2)).flatten.length ≤ ns.length := nodup_le _ _ C.nd fun x hx => (C.mem x).mp hx
    have hlen : ∀ q ∈ css, q.2.2.length ≤ 60 := fun q hq => by
      have := nodup_le q.2.2 ns (rise_nodup (C.rise q.2 (List.mem_map_of_mem hq))) fun y hy => (C.mem y).mp (List.mem_flatten.mpr ⟨q.2.2, List.mem_map.mpr ⟨q.2, List.mem_map_of_mem hq, rfl⟩, hy⟩)
      omega
    have apl : aps.length ≤ 9 := by
      have := nodup_le _ _ (rise_nodup C.ar) C.am
      omega
    have cssl : css.length ≤ 60 := by
      have h1 := C.al
      rw [List.length_map] at h1
      omega
    refine w_seq ?_
    walk_at "g"
    refine ⟨t, R, td, ca, cb, kvs, ns, aps, ps, css, rfl, hS6, S, by omega, eR6, hks, rvN, etd, eca, hcs, hcb, C, fun H7 k7 => ?_⟩
    have etd7 := k7 _ _ etd
    have D7 := D6.kp (M := []) (Kp.of k7) (by simp) (by simp)
    walk_at "g"
    refine w_new fun Du H8 hDu eDu k8 => ?_
    have D8 := D7.kp (M := []) (Kp.of k8) (by simp) (by simp)
    have k68 : Same H6 H8 := Same.trans k7 k8
    have hS8 := hS6.kt (KT.of k68)
    have eR8 := k68 _ _ eR6
    have rv8 := rv6.kp (N := []) (Kp.of k68) (by simp)
    have rvN8 := rvN.kp (N := []) (Kp.of k68) (by simp)
    have etd8 := k68 _ _ etd
    have eca8 := k68 _ _ eca
    have hcb8 := hcb.kt (KT.of k68)
    have hcb8' : H8 cb = some (.tup (aps.map V.int)) := hcb8
    obtain ⟨Vt, Lt, et8, ev8, _⟩ := id hS8
    have ev8' : H8 Vt = some (.tup (ns.map V.int)) := ev8
    have ofDu : ∀ {b : Addr} {o : HO}, H7 b = some o → b ∉ [Du] := fun {b o} e => by simpa using ne_of_none e hDu
    have et7 : H7 t = some (.tup [.ref Vt, .ref Lt]) := by
      obtain ⟨V', L', e1, _, _⟩ := id (hS6.kt (KT.of k7))
      have := k8 _ _ e1
      rw [et8] at this
      cases this
      exact e1
    have kt8 : ∀ {H' : Hp}, Kp [Du] H8 H' → ∀ b o, H7 b = some o → H' b = some o := fun {H'} k b o e => k _ _ (ofDu e) (k8 _ _ e)
    have ev7 : H7 Vt = some (.tup (ns.map V.int)) := by
      obtain ⟨V', L', e1, e2, _⟩ := id (hS6.kt (KT.of k7))
      rw [et7] at e1
      cases e1
      exact e2
    walk_at "g"
    refine lp_tup (xs := ns.map V.int) (fun i σ H' => ∃ (y6 : Option V), σ = [some (.ref a0), some (.ref d), some (.ref t), some (.ref R), some (.ref td), some (.ref Du), y6, none, none, none, none, none, none, none, none] ∧ Kp [Du] H8 H' ∧ H' Du = some (.lst (((ns.take i).filter (dueB (ps.map (·.2)) aps)).map V.int))) ?_ ?_ ?_ ?_
    · exact ⟨_, rfl, Kp.refl, eDu⟩
    · rintro i σ H' _ ⟨_, _, k9, _⟩
      exact .of (kt8 k9 _ _ ev7)
    · rintro i y σ H9 hy ⟨y6, rfl, k9, e9⟩
      obtain ⟨v, hv, rfl⟩ := map_at hy
      have hi : i < ns.length := (List.getElem?_eq_some_iff.mp hv).1
      have etd9 := kt8 k9 _ _ etd7
      have hcb7 : H7 cb = some (.tup (aps.map V.int)) := k7 _ _ hcb
      have hcb9 := kt8 k9 _ _ hcb7
      have tk : (ns.take (i + 1)).filter (dueB (ps.map (·.2)) aps) = (ns.take i).filter (dueB (ps.map (·.2)) aps) ++ (if dueB (ps.map (·.2)) aps v = true then [v] else []) := by
        rw [List.take_add_one, hv, List.filter_append]
        show _ ++ [v].filter _ = _
        rw [List.filter_cons]
        rfl
      walk_at "g"
      refine lcp_sel (walk_tup (K := K) (a := cb) (xs := aps.map V.int)) [] (fun j => aps[j]?.bind (pickI (sbB (ps.map (·.2)) v))) (by rw [List.length_map]; omega) (fun H' k => .of (k _ _ (by simp) hcb9)) ?_ (by simp) ?_
      · rintro j x H10 H11 Rr R0 hj k10 ⟨rfl, hx⟩ h1 h2
        obtain ⟨o, ho, rfl⟩ := map_at hx
        have eR7 := k7 _ _ eR6
        have eR10 := k10 _ _ (by simp) (kt8 k9 _ _ eR7)
        obtain ⟨b, ys, v1, v2, v3, _⟩ := rvN o (C.am o (List.mem_of_getElem? ho))
        have v210 := k10 _ _ (by simp) (kt8 k9 _ _ (k7 _ _ v2))
        refine w_name ⟨rfl, ?_⟩
        walk_at "g"
        by_cases hne : o = v
        · subst hne
          refine w_nyes rfl ?_
          walk_at "g"
          exact h2 _ (sel_no ho (fun z => (sbB_iff.mp z).2 rfl)) Kp.refl
        refine w_nno hne ?_
        walk_at "g"
        by_cases hin : v ∈ ys
        · rw [decide_eq_true hin]
          walk_at "g"
          exact h1 _ _ (sel_yes ho (sbB_iff.mpr ⟨(v3.mem v).mp hin, fun z => hne z.symm⟩)) Kp.refl
        · rw [decide_eq_false hin]
          walk_at "g"
          exact h2 _ (sel_no ho (fun z => hin ((v3.mem v).mpr (sbB_iff.mp z).1))) Kp.refl
      intro G H10 hG k10 eG
      rw [List.length_map, range_fm, pickI_map] at eG
      have eG' : H10 G = some (.lst ((aps.filter (sbB (ps.map (·.2)) v)).map V.int)) := eG
      have k10s := k10.same
      have e10 := k10s _ _ e9
      walk_at "g"
      rw [List.length_map]
      by_cases hdue : dueB (ps.map (·.2)) aps v = true
      · have hpos := sb_some.mpr hdue
        refine w_yes (by simpa using hpos) ?_
        rw [if_pos hdue] at tk
        walk_at "g"
        refine w_app e10 (by rw [List.length_map]; exact small1000 (Nat.le_trans (List.length_filter_le _ _) (by rw [List.length_take]; omega))) fun H11 e11 o11 => ?_
        exact ⟨_, rfl, k9.trans ((Kp.of k10s).trans (o11.kp (by simp))), by rw [e11, tk, List.map_append]; rfl⟩
      · have hpos : ¬ 0 < (aps.filter (sbB (ps.map (·.2)) v)).length := fun z => hdue (sb_some.mp z)
        refine w_no (by simpa using hpos) ?_
        rw [if_neg hdue, List.append_nil] at tk
        walk_at "g"
        exact ⟨_, rfl, k9.trans (Kp.of k10s), by rw [tk]; exact e10⟩
    rintro σ H9 ⟨y6, rfl, k9, e9⟩
    rw [List.length_map, List.take_length] at e9
    have nDu := D7.ne1 hDu
    have D9 : Deck H9 d c _ := D8.kp (M := [Du]) k9 (by simpa using Ne.symm nDu.1) (by simpa using Ne.symm nDu.2)
    have hS9 : ShAt H9 t ns ps := hS8.kt (KT.kp k9 (by simp [eDu]))
    have etd9 := kt8 k9 _ _ etd7
    have hcb9 : H9 cb = some (.tup (aps.map V.int)) := kt8 k9 _ _ (k7 _ _ hcb)
    have eca9 := kt8 k9 _ _ (k7 _ _ eca)
    have hcs9 : ∀ q ∈ css, H9 q.1 = some (.tup (q.2.2.map V.int)) := fun q hq => kt8 k9 _ _ (k7 _ _ (hcs q hq))
    obtain ⟨Vt, Lt, et9, ev9, _⟩ := id hS9
    have ev9' : H9 Vt = some (.tup (ns.map V.int)) := ev9
    obtain ⟨⟨xs9, ed9⟩, _⟩ := D9.at
    have anti := C.anti
    have dn := due_dn S C.am
    have dlen : (dueL (ps.map (·.2)) aps ns).length ≤ 9 := Nat.le_trans (List.length_filter_le _ _) hl
    have e9' : H9 Du = some (.lst ((dueL (ps.map (·.2)) aps ns).map V.int)) := e9
    generalize hdueL : dueL (ps.map (·.2)) aps ns = due at dn dlen e9'
    walk_at "g"
    refine ⟨t, td, cb, _, ns, ps, aps, rfl, hS9, S, by omega, by omega, etd9, hcb9, C.am, by omega, fun H10 r ms k10 er hup hm => ?_⟩
    have ems := must_is S C.am hup hm
    rw [hdueL] at ems
    have ems' := ems.symm
    subst ems'
    have e10 := k10 _ _ e9'
    refine w_seq ?_
    walk_at "g"
    refine w_tupL (.of e10) fun c1 H11 hc1 ec1 k11 => ?_
    walk_at "g"
    refine ⟨_, _, rfl, SD.tups (er.kt (KT.of k11)) ec1 (by omega), ?_⟩
    have k911 : Same H9 H11 := Same.trans k10 k11
    have etd11 := k911 _ _ etd9
    have hcb11 := k911 _ _ hcb9
    have D11 := D9.kp (M := []) (Kp.of k911) (by simp) (by simp)
    walk_at "g"
    refine lp_tup (xs := aps.map V.int) (fun i σ H' => ∃ (y6 y8 y9 y10 : Option V), σ = [some (.ref a0), some (.ref d), some (.ref t), some (.ref R), some (.ref td), some (.ref Du), y6, some (.ref r), y8, y9, y10, none, none, none, none] ∧ Same H11 H') ?_ ?_ ?_ ?_
    · exact ⟨_, _, _, _, rfl, fun _ _ z => z⟩
    · rintro i σ H' _ ⟨_, _, _, _, _, k12⟩
      exact .of (k12 _ _ hcb11)
    · rintro i y σ H12 hy ⟨y6, y8, y9, y10, rfl, k12⟩
      obtain ⟨one, ho, rfl⟩ := map_at hy
      have hom := List.mem_of_getElem? ho
      have k912 : Same H9 H12 := Same.trans k911 k12
      have hS12 := hS9.kt (KT.of k912)
      have et12 := k912 _ _ et9
      have ev12 := k912 _ _ ev9'
      have e12 := k912 _ _ e9'
      walk_at "g"
      refine lcp_accH (walk_tup (K := K) (a := Vt) (xs := ns.map V.int)) [] (fun j acc H' => ∃ qs : List (Addr × Int × Bool), acc = qs.map (fun q => .ref q.1) ∧ (∀ q ∈ qs, H' q.1 = some (.tup [.int q.2.1, .bl q.2.2])) ∧ qs.map (·.2) = ((ns.take j).filter fun v => decide (v ≠ one)).map fun v => (v, decide (v ∈ due))) (by rw [List.length_map]; omega) ?_ (fun _ H' k => .of (k _ _ (by simp) ev12)) ⟨[], rfl, by simp, by simp⟩ ?_ ?_ (by simp) ?_
      · rintro j acc H1' H2' k ⟨qs, e1, e2, e3⟩
        exact ⟨qs, e1, fun q hq => k _ _ (e2 q hq), e3⟩
      · rintro j acc H' ⟨qs, rfl, _, e3⟩
        have := congrArg List.length e3
        rw [List.length_map, List.length_map] at this
        rw [List.length_map, this]
        exact Nat.le_trans (List.length_filter_le _ _) (by rw [List.length_take]; omega)
      · rintro j x H13 H14 acc Rr R0 hj k13 t13 ⟨qs, rfl, e2, e3⟩ ⟨rfl, hx⟩ h1 h2
        obtain ⟨v, hv, rfl⟩ := map_at hx
        have e13 := k13 _ _ (by simp) e12
        have tk : ns.take (j + 1) = ns.take j ++ [v] := by rw [List.take_add_one, hv]; rfl
        refine w_name ⟨rfl, ?_⟩
        walk_at "g"
        by_cases hne : v = one
        · subst hne
          refine w_nyes rfl ?_
          walk_at "g"
          exact h2 _ ⟨qs, rfl, e2, by rw [tk, List.filter_append, e3]; simp⟩ Kp.refl KT.refl
        refine w_nno hne ?_
        walk_at "g"
        refine w_new fun p2 H15 hp2 ep2 k15 => ?_
        refine h1 _ _ ⟨qs ++ [(p2, v, decide (v ∈ due))], by rw [List.map_append]; rfl, fun q hq => ?_, ?_⟩ (Kp.of k15) (KT.of k15)
        · rcases List.mem_append.mp hq with z | z
          · exact k15 _ _ (e2 q z)
          · rw [List.mem_singleton.mp z]
            exact ep2
        · rw [List.map_append, e3, tk, List.filter_append, List.map_append]
          congr 1
          rw [List.filter_cons, if_pos (decide_eq_true hne)]
          rfl
      · rintro G H13 ys ⟨qs, rfl, e2, e3⟩ hG k13 t13 eG
        rw [List.length_map, List.take_length] at e3
        have k13s := k13.same
        walk_at "g"
        refine w_tupL (.of eG) fun Aa H14 hAa eAa k14 => ?_
        have hA14 : AL H14 Aa qs := ⟨eAa, fun q hq => k14 _ _ (e2 q hq)⟩
        have hT : Told ns due (qs.map (·.2)) := fun x hx => by
          rw [e3] at hx
          obtain ⟨v, hv, rfl⟩ := List.mem_map.mp hx
          exact ⟨(List.mem_filter.mp hv).1, rfl⟩
        have hql : qs.length ≤ 9 := by
          have := congrArg List.length e3
          rw [List.length_map, List.length_map] at this
          rw [this]
          exact Nat.le_trans (List.length_filter_le _ _) hl
        have hone := one_left (an := qs.map (·.2)) S C.am anti hom (by rw [hdueL]; exact e3)
        have k1114 : Same H11 H14 := Same.trans k12 (Same.trans k13s k14)
        have k914 : Same H9 H14 := Same.trans k911 k1114
        walk_at "g"
        refine ⟨t, Aa, ns, ps, qs, rfl, hS9.kt (KT.of k914), S, by omega, by omega, hA14, by omega, fun q hq => (hT q.2 (List.mem_map_of_mem hq)).1, fun _ H15 r2 a1 a2 a3 k15 er2 v1 v2 v3 => ?_, fun p' d' H' hp' => absurd (hT.clear dn) hp'.not⟩
        rw [hone] at v3
        walk_at "g"
        rw [show (!decide (((([V.ref a1, V.ref a2, V.ref a3] : List V).length : Nat) : Int) = 3)) = false from rfl]
        refine iteF ?_
        walk_at "g"
        refine w_new fun p3 H16 hp3 ep3 k16 => ?_
        walk_at "g"
        refine ⟨_, _, rfl, SD.tups (xs := [one]) (v3.kt (KT.of k16)) ep3 (by simp), ?_⟩
        walk_at "g"
        exact ⟨_, _, _, _, rfl, Same.trans k1114 (Same.trans k15 k16)⟩
    rintro σ H12 ⟨y6, y8, y9, y10, rfl, k12⟩
    have D12 := D11.kp (M := []) (Kp.of k12) (by simp) (by simp)
    have k912 : Same H9 H12 := Same.trans k911 k12
    walk_at "g"
    refine w_draw D12 (by unfold MOSTD; omega) (by decide) (by decide) fun wd H13 hwd D13 o13 => ?_
    have hW0 : (0 : Int) < 1 + (wd : Int) := by omega
    have k913 : Kp [d] H9 H13 := (Kp.of k912).trans (o13.kp (by simp))
    walk_at "g"
    generalize (1 : Int) + (wd : Int) = W at hW0 ⊢
    refine w_new fun Aa H14 hAa eAa k14 => ?_
    have D14 := D13.kp (M := []) (Kp.of k14) (by simp) (by simp)
    have k914 : Kp [d] H9 H14 := k913.trans (Kp.of k14)
    have kt9 : ∀ {H' : Hp}, Kp [d] H9 H' → KT H9 H' := fun k => KT.kp k (by simp [ed9])
    have hS14 := hS9.kt (kt9 k914)
    have etd14 := kt9 k914 _ _ etd9
    have eca14 := kt9 k914 _ _ eca9
    have hcb14 := kt9 k914 _ _ hcb9
    have e14 := k914 _ _ (by simpa using nDu.1) e9'
    have hcs14 : ∀ q ∈ css, H14 q.1 = some (.tup (q.2.2.map V.int)) := fun q hq => kt9 k914 _ _ (hcs9 q hq)
    obtain ⟨⟨xs14, ed14⟩, _⟩ := D14.at
    have kt14 : ∀ {H' : Hp}, Kp [d] H14 H' → KT H14 H' := fun k => KT.kp k (by simp [ed14])
    have pw : ∀ c ∈ css.map (·.2.2), c.Pairwise (fun a b => Bel (ps.map (·.2)) b a) := fun c hc => by
      obtain ⟨q', hq', rfl⟩ := List.mem_map.mp hc
      exact chain_pw (C.link q'.2 (List.mem_map_of_mem hq'))
    have ecs : (css.map (·.2)).map (·.2) = css.map (·.2.2) := List.map_map ..
    have nd := C.nd
    have cm := C.mem
    rw [ecs] at nd cm fl
    have e2s : ((css.map fun q => (q.1, q.2.2)) : List (Addr × List Int)).map (·.2) = css.map (·.2.2) := List.map_map ..
    have e1s : (((css.map fun q => (q.1, q.2.2)) : List (Addr × List Int)).map fun q => V.ref q.1) = css.map fun q => V.ref q.1 := List.map_map ..
    have l2s : ((css.map fun q => (q.1, q.2.2)) : List (Addr × List Int)).length = css.length := List.length_map ..
    have ch14 : ChsAt H14 (css.map fun q => (q.1, q.2.2)) := fun x hx => by
      obtain ⟨z, hz, rfl⟩ := List.mem_map.mp hx
      exact ⟨hcs14 z hz, Nat.le_trans (hlen z hz) (by decide)⟩
    have Ph0 : PhS (fun v => decide (v ∈ leftL (ps.map (·.2)) [] ns)) (css.map (·.2.2)) ≤ 9 := by
      have h1 := PhS_all (fun v => decide (v ∈ leftL (ps.map (·.2)) [] ns)) (css.map (·.2.2))
      have h2 := bits_sum_le (css.map (·.2.2))
      omega
    rw [← e1s] at eca14
    generalize (css.map fun q => (q.1, q.2.2) : List (Addr × List Int)) = css2 at e2s e1s l2s ch14 eca14
    generalize css.map (·.2.2) = cs at pw nd cm e2s Ph0
    subst e2s
    walk_at "g"
    refine lp_range (fun i σ H' => ∃ (y6 y12 y13 : Option V) (Ab : Addr) (an : List (Addr × Int × Bool)), σ = [some (.ref a0), some (.ref d), some (.ref t), some (.ref R), some (.ref td), some (.ref Du), y6, some (.ref r), y8, some (.ref Ab), y10, some (.int W), y12, y13, none] ∧ Same H14 H' ∧ AL H' Ab an ∧ Told ns due (an.map (·.2)) ∧ (an.length : Int) + PhS (fun v => decide (v ∈ leftL (ps.map (·.2)) (an.map (·.2)) ns)) (css2.map (·.2)) ≤ 9 ∧ (PhS (fun v => decide (v ∈ leftL (ps.map (·.2)) (an.map (·.2)) ns)) (css2.map (·.2)) ≤ 0 ∨ PhS (fun v => decide (v ∈ leftL (ps.map (·.2)) (an.map (·.2)) ns)) (css2.map (·.2)) + i ≤ 9)) ?_ ?_ ?_
    · exact ⟨_, _, _, Aa, [], rfl, fun _ _ z => z, ⟨eAa, by simp⟩, (fun q hq => by cases hq), by simpa using Ph0, .inr (by simp only [List.map_nil]; omega)⟩
    · rintro i σ H15 hi ⟨y6, y12, y13, Ab, an, rfl, k15, hA, hT, hn, hph⟩
      have hi12 : i < 11 := by omega
      have ph0 := PhS_nn (fun v => decide (v ∈ leftL (ps.map (·.2)) (an.map (·.2)) ns)) (css2.map (·.2))
      have hal : an.length ≤ 9 := by omega
      have ham : ∀ q ∈ an, q.2.1 ∈ ns := fun q hq => (hT q.2 (List.mem_map_of_mem hq)).1
      refine w_name ?_
      dsimp only [List.set_cons_zero, List.set_cons_succ]
      walk_at "g"
      refine ⟨rfl, rfl, t, Ab, td, ca, _, W, ns, ps, an, css2, rfl, hS14.kt (KT.of k15), S, by omega, by omega, hA, by omega, ham, hT.clear dn, k15 _ _ etd14, k15 _ _ eca14, fun x hx => ⟨k15 _ _ (ch14 x hx).1, (ch14 x hx).2⟩, by omega, fun H16 r1 k16 er1 => ?_⟩
      have asl : (midF (fun v => decide (v ∈ leftL (ps.map (·.2)) (an.map (·.2)) ns)) W (css2.map (·.2))).length ≤ 60 := Nat.le_trans (midF_len _) (by rw [List.length_map]; omega)
      have hA16 := hA.kt (KT.of k16)
      have k1416 : Same H14 H16 := Same.trans k15 k16
      have hasL' : ∀ x ∈ midF (fun v => decide (v ∈ leftL (ps.map (·.2)) (an.map (·.2)) ns)) W (css2.map (·.2)), x ∈ leftL (ps.map (·.2)) (an.map (·.2)) ns := fun x hx => of_decide_eq_true (turn_L x hx)
      have hsum : ∀ an' : List (Int × Bool), Adds due (midF (fun v => decide (v ∈ leftL (ps.map (·.2)) (an.map (·.2)) ns)) W (css2.map (·.2))) (an.map (·.2)) an' → _ := fun an' a => turn_sum (ls := ps.map (·.2)) (ns := ns) pw rfl a
      have hne := fun h => turn_ne (cs := css2.map (·.2)) (L := fun v => decide (v ∈ leftL (ps.map (·.2)) (an.map (·.2)) ns)) hW0 h
      generalize hM : midF (fun v => decide (v ∈ leftL (ps.map (·.2)) (an.map (·.2)) ns)) W (css2.map (·.2)) = M at *
      have er1' : H16 r1 = some (.tup (M.map V.int)) := er1
      walk_at "g"
      refine w_seq ?_
      walk_at "g"
      refine lp_tup (xs := M.map V.int) (fun j σ H' => ∃ (y6 : Option V) (Ac : Addr) (an' : List (Addr × Int × Bool)), σ = [some (.ref a0), some (.ref d), some (.ref t), some (.ref R), some (.ref td), some (.ref Du), y6, some (.ref r), y8, some (.ref Ac), y10, some (.int W), some (.int (0 + (i : Int))), some (.ref r1), none] ∧ Same H16 H' ∧ AL H' Ac an' ∧ an'.length = an.length + j ∧ Adds due (M.take j) (an.map (·.2)) (an'.map (·.2))) ?_ ?_ ?_ ?_
      · exact ⟨_, Ab, an, rfl, fun _ _ z => z, hA16, rfl, fun x => by simp⟩
      · rintro j σ H' _ ⟨_, _, _, _, k17, _⟩
        exact .of (k17 _ _ er1')
      · rintro j y σ H17 hy ⟨y6, Ac, an', rfl, k17, hA17, hal', hadd⟩
        obtain ⟨v, hv, rfl⟩ := map_at hy
        have hj : j < M.length := (List.getElem?_eq_some_iff.mp hv).1
        have lan : an'.length ≤ 70 := by omega
        have e17 := k17 _ _ (k1416 _ _ e14)
        have lx : (an'.map fun q => V.ref q.1).length = an'.length := List.length_map ..
        walk_at "g"
        refine w_new fun z2 H18 hz2 ez2 k18 => ?_
        walk_at "g"
        refine w_new fun z3 H19 hz3 ez3 k19 => ?_
        walk_at "g"
        refine w_catAt (k19 _ _ (k18 _ _ hA17.1)) ez3 (by rw [lx]; exact Nat.le_of_lt (small1000 (by simp; omega))) fun z4 H20 ez4 k20 => ?_
        have k1720 : Same H17 H20 := Same.trans k18 (Same.trans k19 k20)
        have tk : M.take (j + 1) = M.take j ++ [v] := by rw [List.take_add_one, hv]; rfl
        refine ⟨_, z4, an' ++ [(z2, v, decide (v ∈ due))], rfl, Same.trans k17 k1720, ⟨?_, fun x hx => ?_⟩, by rw [List.length_append]; simp; omega, fun x => ?_⟩
        · rw [ez4, List.map_append]
          rfl
        · rcases List.mem_append.mp hx with h | h
          · exact k1720 _ _ (hA17.2 x h)
          · rw [List.mem_singleton.mp h]
            exact k20 _ _ (k19 _ _ ez2)
        · rw [List.map_append, List.mem_append, hadd x, tk]
          constructor
          · rintro ((h | ⟨w', h1, h2⟩) | h)
            · exact .inl h
            · exact .inr ⟨w', List.mem_append_left _ h1, h2⟩
            · exact .inr ⟨v, by simp, by simpa using h⟩
          · rintro (h | ⟨w', h1, h2⟩)
            · exact .inl (.inl h)
            · rcases List.mem_append.mp h1 with h3 | h3
              · exact .inl (.inr ⟨w', h3, h2⟩)
              · have e4 : w' = v := by simpa using h3
                rw [e4] at h2
                exact .inr (by simpa using h2)
      · rintro σ H17 ⟨y6, Ac, an', rfl, k17, hA17, hal', hadd⟩
        rw [List.length_map, List.take_length] at hadd
        rw [List.length_map] at hal'
        have hs2 := hsum _ hadd
        have ph2 := PhS_nn (fun v => decide (v ∈ leftL (ps.map (·.2)) (an'.map (·.2)) ns)) (css2.map (·.2))
        refine ⟨_, _, _, Ac, an', rfl, Same.trans k1416 k17, hA17, hadd.told hT (fun v hv => (mem_leftL.mp (hasL' v hv)).1), by omega, ?_⟩
        by_cases hz : PhS (fun v => decide (v ∈ leftL (ps.map (·.2)) (an.map (·.2)) ns)) (css2.map (·.2)) ≤ 0
        · exact .inl (by omega)
        · have := hne (by omega)
          refine .inr ?_
          push_cast
          omega
    · rintro σ H15 ⟨y6, y12, y13, Ab, an, rfl, k15, hA, hT, hn, hph⟩
      have ph0 := PhS_nn (fun v => decide (v ∈ leftL (ps.map (·.2)) (an.map (·.2)) ns)) (css2.map (·.2))
      have hz : PhS (fun v => decide (v ∈ leftL (ps.map (·.2)) (an.map (·.2)) ns)) (css2.map (·.2)) ≤ 0 := by
        rcases hph with h | h
        · exact h
        · have e11 : (((11 : Int).toNat : Nat) : Int) = 11 := rfl
          rw [e11] at h
          omega
      have hl0 := all_left cm hz
      have hal : an.length ≤ 9 := by omega
      have asked : ∀ one ∈ aps, one ∈ an.map (·.2.1) := fun one ho => by
        apply Classical.byContradiction
        intro hno
        have : one ∈ leftL (ps.map (·.2)) (an.map (·.2)) ns := apart_left S C.am anti (by rw [hdueL]; exact hT) ho fun b hb => by
          obtain ⟨q', hq', e'⟩ := List.mem_map.mp hb
          exact hno (List.mem_map.mpr ⟨q', hq', by rw [e']⟩)
        rw [hl0] at this
        cases this
      have a15 := hA.1
      have hcb15 := k15 _ _ hcb14
      have etd15 := k15 _ _ etd14
      walk_at "g"
      refine lcp_map (walk_tup (K := K) (a := Ab) (xs := an.map fun q => .ref q.1)) [] ((an.map (·.2.1)).map V.int) (by simp) (by simp; omega) (fun H' k => .of (k _ _ (by simp) a15)) ?_ (by simp) ?_
      · rintro i' y H1 H2 R' hi' k' ⟨rfl, hy'⟩ hR'
        rw [List.getElem?_map] at hy'
        obtain ⟨p', hp', rfl⟩ := Option.map_eq_some_iff.mp hy'
        have hp1 := k' _ _ (by simp) (hA.2 p' (List.mem_of_getElem? hp'))
        refine w_name ⟨rfl, ?_⟩
        walk_at "g"
        refine hR' _ _ ?_ Kp.refl
        rw [List.getElem?_map, List.getElem?_map, hp']
        rfl
      intro G H16 hG k16 eG
      have k16s := k16.same
      have eG' : H16 G = some (.lst ((an.map (·.2.1)).map V.int)) := eG
      have hcb16 := k16s _ _ hcb15
      have etd16 := k16s _ _ etd15
      walk_at "g"
      refine lcp_sel (walk_tup (K := K) (a := cb) (xs := aps.map V.int)) [] (fun _ => none) (by rw [List.length_map]; omega) (fun H' k => .of (k _ _ (by simp) hcb16)) ?_ (by simp) ?_
      · rintro j x H17 H18 Rr R0 hj k17 ⟨rfl, hx⟩ h1 h2
        obtain ⟨v, hv, rfl⟩ := map_at hx
        have eG17 := k17 _ _ (by simp) eG'
        have hin := asked v (List.mem_of_getElem? hv)
        refine w_name ⟨rfl, ?_⟩
        walk_at "g"
        rw [decide_eq_true hin]
        walk_at "g"
        exact h2 _ rfl Kp.refl
      intro G2 H17 hG2 k17 eG2
      have enil : ((List.range (aps.map V.int).length).filterMap fun _ => (none : Option V)) = [] := List.filterMap_eq_nil_iff.mpr fun _ _ => rfl
      rw [enil] at eG2
      walk_at "g"
      exact q _
end
theorem all_mk {l : PySem.W.OpenLaw} {w : World} {K : PySem.W.Frag} {h : Heap} {mg : Str → Option Value} {fa f_Contrary___init__ f_spans f_no_clash f_settled f_next_asks f_must_ask f_give_way f_pair_up f_apart_of f_cover f_law_deck f_law_mixed f_law_draw f_law_int f_law_same f_law_shape f_law_spans f_law_rising f_law_is_cover f_law_pair_up f_law_high_apart f_law_low_apart f_law_own_cover f_law : Addr} (X : K.In h) (G : h.Ns mainGlobals mg) (hfa : mg "law" = some (.ref fa))
    {od_Contrary___init__ an_Contrary___init__ : Option Addr} {sl_Contrary___init__ : Array (Option Value)} {oc_Contrary___init__ kV_Contrary___init__ dc_Contrary___init__ pm_Contrary___init__ cd_Contrary___init__ ct_Contrary___init__ : Value}
    (l_Contrary___init__ : K.lookup f_Contrary___init__ = some ⟨oc_Contrary___init__, od_Contrary___init__, .func (PySem.W.fnOf "__init__" "Contrary.__init__" (defArgs s_Contrary___init__) (defBody s_Contrary___init__) (defScope s_Contrary___init__) .none kV_Contrary___init__ dc_Contrary___init__ pm_Contrary___init__ an_Contrary___init__ cd_Contrary___init__ ct_Contrary___init__), sl_Contrary___init__⟩) (c_Contrary___init__ : PySem.W.codeIn K cd_Contrary___init__ "Contrary.__init__" = true) (k_Contrary___init__ : PySem.W.keepIn K (.ref f_Contrary___init__) = true)
    {od_spans an_spans : Option Addr} {sl_spans : Array (Option Value)} {oc_spans kV_spans dc_spans pm_spans cd_spans ct_spans : Value}
    (a_spans : PySem.W.nsIn K mainGlobals "spans" = some (some (.ref f_spans)))
    (l_spans : K.lookup f_spans = some ⟨oc_spans, od_spans, .func (PySem.W.fnOf "spans" "spans" (defArgs s_spans) (defBody s_spans) (defScope s_spans) .none kV_spans dc_spans pm_spans an_spans cd_spans ct_spans), sl_spans⟩) (c_spans : PySem.W.codeIn K cd_spans "spans" = true) (k_spans : PySem.W.keepIn K (.ref f_spans) = true)
    {od_no_clash an_no_clash : Option Addr} {sl_no_clash : Array (Option Value)} {oc_no_clash kV_no_clash dc_no_clash pm_no_clash cd_no_clash ct_no_clash : Value}
    (a_no_clash : PySem.W.nsIn K mainGlobals "no_clash" = some (some (.ref f_no_clash)))
    (l_no_clash : K.lookup f_no_clash = some ⟨oc_no_clash, od_no_clash, .func (PySem.W.fnOf "no_clash" "no_clash" (defArgs s_no_clash) (defBody s_no_clash) (defScope s_no_clash) .none kV_no_clash dc_no_clash pm_no_clash an_no_clash cd_no_clash ct_no_clash), sl_no_clash⟩) (c_no_clash : PySem.W.codeIn K cd_no_clash "no_clash" = true) (k_no_clash : PySem.W.keepIn K (.ref f_no_clash) = true)
    {od_settled an_settled : Option Addr} {sl_settled : Array (Option Value)} {oc_settled kV_settled dc_settled pm_settled cd_settled ct_settled : Value}
    (a_settled : PySem.W.nsIn K mainGlobals "settled" = some (some (.ref f_settled)))
    (l_settled : K.lookup f_settled = some ⟨oc_settled, od_settled, .func (PySem.W.fnOf "settled" "settled" (defArgs s_settled) (defBody s_settled) (defScope s_settled) .none kV_settled dc_settled pm_settled an_settled cd_settled ct_settled), sl_settled⟩) (c_settled : PySem.W.codeIn K cd_settled "settled" = true) (k_settled : PySem.W.keepIn K (.ref f_settled) = true)
    {od_next_asks an_next_asks : Option Addr} {sl_next_asks : Array (Option Value)} {oc_next_asks  dc_next_asks pm_next_asks cd_next_asks ct_next_asks : Value} {kd_next_asks : Addr}
    (a_next_asks : PySem.W.nsIn K mainGlobals "next_asks" = some (some (.ref f_next_asks)))
    (l_next_asks : K.lookup f_next_asks = some ⟨oc_next_asks, od_next_asks, .func (PySem.W.fnOf "next_asks" "next_asks" (defArgs s_next_asks) (defBody s_next_asks) (defScope s_next_asks) .none (.ref kd_next_asks) dc_next_asks pm_next_asks an_next_asks cd_next_asks ct_next_asks), sl_next_asks⟩) (c_next_asks : PySem.W.codeIn K cd_next_asks "next_asks" = true) (k_next_asks : PySem.W.keepIn K (.ref f_next_asks) = true)
    {tk_next_asks_few : Tok} (kw_next_asks_few : PySem.W.nsIn K kd_next_asks "few" = some (some (.int 4 tk_next_asks_few)))
    {od_must_ask an_must_ask : Option Addr} {sl_must_ask : Array (Option Value)} {oc_must_ask kV_must_ask dc_must_ask pm_must_ask cd_must_ask ct_must_ask : Value}
    (a_must_ask : PySem.W.nsIn K mainGlobals "must_ask" = some (some (.ref f_must_ask)))
    (l_must_ask : K.lookup f_must_ask = some ⟨oc_must_ask, od_must_ask, .func (PySem.W.fnOf "must_ask" "must_ask" (defArgs s_must_ask) (defBody s_must_ask) (defScope s_must_ask) .none kV_must_ask dc_must_ask pm_must_ask an_must_ask cd_must_ask ct_must_ask), sl_must_ask⟩) (c_must_ask : PySem.W.codeIn K cd_must_ask "must_ask" = true) (k_must_ask : PySem.W.keepIn K (.ref f_must_ask) = true)
    {od_give_way an_give_way : Option Addr} {sl_give_way : Array (Option Value)} {oc_give_way kV_give_way dc_give_way pm_give_way cd_give_way ct_give_way : Value}
    (a_give_way : PySem.W.nsIn K mainGlobals "give_way" = some (some (.ref f_give_way)))
    (l_give_way : K.lookup f_give_way = some ⟨oc_give_way, od_give_way, .func (PySem.W.fnOf "give_way" "give_way" (defArgs s_give_way) (defBody s_give_way) (defScope s_give_way) .none kV_give_way dc_give_way pm_give_way an_give_way cd_give_way ct_give_way), sl_give_way⟩) (c_give_way : PySem.W.codeIn K cd_give_way "give_way" = true) (k_give_way : PySem.W.keepIn K (.ref f_give_way) = true)
    {od_pair_up an_pair_up : Option Addr} {sl_pair_up : Array (Option Value)} {oc_pair_up kV_pair_up dc_pair_up pm_pair_up cd_pair_up ct_pair_up : Value}
    (a_pair_up : PySem.W.nsIn K mainGlobals "pair_up" = some (some (.ref f_pair_up)))
    (l_pair_up : K.lookup f_pair_up = some ⟨oc_pair_up, od_pair_up, .func (PySem.W.fnOf "pair_up" "pair_up" (defArgs s_pair_up) (defBody s_pair_up) (defScope s_pair_up) .none kV_pair_up dc_pair_up pm_pair_up an_pair_up cd_pair_up ct_pair_up), sl_pair_up⟩) (c_pair_up : PySem.W.codeIn K cd_pair_up "pair_up" = true) (k_pair_up : PySem.W.keepIn K (.ref f_pair_up) = true)
    {od_apart_of an_apart_of : Option Addr} {sl_apart_of : Array (Option Value)} {oc_apart_of kV_apart_of dc_apart_of pm_apart_of cd_apart_of ct_apart_of : Value}
    (a_apart_of : PySem.W.nsIn K mainGlobals "apart_of" = some (some (.ref f_apart_of)))
    (l_apart_of : K.lookup f_apart_of = some ⟨oc_apart_of, od_apart_of, .func (PySem.W.fnOf "apart_of" "apart_of" (defArgs s_apart_of) (defBody s_apart_of) (defScope s_apart_of) .none kV_apart_of dc_apart_of pm_apart_of an_apart_of cd_apart_of ct_apart_of), sl_apart_of⟩) (c_apart_of : PySem.W.codeIn K cd_apart_of "apart_of" = true) (k_apart_of : PySem.W.keepIn K (.ref f_apart_of) = true)
    {od_cover an_cover : Option Addr} {sl_cover : Array (Option Value)} {oc_cover kV_cover dc_cover pm_cover cd_cover ct_cover : Value}
    (a_cover : PySem.W.nsIn K mainGlobals "cover" = some (some (.ref f_cover)))
    (l_cover : K.lookup f_cover = some ⟨oc_cover, od_cover, .func (PySem.W.fnOf "cover" "cover" (defArgs s_cover) (defBody s_cover) (defScope s_cover) .none kV_cover dc_cover pm_cover an_cover cd_cover ct_cover), sl_cover⟩) (c_cover : PySem.W.codeIn K cd_cover "cover" = true) (k_cover : PySem.W.keepIn K (.ref f_cover) = true)
    {od_law_deck an_law_deck : Option Addr} {sl_law_deck : Array (Option Value)} {oc_law_deck kV_law_deck dc_law_deck pm_law_deck cd_law_deck ct_law_deck : Value}
    (a_law_deck : PySem.W.nsIn K mainGlobals "_law_deck" = some (some (.ref f_law_deck)))
    (l_law_deck : K.lookup f_law_deck = some ⟨oc_law_deck, od_law_deck, .func (PySem.W.fnOf "_law_deck" "_law_deck" (defArgs s_law_deck) (defBody s_law_deck) (defScope s_law_deck) .none kV_law_deck dc_law_deck pm_law_deck an_law_deck cd_law_deck ct_law_deck), sl_law_deck⟩) (c_law_deck : PySem.W.codeIn K cd_law_deck "_law_deck" = true) (k_law_deck : PySem.W.keepIn K (.ref f_law_deck) = true)
    {od_law_mixed an_law_mixed : Option Addr} {sl_law_mixed : Array (Option Value)} {oc_law_mixed kV_law_mixed dc_law_mixed pm_law_mixed cd_law_mixed ct_law_mixed : Value}
    (a_law_mixed : PySem.W.nsIn K mainGlobals "_law_mixed" = some (some (.ref f_law_mixed)))
    (l_law_mixed : K.lookup f_law_mixed = some ⟨oc_law_mixed, od_law_mixed, .func (PySem.W.fnOf "_law_mixed" "_law_mixed" (defArgs s_law_mixed) (defBody s_law_mixed) (defScope s_law_mixed) .none kV_law_mixed dc_law_mixed pm_law_mixed an_law_mixed cd_law_mixed ct_law_mixed), sl_law_mixed⟩) (c_law_mixed : PySem.W.codeIn K cd_law_mixed "_law_mixed" = true) (k_law_mixed : PySem.W.keepIn K (.ref f_law_mixed) = true)
    {od_law_draw an_law_draw : Option Addr} {sl_law_draw : Array (Option Value)} {oc_law_draw kV_law_draw dc_law_draw pm_law_draw cd_law_draw ct_law_draw : Value}
    (a_law_draw : PySem.W.nsIn K mainGlobals "_law_draw" = some (some (.ref f_law_draw)))
    (l_law_draw : K.lookup f_law_draw = some ⟨oc_law_draw, od_law_draw, .func (PySem.W.fnOf "_law_draw" "_law_draw" (defArgs s_law_draw) (defBody s_law_draw) (defScope s_law_draw) .none kV_law_draw dc_law_draw pm_law_draw an_law_draw cd_law_draw ct_law_draw), sl_law_draw⟩) (c_law_draw : PySem.W.codeIn K cd_law_draw "_law_draw" = true) (k_law_draw : PySem.W.keepIn K (.ref f_law_draw) = true)
    {od_law_int an_law_int : Option Addr} {sl_law_int : Array (Option Value)} {oc_law_int kV_law_int dc_law_int pm_law_int cd_law_int ct_law_int : Value}
    (a_law_int : PySem.W.nsIn K mainGlobals "_law_int" = some (some (.ref f_law_int)))
    (l_law_int : K.lookup f_law_int = some ⟨oc_law_int, od_law_int, .func (PySem.W.fnOf "_law_int" "_law_int" (defArgs s_law_int) (defBody s_law_int) (defScope s_law_int) .none kV_law_int dc_law_int pm_law_int an_law_int cd_law_int ct_law_int), sl_law_int⟩) (c_law_int : PySem.W.codeIn K cd_law_int "_law_int" = true) (k_law_int : PySem.W.keepIn K (.ref f_law_int) = true)
    {od_law_same an_law_same : Option Addr} {sl_law_same : Array (Option Value)} {oc_law_same kV_law_same dc_law_same pm_law_same cd_law_same ct_law_same : Value}
    (a_law_same : PySem.W.nsIn K mainGlobals "_law_same" = some (some (.ref f_law_same)))
    (l_law_same : K.lookup f_law_same = some ⟨oc_law_same, od_law_same, .func (PySem.W.fnOf "_law_same" "_law_same" (defArgs s_law_same) (defBody s_law_same) (defScope s_law_same) .none kV_law_same dc_law_same pm_law_same an_law_same cd_law_same ct_law_same), sl_law_same⟩) (c_law_same : PySem.W.codeIn K cd_law_same "_law_same" = true) (k_law_same : PySem.W.keepIn K (.ref f_law_same) = true)
    {od_law_shape an_law_shape : Option Addr} {sl_law_shape : Array (Option Value)} {oc_law_shape kV_law_shape dc_law_shape pm_law_shape cd_law_shape ct_law_shape : Value}
    (a_law_shape : PySem.W.nsIn K mainGlobals "_law_shape" = some (some (.ref f_law_shape)))
    (l_law_shape : K.lookup f_law_shape = some ⟨oc_law_shape, od_law_shape, .func (PySem.W.fnOf "_law_shape" "_law_shape" (defArgs s_law_shape) (defBody s_law_shape) (defScope s_law_shape) .none kV_law_shape dc_law_shape pm_law_shape an_law_shape cd_law_shape ct_law_shape), sl_law_shape⟩) (c_law_shape : PySem.W.codeIn K cd_law_shape "_law_shape" = true) (k_law_shape : PySem.W.keepIn K (.ref f_law_shape) = true)
    {od_law_spans an_law_spans : Option Addr} {sl_law_spans : Array (Option Value)} {oc_law_spans kV_law_spans dc_law_spans pm_law_spans cd_law_spans ct_law_spans : Value}
    (a_law_spans : PySem.W.nsIn K mainGlobals "_law_spans" = some (some (.ref f_law_spans)))
    (l_law_spans : K.lookup f_law_spans = some ⟨oc_law_spans, od_law_spans, .func (PySem.W.fnOf "_law_spans" "_law_spans" (defArgs s_law_spans) (defBody s_law_spans) (defScope s_law_spans) .none kV_law_spans dc_law_spans pm_law_spans an_law_spans cd_law_spans ct_law_spans), sl_law_spans⟩) (c_law_spans : PySem.W.codeIn K cd_law_spans "_law_spans" = true) (k_law_spans : PySem.W.keepIn K (.ref f_law_spans) = true)
    {od_law_rising an_law_rising : Option Addr} {sl_law_rising : Array (Option Value)} {oc_law_rising kV_law_rising dc_law_rising pm_law_rising cd_law_rising ct_law_rising : Value}
    (a_law_rising : PySem.W.nsIn K mainGlobals "_law_rising" = some (some (.ref f_law_rising)))
    (l_law_rising : K.lookup f_law_rising = some ⟨oc_law_rising, od_law_rising, .func (PySem.W.fnOf "_law_rising" "_law_rising" (defArgs s_law_rising) (defBody s_law_rising) (defScope s_law_rising) .none kV_law_rising dc_law_rising pm_law_rising an_law_rising cd_law_rising ct_law_rising), sl_law_rising⟩) (c_law_rising : PySem.W.codeIn K cd_law_rising "_law_rising" = true) (k_law_rising : PySem.W.keepIn K (.ref f_law_rising) = true)
    {od_law_is_cover an_law_is_cover : Option Addr} {sl_law_is_cover : Array (Option Value)} {oc_law_is_cover kV_law_is_cover dc_law_is_cover pm_law_is_cover cd_law_is_cover ct_law_is_cover : Value}
    (a_law_is_cover : PySem.W.nsIn K mainGlobals "_law_is_cover" = some (some (.ref f_law_is_cover)))
    (l_law_is_cover : K.lookup f_law_is_cover = some ⟨oc_law_is_cover, od_law_is_cover, .func (PySem.W.fnOf "_law_is_cover" "_law_is_cover" (defArgs s_law_is_cover) (defBody s_law_is_cover) (defScope s_law_is_cover) .none kV_law_is_cover dc_law_is_cover pm_law_is_cover an_law_is_cover cd_law_is_cover ct_law_is_cover), sl_law_is_cover⟩) (c_law_is_cover : PySem.W.codeIn K cd_law_is_cover "_law_is_cover" = true) (k_law_is_cover : PySem.W.keepIn K (.ref f_law_is_cover) = true)
    {od_law_pair_up an_law_pair_up : Option Addr} {sl_law_pair_up : Array (Option Value)} {oc_law_pair_up kV_law_pair_up dc_law_pair_up pm_law_pair_up cd_law_pair_up ct_law_pair_up : Value}
    (a_law_pair_up : PySem.W.nsIn K mainGlobals "_law_pair_up" = some (some (.ref f_law_pair_up)))
    (l_law_pair_up : K.lookup f_law_pair_up = some ⟨oc_law_pair_up, od_law_pair_up, .func (PySem.W.fnOf "_law_pair_up" "_law_pair_up" (defArgs s_law_pair_up) (defBody s_law_pair_up) (defScope s_law_pair_up) .none kV_law_pair_up dc_law_pair_up pm_law_pair_up an_law_pair_up cd_law_pair_up ct_law_pair_up), sl_law_pair_up⟩) (c_law_pair_up : PySem.W.codeIn K cd_law_pair_up "_law_pair_up" = true) (k_law_pair_up : PySem.W.keepIn K (.ref f_law_pair_up) = true)
    {od_law_high_apart an_law_high_apart : Option Addr} {sl_law_high_apart : Array (Option Value)} {oc_law_high_apart kV_law_high_apart dc_law_high_apart pm_law_high_apart cd_law_high_apart ct_law_high_apart : Value}
    (a_law_high_apart : PySem.W.nsIn K mainGlobals "_law_high_apart" = some (some (.ref f_law_high_apart)))
    (l_law_high_apart : K.lookup f_law_high_apart = some ⟨oc_law_high_apart, od_law_high_apart, .func (PySem.W.fnOf "_law_high_apart" "_law_high_apart" (defArgs s_law_high_apart) (defBody s_law_high_apart) (defScope s_law_high_apart) .none kV_law_high_apart dc_law_high_apart pm_law_high_apart an_law_high_apart cd_law_high_apart ct_law_high_apart), sl_law_high_apart⟩) (c_law_high_apart : PySem.W.codeIn K cd_law_high_apart "_law_high_apart" = true) (k_law_high_apart : PySem.W.keepIn K (.ref f_law_high_apart) = true)
    {od_law_low_apart an_law_low_apart : Option Addr} {sl_law_low_apart : Array (Option Value)} {oc_law_low_apart kV_law_low_apart dc_law_low_apart pm_law_low_apart cd_law_low_apart ct_law_low_apart : Value}
    (a_law_low_apart : PySem.W.nsIn K mainGlobals "_law_low_apart" = some (some (.ref f_law_low_apart)))
    (l_law_low_apart : K.lookup f_law_low_apart = some ⟨oc_law_low_apart, od_law_low_apart, .func (PySem.W.fnOf "_law_low_apart" "_law_low_apart" (defArgs s_law_low_apart) (defBody s_law_low_apart) (defScope s_law_low_apart) .none kV_law_low_apart dc_law_low_apart pm_law_low_apart an_law_low_apart cd_law_low_apart ct_law_low_apart), sl_law_low_apart⟩) (c_law_low_apart : PySem.W.codeIn K cd_law_low_apart "_law_low_apart" = true) (k_law_low_apart : PySem.W.keepIn K (.ref f_law_low_apart) = true)
    {od_law_own_cover an_law_own_cover : Option Addr} {sl_law_own_cover : Array (Option Value)} {oc_law_own_cover kV_law_own_cover dc_law_own_cover pm_law_own_cover cd_law_own_cover ct_law_own_cover : Value}
    (a_law_own_cover : PySem.W.nsIn K mainGlobals "_law_own_cover" = some (some (.ref f_law_own_cover)))
    (l_law_own_cover : K.lookup f_law_own_cover = some ⟨oc_law_own_cover, od_law_own_cover, .func (PySem.W.fnOf "_law_own_cover" "_law_own_cover" (defArgs s_law_own_cover) (defBody s_law_own_cover) (defScope s_law_own_cover) .none kV_law_own_cover dc_law_own_cover pm_law_own_cover an_law_own_cover cd_law_own_cover ct_law_own_cover), sl_law_own_cover⟩) (c_law_own_cover : PySem.W.codeIn K cd_law_own_cover "_law_own_cover" = true) (k_law_own_cover : PySem.W.keepIn K (.ref f_law_own_cover) = true)
    {od_law an_law : Option Addr} {sl_law : Array (Option Value)} {oc_law kV_law dc_law pm_law cd_law ct_law : Value}
    (a_law : PySem.W.nsIn K mainGlobals "law" = some (some (.ref f_law)))
    (l_law : K.lookup f_law = some ⟨oc_law, od_law, .func (PySem.W.fnOf "law" "law" (defArgs s_law) (defBody s_law) (defScope s_law) .none kV_law dc_law pm_law an_law cd_law ct_law), sl_law⟩) (c_law : PySem.W.codeIn K cd_law "law" = true) (k_law : PySem.W.keepIn K (.ref f_law) = true)
    (z_len : PySem.W.nsIn K mainGlobals "len" = some none)
    (z_list : PySem.W.nsIn K mainGlobals "list" = some none)
    (z_isinstance : PySem.W.nsIn K mainGlobals "isinstance" = some none)
    (z_int : PySem.W.nsIn K mainGlobals "int" = some none)
    (z_bool : PySem.W.nsIn K mainGlobals "bool" = some none)
    (z_str : PySem.W.nsIn K mainGlobals "str" = some none)
    (z_tuple : PySem.W.nsIn K mainGlobals "tuple" = some none)
    (z_range : PySem.W.nsIn K mainGlobals "range" = some none)
    (z_sorted : PySem.W.nsIn K mainGlobals "sorted" = some none)
    (z_reversed : PySem.W.nsIn K mainGlobals "reversed" = some none)
    (z_any : PySem.W.nsIn K mainGlobals "any" = some none)
    (z_min : PySem.W.nsIn K mainGlobals "min" = some none)
    (z_max : PySem.W.nsIn K mainGlobals "max" = some none)
    (z_sum : PySem.W.nsIn K mainGlobals "sum" = some none)
    {t_FEW : Tok} (y_FEW : PySem.W.nsIn K mainGlobals "FEW" = some (some (.int 4 t_FEW)))
    {C_HouseError : Addr} (ga_HouseError : PySem.W.nsIn K mainGlobals "HouseError" = some (some (.ref C_HouseError))) (hb_HouseError : PySem.W.subIn K (.ref C_HouseError) (.type "BaseException") = some true) (hi_HouseError : PySem.W.isClsIn K C_HouseError = true) (ht_HouseError : PySem.W.typeIn K (.ref C_HouseError) = some (.type "type"))
    {C_Contrary : Addr} {nm_Contrary q_Contrary : Str} {N_Contrary : Addr} {bs_Contrary : List Value} {sn_Contrary : List Str} {sub_Contrary : List Value} {ab_Contrary : Bool} {col_Contrary : Option Bool} {dd_Contrary : Option Addr} {m0_Contrary m1_Contrary m2_Contrary m3_Contrary m5_Contrary : Option Value}
    (ga_Contrary : PySem.W.nsIn K mainGlobals "Contrary" = some (some (.ref C_Contrary))) (xl_Contrary : K.lookup C_Contrary = some (excClassObj nm_Contrary q_Contrary C_Contrary N_Contrary bs_Contrary [.ref C_HouseError, .type "ValueError", .type "Exception", .type "BaseException", .type "object"] true sn_Contrary sub_Contrary ab_Contrary col_Contrary dd_Contrary m0_Contrary m1_Contrary m2_Contrary m3_Contrary m5_Contrary "ValueError.__new__"))
    (hb_Contrary : PySem.W.subIn K (.ref C_Contrary) (.type "BaseException") = some true) (hi_Contrary : PySem.W.isClsIn K C_Contrary = true) (ht_Contrary : PySem.W.typeIn K (.ref C_Contrary) = some (.type "type")) (xk_Contrary : PySem.W.keepIn K (.ref C_Contrary) = true) (sa_Contrary : PySem.W.findIn K (.ref C_Contrary) "__setattr__" = some (some (.builtin "object.__setattr__")))
    (xg_Contrary : PySem.W.findIn K (.ref C_Contrary) "__getattribute__" = some (some (.builtin "BaseException.__getattribute__"))) (xh_Contrary : PySem.W.findIn K (.ref C_Contrary) "__getattr__" = some none) (xd_Contrary : PySem.W.hasDictIn K C_Contrary = true)
    (xo_Contrary : PySem.W.findIn K (.ref C_Contrary) "__class__" = some (some (.builtin "object.__class__"))) (xp_Contrary : PySem.W.specialIn K (.builtin "object.__class__") "__get__" = some (some (.builtin "getset_descriptor.__get__"))) (xq_Contrary : PySem.W.takesIn K (.builtin "object.__class__") = some true) (xr_Contrary : PySem.W.mroIn K C_Contrary (.type "object") = some true)
    (xi_Contrary : PySem.W.findIn K (.ref C_Contrary) "__init__" = some (some (.ref f_Contrary___init__))) (xj_Contrary : PySem.W.typeIn K (.ref f_Contrary___init__) = some (.type "function"))
    (nf_Contrary_upper : PySem.W.findIn K (.ref C_Contrary) "upper" = some none)
    (nf_Contrary_lower : PySem.W.findIn K (.ref C_Contrary) "lower" = some none)
    : ∃ fd : FuncData, (∀ (s : Shared) (v : Value), BindsTo s fd ⟨[v], []⟩ [("_law_script", v)]) ∧ ∀ base : Heap, K.In base → base.Ns mainGlobals mg → FnOk l.prog w K mg base CX0 6 fa fd ["_law_script"] (spLaw K) := by
  have e := hfa.symm.trans (PySem.W.mg_of X G a_law)
  cases e
  have F_Contrary___init__ := fun_mk (st := s_Contrary___init__) l_Contrary___init__ c_Contrary___init__ k_Contrary___init__
  have F_spans := fun_mk (st := s_spans) l_spans c_spans k_spans
  have D_spans : Df K mg "spans" s_spans ["shape"] _ _ := ⟨F_spans, F_spans.binds (ps := ["shape"]) fun _ _ _ _ _ _ us hl => match us, hl with | [_], _ => rfl, PySem.W.mg_of X G a_spans⟩
  have F_no_clash := fun_mk (st := s_no_clash) l_no_clash c_no_clash k_no_clash
  have D_no_clash : Df K mg "no_clash" s_no_clash ["rows", "answers"] _ _ := ⟨F_no_clash, F_no_clash.binds (ps := ["rows", "answers"]) fun _ _ _ _ _ _ us hl => match us, hl with | [_, _], _ => rfl, PySem.W.mg_of X G a_no_clash⟩
  have F_settled := fun_mk (st := s_settled) l_settled c_settled k_settled
  have D_settled : Df K mg "settled" s_settled ["shape", "answers"] _ _ := ⟨F_settled, F_settled.binds (ps := ["shape", "answers"]) fun _ _ _ _ _ _ us hl => match us, hl with | [_, _], _ => rfl, PySem.W.mg_of X G a_settled⟩
  have F_next_asks : FunD K "next_asks" "next_asks" (defArgs s_next_asks) (defBody s_next_asks) (defScope s_next_asks) [] [(("few" : Str), V.int 4)] f_next_asks _ := ⟨⟨_, _, _, _, _, _, _, _, _, _, rfl, l_next_asks, c_next_asks, .inl ⟨rfl, rfl⟩, .inr ⟨_, rfl, fun q hq => by
    have e : q = (("few" : Str), V.int 4) := by simpa using hq
    subst e
    exact ⟨_, kw_next_asks_few, ⟨_, rfl⟩⟩⟩⟩, k_next_asks⟩
  have D_next_asks : DfK K mg "next_asks" s_next_asks ["shape", "cover", "answers", "few"] [(("few" : Str), V.int 4)] [V.int 4] _ _ := ⟨F_next_asks, PySem.W.mg_of X G a_next_asks, k_next_asks, F_next_asks.binds0 (ps := ["shape", "cover", "answers", "few"]) 3 (by simp) rfl fun _ _ _ _ _ _ us ks hu hk => match us, ks, hu, hk with | [_, _, _], [_], _, _ => ⟨_, _, _, _, _, _, rfl, rfl, rfl⟩, by
    obtain ⟨mv, h⟩ := F_next_asks.kbinds0 (ps := ["shape", "cover", "answers", "few"]) 3 ["few"] [] (fun us _ ws => us ++ ws) (by simp) (by simp) (fun r1 _ r3 => r1.append r3) (fun _ _ _ _ _ _ us mv ws hu hm hw => match us, mv, ws, hu, hm, hw with | [_, _, _], [], [_], _, _, _ => rfl)
    exact ⟨_, h⟩⟩
  have F_must_ask := fun_mk (st := s_must_ask) l_must_ask c_must_ask k_must_ask
  have D_must_ask : Df K mg "must_ask" s_must_ask ["shape", "cover"] _ _ := ⟨F_must_ask, F_must_ask.binds (ps := ["shape", "cover"]) fun _ _ _ _ _ _ us hl => match us, hl with | [_, _], _ => rfl, PySem.W.mg_of X G a_must_ask⟩
  have F_give_way := fun_mk (st := s_give_way) l_give_way c_give_way k_give_way
  have D_give_way : Df K mg "give_way" s_give_way ["low", "came", "uppers", "lowers"] _ _ := ⟨F_give_way, F_give_way.binds (ps := ["low", "came", "uppers", "lowers"]) fun _ _ _ _ _ _ us hl => match us, hl with | [_, _, _, _], _ => rfl, PySem.W.mg_of X G a_give_way⟩
  have F_pair_up := fun_mk (st := s_pair_up) l_pair_up c_pair_up k_pair_up
  have D_pair_up : Df K mg "pair_up" s_pair_up ["version", "rows", "uppers", "lowers"] _ _ := ⟨F_pair_up, F_pair_up.binds (ps := ["version", "rows", "uppers", "lowers"]) fun _ _ _ _ _ _ us hl => match us, hl with | [_, _, _, _], _ => rfl, PySem.W.mg_of X G a_pair_up⟩
  have F_apart_of := fun_mk (st := s_apart_of) l_apart_of c_apart_of k_apart_of
  have D_apart_of : Df K mg "apart_of" s_apart_of ["versions", "rows", "uppers", "lowers"] _ _ := ⟨F_apart_of, F_apart_of.binds (ps := ["versions", "rows", "uppers", "lowers"]) fun _ _ _ _ _ _ us hl => match us, hl with | [_, _, _, _], _ => rfl, PySem.W.mg_of X G a_apart_of⟩
  have F_cover := fun_mk (st := s_cover) l_cover c_cover k_cover
  have D_cover : Df K mg "cover" s_cover ["shape"] _ _ := ⟨F_cover, F_cover.binds (ps := ["shape"]) fun _ _ _ _ _ _ us hl => match us, hl with | [_], _ => rfl, PySem.W.mg_of X G a_cover⟩
  have F_law_deck := fun_mk (st := s_law_deck) l_law_deck c_law_deck k_law_deck
  have D_law_deck : Df K mg "_law_deck" s_law_deck ["_law_script"] _ _ := ⟨F_law_deck, F_law_deck.binds (ps := ["_law_script"]) fun _ _ _ _ _ _ us hl => match us, hl with | [_], _ => rfl, PySem.W.mg_of X G a_law_deck⟩
  have F_law_mixed := fun_mk (st := s_law_mixed) l_law_mixed c_law_mixed k_law_mixed
  have D_law_mixed : Df K mg "_law_mixed" s_law_mixed ["_law_cell", "_law_turn"] _ _ := ⟨F_law_mixed, F_law_mixed.binds (ps := ["_law_cell", "_law_turn"]) fun _ _ _ _ _ _ us hl => match us, hl with | [_, _], _ => rfl, PySem.W.mg_of X G a_law_mixed⟩
  have F_law_draw := fun_mk (st := s_law_draw) l_law_draw c_law_draw k_law_draw
  have D_law_draw : Df K mg "_law_draw" s_law_draw ["_law_deck_here", "_law_many"] _ _ := ⟨F_law_draw, F_law_draw.binds (ps := ["_law_deck_here", "_law_many"]) fun _ _ _ _ _ _ us hl => match us, hl with | [_, _], _ => rfl, PySem.W.mg_of X G a_law_draw⟩
  have F_law_int := fun_mk (st := s_law_int) l_law_int c_law_int k_law_int
  have D_law_int : Df K mg "_law_int" s_law_int ["_law_thing"] _ _ := ⟨F_law_int, F_law_int.binds (ps := ["_law_thing"]) fun _ _ _ _ _ _ us hl => match us, hl with | [_], _ => rfl, PySem.W.mg_of X G a_law_int⟩
  have F_law_same := fun_mk (st := s_law_same) l_law_same c_law_same k_law_same
  have D_law_same : Df K mg "_law_same" s_law_same ["_law_found", "_law_due"] _ _ := ⟨F_law_same, F_law_same.binds (ps := ["_law_found", "_law_due"]) fun _ _ _ _ _ _ us hl => match us, hl with | [_, _], _ => rfl, PySem.W.mg_of X G a_law_same⟩
  have F_law_shape := fun_mk (st := s_law_shape) l_law_shape c_law_shape k_law_shape
  have D_law_shape : Df K mg "_law_shape" s_law_shape ["_law_deck_here", "_law_most"] _ _ := ⟨F_law_shape, F_law_shape.binds (ps := ["_law_deck_here", "_law_most"]) fun _ _ _ _ _ _ us hl => match us, hl with | [_, _], _ => rfl, PySem.W.mg_of X G a_law_shape⟩
  have F_law_spans := fun_mk (st := s_law_spans) l_law_spans c_law_spans k_law_spans
  have D_law_spans : Df K mg "_law_spans" s_law_spans ["_law_web"] _ _ := ⟨F_law_spans, F_law_spans.binds (ps := ["_law_web"]) fun _ _ _ _ _ _ us hl => match us, hl with | [_], _ => rfl, PySem.W.mg_of X G a_law_spans⟩
  have F_law_rising := fun_mk (st := s_law_rising) l_law_rising c_law_rising k_law_rising
  have D_law_rising : Df K mg "_law_rising" s_law_rising ["_law_thing"] _ _ := ⟨F_law_rising, F_law_rising.binds (ps := ["_law_thing"]) fun _ _ _ _ _ _ us hl => match us, hl with | [_], _ => rfl, PySem.W.mg_of X G a_law_rising⟩
  have F_law_is_cover := fun_mk (st := s_law_is_cover) l_law_is_cover c_law_is_cover k_law_is_cover
  have D_law_is_cover : Df K mg "_law_is_cover" s_law_is_cover ["_law_web", "_law_rows", "_law_thing"] _ _ := ⟨F_law_is_cover, F_law_is_cover.binds (ps := ["_law_web", "_law_rows", "_law_thing"]) fun _ _ _ _ _ _ us hl => match us, hl with | [_, _, _], _ => rfl, PySem.W.mg_of X G a_law_is_cover⟩
  have F_law_pair_up := fun_mk (st := s_law_pair_up) l_law_pair_up c_law_pair_up k_law_pair_up
  have D_law_pair_up : Df K mg "_law_pair_up" s_law_pair_up ["_law_deck_here", "_law_rows", "_law_ups", "_law_downs", "_law_one"] _ _ := ⟨F_law_pair_up, F_law_pair_up.binds (ps := ["_law_deck_here", "_law_rows", "_law_ups", "_law_downs", "_law_one"]) fun _ _ _ _ _ _ us hl => match us, hl with | [_, _, _, _, _], _ => rfl, PySem.W.mg_of X G a_law_pair_up⟩
  have F_law_high_apart := fun_mk (st := s_law_high_apart) l_law_high_apart c_law_high_apart k_law_high_apart
  have D_law_high_apart : Df K mg "_law_high_apart" s_law_high_apart ["_law_rows", "_law_ups", "_law_downs"] _ _ := ⟨F_law_high_apart, F_law_high_apart.binds (ps := ["_law_rows", "_law_ups", "_law_downs"]) fun _ _ _ _ _ _ us hl => match us, hl with | [_, _, _], _ => rfl, PySem.W.mg_of X G a_law_high_apart⟩
  have F_law_low_apart := fun_mk (st := s_law_low_apart) l_law_low_apart c_law_low_apart k_law_low_apart
  have D_law_low_apart : Df K mg "_law_low_apart" s_law_low_apart ["_law_rows", "_law_ups", "_law_downs"] _ _ := ⟨F_law_low_apart, F_law_low_apart.binds (ps := ["_law_rows", "_law_ups", "_law_downs"]) fun _ _ _ _ _ _ us hl => match us, hl with | [_, _, _], _ => rfl, PySem.W.mg_of X G a_law_low_apart⟩
  have F_law_own_cover := fun_mk (st := s_law_own_cover) l_law_own_cover c_law_own_cover k_law_own_cover
  have D_law_own_cover : Df K mg "_law_own_cover" s_law_own_cover ["_law_deck_here", "_law_rows"] _ _ := ⟨F_law_own_cover, F_law_own_cover.binds (ps := ["_law_deck_here", "_law_rows"]) fun _ _ _ _ _ _ us hl => match us, hl with | [_, _], _ => rfl, PySem.W.mg_of X G a_law_own_cover⟩
  have F_law := fun_mk (st := s_law) l_law c_law k_law
  have D_law : Df K mg "law" s_law ["_law_script"] _ _ := ⟨F_law, F_law.binds (ps := ["_law_script"]) fun _ _ _ _ _ _ us hl => match us, hl with | [_], _ => rfl, PySem.W.mg_of X G a_law⟩
  have X_Contrary : ExnI K mg "Contrary" C_Contrary f_Contrary___init__ _ ["self", "upper", "lower"] ["upper", "lower"] := ⟨PySem.W.mg_of X G ga_Contrary, ⟨⟨_, _, _, _, _, _, _, _, _, _, _, _, _, _, _, xl_Contrary, (show PySem.HandSPX.refsVE [.type "ValueError", .type "Exception", .type "BaseException", .type "object"] = true by decide +kernel)⟩, sa_Contrary, hb_Contrary, ht_Contrary, xk_Contrary⟩, xi_Contrary, xj_Contrary, F_Contrary___init__.binds (ps := ["self", "upper", "lower"]) fun _ _ _ _ _ _ us hl => match us, hl with | [_, _, _], _ => rfl, ⟨xg_Contrary, xh_Contrary, hb_Contrary, xd_Contrary⟩, ⟨xg_Contrary, xh_Contrary, hb_Contrary, xd_Contrary, xo_Contrary, xp_Contrary, xq_Contrary, xr_Contrary⟩, fun y hy => by
    rcases (by simpa using hy : y = "upper" ∨ y = "lower") with rfl | rfl
    · exact nf_Contrary_upper
    · exact nf_Contrary_lower⟩
  have T : Txt K mg := ⟨PySem.W.mg_none_of X G z_len, PySem.W.mg_none_of X G z_list, PySem.W.mg_none_of X G z_isinstance, PySem.W.mg_none_of X G z_int, PySem.W.mg_none_of X G z_bool, PySem.W.mg_none_of X G z_str, PySem.W.mg_none_of X G z_tuple, PySem.W.mg_none_of X G z_range, PySem.W.mg_none_of X G z_sorted, PySem.W.mg_none_of X G z_reversed, PySem.W.mg_none_of X G z_any, PySem.W.mg_none_of X G z_min, PySem.W.mg_none_of X G z_max, PySem.W.mg_none_of X G z_sum, ⟨_, PySem.W.mg_of X G y_FEW⟩⟩
  exact ⟨PySem.W.fnOf "law" "law" (defArgs s_law) (defBody s_law) (defScope s_law) .none kV_law dc_law pm_law an_law cd_law ct_law, fun s v => .of_eq rfl, fun base _ _ => ok_law T F_Contrary___init__ D_spans D_no_clash D_settled D_next_asks D_must_ask D_give_way D_pair_up D_apart_of D_cover D_law_deck D_law_mixed D_law_draw D_law_int D_law_same D_law_shape D_law_spans D_law_rising D_law_is_cover D_law_pair_up D_law_high_apart D_law_low_apart D_law_own_cover D_law X_Contrary (PySem.W.mg_of X G ga_HouseError)⟩
end FW
open PySem PySem.W PyProof.Rows
set_option maxRecDepth 100000 in
set_option maxHeartbeats 0 in
theorem PySem.Challenge.cw_fewasks_k25_whole_must_ask_holds : PySem.Challenge.rw_fewasks_k25_whole_must_ask.Holds := by
  w_on; o_law; k_head; (case hw => w_witness2)
  k_fill
  refine L2.walk_of (l := PySem.Challenge.rw_fewasks_k25_whole_must_ask) (n := 63) (k := 6) (x := "_law_script") (CX := fun _ => L2.CX0) (sp := fun w => FW.spLaw _) rfl (by decide) rfl ⟨rfl, by decide, by decide⟩ (fun w h Y => PySem.W.kIn_of Y) ?F (fun _ _ a ns hl _ hS => ⟨a, ns, rfl, hS, hl, fun _ => rfl⟩) (fun _ _ _ _ _ h => h)
  case F =>
    intro w mg fa h KX G hmg
    refine' FW.all_mk KX G hmg ?l_Contrary___init__ ?c_Contrary___init__ ?k_Contrary___init__ ?a_spans ?l_spans ?c_spans ?k_spans ?a_no_clash ?l_no_clash ?c_no_clash ?k_no_clash ?a_settled ?l_settled ?c_settled ?k_settled ?a_next_asks ?l_next_asks ?c_next_asks ?k_next_asks ?kw_next_asks_few ?a_must_ask ?l_must_ask ?c_must_ask ?k_must_ask ?a_give_way ?l_give_way ?c_give_way ?k_give_way ?a_pair_up ?l_pair_up ?c_pair_up ?k_pair_up ?a_apart_of ?l_apart_of ?c_apart_of ?k_apart_of ?a_cover ?l_cover ?c_cover ?k_cover ?a_law_deck ?l_law_deck ?c_law_deck ?k_law_deck ?a_law_mixed ?l_law_mixed ?c_law_mixed ?k_law_mixed ?a_law_draw ?l_law_draw ?c_law_draw ?k_law_draw ?a_law_int ?l_law_int ?c_law_int ?k_law_int ?a_law_same ?l_law_same ?c_law_same ?k_law_same ?a_law_shape ?l_law_shape ?c_law_shape ?k_law_shape ?a_law_spans ?l_law_spans ?c_law_spans ?k_law_spans ?a_law_rising ?l_law_rising ?c_law_rising ?k_law_rising ?a_law_is_cover ?l_law_is_cover ?c_law_is_cover ?k_law_is_cover ?a_law_pair_up ?l_law_pair_up ?c_law_pair_up ?k_law_pair_up ?a_law_high_apart ?l_law_high_apart ?c_law_high_apart ?k_law_high_apart ?a_law_low_apart ?l_law_low_apart ?c_law_low_apart ?k_law_low_apart ?a_law_own_cover ?l_law_own_cover ?c_law_own_cover ?k_law_own_cover ?a_law ?l_law ?c_law ?k_law ?z_len ?z_list ?z_isinstance ?z_int ?z_bool ?z_str ?z_tuple ?z_range ?z_sorted ?z_reversed ?z_any ?z_min ?z_max ?z_sum ?y_FEW ?ga_HouseError ?hb_HouseError ?hi_HouseError ?ht_HouseError ?ga_Contrary ?xl_Contrary ?hb_Contrary ?hi_Contrary ?ht_Contrary ?xk_Contrary ?sa_Contrary ?xg_Contrary ?xh_Contrary ?xd_Contrary ?xo_Contrary ?xp_Contrary ?xq_Contrary ?xr_Contrary ?xi_Contrary ?xj_Contrary ?nf_Contrary_upper ?nf_Contrary_lower
    (case ga_Contrary => k_is); (case xi_Contrary => k_is); (case l_Contrary___init__ => k_is); (case c_Contrary___init__ => k_is); (case k_Contrary___init__ => k_is); (case a_spans => k_is); (case l_spans => k_is); (case c_spans => k_is); (case k_spans => k_is); (case a_no_clash => k_is); (case l_no_clash => k_is); (case c_no_clash => k_is); (case k_no_clash => k_is); (case a_settled => k_is); (case l_settled => k_is); (case c_settled => k_is); (case k_settled => k_is); (case a_next_asks => k_is); (case l_next_asks => k_is); (case c_next_asks => k_is); (case k_next_asks => k_is); (case kw_next_asks_few => k_is); (case a_must_ask => k_is); (case l_must_ask => k_is); (case c_must_ask => k_is); (case k_must_ask => k_is); (case a_give_way => k_is); (case l_give_way => k_is); (case c_give_way => k_is); (case k_give_way => k_is); (case a_pair_up => k_is); (case l_pair_up => k_is); (case c_pair_up => k_is); (case k_pair_up => k_is); (case a_apart_of => k_is); (case l_apart_of => k_is); (case c_apart_of => k_is); (case k_apart_of => k_is); (case a_cover => k_is); (case l_cover => k_is); (case c_cover => k_is); (case k_cover => k_is); (case a_law_deck => k_is); (case l_law_deck => k_is); (case c_law_deck => k_is); (case k_law_deck => k_is); (case a_law_mixed => k_is); (case l_law_mixed => k_is); (case c_law_mixed => k_is); (case k_law_mixed => k_is); (case a_law_draw => k_is); (case l_law_draw => k_is); (case c_law_draw => k_is); (case k_law_draw => k_is); (case a_law_int => k_is); (case l_law_int => k_is); (case c_law_int => k_is); (case k_law_int => k_is); (case a_law_same => k_is); (case l_law_same => k_is); (case c_law_same => k_is); (case k_law_same => k_is); (case a_law_shape => k_is); (case l_law_shape => k_is); (case c_law_shape => k_is); (case k_law_shape => k_is); (case a_law_spans => k_is); (case l_law_spans => k_is); (case c_law_spans => k_is); (case k_law_spans => k_is); (case a_law_rising => k_is); (case l_law_rising => k_is); (case c_law_rising => k_is); (case k_law_rising => k_is); (case a_law_is_cover => k_is); (case l_law_is_cover => k_is); (case c_law_is_cover => k_is); (case k_law_is_cover => k_is); (case a_law_pair_up => k_is); (case l_law_pair_up => k_is); (case c_law_pair_up => k_is); (case k_law_pair_up => k_is); (case a_law_high_apart => k_is); (case l_law_high_apart => k_is); (case c_law_high_apart => k_is); (case k_law_high_apart => k_is); (case a_law_low_apart => k_is); (case l_law_low_apart => k_is); (case c_law_low_apart => k_is); (case k_law_low_apart => k_is); (case a_law_own_cover => k_is); (case l_law_own_cover => k_is); (case c_law_own_cover => k_is); (case k_law_own_cover => k_is); (case a_law => k_is); (case l_law => k_is); (case c_law => k_is); (case k_law => k_is); (case z_len => k_is); (case z_list => k_is); (case z_isinstance => k_is); (case z_int => k_is); (case z_bool => k_is); (case z_str => k_is); (case z_tuple => k_is); (case z_range => k_is); (case z_sorted => k_is); (case z_reversed => k_is); (case z_any => k_is); (case z_min => k_is); (case z_max => k_is); (case z_sum => k_is); (case y_FEW => k_is); (case ga_HouseError => k_is); (case hb_HouseError => k_is); (case hi_HouseError => k_is); (case ht_HouseError => k_is); (case xl_Contrary => k_is); (case hb_Contrary => k_is); (case hi_Contrary => k_is); (case ht_Contrary => k_is); (case xk_Contrary => k_is); (case sa_Contrary => k_is); (case xg_Contrary => k_is); (case xh_Contrary => k_is); (case xd_Contrary => k_is); (case xo_Contrary => k_is); (case xp_Contrary => k_is); (case xq_Contrary => k_is); (case xr_Contrary => k_is); (case xj_Contrary => k_is); (case nf_Contrary_upper => k_is); (case nf_Contrary_lower => k_is)

