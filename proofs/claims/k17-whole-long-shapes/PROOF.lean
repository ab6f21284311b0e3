import PyProof.Rows.All
import Wide.All
import OpenK.AllK
import Wide.FinOn
import HandS.ForMost
import HandS.Wide
import HandS.WideBits
import HandS.Conv
import HandS.IsInst
import HandS.Walk
import HandS.TupLe
import HandS.TupAny
import HandS.DictComp
import HandS.SetKeys
import HandS.ForExc
import HandS.ExcIs
import HandS.ExcInit
import HandS.ExcField
import HandS.Defaults
import HandS.CallSlots
import HandS.MakeKwOnly
import KE.DatumOrd
import PyProof.Claim2Refuses
import HandS.SortInts
import HandS.Zip
import PySem.Challenge.RW_fewasks_k17_whole_long_shapes
set_option Elab.async false
set_option linter.all false
set_option maxRecDepth 100000
/-! My own small words over the layer: steps of readings as lemmas, heaps that keep. -/
namespace FW
open PySem L2
/-! ### heaps -/
/-- all that stood stands, but at the addresses M -/
def Kp (M : List Addr) (H H' : Hp) : Prop := ∀ b o, b ∉ M → H b = some o → H' b = some o
theorem Kp.refl {M : List Addr} {H : Hp} : Kp M H H := fun _ _ _ h => h
theorem Kp.trans {M : List Addr} {H H1 H2 : Hp} (a : Kp M H H1) (b : Kp M H1 H2) : Kp M H H2 := fun c o n h => b c o n (a c o n h)
theorem Kp.mono {M N : List Addr} {H H1 : Hp} (a : Kp M H H1) (s : ∀ x ∈ M, x ∈ N) : Kp N H H1 := fun c o n h => a c o (fun z => n (s c z)) h
theorem Kp.same {H H1 : Hp} (a : Kp [] H H1) : Same H H1 := fun c o h => a c o (by simp) h
theorem Kp.of {M : List Addr} {H H1 : Hp} (a : Same H H1) : Kp M H H1 := fun c o _ h => a c o h
theorem Kp.new {M : List Addr} {H : Hp} {p : Addr} {o : HO} (h : H p = none) : Kp M H (upd H p o) := fun b u _ e => by rw [upd_ne (ne_of_none e h)]; exact e
theorem Kp.mut {M : List Addr} {H : Hp} {p : Addr} {o : HO} (h : p ∈ M) : Kp M H (upd H p o) := fun b u n e => by
  rw [upd_ne (show b ≠ p from fun z => n (by rw [z]; exact h))]; exact e
/-- a new object that was mutated or laid since: it stood not at the start -/
theorem Kp.mutN {M : List Addr} {H H1 : Hp} {p : Addr} {o : HO} (k : Kp M H H1) (h : H p = none) : Kp M H (upd H1 p o) := fun b u n e => by
  rw [upd_ne (ne_of_none e h)]; exact k b u n e
theorem Same.new {H : Hp} {p : Addr} {o : HO} (h : H p = none) : Same H (upd H p o) := fun b u e => by rw [upd_ne (ne_of_none e h)]; exact e
theorem nofree {M : List Addr} {H H1 : Hp} {p : Addr} (k : Kp M H H1) (hM : p ∉ M) (h : H1 p = none) : H p = none := by
  cases e : H p with
  | none => rfl
  | some o => rw [k p o hM e] at h; cases h
theorem Kp.seqL {M : List Addr} {K : PySem.W.Frag} {H H' : Hp} {a : Addr} {xs : List V} (k : Kp M H H') (hM : a ∉ M) (h : SqL K H a xs) : SqL K H' a xs := by
  rcases h with (h | ⟨o, h⟩) | h
  · exact .inl (.inl (k _ _ hM h))
  · exact .inl (.inr ⟨o, k _ _ hM h⟩)
  · exact .inr h
theorem Kp.seqT {M : List Addr} {K : PySem.W.Frag} {H H' : Hp} {a : Addr} {xs : List V} (k : Kp M H H') (hM : a ∉ M) (h : SqT K H a xs) : SqT K H' a xs := by
  rcases h with (h | ⟨o, h⟩) | h
  · exact .inl (.inl (k _ _ hM h))
  · exact .inl (.inr ⟨o, k _ _ hM h⟩)
  · exact .inr h
theorem upd_get {H : Hp} {a b : Addr} {o u : HO} (h : b ≠ a) (e : H b = some u) : upd H a o b = some u := by rw [upd_ne h]; exact e
theorem upd_new {H : Hp} {a b : Addr} {o u : HO} (h : H a = none) (e : H b = some u) : upd H a o b = some u := upd_get (ne_of_none e h) e
theorem upd_none {H : Hp} {a b : Addr} {o : HO} (e : upd H a o b = none) : H b = none ∧ b ≠ a := by
  by_cases h : b = a
  · subst h; rw [upd_same] at e; cases e
  · rw [upd_ne h] at e; exact ⟨e, h⟩
/-- all but p is as it was -/
def Off (p : Addr) (H H' : Hp) : Prop := ∀ b, b ≠ p → H' b = H b
theorem Off.get {p b : Addr} {H H' : Hp} {o : HO} (k : Off p H H') (n : b ≠ p) (e : H b = some o) : H' b = some o := (k b n).trans e
theorem Off.kp {p : Addr} {M : List Addr} {H H' : Hp} (k : Off p H H') (m : p ∈ M) : Kp M H H' := fun b o n e => (k b (fun z => n (by rw [z]; exact m))).trans e
theorem Off.trans {p : Addr} {H H1 H2 : Hp} (a : Off p H H1) (b : Off p H1 H2) : Off p H H2 := fun x n => (b x n).trans (a x n)
theorem Off.keep {p : Addr} {M : List Addr} {H H1 H2 : Hp} (a : Kp M H H1) (b : Off p H1 H2) (n : H p = none) : Kp M H H2 := fun x o m e => (b x (ne_of_none e n)).trans (a x o m e)
/-- a list's change keeps the tuples -/
theorem Off.tup {p b : Addr} {H H' : Hp} {xs ys : List V} (k : Off p H H') (hp : H p = some (.lst xs)) (e : H b = some (.tup ys)) : H' b = some (.tup ys) := k.get (ne_of e hp (fun z => nomatch z)) e
/-- what keeps the tuples -/
def KT (H H' : Hp) : Prop := ∀ b xs, H b = some (.tup xs) → H' b = some (.tup xs)
theorem KT.refl {H : Hp} : KT H H := fun _ _ e => e
theorem KT.of {H H' : Hp} (k : Same H H') : KT H H' := fun b xs e => k _ _ e
theorem KT.off {p : Addr} {H H' : Hp} {xs : List V} (k : Off p H H') (e : H p = some (.lst xs)) : KT H H' := fun b ys e2 => k.tup e e2
theorem KT.trans {H H1 H2 : Hp} (a : KT H H1) (b : KT H1 H2) : KT H H2 := fun c xs e => b c xs (a c xs e)
theorem KT.kp {M : List Addr} {H H' : Hp} (k : Kp M H H') (h : ∀ b ∈ M, ∃ xs, H b = some (.lst xs)) : KT H H' := fun b ys e => k b _ (fun z => by
  obtain ⟨xs, e2⟩ := h b z
  rw [e] at e2; cases e2) e
theorem KT.upd {H H1 : Hp} {D : Addr} {o : HO} (k : KT H H1) (h : H D = none) : KT H (upd H1 D o) := fun b xs e => by rw [upd_ne (ne_of_none e h)]; exact k b xs e
theorem KT.updL {H : Hp} {D : Addr} {o : HO} {ys : List V} (h : H D = some (.lst ys)) : KT H (L2.upd H D o) := fun b xs e => upd_get (ne_of e h (fun z => nomatch z)) e
/-! ### rules by names -/
/-- a new object o -/
def Nw (o : HO) (H : Hp) (Q : VK) : Prop := ∀ p, H p = none → Q (.ref p) (upd H p o)
def rLen (K : PySem.W.Frag) : List V → Hp → VK → Prop := fun xs H Q => ∃ p ys, xs = [.ref p] ∧ (SqL K H p ys ∨ SqT K H p ys) ∧ Q (.int ys.length) H
def rMin2 : List V → Hp → VK → Prop := fun xs H Q => ∃ i j, xs = [.int i, .int j] ∧ Q (.int (if j < i then j else i)) H
def rMax2 : List V → Hp → VK → Prop := fun xs H Q => ∃ i j, xs = [.int i, .int j] ∧ Q (.int (if j > i then j else i)) H
def rListOf (K : PySem.W.Frag) : List V → Hp → VK → Prop := fun xs H Q => ∃ p ys, xs = [.ref p] ∧ (SqL K H p ys ∨ SqT K H p ys) ∧ ∀ l, H l = none → Q (.ref l) (upd H l (.lst ys))
def rTupOf (K : PySem.W.Frag) : List V → Hp → VK → Prop := fun xs H Q => ∃ p ys, xs = [.ref p] ∧ ((SqL K H p ys ∧ ∀ l, H l = none → Q (.ref l) (upd H l (.tup ys))) ∨ (SqT K H p ys ∧ Q (.ref p) H))
def rRg2 (x y : V) (H : Hp) (R : Int → Int → Hp → Prop) : Prop := ∃ i j, x = .int i ∧ y = .int j ∧ R i j H
def rBits (x : V) (H : Hp) (Q : VK) : Prop := ∃ i, x = .int i ∧ Q (.int (Builtin.Int.intBits i : Nat)) H
def rRng1 (vs : List V) (H : Hp) (R : It → Hp → Prop) : Prop := ∃ j : Int, vs = [.int j] ∧ -(2 ^ 62) ≤ j ∧ j < 2 ^ 62 ∧ R (Itr 0 j.toNat) H
def rRng2 (vs : List V) (H : Hp) (R : It → Hp → Prop) : Prop := ∃ i j : Int, vs = [.int i, .int j] ∧ (-(2 ^ 62) ≤ i ∧ i < 2 ^ 62 ∧ -(2 ^ 62) ≤ j ∧ j < 2 ^ 62) ∧ R (Itr i (j - i).toNat) H
def rItL (K : PySem.W.Frag) (x : V) (H : Hp) (R : It → Hp → Prop) : Prop := ∃ a, x = .ref a ∧ (∃ xs, SqL K H a xs) ∧ R (Itl K a) H
def rItT (K : PySem.W.Frag) (x : V) (H : Hp) (R : It → Hp → Prop) : Prop := ∃ a, x = .ref a ∧ (∃ xs, SqT K H a xs) ∧ R (Itt K a) H
def rDIn (x y : V) (H : Hp) (Q : VK) : Prop := ∃ a o, x = .ref a ∧ DGet H a y o ∧ Q (.bl o.isSome) H
def rDNotIn (x y : V) (H : Hp) (Q : VK) : Prop := ∃ a o, x = .ref a ∧ DGet H a y o ∧ Q (.bl (!o.isSome)) H
def rDGet (x y : V) (H : Hp) (Q : VK) : Prop := ∃ a v, x = .ref a ∧ DGet H a y (some v) ∧ Q v H
def rDGet2 (a : Addr) (y z : V) (H : Hp) (Q : VK) : Prop := ∃ o, DGet H a y o ∧ Q (o.getD z) H
def rDPut (x y v : V) (H : Hp) (R : Hp → Prop) : Prop := ∃ a H4, x = .ref a ∧ DPut H a y v H4 ∧ R H4
def rDSetd (a : Addr) (y z : V) (H : Hp) (Q : VK) : Prop := ∃ (kvs : List (Key × V)) (k : Key), H a = some (.dK kvs) ∧ y = kV k ∧ kvs.length < sizeLine ∧ (∀ v, valV kvs k = some v → Q v H) ∧ (valV kvs k = none → Q z (upd H a (.dK (putK kvs k z))))
def rIsD (x : V) (H : Hp) (R : Addr → Hp → Prop) : Prop := ∃ a, x = .ref a ∧ IsD H a ∧ R a H
def rIsBl : R2 := fun x y H Q => ∃ a b, x = .bl a ∧ y = .bl b ∧ Q (.bl (decide (a = b))) H
def rIsNon : R2 := fun x y H Q => y = .non ∧ Q (.bl (decide (x = .non))) H
def rNotNon : R2 := fun x y H Q => y = .non ∧ Q (.bl (!decide (x = .non))) H
def rTru (K : PySem.W.Frag) (x : V) (H : Hp) (R : Bool → Hp → Prop) : Prop := ∃ k, TruV K x H k ∧ R k H
def tTru (K : PySem.W.Frag) (ta : TE) : TT := fun σ H R => ta σ H fun x H' => ∃ k, TruV K x H' k ∧ R k H'
def rSortD (xs : List V) (H : Hp) (Q : VK) : Prop := ∃ (a : Addr) (kvs : List (Key × V)) (ks : List Int), xs = [.ref a] ∧ Rd H a (.dK kvs) ∧ kvs.map (·.1) = ks.map Sum.inl ∧ ks.length < 64 ∧
    ∀ (ys : List Int) (p : Addr), ys.Perm ks → ys.Pairwise (· ≤ ·) → H p = none → Q (.ref p) (upd H p (.lst (ys.map V.int)))
section
variable {X : Cx}
theorem o_isB : OpR X (compareOp .Is) rIsBl := op_is_bl
theorem o_isN : OpR X (compareOp .Is) rIsNon := op_isN
theorem o_notN : OpR X (compareOp .IsNot) rNotNon := op_notN
theorem p_truth {a : Expr} {ta : TE} (ha : PE X a ta) (he : ∀ whole, isTrue a X.env whole = (do let v ← whole; standAt a.pos; holding [v] (truthy v))) : PT X a (tTru X.K ta) := pt_truth ha he
theorem c_sortD (hc : X.calm = true) : CallR X (.builtin "sorted") rSortD := call_sortedDI hc
theorem c_len : CallR X (.builtin "len") (rLen X.K) := call_len_seq
theorem c_min2 (hc : X.calm = true) : CallR X (.builtin "min") rMin2 := call_min2 hc
theorem c_max2 (hc : X.calm = true) : CallR X (.builtin "max") rMax2 := call_max2 hc
theorem c_listOf : CallR X (.type "list") (rListOf X.K) := call_list_of
theorem c_tupOf : CallR X (.type "tuple") (rTupOf X.K) := call_tuple_of
end
theorem kb_int_int : kitB "int" "int" = some true := by decide +kernel
theorem kb_int_bool : kitB "int" "bool" = some false := by decide +kernel
theorem kb_int_str : kitB "int" "str" = some false := by decide +kernel
theorem kb_int_tuple : kitB "int" "tuple" = some false := by decide +kernel
theorem kb_int_list : kitB "int" "list" = some false := by decide +kernel
theorem kb_int_dict : kitB "int" "dict" = some false := by decide +kernel
theorem kb_bool_int : kitB "bool" "int" = some true := by decide +kernel
theorem kb_bool_bool : kitB "bool" "bool" = some true := by decide +kernel
theorem kb_bool_str : kitB "bool" "str" = some false := by decide +kernel
theorem kb_bool_tuple : kitB "bool" "tuple" = some false := by decide +kernel
theorem kb_bool_list : kitB "bool" "list" = some false := by decide +kernel
theorem kb_bool_dict : kitB "bool" "dict" = some false := by decide +kernel
theorem kb_str_int : kitB "str" "int" = some false := by decide +kernel
theorem kb_str_bool : kitB "str" "bool" = some false := by decide +kernel
theorem kb_str_str : kitB "str" "str" = some true := by decide +kernel
theorem kb_str_tuple : kitB "str" "tuple" = some false := by decide +kernel
theorem kb_str_list : kitB "str" "list" = some false := by decide +kernel
theorem kb_str_dict : kitB "str" "dict" = some false := by decide +kernel
theorem kb_tuple_int : kitB "tuple" "int" = some false := by decide +kernel
theorem kb_tuple_bool : kitB "tuple" "bool" = some false := by decide +kernel
theorem kb_tuple_str : kitB "tuple" "str" = some false := by decide +kernel
theorem kb_tuple_tuple : kitB "tuple" "tuple" = some true := by decide +kernel
theorem kb_tuple_list : kitB "tuple" "list" = some false := by decide +kernel
theorem kb_tuple_dict : kitB "tuple" "dict" = some false := by decide +kernel
theorem kb_list_int : kitB "list" "int" = some false := by decide +kernel
theorem kb_list_bool : kitB "list" "bool" = some false := by decide +kernel
theorem kb_list_str : kitB "list" "str" = some false := by decide +kernel
theorem kb_list_tuple : kitB "list" "tuple" = some false := by decide +kernel
theorem kb_list_list : kitB "list" "list" = some true := by decide +kernel
theorem kb_list_dict : kitB "list" "dict" = some false := by decide +kernel
theorem kb_dict_int : kitB "dict" "int" = some false := by decide +kernel
theorem kb_dict_bool : kitB "dict" "bool" = some false := by decide +kernel
theorem kb_dict_str : kitB "dict" "str" = some false := by decide +kernel
theorem kb_dict_tuple : kitB "dict" "tuple" = some false := by decide +kernel
theorem kb_dict_list : kitB "dict" "list" = some false := by decide +kernel
theorem kb_dict_dict : kitB "dict" "dict" = some true := by decide +kernel
theorem kb_NoneType_int : kitB "NoneType" "int" = some false := by decide +kernel
theorem kb_NoneType_bool : kitB "NoneType" "bool" = some false := by decide +kernel
theorem kb_NoneType_str : kitB "NoneType" "str" = some false := by decide +kernel
theorem kb_NoneType_tuple : kitB "NoneType" "tuple" = some false := by decide +kernel
theorem kb_NoneType_list : kitB "NoneType" "list" = some false := by decide +kernel
theorem kb_NoneType_dict : kitB "NoneType" "dict" = some false := by decide +kernel
/-! ### steps -/
section
variable {K : PySem.W.Frag} {σ : St} {H : Hp} {Q : VK} {nx bk ct : St → Hp → Prop} {rt : VK} {v : V}
theorem w_seq {t u : TS} (h : t ⟨u ⟨nx, rt, bk, ct⟩, rt, bk, ct⟩ σ H) : tSeq t u ⟨nx, rt, bk, ct⟩ σ H := h
theorem w_seqA {te : TE} {g : TG} {u : TS} (h : te σ H fun x H1 => g x σ H1 (u ⟨nx, rt, bk, ct⟩)) : tSeq (tAsg te g) u ⟨nx, rt, bk, ct⟩ σ H := h
theorem w_seqD {te : TE} {u : TS} (h : te σ H fun _ H1 => u ⟨nx, rt, bk, ct⟩ σ H1) : tSeq (tDrop te) u ⟨nx, rt, bk, ct⟩ σ H := h
theorem w_seqF {wi : TI} {g : TG} {tb u : TS} (h : tFor wi g tb ⟨u ⟨nx, rt, bk, ct⟩, rt, bk, ct⟩ σ H) : tSeq (tFor wi g tb) u ⟨nx, rt, bk, ct⟩ σ H := h
theorem w_seqW {c : TT} {tb u : TS} (h : tWhile c tb ⟨u ⟨nx, rt, bk, ct⟩, rt, bk, ct⟩ σ H) : tSeq (tWhile c tb) u ⟨nx, rt, bk, ct⟩ σ H := h
theorem w_seqG {i : Nat} {te : TE} {ti : TIp} {u : TS} (h : tAug i te ti ⟨u ⟨nx, rt, bk, ct⟩, rt, bk, ct⟩ σ H) : tSeq (tAug i te ti) u ⟨nx, rt, bk, ct⟩ σ H := h
/-- a statement whose ways meet: what follows is taken as U, of which R is enough -/
theorem w_seqJ {t u : TS} (R : St → Hp → Prop) (h2 : ∀ σ' H', R σ' H' → u ⟨nx, rt, bk, ct⟩ σ' H') (h1 : ∀ U : St → Hp → Prop, (∀ σ' H', R σ' H' → U σ' H') → t ⟨U, rt, bk, ct⟩ σ H) : tSeq t u ⟨nx, rt, bk, ct⟩ σ H := h1 _ h2
theorem w_var {i : Nat} (e : σ[i]? = some (some v)) (h : Q v H) : tVar i σ H Q := ⟨v, e, h⟩
theorem w_c (h : Q v H) : tC v σ H Q := h
theorem w_asg {te : TE} {g : TG} (h : te σ H fun x H1 => g x σ H1 nx) : tAsg te g ⟨nx, rt, bk, ct⟩ σ H := h
theorem w_name {i : Nat} {R : St → Hp → Prop} (h : R (σ.set i (some v)) H) : gName i v σ H R := h
theorem w_op {r : R2} {ta tb : TE} (h : ta σ H fun x H1 => tb σ H1 fun y H2 => r x y H2 Q) : tOp r ta tb σ H Q := h
theorem w_un {r : V → Hp → VK → Prop} {ta : TE} (h : ta σ H fun x H1 => r x H1 Q) : tUn r ta σ H Q := h
theorem w_neg {i : Int} (h : Q (.int (-i)) H) : rU (fun i => .int (-i)) (.int i) H Q := ⟨i, rfl, h⟩
theorem w_i {C : Int → Int → Prop} {g : Int → Int → V} {i j : Int} (c : C i j) (h : Q (g i j) H) : rI C g (.int i) (.int j) H Q := ⟨i, j, rfl, rfl, c, h⟩
theorem w_i0 {g : Int → Int → V} {i j : Int} (h : Q (g i j) H) : rI0 g (.int i) (.int j) H Q := ⟨i, j, rfl, rfl, h⟩
theorem w_eqI {i j : Int} (h : Q (.bl (decide (i = j))) H) : rEq (.int i) (.int j) H Q := ⟨rfl, by
  have e : decide (V.int i = V.int j) = decide (i = j) := by
    by_cases q : i = j
    · subst q; rw [decide_eq_true rfl, decide_eq_true rfl]
    · rw [decide_eq_false q, decide_eq_false (fun z => q (V.int.inj z))]
  rw [e]; exact h⟩
theorem w_neI {i j : Int} (h : Q (.bl (!decide (i = j))) H) : rNe (.int i) (.int j) H Q := ⟨rfl, by
  have e : decide (V.int i = V.int j) = decide (i = j) := by
    by_cases q : i = j
    · subst q; rw [decide_eq_true rfl, decide_eq_true rfl]
    · rw [decide_eq_false q, decide_eq_false (fun z => q (V.int.inj z))]
  rw [e]; exact h⟩
theorem w_ixL {p : Addr} {xs : List V} {i : Int} (h1 : SqL K H p xs) (h2 : atI xs i = some v) (h : Q v H) : rIxL K (.ref p) (.int i) H Q := ⟨p, xs, i, v, rfl, rfl, h1, h2, h⟩
theorem w_ixT {p : Addr} {xs : List V} {i : Int} (h1 : SqT K H p xs) (h2 : atI xs i = some v) (h : Q v H) : rIxT K (.ref p) (.int i) H Q := ⟨p, xs, i, v, rfl, rfl, h1, h2, h⟩
theorem w_ixSL {p : Addr} {xs : List V} {i : Int} (h1 : SqL K H p xs) (h2 : atI xs i = some v) (h : Q v H) : rIx K (.ref p) (.int i) H Q := .inl ⟨p, xs, i, v, rfl, rfl, h1, h2, h⟩
theorem w_ixST {p : Addr} {xs : List V} {i : Int} (h1 : SqT K H p xs) (h2 : atI xs i = some v) (h : Q v H) : rIx K (.ref p) (.int i) H Q := .inr (.inl ⟨p, xs, i, v, rfl, rfl, h1, h2, h⟩)
theorem w_neB {x y : Bool} (h : Q (.bl (!decide (x = y))) H) : rNe (.bl x) (.bl y) H Q := ⟨rfl, by
  have e : decide (V.bl x = V.bl y) = decide (x = y) := by
    by_cases q : x = y
    · subst q; rw [decide_eq_true rfl, decide_eq_true rfl]
    · rw [decide_eq_false q, decide_eq_false (fun z => q (V.bl.inj z))]
  rw [e]; exact h⟩
theorem w_eqN (h : Q (.bl true) H) : rEq .non .non H Q := ⟨rfl, h⟩
theorem w_popAt {l : Addr} {xs : List V} {i : Int} {k : Nat} {y : V} (h1 : H l = some (.lst xs)) (h2 : -(2 ^ 63) ≤ i) (h3 : i < 2 ^ 63) (h4 : seqIndex? i xs.length = some k) (h5 : xs[k]? = some y) (h : ∀ H1, H1 l = some (.lst (xs.eraseIdx k)) → Off l H H1 → Q y H1) : rPopAt (.ref l) [.int i] H Q :=
  ⟨l, xs, i, k, y, rfl, rfl, h1, h2, h3, h4, h5, h _ upd_same fun x hx => upd_ne hx⟩
theorem w_sub {to ti : TE} {t : TSet} {R : St → Hp → Prop} (h : to σ H fun o H1 => ti σ H1 fun i H2 => t o i v H2 fun H3 => R σ H3) : gSub to ti t v σ H R := h
theorem w_setL {p : Addr} {xs ys : List V} {k : Int} {j : Nat} {R : Hp → Prop} (h1 : H p = some (.lst xs)) (h2 : ixN xs.length k = some j) (e : xs.set j v = ys) (h : ∀ H1, H1 p = some (.lst ys) → Off p H H1 → R H1) : rSetL (.ref p) (.int k) v H R :=
  ⟨p, xs, k, j, rfl, rfl, h1, h2, by rw [e]; exact h _ upd_same fun x hx => upd_ne hx⟩
theorem w_if {c : TT} {t u : TS} (h : c σ H fun b H1 => if b = true then t ⟨nx, rt, bk, ct⟩ σ H1 else u ⟨nx, rt, bk, ct⟩ σ H1) : tIfS c t u ⟨nx, rt, bk, ct⟩ σ H := h
theorem w_test {t : TE} {R : Bool → Hp → Prop} (h : t σ H fun x H' => ∃ k, x = .bl k ∧ R k H') : tTest t σ H R := h
theorem w_tb {t : TE} {R : Bool → Hp → Prop} (h : t σ H fun x H' => ∃ k, x = .bl k ∧ R k H') : tB t σ H R := h
theorem w_bl {b : Bool} {R : Bool → Prop} (h : R b) : ∃ k, V.bl b = .bl k ∧ R k := ⟨b, rfl, h⟩
theorem w_and {t u : TT} {R : Bool → Hp → Prop} (h : t σ H fun c H1 => if c = true then u σ H1 R else R false H1) : tAnd t u σ H R := h
theorem w_or {t u : TT} {R : Bool → Hp → Prop} (h : t σ H fun c H1 => if c = true then R true H1 else u σ H1 R) : tOr t u σ H R := h
theorem w_not {t : TT} {R : Bool → Hp → Prop} (h : t σ H fun c H1 => R (!c) H1) : tNot t σ H R := h
theorem w_andV {ta tb : TE} (h : ta σ H fun x H1 => ∃ c, x = .bl c ∧ if c = true then tb σ H1 Q else Q (.bl false) H1) : tAndV ta tb σ H Q := h
theorem w_orV {ta tb : TE} (h : ta σ H fun x H1 => ∃ c, x = .bl c ∧ if c = true then Q (.bl true) H1 else tb σ H1 Q) : tOrV ta tb σ H Q := h
theorem w_notV {ta : TE} (h : ta σ H fun x H1 => ∃ c, x = .bl c ∧ Q (.bl (!c)) H1) : tNotV ta σ H Q := h
theorem w_ite {p : Prop} {inst : Decidable p} {A B : Prop} (h1 : p → A) (h2 : ¬ p → B) : if decide p = true then A else B := by
  by_cases h : p
  · rw [if_pos (decide_eq_true h)]; exact h1 h
  · rw [if_neg (fun z => h (of_decide_eq_true z))]; exact h2 h
theorem w_itN {p : Prop} {inst : Decidable p} {A B : Prop} (h1 : ¬ p → A) (h2 : p → B) : if (!decide p) = true then A else B := by
  by_cases h : p
  · rw [decide_eq_true h]; exact h2 h
  · rw [decide_eq_false h]; exact h1 h
theorem w_yes {p : Prop} {inst : Decidable p} {A B : Prop} (h : p) (a : A) : if decide p = true then A else B := by rw [if_pos (decide_eq_true h)]; exact a
theorem w_no {p : Prop} {inst : Decidable p} {A B : Prop} (h : ¬ p) (b : B) : if decide p = true then A else B := by rw [if_neg (fun z => h (of_decide_eq_true z))]; exact b
theorem w_nyes {p : Prop} {inst : Decidable p} {A B : Prop} (h : p) (b : B) : if (!decide p) = true then A else B := by rw [decide_eq_true h]; exact b
theorem w_nno {p : Prop} {inst : Decidable p} {A B : Prop} (h : ¬ p) (a : A) : if (!decide p) = true then A else B := by rw [decide_eq_false h]; exact a
theorem w_itB {b : Bool} {A B : Prop} (h1 : b = true → A) (h2 : b = false → B) : if b = true then A else B := by
  cases b with
  | true => exact h1 rfl
  | false => exact h2 rfl
theorem w_itNB {b : Bool} {A B : Prop} (h1 : b = false → A) (h2 : b = true → B) : if (!b) = true then A else B := by
  cases b with
  | true => exact h2 rfl
  | false => exact h1 rfl
theorem w_nT {A B : Prop} (h : B) : if (!true) = true then A else B := h
theorem w_nF {A B : Prop} (h : A) : if (!false) = true then A else B := h
theorem w_nnT {A B : Prop} (h : A) : if (!(!true)) = true then A else B := h
theorem w_ret {te : TE} (h : te σ H rt) : tRet te ⟨nx, rt, bk, ct⟩ σ H := h
theorem w_drop {te : TE} (h : te σ H fun _ H1 => nx σ H1) : tDrop te ⟨nx, rt, bk, ct⟩ σ H := h
theorem w_next (h : nx σ H) : tNext ⟨nx, rt, bk, ct⟩ σ H := h
theorem w_cb {r : List V → Hp → VK → Prop} {t : TA} (h : t σ H fun vs H1 => r vs H1 Q) : tCB r t σ H Q := h
theorem w_nil {R : List V → Hp → Prop} (h : R [] H) : tNil σ H R := h
theorem w_cons {ta : TE} {tr : TA} {R : List V → Hp → Prop} (h : ta σ H fun x H1 => tr σ H1 fun xs H2 => R (x :: xs) H2) : tCons ta tr σ H R := h
theorem w_call {sp : Sp} {E : XK} {t : TA} (h : t σ H fun vs H1 => sp (vs ++ []) H1 Q E) : tCall sp [] E t σ H Q := h
theorem w_lst {t : TA} (h : t σ H fun xs H1 => xs.length ≤ sizeLine ∧ Nw (.lst xs) H1 Q) : tLst t σ H Q := h
theorem w_tup {t : TA} (h : t σ H fun xs H1 => xs.length ≤ sizeLine ∧ Nw (.tup xs) H1 Q) : tTup t σ H Q := h
theorem w_new {o : HO} (h : ∀ p H2, H p = none → H2 p = some o → Same H H2 → Q (.ref p) H2) : Nw o H Q := fun p hp => h p _ hp upd_same (Same.new hp)
theorem w_sz {n : Nat} {o : HO} (h1 : n ≤ sizeLine) (h : Nw o H Q) : n ≤ sizeLine ∧ Nw o H Q := ⟨h1, h⟩
theorem w_app {p : Addr} {xs : List V} (h1 : H p = some (.lst xs)) (h2 : xs.length < sizeLine) (h : ∀ H1, H1 p = some (.lst (xs ++ [v])) → Off p H H1 → Q .non H1) : rAppend (.ref p) [v] H Q :=
  ⟨p, xs, v, rfl, rfl, h1, h2, h _ upd_same fun x hx => upd_ne hx⟩
theorem w_bm {r : V → List V → Hp → VK → Prop} {to : TE} {t : TA} (h : to σ H fun x H1 => tyV K "list" x H1 ∧ t σ H1 fun xs H2 => r x xs H2 Q) : tBM K "list" r to t σ H Q := h
theorem w_tyL {p : Addr} {xs : List V} {A : Prop} (h1 : H p = some (.lst xs)) (h : A) : tyV K "list" (.ref p) H ∧ A := ⟨.inl ⟨rfl, _, .inl (.inl h1)⟩, h⟩
theorem w_lenL {p : Addr} {ys : List V} (h1 : SqL K H p ys) (h : Q (.int ys.length) H) : rLen K [V.ref p] H Q := ⟨p, ys, rfl, .inl h1, h⟩
theorem w_lenT {p : Addr} {ys : List V} (h1 : SqT K H p ys) (h : Q (.int ys.length) H) : rLen K [V.ref p] H Q := ⟨p, ys, rfl, .inr h1, h⟩
theorem w_min2 {i j : Int} (h : Q (.int (if j < i then j else i)) H) : rMin2 [V.int i, V.int j] H Q := ⟨i, j, rfl, h⟩
theorem w_max2 {i j : Int} (h : Q (.int (if j > i then j else i)) H) : rMax2 [V.int i, V.int j] H Q := ⟨i, j, rfl, h⟩
theorem w_listL {p : Addr} {ys : List V} (h1 : SqL K H p ys) (h : ∀ l H2, H l = none → H2 l = some (.lst ys) → Same H H2 → Q (.ref l) H2) : rListOf K [V.ref p] H Q := ⟨p, ys, rfl, .inl h1, w_new h⟩
theorem w_listT {p : Addr} {ys : List V} (h1 : SqT K H p ys) (h : ∀ l H2, H l = none → H2 l = some (.lst ys) → Same H H2 → Q (.ref l) H2) : rListOf K [V.ref p] H Q := ⟨p, ys, rfl, .inr h1, w_new h⟩
theorem w_tupL {p : Addr} {ys : List V} (h1 : SqL K H p ys) (h : ∀ l H2, H l = none → H2 l = some (.tup ys) → Same H H2 → Q (.ref l) H2) : rTupOf K [V.ref p] H Q := ⟨p, ys, rfl, .inl ⟨h1, w_new h⟩⟩
theorem w_sum {p : Addr} {ns : List Int} (h1 : SqL K H p (ns.map V.int)) (h : Q (.int ns.sum) H) : rSum K [V.ref p] H Q := ⟨p, ns, rfl, h1, h⟩
theorem w_tupRg {te : St → Hp → (Int → Int → Hp → Prop) → Prop} (h : te σ H fun a b H1 => RgOk a b ∧ Nw (.tup (rgV a b)) H1 Q) : tTupRg te σ H Q := h
theorem w_rg2 {ta tb : TE} {R : Int → Int → Hp → Prop} (h : ta σ H fun x H1 => tb σ H1 fun y H2 => rRg2 x y H2 R) : tRg2 ta tb σ H R := h
theorem w_rg2' {i j : Int} {R : Int → Int → Hp → Prop} (h : R i j H) : rRg2 (.int i) (.int j) H R := ⟨i, j, rfl, rfl, h⟩
theorem w_bits {to : TE} (h : to σ H fun x H1 => rBits x H1 Q) : tBits to σ H Q := h
theorem w_bits' {i : Int} (h : Q (.int (Builtin.Int.intBits i : Nat)) H) : rBits (.int i) H Q := ⟨i, rfl, h⟩
theorem w_isi {x : V} {a n : String} {b : Bool} (ty : TyX K H x (.type a)) (hk : kitB a n = some b) (h : Q (.bl b) H) : rIsi K [x, .ty n] H Q := ⟨x, .ty n, _, _, b, rfl, .ty n, ty, kit_ty hk, h⟩
theorem w_eqS {x y : Str} (h : Q (.bl (decide (x = y))) H) : rEq (.str x) (.str y) H Q := ⟨rfl, by
  have e : decide (V.str x = V.str y) = decide (x = y) := by
    by_cases q : x = y
    · subst q; rw [decide_eq_true rfl, decide_eq_true rfl]
    · rw [decide_eq_false q, decide_eq_false (fun z => q (V.str.inj z))]
  rw [e]; exact h⟩
theorem w_eqB {x y : Bool} (h : Q (.bl (decide (x = y))) H) : rEq (.bl x) (.bl y) H Q := ⟨rfl, by
  have e : decide (V.bl x = V.bl y) = decide (x = y) := by
    by_cases q : x = y
    · subst q; rw [decide_eq_true rfl, decide_eq_true rfl]
    · rw [decide_eq_false q, decide_eq_false (fun z => q (V.bl.inj z))]
  rw [e]; exact h⟩
theorem w_tupT {p : Addr} {ys : List V} (h1 : SqT K H p ys) (h : Q (.ref p) H) : rTupOf K [V.ref p] H Q := ⟨p, ys, rfl, .inr ⟨h1, h⟩⟩
/-! targets, dicts -/
theorem w_gtup {a : Addr} {xs : List V} {n : Nat} {t : TGs} {R : St → Hp → Prop} (h1 : SqT K H a xs) (h2 : xs.length = n) (h : t xs σ H R) : gTup K n t (.ref a) σ H R := ⟨a, xs, rfl, h1, h2, h⟩
theorem w_gcons {t : TG} {u : TGs} {r : List V} {R : St → Hp → Prop} (h : t v σ H fun σ' H' => u r σ' H' R) : gCons t u (v :: r) σ H R := ⟨v, r, rfl, h⟩
theorem w_gnil {R : St → Hp → Prop} (h : R σ H) : gNil [] σ H R := ⟨rfl, h⟩
theorem w_din {ty td : TE} (h : ty σ H fun y H1 => td σ H1 fun x H2 => rDIn x y H2 Q) : tDIn ty td σ H Q := h
theorem w_dnotin {ty td : TE} (h : ty σ H fun y H1 => td σ H1 fun x H2 => rDNotIn x y H2 Q) : tDNotIn ty td σ H Q := h
theorem w_dget {ty td : TE} (h : td σ H fun x H1 => ty σ H1 fun y H2 => rDGet x y H2 Q) : tDGet td ty σ H Q := h
theorem w_dinI {a : Addr} {kvs : List (Key × V)} {n : Int} (e : H a = some (.dK kvs)) (h : Q (.bl (valV kvs (Sum.inl n)).isSome) H) : rDIn (.ref a) (.int n) H Q := ⟨a, _, rfl, DGet.k (k := Sum.inl n) e, h⟩
theorem w_dnotinI {a : Addr} {kvs : List (Key × V)} {n : Int} (e : H a = some (.dK kvs)) (h : Q (.bl (!(valV kvs (Sum.inl n)).isSome)) H) : rDNotIn (.ref a) (.int n) H Q := ⟨a, _, rfl, DGet.k (k := Sum.inl n) e, h⟩
theorem w_dgetI {a : Addr} {kvs : List (Key × V)} {n : Int} (e : H a = some (.dK kvs)) (e2 : valV kvs (Sum.inl n) = some v) (h : Q v H) : rDGet (.ref a) (.int n) H Q := ⟨a, v, rfl, e2 ▸ DGet.k (k := Sum.inl n) e, h⟩
theorem w_dnewK (h : Nw (.dK []) H Q) : tDNewK σ H Q := h
theorem w_dput {td ty tv : TE} (h : tv σ H fun v H1 => td σ H1 fun x H2 => ty σ H2 fun y H3 => rDPut x y v H3 fun H4 => nx σ H4) : sDPut td ty tv ⟨nx, rt, bk, ct⟩ σ H := h
theorem w_seqP {td ty tv : TE} {u : TS} (h : tv σ H fun v H1 => td σ H1 fun x H2 => ty σ H2 fun y H3 => rDPut x y v H3 fun H4 => u ⟨nx, rt, bk, ct⟩ σ H4) : tSeq (sDPut td ty tv) u ⟨nx, rt, bk, ct⟩ σ H := h
theorem w_dputI {a : Addr} {kvs : List (Key × V)} {n : Int} {R : Hp → Prop} (e : H a = some (.dK kvs)) (hl : kvs.length < sizeLine) (h : ∀ H1, H1 a = some (.dK (putK kvs (Sum.inl n) v)) → Off a H H1 → R H1) : rDPut (.ref a) (.int n) v H R :=
  ⟨a, _, rfl, DPut.k (k := Sum.inl n) e hl, h _ upd_same fun x hx => upd_ne hx⟩
theorem w_dget2 {td ty tx : TE} (h : td σ H fun x H1 => rIsD x H1 fun a H1 => ty σ H1 fun y H2 => tx σ H2 fun z H3 => rDGet2 a y z H3 Q) : tDGet2 td ty tx σ H Q := h
theorem w_isD {a : Addr} {kvs : List (Key × V)} {R : Addr → Hp → Prop} (e : H a = some (.dK kvs)) (h : R a H) : rIsD (.ref a) H R := ⟨a, rfl, .inl ⟨kvs, .inl e⟩, h⟩
theorem w_dget2I {a : Addr} {kvs : List (Key × V)} {n : Int} {z : V} (e : H a = some (.dK kvs)) (h : Q ((valV kvs (Sum.inl n)).getD z) H) : rDGet2 a (.int n) z H Q := ⟨_, DGet.k (k := Sum.inl n) e, h⟩
theorem w_dsetd {td ty tx : TE} (h : td σ H fun x H1 => rIsD x H1 fun a H1 => ty σ H1 fun y H2 => tx σ H2 fun z H3 => rDSetd a y z H3 Q) : tDSetd td ty tx σ H Q := h
theorem w_dsetdI {a : Addr} {kvs : List (Key × V)} {n : Int} {z : V} (e : H a = some (.dK kvs)) (hl : kvs.length < sizeLine) (h1 : ∀ u, valV kvs (Sum.inl n) = some u → Q u H) (h2 : valV kvs (Sum.inl n) = none → ∀ H1, H1 a = some (.dK (putK kvs (Sum.inl n) z)) → Off a H H1 → Q z H1) : rDSetd a (.int n) z H Q :=
  ⟨kvs, Sum.inl n, e, rfl, hl, h1, fun z => h2 z _ upd_same fun x hx => upd_ne hx⟩
theorem w_sortD {a : Addr} {kvs : List (Key × V)} {ks : List Int} (e : H a = some (.dK kvs)) (hk : kvs.map (·.1) = ks.map Sum.inl) (hl : ks.length < 64) (h : ∀ (ys : List Int) p H1, ys.Perm ks → ys.Pairwise (· ≤ ·) → H p = none → H1 p = some (.lst (ys.map V.int)) → Same H H1 → Q (.ref p) H1) : rSortD [.ref a] H Q :=
  ⟨a, kvs, ks, rfl, .inl e, hk, hl, fun ys p hp hs hn => h ys p _ hp hs hn upd_same (Same.new hn)⟩
theorem w_leT2 {p q : Addr} {a b c d : Int} (h1 : SqT K H p [.int a, .int b]) (h2 : SqT K H q [.int c, .int d]) (h : Q (.bl (decide (a < c ∨ a = c ∧ b ≤ d))) H) : rLeT K (.ref p) (.ref q) H Q := by
  refine ⟨p, q, [a, b], [c, d], rfl, rfl, h1, h2, ?_⟩
  have e : Ob.lexAt (fun j => decide (([a, b] : List Int).getD j 0 = ([c, d] : List Int).getD j 0)) (fun j => decide (([a, b] : List Int).getD j 0 ≤ ([c, d] : List Int).getD j 0)) (decide (([a, b] : List Int).length ≤ ([c, d] : List Int).length)) 0 (min ([a, b] : List Int).length ([c, d] : List Int).length) = decide (a < c ∨ a = c ∧ b ≤ d) := by
    show (if decide (a = c) = true then (if decide (b = d) = true then true else decide (b ≤ d)) else decide (a ≤ c)) = _
    by_cases h1 : a = c
    · rw [if_pos (decide_eq_true h1)]
      by_cases h2 : b = d
      · rw [if_pos (decide_eq_true h2)]
        exact (decide_eq_true (by omega)).symm
      · rw [if_neg (fun z => h2 (of_decide_eq_true z))]
        rw [Bool.eq_iff_iff]; simp; omega
    · rw [if_neg (fun z => h1 (of_decide_eq_true z))]
      rw [Bool.eq_iff_iff]; simp; omega
  rw [e]
  exact h
theorem inV_ints (n : Int) (vs : List Int) : inV (.int n) (vs.map V.int) = decide (n ∈ vs) := by
  unfold inV
  rw [Bool.eq_iff_iff, List.any_eq_true]
  constructor
  · rintro ⟨y, hy, e⟩
    obtain ⟨z, hz, rfl⟩ := List.mem_map.mp hy
    have e' : z = n := by simpa [eqV] using e
    subst e'
    exact decide_eq_true hz
  · intro h
    exact ⟨.int n, List.mem_map_of_mem (of_decide_eq_true h), by simp [eqV]⟩
theorem flat_ints (vs : List Int) : (vs.map V.int).all flatV = true := by
  rw [List.all_eq_true]
  intro y hy
  obtain ⟨z, _, rfl⟩ := List.mem_map.mp hy
  rfl
theorem w_inT {p : Addr} {vs : List Int} {n : Int} (h1 : SqT K H p (vs.map V.int)) (h : Q (.bl (decide (n ∈ vs))) H) : rIn K false (.int n) (.ref p) H Q := ⟨p, _, rfl, .inr h1, rfl, flat_ints vs, by rw [inV_ints]; exact h⟩
theorem w_ninT {p : Addr} {vs : List Int} {n : Int} (h1 : SqT K H p (vs.map V.int)) (h : Q (.bl (!decide (n ∈ vs))) H) : rIn K true (.int n) (.ref p) H Q := ⟨p, _, rfl, .inr h1, rfl, flat_ints vs, by rw [inV_ints]; exact h⟩
theorem w_inL {p : Addr} {vs : List Int} {n : Int} (h1 : SqL K H p (vs.map V.int)) (h : Q (.bl (decide (n ∈ vs))) H) : rIn K false (.int n) (.ref p) H Q := ⟨p, _, rfl, .inl h1, rfl, flat_ints vs, by rw [inV_ints]; exact h⟩
theorem w_ninL {p : Addr} {vs : List Int} {n : Int} (h1 : SqL K H p (vs.map V.int)) (h : Q (.bl (!decide (n ∈ vs))) H) : rIn K true (.int n) (.ref p) H Q := ⟨p, _, rfl, .inl h1, rfl, flat_ints vs, by rw [inV_ints]; exact h⟩
def rDisp (p : Addr) (ps : List (V × V)) (H2 : Hp) (Q : VK) : Prop := H2 p = some (.dK []) ∧ ∃ kvs : List (Key × V), ps = kvs.map (fun kv => (kV kv.1, kv.2)) ∧ kvs.length ≤ 15 ∧ Q (.ref p) (upd H2 p (.dK (mergeK [] kvs)))
theorem w_disp {trs : List (TE × TE)} (h : ∀ p H1, H p = none → H1 p = some (.dK []) → Same H H1 → tPairs trs σ H1 (fun ps H2 => rDisp p ps H2 Q)) : tDisp trs σ H Q := fun p hp => h p _ hp upd_same (Same.new hp)
theorem w_pair {tk tv : TE} {r : List (TE × TE)} {R : List (V × V) → Hp → Prop} (h : tk σ H fun x H1 => tv σ H1 fun y H2 => tPairs r σ H2 fun ps H3 => R ((x, y) :: ps) H3) : tPairs ((tk, tv) :: r) σ H R := h
theorem w_pnil {R : List (V × V) → Hp → Prop} (h : R [] H) : tPairs [] σ H R := h
theorem w_dispE {p : Addr} {ps : List (V × V)} (kvs : List (Key × V)) (h1 : H p = some (.dK [])) (h2 : ps = kvs.map (fun kv => (kV kv.1, kv.2))) (h3 : kvs.length ≤ 15) (h : ∀ H1, H1 p = some (.dK (mergeK [] kvs)) → Off p H H1 → Q (.ref p) H1) : rDisp p ps H Q :=
  ⟨h1, kvs, h2, h3, h _ upd_same fun x hx => upd_ne hx⟩
theorem w_callS {sp : Sp} {E : St → XK} {t : TA} (h : t σ H fun vs H1 => sp vs H1 Q (E σ)) : tCallS sp E t σ H Q := h
theorem w_isB {x y : Bool} (h : Q (.bl (decide (x = y))) H) : rIsBl (.bl x) (.bl y) H Q := ⟨x, y, rfl, rfl, h⟩
theorem w_isN (h : Q (.bl (decide (v = .non))) H) : rIsNon v .non H Q := ⟨rfl, h⟩
theorem w_notN (h : Q (.bl (!decide (v = .non))) H) : rNotNon v .non H Q := ⟨rfl, h⟩
theorem w_chain {r r' : R2} {ta tb tc : TE} (h : ta σ H fun x H1 => tb σ H1 fun y H2 => r x y H2 fun z H3 => ∃ k, z = .bl k ∧ (if k = true then tc σ H3 fun w' H4 => r' y w' H4 Q else Q (.bl false) H3)) : tChain r r' ta tb tc σ H Q := h
theorem w_trL {p : Addr} {xs : List V} {R : Bool → Hp → Prop} (h1 : SqL K H p xs) (h : R (!xs.isEmpty) H) : rTru K (.ref p) H R := ⟨_, .inl ⟨xs, h1, rfl⟩, h⟩
theorem w_trT {p : Addr} {xs : List V} {R : Bool → Hp → Prop} (h1 : SqT K H p xs) (h : R (!xs.isEmpty) H) : rTru K (.ref p) H R := ⟨_, .inr (.inl ⟨xs, h1, rfl⟩), h⟩
theorem w_tru {ta : TE} {R : Bool → Hp → Prop} (h : ta σ H fun x H1 => rTru K x H1 R) : tTru K ta σ H R := h
theorem w_seqX {w : Stmt → Prop} {u : TS} {t : TS} (h : t ⟨u ⟨nx, rt, bk, ct⟩, rt, bk, ct⟩ σ H) : tSeq t u ⟨nx, rt, bk, ct⟩ σ H := h
/-! loops -/
def Lp (J : It) (g : TG) (tb : TS) (D : Ends) (σ : St) (H1 : Hp) : Prop := ∃ W : Nat → Nat → St → Hp → Prop, (∃ m, W 0 m σ H1) ∧ ∀ i m σ H, W i m σ H →
  (J.stop i H ∧ D.nx σ H) ∨ (J.go i H ∧ ∃ N : St → Hp → Prop, (∀ σ' H', N σ' H' → ∃ m', m' < m ∧ W (i + 1) m' σ' H') ∧ ∀ x H', J.yld i H x H' → g x σ H' fun σ2 H2 => tb { D with nx := N, ct := N, bk := D.nx } σ2 H2)
theorem w_for {wi : TI} {g : TG} {tb : TS} (h : wi σ H fun J H1 => Lp J g tb ⟨nx, rt, bk, ct⟩ σ H1) : tFor wi g tb ⟨nx, rt, bk, ct⟩ σ H := h
theorem lp_it {J : It} {n : Nat} {G : Hp → Prop} {Y : Nat → Hp → V → Hp → Prop} (w : Walk J n G Y) {g : TG} {tb : TS} (Pv : Nat → St → Hp → Prop) (h0 : Pv 0 σ H) (hG : ∀ i σ H, i ≤ n → Pv i σ H → G H)
    (hs : ∀ i x σ H H', i < n → Pv i σ H → Y i H x H' → g x σ H' fun σ2 H2 => tb ⟨Pv (i + 1), rt, nx, Pv (i + 1)⟩ σ2 H2) (hd : ∀ σ H, Pv n σ H → nx σ H) : Lp J g tb ⟨nx, rt, bk, ct⟩ σ H :=
  for_it w (D := ⟨nx, rt, bk, ct⟩) Pv h0 hG hs hd
theorem lp_list {a : Addr} {xs : List V} {g : TG} {tb : TS} (Pv : Nat → St → Hp → Prop) (h0 : Pv 0 σ H) (hl : ∀ i σ H, i ≤ xs.length → Pv i σ H → SqL K H a xs)
    (hs : ∀ i x σ H, xs[i]? = some x → Pv i σ H → g x σ H fun σ2 H2 => tb ⟨Pv (i + 1), rt, nx, Pv (i + 1)⟩ σ2 H2) (hd : ∀ σ H, Pv xs.length σ H → nx σ H) : Lp (Itl K a) g tb ⟨nx, rt, bk, ct⟩ σ H :=
  for_list (D := ⟨nx, rt, bk, ct⟩) Pv h0 hl hs hd
theorem lp_tup {a : Addr} {xs : List V} {g : TG} {tb : TS} (Pv : Nat → St → Hp → Prop) (h0 : Pv 0 σ H) (hl : ∀ i σ H, i ≤ xs.length → Pv i σ H → SqT K H a xs)
    (hs : ∀ i x σ H, xs[i]? = some x → Pv i σ H → g x σ H fun σ2 H2 => tb ⟨Pv (i + 1), rt, nx, Pv (i + 1)⟩ σ2 H2) (hd : ∀ σ H, Pv xs.length σ H → nx σ H) : Lp (Itt K a) g tb ⟨nx, rt, bk, ct⟩ σ H :=
  for_tup (D := ⟨nx, rt, bk, ct⟩) Pv h0 hl hs hd
theorem lp_range {lo : Int} {n : Nat} {g : TG} {tb : TS} (Pv : Nat → St → Hp → Prop) (h0 : Pv 0 σ H)
    (hs : ∀ i σ H, i < n → Pv i σ H → g (.int (lo + i)) σ H fun σ2 H2 => tb ⟨Pv (i + 1), rt, nx, Pv (i + 1)⟩ σ2 H2) (hd : ∀ σ H, Pv n σ H → nx σ H) : Lp (Itr lo n) g tb ⟨nx, rt, bk, ct⟩ σ H :=
  for_range (D := ⟨nx, rt, bk, ct⟩) Pv h0 hs hd
theorem w_rng1 {t : TA} {R : It → Hp → Prop} (h : t σ H fun vs H1 => rRng1 vs H1 R) : iRng1 t σ H R := h
theorem w_rng1' {j : Int} {R : It → Hp → Prop} (h1 : -(2 ^ 62) ≤ j) (h2 : j < 2 ^ 62) (h : R (Itr 0 j.toNat) H) : rRng1 [.int j] H R := ⟨j, rfl, h1, h2, h⟩
theorem w_rng2 {t : TA} {R : It → Hp → Prop} (h : t σ H fun vs H1 => rRng2 vs H1 R) : iRng2 t σ H R := h
theorem w_rng2' {i j : Int} {R : It → Hp → Prop} (h1 : -(2 ^ 62) ≤ i ∧ i < 2 ^ 62 ∧ -(2 ^ 62) ≤ j ∧ j < 2 ^ 62) (h : R (Itr i (j - i).toNat) H) : rRng2 [.int i, .int j] H R := ⟨i, j, rfl, h1, h⟩
theorem w_itL {tl : TE} {R : It → Hp → Prop} (h : tl σ H fun x H1 => rItL K x H1 R) : iList K tl σ H R := h
theorem w_itL' {a : Addr} {xs : List V} {R : It → Hp → Prop} (h1 : SqL K H a xs) (h : R (Itl K a) H) : rItL K (.ref a) H R := ⟨a, rfl, ⟨xs, h1⟩, h⟩
theorem w_itT {tl : TE} {R : It → Hp → Prop} (h : tl σ H fun x H1 => rItT K x H1 R) : iTup K tl σ H R := h
theorem w_itT' {a : Addr} {xs : List V} {R : It → Hp → Prop} (h1 : SqT K H a xs) (h : R (Itt K a) H) : rItT K (.ref a) H R := ⟨a, rfl, ⟨xs, h1⟩, h⟩
theorem w_while {c : TT} {tb : TS} (Pv : St → Hp → Prop) (μ : St → Hp → Nat) (h0 : Pv σ H)
    (hs : ∀ σ H, Pv σ H → c σ H fun b H1 => if b = true then ∃ N : St → Hp → Prop, (∀ σ' H', N σ' H' → Pv σ' H' ∧ μ σ' H' < μ σ H) ∧ tb ⟨N, rt, nx, N⟩ σ H1 else nx σ H1) (mono : ∀ σ H (R R' : Bool → Hp → Prop), (∀ b H1, R b H1 → R' b H1) → c σ H R → c σ H R') : tWhile c tb ⟨nx, rt, bk, ct⟩ σ H := by
  refine ⟨fun m σ H => m = μ σ H ∧ Pv σ H, ⟨_, rfl, h0⟩, ?_⟩
  rintro m σ H ⟨rfl, p⟩
  refine mono σ H _ _ (fun b H1 q => ?_) (hs σ H p)
  cases b with
  | true =>
    obtain ⟨N, h1, h2⟩ := q
    exact ⟨N, fun σ' H' z => ⟨_, (h1 σ' H' z).2, rfl, (h1 σ' H' z).1⟩, h2⟩
  | false => exact q
/-- one turn of a while: W (by a falling number) is reached again -/
def WhT (W : Nat → St → Hp → Prop) (m : Nat) (tb : TS) (rt : VK) (nx : St → Hp → Prop) (σ : St) (H : Hp) : Prop := ∃ N : St → Hp → Prop, (∀ σ' H', N σ' H' → ∃ m', m' < m ∧ W m' σ' H') ∧ tb ⟨N, rt, nx, N⟩ σ H
theorem w_turn {W : Nat → St → Hp → Prop} {m : Nat} {tb : TS} (h : tb ⟨fun σ' H' => ∃ m', m' < m ∧ W m' σ' H', rt, nx, fun σ' H' => ∃ m', m' < m ∧ W m' σ' H'⟩ σ H) : WhT W m tb rt nx σ H := ⟨_, fun _ _ z => z, h⟩
theorem w_whileN {c : TT} {tb : TS} (W : Nat → St → Hp → Prop) (m0 : Nat) (h0 : W m0 σ H) (hs : ∀ m σ H, W m σ H → c σ H fun b H1 => if b = true then WhT W m tb rt nx σ H1 else nx σ H1) : tWhile c tb ⟨nx, rt, bk, ct⟩ σ H := ⟨W, ⟨m0, h0⟩, hs⟩
/-! comprehensions -/
def LcP (J : It) (g : TG) (tt : TT) (te : TE) (vs : List Nat) (Q : VK) (σ : St) (H1 : Hp) : Prop := ∀ D, H1 D = none → ∃ W : Nat → Nat → Hp → Prop, (∃ m, W 0 m (upd H1 D (.lst []))) ∧ ∀ i m H, W i m H →
  (J.stop i H ∧ Q (.ref D) H) ∨ (J.go i H ∧ ∃ Nx : Hp → Prop, (∀ H', Nx H' → ∃ m', m' < m ∧ W (i + 1) m' H') ∧ ∀ x H', J.yld i H x H' → g x (wipe σ vs) H' fun σ2 H2 => wipe σ2 vs = wipe σ vs ∧ tt σ2 H2 fun b H3 =>
    if b = true then te σ2 H3 fun y H4 => ∃ acc, H4 D = some (.lst acc) ∧ acc.length < sizeLine ∧ Nx (upd H4 D (.lst (acc ++ [y]))) else Nx H3)
theorem w_lc {wi : TI} {g : TG} {tt : TT} {te : TE} {vs : List Nat} (h : wi σ H fun J H1 => LcP J g tt te vs Q σ H1) : tLc wi g tt te vs σ H Q := h
/-- each turn adds one: the k-th is ys[k]; what stood but M stands -/
theorem lcp_map {J : It} {n : Nat} {G : Hp → Prop} {Y : Nat → Hp → V → Hp → Prop} (w : Walk J n G Y) {g : TG} {te : TE} {vs : List Nat} (M : List Addr) (ys : List V) (hn : ys.length = n) (hz : n ≤ 1000000) (hG : ∀ H', Kp M H H' → G H')
    (hs : ∀ i x H1 H2 (R : V → Hp → Prop), i < n → Kp M H H1 → Y i H1 x H2 → (∀ y H4, ys[i]? = some y → Kp M H1 H4 → R y H4) → g x (wipe σ vs) H2 fun σ2 H3 => wipe σ2 vs = wipe σ vs ∧ te σ2 H3 R)
    (hM : ∀ b ∈ M, ∃ o, H b = some o)
    (hd : ∀ D H', H D = none → Kp M H H' → H' D = some (.lst ys) → Q (.ref D) H') : LcP J g tYes te vs Q σ H := by
  intro D hD
  have hDM : D ∉ M := fun z => by obtain ⟨o, e⟩ := hM D z; rw [hD] at e; cases e
  refine lc_it w (fun i H' => Kp M H H' ∧ H' D = some (.lst (ys.take i))) ⟨Kp.new hD, upd_same⟩ (fun i H' _ z => hG H' z.1) ?_ ?_
  · rintro i x H1 H2 hi ⟨k1, e1⟩ y
    refine (hs i x H1 H2 _ hi k1 y ?_)
    intro z H4 hz' k4
    refine ⟨ys.take i, k4 _ _ hDM e1, ?_, ?_, ?_⟩
    · rw [List.length_take]; exact Nat.lt_of_le_of_lt (Nat.min_le_left _ _) (Nat.lt_of_lt_of_le (Nat.lt_of_lt_of_le hi hz) (by decide))
    · exact (k1.trans k4).mutN hD
    · rw [upd_same, List.take_add_one, hz']; rfl
  · rintro H' ⟨k, e⟩
    rw [List.take_of_length_le (by omega)] at e
    exact hd D H' hD k e
/-- each turn adds one of which P holds (P leans on tuples alone); S: what else holds turn by turn -/
theorem lcp_gen {J : It} {n : Nat} {G : Hp → Prop} {Y : Nat → Hp → V → Hp → Prop} (w : Walk J n G Y) {g : TG} {te : TE} {vs : List Nat} (M : List Addr) (P : Nat → V → Hp → Prop) (S : Nat → Hp → Prop) (hz : n ≤ 1000000)
    (mono : ∀ i y H1 H2, KT H1 H2 → P i y H1 → P i y H2) (SD : ∀ D, H D = none → ∀ i H1 o, S i H1 → S i (upd H1 D o)) (hG : ∀ i H', Kp M H H' → S i H' → G H') (S0 : S 0 H)
    (hs : ∀ i x H1 H2 (R : V → Hp → Prop), i < n → Kp M H H1 → KT H H1 → S i H1 → Y i H1 x H2 → (∀ y H4, P i y H4 → Kp M H1 H4 → KT H1 H4 → S (i + 1) H4 → R y H4) → g x (wipe σ vs) H2 fun σ2 H3 => wipe σ2 vs = wipe σ vs ∧ te σ2 H3 R)
    (hM : ∀ b ∈ M, ∃ o, H b = some o)
    (hd : ∀ D H' ys, ys.length = n → (∀ i y, ys[i]? = some y → P i y H') → H D = none → Kp M H H' → KT H H' → S n H' → H' D = some (.lst ys) → Q (.ref D) H') : LcP J g tYes te vs Q σ H := by
  intro D hD
  have hDM : D ∉ M := fun z => by obtain ⟨o, e⟩ := hM D z; rw [hD] at e; cases e
  refine lc_it w (fun i H' => Kp M H H' ∧ KT H H' ∧ S i H' ∧ ∃ ys, ys.length = i ∧ H' D = some (.lst ys) ∧ ∀ k y, ys[k]? = some y → P k y H') ⟨Kp.new hD, KT.refl.upd hD, SD D hD _ _ _ S0, [], rfl, upd_same, by simp⟩ (fun i H' _ z => hG i H' z.1 z.2.2.1) ?_ ?_
  · rintro i x H1 H2 hi ⟨k1, t1, s1, ys, hl, e1, hp⟩ y
    refine hs i x H1 H2 _ hi k1 t1 s1 y ?_
    intro z H4 pz k4 t4 s4
    have e4 := k4 _ _ hDM e1
    refine ⟨ys, e4, ?_, (k1.trans k4).mutN hD, (t1.trans t4).upd hD, SD D hD _ _ _ s4, ys ++ [z], by rw [List.length_append, hl]; rfl, upd_same, ?_⟩
    · rw [hl]; exact Nat.lt_of_lt_of_le (Nat.lt_of_lt_of_le hi hz) (by decide)
    · intro k y' hy'
      by_cases hk : k < ys.length
      · rw [List.getElem?_append_left hk] at hy'
        exact mono _ _ _ _ (KT.updL e4) (mono _ _ _ _ t4 (hp k y' hy'))
      · rw [List.getElem?_append_right (by omega)] at hy'
        by_cases hk2 : k = ys.length
        · subst hk2
          have e : z = y' := by simpa using hy'
          subst e
          rw [hl]
          exact mono _ _ _ _ (KT.updL e4) pz
        · rw [List.getElem?_eq_none (by simp; omega)] at hy'
          cases hy'
  · rintro H' ⟨k, t, sn, ys, hl, e, hp⟩
    exact hd D H' ys hl hp hD k t sn e
theorem lcp_rel {J : It} {n : Nat} {G : Hp → Prop} {Y : Nat → Hp → V → Hp → Prop} (w : Walk J n G Y) {g : TG} {te : TE} {vs : List Nat} (M : List Addr) (P : Nat → V → Hp → Prop) (hz : n ≤ 1000000)
    (mono : ∀ i y H1 H2, KT H1 H2 → P i y H1 → P i y H2) (hG : ∀ H', Kp M H H' → G H')
    (hs : ∀ i x H1 H2 (R : V → Hp → Prop), i < n → Kp M H H1 → KT H H1 → Y i H1 x H2 → (∀ y H4, P i y H4 → Kp M H1 H4 → KT H1 H4 → R y H4) → g x (wipe σ vs) H2 fun σ2 H3 => wipe σ2 vs = wipe σ vs ∧ te σ2 H3 R)
    (hM : ∀ b ∈ M, ∃ o, H b = some o)
    (hd : ∀ D H' ys, ys.length = n → (∀ i y, ys[i]? = some y → P i y H') → H D = none → Kp M H H' → KT H H' → H' D = some (.lst ys) → Q (.ref D) H') : LcP J g tYes te vs Q σ H :=
  lcp_gen w M P (fun _ _ => True) hz mono (fun _ _ _ _ _ _ => trivial) (fun _ H' k _ => hG H' k) trivial (fun i x H1 H2 R hi k t _ y h => hs i x H1 H2 R hi k t y fun y' H4 p k4 t4 => h y' H4 p k4 t4 trivial) hM fun D H' ys h1 h2 h3 h4 h5 _ h6 => hd D H' ys h1 h2 h3 h4 h5 h6
theorem refs_of {α : Type} (C : Addr → α → Prop) : ∀ (ys : List V) (F : Nat → α), (∀ j y, ys[j]? = some y → ∃ p, y = .ref p ∧ C p (F j)) → ∃ ps : List (Addr × α), ys = ps.map (fun q => .ref q.1) ∧ ps.map (·.2) = (List.range ys.length).map F ∧ ∀ q ∈ ps, C q.1 q.2
  | [], _, _ => ⟨[], rfl, rfl, by simp⟩
  | y :: r, F, h => by
    obtain ⟨p, rfl, hp⟩ := h 0 y rfl
    obtain ⟨ps, e1, e2, e3⟩ := refs_of C r (F ∘ Nat.succ) fun j z hz => h (j + 1) z hz
    refine ⟨(p, F 0) :: ps, by rw [e1]; rfl, ?_, ?_⟩
    · rw [List.length_cons, List.range_succ_eq_map, List.map_cons, e2, List.map_cons, List.map_map]
    · intro q hq
      rcases List.mem_cons.mp hq with rfl | hq
      · exact hp
      · exact e3 q hq
end
/-! ### errors -/
/-- what the top has written of an own error class without __init__ -/
structure Exn (K : PySem.W.Frag) (mg : Str → Option Value) (x : Str) (C : Addr) : Prop where
  g : mg x = some (.ref C)
  x : PySem.W.excIn K C [.type "ValueError", .type "Exception", .type "BaseException", .type "object"] "ValueError.__new__" = true
  k : PySem.W.keepIn K (.ref C) = true
  b : PySem.W.subIn K (.ref C) (.type "BaseException") = some true
  t : PySem.W.typeIn K (.ref C) = some (.type "type")
  e : PySem.W.exmOne K (.ref C) (.ref C) = some true
theorem exm_is {K : PySem.W.Frag} {t : Value} {C : Addr} {r : Bool} (hb : PySem.W.subIn K (.ref C) (.type "BaseException") = some true) (hi : PySem.W.isClsIn K C = true) (ht : PySem.W.typeIn K (.ref C) = some (.type "type")) (hs : PySem.W.subIn K t (.ref C) = some r) : PySem.W.exmOne K t (.ref C) = some r := by
  have hi' : (PySem.W.clsIn K C).isSome = true := hi
  unfold PySem.W.exmOne
  rw [hb, if_pos (by rfl)]
  show (if ((PySem.W.clsIn K C).isSome && PySem.W.typeIn K (Value.ref C) == some (Value.type "type")) = true then PySem.W.subIn K t (Value.ref C) else none) = some r
  rw [hi', ht]
  exact hs
def tTryO (K : PySem.W.Frag) (c : Value) (tb : WX → TS) (ts : Addr → Value → Option Addr → TS) : TS := fun D σ H => tb (wOnly K c ts (fun _ _ _ _ => False) D) D σ H
section
variable {X : Cx} {x : Str} {c : Value} {body suite : List Stmt} {b₀ : Stmt} {np pos pos' : Pos} {tb : WX → TS} {ts : Addr → Value → Option Addr → TS}
theorem p_try (hs : X.stack = X.env :: X.outer) (hf : X.env.frame = some X.env.locals) (hc : Names X x c)
    (hb : ∀ (W : WX) (pn : List (Addr × Obj)) (xe : Value → Shared → Prop), Takes (X.tr pn xe) W → PassesOwn (model X.prog X.w) X.A X.env xe → PSs (X.tr pn xe) body (tb W))
    (hsu : ∀ (a : Addr) (oe : Obj) (cls : Value) (d : Option Addr) (pn : List (Addr × Obj)), Zc cls d oe → (∃ vs, oe.data = .fields vs) → PSs (X.suite a ((a, oe) :: pn)) (b₀ :: suite) (ts a cls d)) :
    PS X (.Try body [.ExceptHandler (some (.Name x np)) none (b₀ :: suite) pos'] [] [] pos) (tTryO X.K c tb ts) := ps_try_only hs hf hc takes0 hb hsu
end
section
variable {K : PySem.W.Frag} {σ : St} {H : Hp} {nx bk ct : St → Hp → Prop} {rt : VK}
theorem w_try {c : Value} {tb : WX → TS} {ts : Addr → Value → Option Addr → TS} (h : tb (wOnly K c ts (fun _ _ _ _ => False) ⟨nx, rt, bk, ct⟩) ⟨nx, rt, bk, ct⟩ σ H) : tTryO K c tb ts ⟨nx, rt, bk, ct⟩ σ H := h
theorem w_only {c cls : Value} {d : Option Addr} {ts : Addr → Value → Option Addr → TS} {Wo : WX} {D : Ends} (e : PySem.W.exmOne K cls c = some true) (h : ∀ a, H a = none → ts a cls d D σ H) : wOnly K c ts Wo D cls d σ H := ⟨true, e, fun _ => h, fun z => nomatch z⟩
end
/-! ### dict comprehensions -/
section
open PySem.Spec PyProof.Rows
variable {X : Cx}
/-- name = {k: v for ..}, the name a local: as the layer's rule for a list's comprehension -/
theorem ps_setDc {i : Nat} {y : Str} {py : Pos} {kx vx tg iter : Expr} {ifs : List Expr} {scope : Scope} {own : List (Str × Nat)} {pos spos : Pos} {wi : TI} {g : TG} {tt : TT} {tk tv : TE}
    (hc : X.calm = true) (hN : X.N.Nodup) (hy : X.N[i]? = some y) (hyl : X.env.scope.names.lookup y = some .local)
    (hsw : swapsWith (.DictComp kx vx [⟨tg, iter, ifs, 0⟩] scope pos) (some (.Name y py)) spos.line X.env = pure true)
    (hi : PI X tg iter wi) (ok : BlkOk X.N X.env.scope scope own)
    (hg : ∀ s0 H0 C0 cl fp, PG (X.blk s0 H0 scope (compEnvC scope cl C0 X.env) fp) tg g) (ht : ∀ s0 H0 C0 cl fp, PTs (X.blk s0 H0 scope (compEnvC scope cl C0 X.env) fp) ifs tt)
    (hk : ∀ s0 H0 C0 cl fp, PE (X.blk s0 H0 scope (compEnvC scope cl C0 X.env) fp) kx tk) (he : ∀ s0 H0 C0 cl fp, PE (X.blk s0 H0 scope (compEnvC scope cl C0 X.env) fp) vx tv)
    (hs : ∀ z, foldedSetIterable iter X.env z = pure z := by intro _; rfl) :
    PS X (.Assign [.Name y py] (.DictComp kx vx [⟨tg, iter, ifs, 0⟩] scope pos) spos) (tAsg (tDc wi g tt tk tv (own.map (·.2))) (gName i)) := by
  constructor
  intro pins s σ H Ed I h
  rw [exec_Assign_Name_used y py _ _ hsw]
  apply wpAny_bind
  apply wpAny_standAt
  apply wpAny_bind
  show wpAny _ X.A (comprehension (.DictComp kx vx [⟨tg, iter, ifs, 0⟩] scope pos) scope X.env (firstIterPos [⟨tg, iter, ifs, 0⟩] pos) newDict false (eval iter X.env) (some (assign (.Name y py) X.env)) >>= fun _ => pure ()) _ _ s
  apply wpAny_bind
  have h' : tDc wi g tt tk tv (own.map (·.2)) σ H (fun x H1 => gName i x σ H1 Ed.nx) := h
  refine thn (dc_core (Qf := fun _ s1 => SP X pins Ed .next s1) hc hN I hi ok hg ht hk he hs h' ?_) (fun _ _ z => wpAny_pure (wpAny_pure z))
  intro L C s1 m H1 I1 q hn ff
  obtain ⟨f0, f1, f2, f3, f4, f5⟩ := ff
  show wpAny _ _ (assign (.Name y py) X.env (.ref L)) _ _ _
  apply wpAny_assign_Name
  refine store_ok2 (v := V.ref L) I1 hN hy (.inl hyl) rfl ?_ (.inr hyl)
  rintro s2 I2 ⟨ad, sb, had⟩
  have hne : C ≠ ad := by
    rcases had with hz | hz
    · exact fun e => f1 (e.trans hz)
    · exact fun e => f4 y ad hz e.symm
  refine ⟨m, hn.sameBut sb hne, fun h3 sb3 => ⟨_, H1, ?_, q⟩⟩
  exact I2.turned (t' := s2.toks) (fun b o hb e => (sb3.2 b hb).trans e) f0 f1 f3 f4 f5
theorem sw_trueD {kx vx : Expr} {gs : List Comprehension} {scope : Scope} {pos py : Pos} {y : Str} {l : Nat} {env : Env} (hkd : env.scope.kind = .function) (hlk : env.scope.names.lookup y = some .local)
    (hln : (py.line == pos.line) = true) (hno : (scope.names.any fun (n, k) => n == y && (k == .local || k == .cell)) = false) : swapsWith (.DictComp kx vx gs scope pos) (some (.Name y py)) l env = pure true := by
  have e1 : env.kindOf y = some .local := hlk
  have e2 : env.blockKind = .function := by
    unfold Env.blockKind
    rw [hkd]
    rfl
  unfold swapsWith
  simp only [e2, e1, hno, Expr.pos, hln]
  rfl
end
section
variable {K : PySem.W.Frag} {σ : St} {H : Hp} {Q : VK}
def DcP (J : It) (g : TG) (tt : TT) (tk tv : TE) (vs : List Nat) (Q : VK) (σ : St) (H1 : Hp) : Prop := ∀ D, H1 D = none → ∃ W : Nat → Nat → Hp → Prop, (∃ m, W 0 m (upd H1 D (.dK []))) ∧ ∀ i m H, W i m H →
  (J.stop i H ∧ Q (.ref D) H) ∨ (J.go i H ∧ ∃ Nx : Hp → Prop, (∀ H', Nx H' → ∃ m', m' < m ∧ W (i + 1) m' H') ∧ ∀ x H', J.yld i H x H' → g x (wipe σ vs) H' fun σ2 H2 => wipe σ2 vs = wipe σ vs ∧ tt σ2 H2 fun b H3 =>
    if b = true then tk σ2 H3 fun y H4 => tv σ2 H4 fun z H5 => ∃ kvs k, y = kV k ∧ H5 D = some (.dK kvs) ∧ kvs.length < sizeLine ∧ Nx (upd H5 D (.dK (putK kvs k z))) else Nx H3)
theorem w_dc {wi : TI} {g : TG} {tt : TT} {tk tv : TE} {vs : List Nat} (h : wi σ H fun J H1 => DcP J g tt tk tv vs Q σ H1) : tDc wi g tt tk tv vs σ H Q := h
theorem putK_len' {κ : Type} [DecidableEq κ] (c : List (κ × V)) (k : κ) (x : V) : (putK c k x).length ≤ c.length + 1 := by
  unfold putK
  by_cases e : (c.any fun kv => decide (kv.1 = k)) = true
  · rw [if_pos e, List.length_map]; omega
  · rw [if_neg e, List.length_append]; simp
theorem mergeK_len (es : List (Key × V)) : ∀ acc, (mergeK acc es).length ≤ acc.length + es.length := by
  unfold mergeK
  induction es with
  | nil => intro acc; simp
  | cons e r ih =>
    intro acc
    have h1 := ih (putK acc e.1 e.2)
    have h2 := putK_len' acc e.1 e.2
    simp only [List.foldl_cons, List.length_cons] at *
    omega
theorem mergeK_snoc (acc es : List (Key × V)) (e : Key × V) : mergeK acc (es ++ [e]) = putK (mergeK acc es) e.1 e.2 := by
  unfold mergeK; rw [List.foldl_append]; rfl
/-- each turn adds a pair: the k-th is es[k]; what stood but M stands -/
theorem dcp_map {J : It} {n : Nat} {G : Hp → Prop} {Y : Nat → Hp → V → Hp → Prop} (w : Walk J n G Y) {g : TG} {tk tv : TE} {vs : List Nat} (M : List Addr) (es : List (Key × V)) (hn : es.length = n) (hz : n ≤ 1000000) (hG : ∀ H', Kp M H H' → G H')
    (hs : ∀ i x H1 H2 (R : V → V → Hp → Prop), i < n → Kp M H H1 → Y i H1 x H2 → (∀ e H4, es[i]? = some e → Kp M H1 H4 → R (kV e.1) e.2 H4) → g x (wipe σ vs) H2 fun σ2 H3 => wipe σ2 vs = wipe σ vs ∧ tk σ2 H3 fun y H4 => tv σ2 H4 fun z H5 => R y z H5)
    (hM : ∀ b ∈ M, ∃ o, H b = some o)
    (hd : ∀ D H', H D = none → Kp M H H' → H' D = some (.dK (mergeK [] es)) → Q (.ref D) H') : DcP J g tYes tk tv vs Q σ H := by
  intro D hD
  have hDM : D ∉ M := fun z => by obtain ⟨o, e⟩ := hM D z; rw [hD] at e; cases e
  refine ⟨fun i m H' => m = n - i ∧ i ≤ n ∧ Kp M H H' ∧ H' D = some (.dK (mergeK [] (es.take i))), ⟨n, by simp, Nat.zero_le _, Kp.new hD, upd_same⟩, ?_⟩
  rintro i m H1 ⟨rfl, hi, k1, e1⟩
  by_cases hlt : i < n
  · refine .inr ⟨w.goes i H1 hlt (hG _ k1), fun H' => Kp M H H' ∧ H' D = some (.dK (mergeK [] (es.take (i + 1)))), fun H' z => ⟨n - (i + 1), by omega, rfl, hlt, z.1, z.2⟩, fun x H2 y => ?_⟩
    refine hs i x H1 H2 (fun y z H5 => ∃ kvs k, y = kV k ∧ H5 D = some (.dK kvs) ∧ kvs.length < sizeLine ∧ (Kp M H (upd H5 D (.dK (putK kvs k z))) ∧ (upd H5 D (.dK (putK kvs k z))) D = some (.dK (mergeK [] (es.take (i + 1)))))) hlt k1 (w.yields i H1 x H2 hlt (hG _ k1) y) ?_
    intro e H4 he k4
    refine ⟨mergeK [] (es.take i), e.1, rfl, k4 _ _ hDM e1, ?_, (k1.trans k4).mutN hD, ?_⟩
    · have h1 := mergeK_len (es.take i) []
      have h2 : (es.take i).length ≤ 1000000 := by rw [List.length_take]; omega
      exact Nat.lt_of_le_of_lt (Nat.le_trans h1 (by simpa using h2)) (by decide)
    · rw [upd_same, List.take_add_one, he]
      show _ = some (HO.dK (mergeK [] (es.take i ++ [e])))
      rw [mergeK_snoc]
  · have e : i = n := by omega
    subst e
    rw [List.take_of_length_le (by omega)] at e1
    exact .inl ⟨w.stops H1 (hG _ k1), hd D H1 hD k1 e1⟩
theorem valV_merge (k : Key) : ∀ (es acc : List (Key × V)), (valV (mergeK acc es) k).isSome = ((valV acc k).isSome || es.any fun e => decide (e.1 = k)) := by
  intro es
  induction es with
  | nil => intro acc; show (valV acc k).isSome = _; simp
  | cons e r ih =>
    intro acc
    show (valV (mergeK (putK acc e.1 e.2) r) k).isSome = _
    rw [ih, valV_put, List.any_cons]
    by_cases h : k = e.1
    · rw [if_pos h, decide_eq_true h.symm]; simp
    · rw [if_neg h, decide_eq_false (fun z => h z.symm)]; simp
/-- {x: True for x in ns}: who is in it -/
theorem known_in (ns : List Int) (f : Int → V) (n : Int) : (valV (mergeK [] (ns.map fun i => ((Sum.inl i : Key), f i))) (Sum.inl n)).isSome = decide (n ∈ ns) := by
  rw [valV_merge, valV_nil]
  rw [Bool.eq_iff_iff]
  simp
end
/-! ### ints -/
theorem cmul_l {i j : Int} (h1 : -(2 ^ 64) < i) (h2 : i < 2 ^ 64) : CMul i j := .inl ⟨h1, h2⟩
theorem cmul_r {i j : Int} (h1 : -(2 ^ 64) < j) (h2 : j < 2 ^ 64) : CMul i j := .inr ⟨h1, h2⟩
theorem cdivw {i j : Int} (h1 : 0 < j) (h2 : j < 2 ^ 64) : CDivW i j := wide_div (b := 64) h1 (by omega) (by decide) (by decide)
theorem at_lt {α : Type} {xs : List α} {i : Int} (h0 : 0 ≤ i) (h1 : i < xs.length) : ∃ v, xs[i.toNat]? = some v ∧ atI xs i = some v := by
  have hl : i.toNat < xs.length := by omega
  refine ⟨xs[i.toNat], List.getElem?_eq_getElem hl, ?_⟩
  have e := atI_nat (xs := xs) (j := i.toNat) (List.getElem?_eq_getElem hl)
  rw [Int.toNat_of_nonneg h0] at e
  exact e
theorem at_neg1 {xs : List V} {d : V} (h : 0 < xs.length) : atI xs (-1) = some (xs.getLastD d) := by
  have hne : xs ≠ [] := by intro z; subst z; simp at h
  have z := atI_last xs.dropLast (xs.getLast hne)
  rw [List.dropLast_concat_getLast hne] at z
  rw [z, List.getLastD_eq_getLast?, List.getLast?_eq_some_getLast hne]
  rfl
/-! ### the deck -/
def MOSTD : Nat := 1099511627776
structure Deck (H : Hp) (d c : Addr) (n : Nat) : Prop where
  ex : ∃ (cs : List Int) (a : Nat) (b : Int) (t : Nat), H d = some (.lst [.ref c, .int a, .int b, .int t]) ∧ H c = some (.lst (cs.map V.int)) ∧ t ≤ n
  ne : c ≠ d
theorem Deck.kp {M : List Addr} {H H' : Hp} {d c : Addr} {n : Nat} (k : Kp M H H') (h1 : d ∉ M) (h2 : c ∉ M) (D : Deck H d c n) : Deck H' d c n := by
  obtain ⟨⟨cs, a, b, t, e1, e2, e3⟩, ne⟩ := D
  exact ⟨⟨cs, a, b, t, k _ _ h1 e1, k _ _ h2 e2, e3⟩, ne⟩
theorem Deck.new {H : Hp} {d c : Addr} {n : Nat} {p : Addr} {o : HO} (h : H p = none) (D : Deck H d c n) : Deck (upd H p o) d c n := D.kp (M := []) (Kp.new h) (by simp) (by simp)
theorem Deck.mut {H : Hp} {d c : Addr} {n : Nat} {p : Addr} {o : HO} (h1 : p ≠ d) (h2 : p ≠ c) (D : Deck H d c n) : Deck (upd H p o) d c n :=
  D.kp (M := [p]) (Kp.mut (by simp)) (by simpa using Ne.symm h1) (by simpa using Ne.symm h2)
theorem Deck.mono {H : Hp} {d c : Addr} {n m : Nat} (D : Deck H d c n) (h : n ≤ m) : Deck H d c m := by
  obtain ⟨⟨cs, a, b, t, e1, e2, e3⟩, ne⟩ := D
  exact ⟨⟨cs, a, b, t, e1, e2, Nat.le_trans e3 h⟩, ne⟩
theorem Deck.at {H : Hp} {d c : Addr} {n : Nat} (D : Deck H d c n) : (∃ xs, H d = some (.lst xs)) ∧ ∃ xs, H c = some (.lst xs) := by
  obtain ⟨⟨cs, a, b, t, e1, e2, e3⟩, ne⟩ := D
  exact ⟨⟨_, e1⟩, ⟨_, e2⟩⟩
theorem Deck.ne1 {H : Hp} {d c p : Addr} {n : Nat} (D : Deck H d c n) (h : H p = none) : p ≠ d ∧ p ≠ c := by
  obtain ⟨⟨xs, e1⟩, ys, e2⟩ := D.at
  exact ⟨(ne_of_none e1 h).symm, (ne_of_none e2 h).symm⟩
end FW

set_option Elab.async false
set_option linter.all false
set_option maxRecDepth 100000
set_option maxHeartbeats 4000000
/-! {key: value for a in as if .. for b in bs if ..}: a dict by two clauses, as a rule of the layer (my own: the layer has it for lists). -/
namespace FW
open PySem PySem.Spec PyProof.Rows L2
section
variable {kx vx ta ia tb ib : Expr} {fa fb : List Expr} {sc : Scope} {ps : Pos}
abbrev two (kx vx ta ia : Expr) (fa : List Expr) (tb ib : Expr) (fb : List Expr) (sc : Scope) (ps : Pos) : Expr := .DictComp kx vx [⟨ta, ia, fa, 0⟩, ⟨tb, ib, fb, 0⟩] sc ps
/-- the tests of a clause, one behind the other -/
abbrev testsOf2 (fs : List Expr) (env : Env) : Sem Bool := forIn fs true fun c r => if r = true then do let ok ← isTrue c env (eval c env); pure (ForInStep.yield ok) else pure (ForInStep.yield r)
theorem turn_first (it : Value) (D : Addr) (env : Env) : compTurn (two kx vx ta ia fa tb ib fb sc ps) 0 it (.ref D) env = (do
    standAt ia.pos
    match ← pyNext it with
    | none => pure (.done .next)
    | some u =>
      letOwnedTupleGo ta it u
      assign ta env u
      let mut good := true
      for c in fa do
        if good then good ← isTrue c env (eval c env)
      if good then
        let y ← eval ib env
        standAt ib.pos
        let y ← foldedSetIterable ib env y
        let _ ← runOwn (.compStart (two kx vx ta ia fa tb ib fb sc ps) 1 (← holding [y] (pyIter y)) (.ref D) env) env
      again (.compLoop (two kx vx ta ia fa tb ib fb sc ps) 0 it (.ref D) env)) := by rfl
theorem turn_second (it : Value) (D : Addr) (env : Env) : compTurn (two kx vx ta ia fa tb ib fb sc ps) 1 it (.ref D) env = (do
    standAt ib.pos
    match ← pyNext it with
    | none => pure (.done .next)
    | some u =>
      letOwnedTupleGo tb it u
      assign tb env u
      let mut good := true
      for c in fb do
        if good then good ← isTrue c env (eval c env)
      if good then
        (do
          let k ← eval kx env
          let v ← holding [k] (eval vx env)
          standAt { kx.pos with endLine := vx.pos.endLine, endCol := vx.pos.endCol }
          holding [k, v] (dictSet D k v))
      again (.compLoop (two kx vx ta ia fa tb ib fb sc ps) 1 it (.ref D) env)) := by rfl
variable {pg : Program} {wd : World} {A : Around} {R : Result → Shared → Prop} {st : Shared} {it : Value} {D : Addr} {env : Env}
/-- the first clause's loop; nothing raises in it -/
theorem loop_first (hf : ∀ y, foldedSetIterable ib env y = pure y) (G : Nat → Shared → Prop)
    (go : ∀ n z, G n z → wpAny (model pg wd) A (pyNext it) (fun r z1 => match r with
      | none => R (.ok .next) z1
      | some u => wpAny (model pg wd) A (letOwnedTupleGo ta it u) (fun _ z2 => wpAny (model pg wd) A (assign ta env u) (fun _ z3 => wpAny (model pg wd) A (testsOf2 fa env) (fun b z4 =>
          if b = true then wpAny (model pg wd) A (eval ib env) (fun y z5 => wpAny (model pg wd) A (pyIter y) (fun j z6 =>
            codeAny (model pg wd) A (.compStart (two kx vx ta ia fa tb ib fb sc ps) 1 j (.ref D) env) (fun r z7 => match r with
              | .ok _ => ∃ m, m < n ∧ G m z7
              | .error _ => False) z6) (fun _ _ => False) z5) (fun _ _ => False) z4
          else ∃ m, m < n ∧ G m z4) (fun _ _ => False) z3) (fun _ _ => False) z2) (fun _ _ => False) z1) (fun _ _ => False) z)
    (n : Nat) (h : G n st) : codeAny (model pg wd) A (.compLoop (two kx vx ta ia fa tb ib fb sc ps) 0 it (.ref D) env) R st := by
  refine codeAny_loop rfl G ?_ n h
  intro n z hz
  show wpAny _ A ((compTurn (two kx vx ta ia fa tb ib fb sc ps) 0 it (.ref D) env).onRaise _) _ _ z
  apply wpAny_noted
  rw [turn_first]
  apply wpAny_bind
  apply wpAny_standAt
  apply wpAny_bind
  refine thnF (go n z hz) fun r z1 h1 => ?_
  cases r with
  | none => exact wpAny_pure h1
  | some u =>
    apply wpAny_bind
    refine thnF h1 fun _ z2 h2 => ?_
    apply wpAny_bind
    refine thnF h2 fun _ z3 h3 => ?_
    apply wpAny_bind
    refine thnF h3 fun b z4 h4 => ?_
    cases b with
    | false => exact wpAny_pure ⟨rfl, h4⟩
    | true =>
      apply wpAny_bind
      refine thnF h4 fun y z5 h5 => ?_
      apply wpAny_bind
      apply wpAny_standAt
      apply wpAny_bind
      refine wpAny_of_eq (hf y) ?_
      apply wpAny_bind
      apply wpAny_holding
      refine thnF h5 fun j z6 h6 => ?_
      apply wpAny_bind
      refine wpAny_runOwn ?_
      rw [Around.mark_none]
      refine codeAny_mono h6 fun r z7 h7 => ?_
      cases r with
      | error _ => exact False.elim h7
      | ok _ => first | exact wpAny_pure ⟨rfl, h7⟩ | exact wpAny_bind (wpAny_pure (wpAny_pure ⟨rfl, h7⟩))
/-- the second clause's loop -/
theorem loop_second (G : Nat → Shared → Prop)
    (go : ∀ n z, G n z → wpAny (model pg wd) A (pyNext it) (fun r z1 => match r with
      | none => R (.ok .next) z1
      | some u => wpAny (model pg wd) A (letOwnedTupleGo tb it u) (fun _ z2 => wpAny (model pg wd) A (assign tb env u) (fun _ z3 => wpAny (model pg wd) A (testsOf2 fb env) (fun b z4 =>
          if b = true then wpAny (model pg wd) A (eval kx env) (fun k z5 => wpAny (model pg wd) A (eval vx env) (fun v z6 => wpAny (model pg wd) A (dictSet D k v) (fun _ z7 => ∃ m, m < n ∧ G m z7) (fun _ _ => False) z6) (fun _ _ => False) z5) (fun _ _ => False) z4
          else ∃ m, m < n ∧ G m z4) (fun _ _ => False) z3) (fun _ _ => False) z2) (fun _ _ => False) z1) (fun _ _ => False) z)
    (n : Nat) (h : G n st) : codeAny (model pg wd) A (.compLoop (two kx vx ta ia fa tb ib fb sc ps) 1 it (.ref D) env) R st := by
  refine codeAny_loop rfl G ?_ n h
  intro n z hz
  show wpAny _ A ((compTurn (two kx vx ta ia fa tb ib fb sc ps) 1 it (.ref D) env).onRaise _) _ _ z
  apply wpAny_noted
  rw [turn_second]
  apply wpAny_bind
  apply wpAny_standAt
  apply wpAny_bind
  refine thnF (go n z hz) fun r z1 h1 => ?_
  cases r with
  | none => exact wpAny_pure h1
  | some u =>
    apply wpAny_bind
    refine thnF h1 fun _ z2 h2 => ?_
    apply wpAny_bind
    refine thnF h2 fun _ z3 h3 => ?_
    apply wpAny_bind
    refine thnF h3 fun b z4 h4 => ?_
    cases b with
    | false => exact wpAny_pure ⟨rfl, h4⟩
    | true =>
      apply wpAny_bind
      apply wpAny_bind
      refine thnF h4 fun k z5 h5 => ?_
      apply wpAny_bind
      apply wpAny_holding
      refine thnF h5 fun v z6 h6 => ?_
      apply wpAny_bind
      apply wpAny_standAt
      apply wpAny_holding
      exact thnF h6 fun _ z7 h7 => wpAny_pure ⟨rfl, h7⟩
/-- the second clause begins -/
theorem start_second (h0 : codeAny (model pg wd) A (.compLoop (two kx vx ta ia fa tb ib fb sc ps) 1 it (.ref D) env) R st)
    (h1 : wpAny (model pg wd) A (pyIter it) (fun j z => codeAny (model pg wd) A (.compLoop (two kx vx ta ia fa tb ib fb sc ps) 1 j (.ref D) env) R z) (notedBy (model pg wd) A env fun x z => R (.error x) z) st) :
    codeAny (model pg wd) A (.compStart (two kx vx ta ia fa tb ib fb sc ps) 1 it (.ref D) env) R st := by
  apply codeAny_of_tree
  show wpAny _ _ ((compStart (two kx vx ta ia fa tb ib fb sc ps) 1 it (.ref D) env).onRaise _) _ _ st
  apply wpAny_notedAt
  unfold compStart
  show wpAny _ _ (ask >>= _) _ _ st
  apply wpAny_bind
  apply wpAny_askSetting
  apply wpAny_ite
  split
  · first | exact wpAny_bind (wpAny_pure (wpAny_pure ⟨rfl, h0⟩)) | exact wpAny_pure ⟨rfl, h0⟩
  · apply wpAny_bind
    apply wpAny_rule
    show wpAny _ _ (standAt ib.pos >>= _) _ _ st
    apply wpAny_bind
    apply wpAny_standAt
    apply wpAny_bind
    exact wpAny_mono h1 (fun _ _ q => wpAny_pure ⟨rfl, q⟩) fun _ _ q => q
end
section
variable {X : Cx} {kx vx ta ia tb ib : Expr} {fa fb : List Expr} {sc : Scope} {ps qs : Pos} {own : List (Str × Nat)} {us : List Nat} {wa wb : TI} {ga gb : TG} {ra rb : TT} {tk tv : TE}
/-- the inner walk of one turn: from it Nx is reached -/
def Inner2 (J : It) (gb : TG) (rb : TT) (tk tv : TE) (us : List Nat) (D : Addr) (σ : L2.St) (H : Hp) (Nx : Hp → Prop) : Prop := ∃ W : Nat → Nat → Hp → Prop, (∃ m, W 0 m H) ∧ ∀ j k H1, W j k H1 →
  (J.stop j H1 ∧ Nx H1) ∨ (J.go j H1 ∧ ∃ Ny : Hp → Prop, (∀ H2, Ny H2 → ∃ k', k' < k ∧ W (j + 1) k' H2) ∧ ∀ x H2, J.yld j H1 x H2 → gb x (wipe σ us) H2 fun σ3 H3 => wipe σ3 us = wipe σ us ∧ rb σ3 H3 fun b H4 =>
    if b = true then tk σ3 H4 fun y H5 => tv σ3 H5 fun z H6 => ∃ kvs key, y = kV key ∧ H6 D = some (.dK kvs) ∧ kvs.length < sizeLine ∧ Ny (upd H6 D (.dK (putK kvs key z))) else Ny H4)
/-- the whole -/
def tDc2 (wa : TI) (ga : TG) (ra : TT) (wb : TI) (gb : TG) (rb : TT) (tk tv : TE) (os us : List Nat) : TE := fun σ H Q => wa σ H fun J H1 => ∀ D, H1 D = none → ∃ W : Nat → Nat → Hp → Prop, (∃ m, W 0 m (upd H1 D (.dK []))) ∧ ∀ i m H2, W i m H2 →
  (J.stop i H2 ∧ Q (.ref D) H2) ∨ (J.go i H2 ∧ ∃ Nx : Hp → Prop, (∀ H3, Nx H3 → ∃ m', m' < m ∧ W (i + 1) m' H3) ∧ ∀ x H3, J.yld i H2 x H3 → ga x (wipe σ os) H3 fun σ2 H4 => wipe σ2 os = wipe σ os ∧ ra σ2 H4 fun b H5 =>
    if b = true then wb σ2 H5 fun J1 H6 => Inner2 J1 gb rb tk tv us D σ2 H6 Nx else Nx H5)
theorem dc2_run {pins : List (Addr × Obj)} {s : Shared} {σ : L2.St} {H : Hp} {Q : VK} {use : Option (Value → Sem Unit)} {Qf : Value → Shared → Prop}
    (calm : X.calm = true) (nd : X.N.Nodup) (I : Inv X pins σ H s) (pa : PI X ta ia wa) (ok : BlkOk X.N X.env.scope sc own) (sub : ∀ i ∈ us, i ∈ own.map (·.2))
    (pga : ∀ z G C cl fp, PG (X.blk z G sc (compEnvC sc cl C X.env) fp) ta ga) (pra : ∀ z G C cl fp, PTs (X.blk z G sc (compEnvC sc cl C X.env) fp) fa ra)
    (pb : ∀ z G C cl fp, PI (X.blk z G sc (compEnvC sc cl C X.env) fp) tb ib wb) (pgb : ∀ z G C cl fp, PG (X.blk z G sc (compEnvC sc cl C X.env) fp) tb gb) (prb : ∀ z G C cl fp, PTs (X.blk z G sc (compEnvC sc cl C X.env) fp) fb rb)
    (pk : ∀ z G C cl fp, PE (X.blk z G sc (compEnvC sc cl C X.env) fp) kx tk) (pv' : ∀ z G C cl fp, PE (X.blk z G sc (compEnvC sc cl C X.env) fp) vx tv)
    (hfa : ∀ y, foldedSetIterable ia X.env y = pure y) (hfb : ∀ env y, foldedSetIterable ib env y = pure y)
    (h : tDc2 wa ga ra wb gb rb tk tv (own.map (·.2)) us σ H Q)
    (fin : ∀ D C z m H', Inv X pins σ H' z → Q (.ref D) H' → z.heap.Ns C m → FpOk X pins H' C → compPost (model X.prog X.w) X.A X.xe use Qf (.ref D) C (.ok .next) z) :
    wpAny (model X.prog X.w) X.A (comprehension (two kx vx ta ia fa tb ib fb sc ps) sc X.env qs newDict false (eval ia X.env) use) Qf X.xe s := by
  have cellsOk : ∀ y ∈ sc.names, y.2 = .free → ∃ c, X.env.cells.lookup y.1 = some c := by
    intro y hy e
    rcases ok.free y hy e with k | k
    · exact I.ok.has _ (.inl k)
    · exact I.ok.has _ (.inr k)
  refine wpAny_comprehension_free (use := use) rfl hfa (closure_ok cellsOk) ok.kind (fun y hy e => by rw [ok.uniq y hy, e]) ?_
  refine thn (pa.run pins s σ H _ I h) fun _ _ hx => thn hx fun _ z2 hz2 => ?_
  obtain ⟨it, fp, tn, J, G2, rfl, I2, T, at2, far2, q⟩ := hz2
  refine wpAny_newObj_type (newEnv_comp ?_)
  -- the new dict stands at D
  obtain ⟨D, hD⟩ : ∃ D, D = z2.heap.objs.size := ⟨_, rfl⟩
  rw [← hD]
  have freeD : G2 D = none := I2.hok.fresh (Nat.le_of_eq hD.symm)
  obtain ⟨W, ⟨m0, w0⟩, turn⟩ := q D freeD
  obtain ⟨z3, e3⟩ : ∃ z3 : Shared, z3 = { z2 with heap := z2.heap.push { cls := .type "dict", data := .dict #[] } } := ⟨_, rfl⟩
  have h3 : z3.heap = z2.heap.push { cls := .type "dict", data := .dict #[] } := by rw [e3]
  have I3 : Inv X pins σ (upd G2 D (.dK [])) z3 := by
    rw [e3]
    refine I2.laid (t' := z2.toks) (fun _ _ e => Heap.get?_push_of_some _ e) (Nat.le_of_eq hD.symm) ?_
    rw [hD]
    exact dk_empty z2.heap I2.big
  have small : ∀ b ∈ fp, b < z2.heap.objs.size := by
    intro b hb
    obtain ⟨_, e, _⟩ := T.obj _ _ at2 b hb
    exact Heap.lt_size e
  have far3 : ∀ b ∈ fp, FpOk X pins (upd G2 D (.dK [])) b ∧ b < z3.heap.objs.size := by
    intro b hb
    have lt := small b hb
    constructor
    · refine ⟨?_, (far2 b hb).2⟩
      rw [upd_ne (by rw [hD]; exact Nat.ne_of_lt lt)]
      exact (far2 b hb).1
    · rw [h3, Heap.size_push]
      exact Nat.lt_succ_of_lt lt
  have at3 : tn 0 z3.heap := T.keep _ _ _ at2 fun _ _ _ e => by rw [h3]; exact Heap.get?_push_of_some _ e
  have I4 := block_start I3 ok nd far3
  -- the block's frame
  obtain ⟨cl, hcl⟩ : ∃ cl, cl = cellsFrom (z3.heap.objs.size + 1) sc.names (cloFrom X.env.cells sc.names []) := ⟨_, rfl⟩
  rw [← hcl] at I4
  have gA := pga z3 (upd G2 D (.dK [])) z3.heap.objs.size cl fp
  have tA := pra z3 (upd G2 D (.dK [])) z3.heap.objs.size cl fp
  have iB := pb z3 (upd G2 D (.dK [])) z3.heap.objs.size cl fp
  have gB := pgb z3 (upd G2 D (.dK [])) z3.heap.objs.size cl fp
  have tB := prb z3 (upd G2 D (.dK [])) z3.heap.objs.size cl fp
  have eK := pk z3 (upd G2 D (.dK [])) z3.heap.objs.size cl fp
  have eV := pv' z3 (upd G2 D (.dK [])) z3.heap.objs.size cl fp
  show codeAny _ _ (.compStart (two kx vx ta ia fa tb ib fb sc ps) 0 (.ref it) (.ref D) (compEnvC sc (cellsFrom (({ z2 with heap := z2.heap.push { cls := .type "dict", data := .dict #[] } } : Shared).heap.objs.size + 1) sc.names (cloFrom X.env.cells sc.names [])) ({ z2 with heap := z2.heap.push { cls := .type "dict", data := .dict #[] } } : Shared).heap.objs.size X.env))
    (compPost (model X.prog X.w) X.A X.xe use Qf (.ref D) ({ z2 with heap := z2.heap.push { cls := .type "dict", data := .dict #[] } } : Shared).heap.objs.size) { ({ z2 with heap := z2.heap.push { cls := .type "dict", data := .dict #[] } } : Shared) with heap := pushCells (({ z2 with heap := z2.heap.push { cls := .type "dict", data := .dict #[] } } : Shared).heap.push { cls := .type "dict", data := .dict #[] }) sc.names }
  rw [← e3, ← hcl]
  have none3 : ∀ b ∈ fp, (upd G2 D (.dK [])) b = none := fun b hb => (far3 b hb).1.1
  obtain ⟨ev, hev⟩ : ∃ ev, ev = compEnvC sc cl z3.heap.objs.size X.env := ⟨_, rfl⟩
  rw [← hev] at I4 gA tA iB gB tB eK eV ⊢
  have evL : ev.locals = z3.heap.objs.size := by rw [hev]; rfl
  obtain ⟨G3, hG3⟩ : ∃ G3, G3 = upd G2 D (.dK []) := ⟨_, rfl⟩
  rw [← hG3] at I3 I4 gA tA iB gB tB eK eV w0 none3 far3
  obtain ⟨z4, e4⟩ : ∃ z4 : Shared, z4 = { z3 with heap := pushCells (z3.heap.push { cls := .type "dict", data := .dict #[] }) sc.names } := ⟨_, rfl⟩
  rw [← e4] at I4 ⊢
  have at4 : tn 0 z4.heap := T.keep _ _ _ at3 fun _ _ _ e => by rw [e4]; exact pushCells_keeps _ _ _ _ (Heap.get?_push_of_some _ e)
  have aside : ∀ {σ' : L2.St} {G : Hp} {z : Shared}, Inv (X.blk z3 G3 sc ev fp) [] σ' G z → (∀ b ∈ fp, G b = none) → ∀ b ∈ fp, FpOk (X.blk z3 G3 sc ev fp) [] G b := by
    intro σ' G z J' hn b hb
    exact ⟨hn b hb, (J'.ok.exf b hb).1, J'.ok.exfs b hb, .inl hb, fun x c e => (J'.ok.exf b hb).2 x c e, fun p hp => absurd (show p ∈ ([] : List (Addr × Obj)) ++ [] from hp) (by simp)⟩
  have whole : codeAny (model X.prog X.w) X.A (.compLoop (two kx vx ta ia fa tb ib fb sc ps) 0 (.ref it) (.ref D) ev) (compPost (model X.prog X.w) X.A X.xe use Qf (.ref D) z3.heap.objs.size) z4 := by
    refine loop_first (hfb ev) (fun n z => ∃ i G, Inv (X.blk z3 G3 sc ev fp) [] (wipe σ (own.map (·.2))) G z ∧ tn i z.heap ∧ (∀ b ∈ fp, G b = none) ∧ W i n G) ?_ m0 ⟨0, G3, I4, at4, none3, w0⟩
    rintro n z5 ⟨i, G5, I5, at5, none5, w5⟩
    rcases turn i n G5 w5 with ⟨stop, qq⟩ | ⟨goes, Nx, hNx, step⟩
    · refine thnF (T.done (X.blk z3 G3 sc ev fp) rfl rfl rfl calm i [] z5 _ G5 (fun _ _ => False) I5 (aside I5 none5) at5 stop) ?_
      rintro r z6 ⟨rfl, I6⟩
      have I7 : Inv X pins σ G5 z6 := I3.call' (ch := fp) I6.os I6.base I6.hok I6.bare fun b hb =>
        let f := (far3 b hb).1
        ⟨f.2.2.2.1, f.2.1, f.2.2.2.2.1, f.2.2.2.2.2⟩
      have noC : G5 z3.heap.objs.size = none := by
        have y : G5 ev.locals = none := I6.free
        rw [evL] at y
        exact y
      obtain ⟨m, hn, _⟩ := I6.loc
      have hn' : z6.heap.Ns ev.locals m := hn
      rw [evL] at hn'
      exact fin D _ z6 m G5 I7 qq hn' (I3.fpOk (Nat.le_refl _) noC)
    · refine thnF (T.item (X.blk z3 G3 sc ev fp) rfl rfl rfl calm i [] z5 _ G5 (fun _ _ => False) I5 (aside I5 none5) at5 goes) ?_
      rintro r z6 ⟨u, rfl, h6⟩
      refine thnF h6 ?_
      rintro _ z7 ⟨x, G7, I7, r7, y7, at7, none7⟩
      refine thnF (gA.run _ z7 _ G7 x u _ (I7.pinned (aside I7 none7) (T.obj _ _ at7)) r7 (step x G7 y7)) ?_
      rintro _ z8 ⟨σ8, G8, I8, hw8, q8⟩
      refine thnF (tA.run _ z8 σ8 G8 _ I8 q8) ?_
      rintro b z9 ⟨G9, I9, q9⟩
      -- one turn of the first clause is over
      have over : ∀ {σ9 : L2.St} {z : Shared} {G : Hp}, Inv (X.blk z3 G3 sc ev fp) ([] ++ pinsAt fp z7.heap) σ9 G z → (wipe σ (own.map (·.2))).length = σ9.length → (∀ (j : Nat) v, (wipe σ (own.map (·.2)))[j]? = some (some v) → σ9[j]? = some (some v)) → Nx G →
          ∃ m, m < n ∧ ∃ i G, Inv (X.blk z3 G3 sc ev fp) [] (wipe σ (own.map (·.2))) G z ∧ tn i z.heap ∧ (∀ b ∈ fp, G b = none) ∧ W i m G := by
        intro σ9 z G I' hl hk nx
        obtain ⟨m', lt, w'⟩ := hNx G nx
        have pins' : ∀ b ∈ fp, ∀ o, z7.heap.get? b = some o → z.heap.get? b = some o ∧ G b = none := by
          intro b hb o e
          have y := I'.pin (b, o) (List.mem_append_right _ (List.mem_append_right _ (mem_pinsAt hb e)))
          exact ⟨y.1, y.2.1⟩
        refine ⟨m', lt, i + 1, G, (I'.unpinned (pins := [])).weak hl hk, T.keep _ _ _ at7 (fun b hb o e => (pins' b hb o e).1), ?_, w'⟩
        intro b hb
        obtain ⟨o, e, _⟩ := T.obj _ _ at7 b hb
        exact (pins' b hb o e).2
      have len8 : (wipe σ (own.map (·.2))).length = σ8.length := by rw [← hw8, wipe_length]
      cases b with
      | false =>
        have q9' : Nx G9 := q9
        show ∃ m, m < n ∧ _
        exact over I9 len8 (fun j v e => by rw [← hw8] at e; exact (wipe_some e).1) q9'
      | true =>
        have q9' : wb σ8 G9 fun J1 H6 => Inner2 J1 gb rb tk tv us D σ8 H6 Nx := q9
        show wpAny _ _ (eval ib ev) _ _ z9
        refine thnF (iB.run _ z9 σ8 G9 _ I9 q9') fun _ _ hx => thnF hx ?_
        rintro _ z11 ⟨it1, fp1, tn1, J1, G11, rfl, I11, T1, at11, far11, W1, ⟨m1, w1⟩, turn1⟩
        have aside1 : ∀ {G : Hp}, (∀ b ∈ fp1, G b = none) → ∀ b ∈ fp1, FpOk (X.blk z3 G3 sc ev fp) ([] ++ pinsAt fp z7.heap) G b := fun hn b hb => ⟨hn b hb, (far11 b hb).2⟩
        have inner : codeAny (model X.prog X.w) X.A (.compLoop (two kx vx ta ia fa tb ib fb sc ps) 1 (.ref it1) (.ref D) ev) (fun r z => match r with
            | .ok _ => ∃ m, m < n ∧ ∃ i G, Inv (X.blk z3 G3 sc ev fp) [] (wipe σ (own.map (·.2))) G z ∧ tn i z.heap ∧ (∀ b ∈ fp, G b = none) ∧ W i m G
            | .error _ => False) z11 := by
          refine loop_second (fun k z => ∃ j G, Inv (X.blk z3 G3 sc ev fp) ([] ++ pinsAt fp z7.heap) (wipe σ8 us) G z ∧ tn1 j z.heap ∧ (∀ b ∈ fp1, G b = none) ∧ W1 j k G) ?_ m1 ⟨0, G11, I11.weak (wipe_length _ _) (fun j v e => (wipe_some e).1), at11, fun b hb => (far11 b hb).1, w1⟩
          rintro k z12 ⟨j, G12, I12, at12, none12, w12⟩
          rcases turn1 j k G12 w12 with ⟨stop1, nx1⟩ | ⟨goes1, Ny, hNy, step1⟩
          · refine thnF (T1.done (X.blk z3 G3 sc ev fp) rfl rfl rfl calm j _ z12 (wipe σ8 us) G12 (fun _ _ => False) I12 (aside1 none12) at12 stop1) ?_
            rintro r z13 ⟨rfl, I13⟩
            refine over I13 (len8.trans (wipe_length σ8 us).symm) ?_ nx1
            intro j' v e
            rw [← hw8] at e
            obtain ⟨e1, e2⟩ := wipe_some e
            rw [wipe_out fun y => e2 (sub j' y)]
            exact e1
          · refine thnF (T1.item (X.blk z3 G3 sc ev fp) rfl rfl rfl calm j _ z12 (wipe σ8 us) G12 (fun _ _ => False) I12 (aside1 none12) at12 goes1) ?_
            rintro r z13 ⟨u1, rfl, h13⟩
            refine thnF h13 ?_
            rintro _ z14 ⟨x1, G14, I14, r14, y14, at14, none14⟩
            refine thnF (gB.run _ z14 (wipe σ8 us) G14 x1 u1 _ (I14.pinned (aside1 none14) (T1.obj _ _ at14)) r14 (step1 x1 G14 y14)) ?_
            rintro _ z15 ⟨σ15, G15, I15, hw15, q15⟩
            refine thnF (tB.run _ z15 σ15 G15 _ I15 q15) ?_
            rintro b1 z16 ⟨G16, I16, q16⟩
            have over1 : ∀ {z : Shared} {G : Hp}, Inv (X.blk z3 G3 sc ev fp) (([] ++ pinsAt fp z7.heap) ++ pinsAt fp1 z14.heap) σ15 G z → Ny G → ∃ m, m < k ∧ ∃ j G, Inv (X.blk z3 G3 sc ev fp) ([] ++ pinsAt fp z7.heap) (wipe σ8 us) G z ∧ tn1 j z.heap ∧ (∀ b ∈ fp1, G b = none) ∧ W1 j m G := by
              intro z G I' nx
              obtain ⟨m', lt, w'⟩ := hNy G nx
              have pins' : ∀ b ∈ fp1, ∀ o, z14.heap.get? b = some o → z.heap.get? b = some o ∧ G b = none := by
                intro b hb o e
                have y := I'.pin (b, o) (List.mem_append_right _ (List.mem_append_right _ (mem_pinsAt hb e)))
                exact ⟨y.1, y.2.1⟩
              refine ⟨m', lt, j + 1, G, I'.unpinned.weak (by rw [← hw15, wipe_length]) (fun j v e => by rw [← hw15] at e; exact (wipe_some e).1), T1.keep _ _ _ at14 (fun b hb o e => (pins' b hb o e).1), ?_, w'⟩
              intro b hb
              obtain ⟨o, e, _⟩ := T1.obj _ _ at14 b hb
              exact (pins' b hb o e).2
            cases b1 with
            | false =>
              have q16' : Ny G16 := q16
              show ∃ m, m < k ∧ _
              exact over1 I16 q16'
            | true =>
              have q16' : tk σ15 G16 fun y H5 => tv σ15 H5 fun z H6 => ∃ kvs key, y = kV key ∧ H6 D = some (.dK kvs) ∧ kvs.length < sizeLine ∧ Ny (upd H6 D (.dK (putK kvs key z))) := q16
              show wpAny _ _ (eval kx ev) _ _ z16
              refine thnF (eK.run _ z16 σ15 G16 _ I16 q16') ?_
              rintro _ z17 ⟨yk, G17, I17, r17, q17⟩
              refine thnF (eV.run _ z17 σ15 G17 _ I17 q17) ?_
              rintro _ z18 ⟨yv, G18, I18, r18, kvs, key, rfl, hD18, lt18, nx⟩
              exact d_dictSet (X := X.blk z3 G3 sc ev fp) I18 hD18 lt18 r17 r18 fun _ I19 => over1 I19 nx
        exact start_second inner (T1.self X.A 0 _ _ _ at11 inner)
  exact codeAny_compStart_dict whole (T.self X.A 0 _ _ _ at4 whole)
/-- name = {..}, the name a local of the def -/
theorem ps_setDc2 {i : Nat} {y : Str} {py spos : Pos} (calm : X.calm = true) (nd : X.N.Nodup) (hy : X.N[i]? = some y) (hyl : X.env.scope.names.lookup y = some .local)
    (hsw : swapsWith (two kx vx ta ia fa tb ib fb sc ps) (some (.Name y py)) spos.line X.env = pure true)
    (pa : PI X ta ia wa) (ok : BlkOk X.N X.env.scope sc own) (sub : ∀ i ∈ us, i ∈ own.map (·.2))
    (pga : ∀ z G C cl fp, PG (X.blk z G sc (compEnvC sc cl C X.env) fp) ta ga) (pra : ∀ z G C cl fp, PTs (X.blk z G sc (compEnvC sc cl C X.env) fp) fa ra)
    (pb : ∀ z G C cl fp, PI (X.blk z G sc (compEnvC sc cl C X.env) fp) tb ib wb) (pgb : ∀ z G C cl fp, PG (X.blk z G sc (compEnvC sc cl C X.env) fp) tb gb) (prb : ∀ z G C cl fp, PTs (X.blk z G sc (compEnvC sc cl C X.env) fp) fb rb)
    (pk : ∀ z G C cl fp, PE (X.blk z G sc (compEnvC sc cl C X.env) fp) kx tk) (pv' : ∀ z G C cl fp, PE (X.blk z G sc (compEnvC sc cl C X.env) fp) vx tv)
    (hfa : ∀ y, foldedSetIterable ia X.env y = pure y := by intro _; rfl) (hfb : ∀ env y, foldedSetIterable ib env y = pure y := by intro _ _; rfl) :
    PS X (.Assign [.Name y py] (two kx vx ta ia fa tb ib fb sc ps) spos) (tAsg (tDc2 wa ga ra wb gb rb tk tv (own.map (·.2)) us) (gName i)) := by
  constructor
  intro pins s σ H Ed I h
  rw [exec_Assign_Name_used y py _ _ hsw]
  apply wpAny_bind
  apply wpAny_standAt
  apply wpAny_bind
  show wpAny _ X.A (comprehension (two kx vx ta ia fa tb ib fb sc ps) sc X.env (firstIterPos [⟨ta, ia, fa, 0⟩, ⟨tb, ib, fb, 0⟩] ps) newDict false (eval ia X.env) (some (assign (.Name y py) X.env)) >>= fun _ => pure ()) _ _ s
  apply wpAny_bind
  have h' : tDc2 wa ga ra wb gb rb tk tv (own.map (·.2)) us σ H (fun x H1 => gName i x σ H1 Ed.nx) := h
  refine thn (dc2_run (Qf := fun _ s1 => SP X pins Ed .next s1) calm nd I pa ok sub pga pra pb pgb prb pk pv' hfa hfb h' ?_) (fun _ _ z => wpAny_pure (wpAny_pure z))
  intro L C s1 m H1 I1 q hn ff
  obtain ⟨f0, f1, f2, f3, f4, f5⟩ := ff
  show wpAny _ _ (assign (.Name y py) X.env (.ref L)) _ _ _
  apply wpAny_assign_Name
  refine store_ok2 (v := V.ref L) I1 nd hy (.inl hyl) rfl ?_ (.inr hyl)
  rintro s2 I2 ⟨ad, sb, had⟩
  have hne : C ≠ ad := by
    rcases had with hz | hz
    · exact fun e => f1 (e.trans hz)
    · exact fun e => f4 y ad hz e.symm
  refine ⟨m, hn.sameBut sb hne, fun h3 sb3 => ⟨_, H1, ?_, q⟩⟩
  exact I2.turned (t' := s2.toks) (fun b o hb e => (sb3.2 b hb).trans e) f0 f1 f3 f4 f5
theorem pi_listK {K : PySem.W.Frag} {l tg : Expr} {tl : TE} (hK : X.K = K) (hl : PE X l tl) : PI X tg l (iList K tl) := hK ▸ pi_list hl
theorem pi_tupK {K : PySem.W.Frag} {l tg : Expr} {tl : TE} (hK : X.K = K) (hl : PE X l tl) : PI X tg l (iTup K tl) := hK ▸ pi_tup hl
end
/-! ### its steps -/
section
variable {K : PySem.W.Frag} {σ : L2.St} {H : Hp} {Q : VK}
def Dc2P (J : It) (ga : TG) (ra : TT) (wb : TI) (gb : TG) (rb : TT) (tk tv : TE) (os us : List Nat) (Q : VK) (σ : L2.St) (H1 : Hp) : Prop := ∀ D, H1 D = none → ∃ W : Nat → Nat → Hp → Prop, (∃ m, W 0 m (upd H1 D (.dK []))) ∧ ∀ i m H2, W i m H2 →
  (J.stop i H2 ∧ Q (.ref D) H2) ∨ (J.go i H2 ∧ ∃ Nx : Hp → Prop, (∀ H3, Nx H3 → ∃ m', m' < m ∧ W (i + 1) m' H3) ∧ ∀ x H3, J.yld i H2 x H3 → ga x (wipe σ os) H3 fun σ2 H4 => wipe σ2 os = wipe σ os ∧ ra σ2 H4 fun b H5 =>
    if b = true then wb σ2 H5 fun J1 H6 => Inner2 J1 gb rb tk tv us D σ2 H6 Nx else Nx H5)
theorem w_dc2 {wa wb : TI} {ga gb : TG} {ra rb : TT} {tk tv : TE} {os us : List Nat} (h : wa σ H fun J H1 => Dc2P J ga ra wb gb rb tk tv os us Q σ H1) : tDc2 wa ga ra wb gb rb tk tv os us σ H Q := h
theorem dc2_it {J : It} {n : Nat} {G : Hp → Prop} {Y : Nat → Hp → V → Hp → Prop} (w : Walk J n G Y) {wb : TI} {ga gb : TG} {ra rb : TT} {tk tv : TE} {os us : List Nat} (Pv : Addr → Nat → Hp → Prop) (h0 : ∀ D, H D = none → Pv D 0 (upd H D (.dK []))) (hG : ∀ D i H1, i ≤ n → Pv D i H1 → G H1)
    (hs : ∀ D i x H1 H2, H D = none → i < n → Pv D i H1 → Y i H1 x H2 → ga x (wipe σ os) H2 fun σ2 H4 => wipe σ2 os = wipe σ os ∧ ra σ2 H4 fun b H5 => if b = true then wb σ2 H5 fun J1 H6 => Inner2 J1 gb rb tk tv us D σ2 H6 (Pv D (i + 1)) else Pv D (i + 1) H5)
    (hd : ∀ D H1, H D = none → Pv D n H1 → Q (.ref D) H1) : Dc2P J ga ra wb gb rb tk tv os us Q σ H := by
  intro D hD
  refine ⟨fun i m H1 => m = n - i ∧ i ≤ n ∧ Pv D i H1, ⟨n, by simp, Nat.zero_le _, h0 D hD⟩, ?_⟩
  rintro i m H1 ⟨rfl, hi, p⟩
  by_cases lt : i < n
  · exact .inr ⟨w.goes i H1 lt (hG D i H1 hi p), Pv D (i + 1), fun H3 q => ⟨n - (i + 1), by omega, rfl, lt, q⟩, fun x H2 y => hs D i x H1 H2 hD lt p (w.yields i H1 x H2 lt (hG D i H1 hi p) y)⟩
  · have e : i = n := by omega
    subst e
    exact .inl ⟨w.stops H1 (hG D i H1 hi p), hd D H1 hD p⟩
theorem inner_it {J : It} {n : Nat} {G : Hp → Prop} {Y : Nat → Hp → V → Hp → Prop} (w : Walk J n G Y) {gb : TG} {rb : TT} {tk tv : TE} {us : List Nat} {D : Addr} {Nx : Hp → Prop} (Pv : Nat → Hp → Prop) (h0 : Pv 0 H) (hG : ∀ i H1, i ≤ n → Pv i H1 → G H1)
    (hs : ∀ i x H1 H2, i < n → Pv i H1 → Y i H1 x H2 → gb x (wipe σ us) H2 fun σ3 H3 => wipe σ3 us = wipe σ us ∧ rb σ3 H3 fun b H4 =>
      if b = true then tk σ3 H4 fun y H5 => tv σ3 H5 fun z H6 => ∃ kvs key, y = kV key ∧ H6 D = some (.dK kvs) ∧ kvs.length < sizeLine ∧ Pv (i + 1) (upd H6 D (.dK (putK kvs key z))) else Pv (i + 1) H4)
    (hd : ∀ H1, Pv n H1 → Nx H1) : Inner2 J gb rb tk tv us D σ H Nx := by
  refine ⟨fun i m H1 => m = n - i ∧ i ≤ n ∧ Pv i H1, ⟨n, by simp, Nat.zero_le _, h0⟩, ?_⟩
  rintro i m H1 ⟨rfl, hi, p⟩
  by_cases lt : i < n
  · exact .inr ⟨w.goes i H1 lt (hG i H1 hi p), Pv (i + 1), fun H3 q => ⟨n - (i + 1), by omega, rfl, lt, q⟩, fun x H2 y => hs i x H1 H2 lt p (w.yields i H1 x H2 lt (hG i H1 hi p) y)⟩
  · have e : i = n := by omega
    subst e
    exact .inl ⟨w.stops H1 (hG i H1 hi p), hd H1 p⟩
/-- a comprehension with a test: the turn i gives sel i, or nothing -/
theorem lcp_sel {J : It} {n : Nat} {G : Hp → Prop} {Y : Nat → Hp → V → Hp → Prop} (w : Walk J n G Y) {g : TG} {tt : TT} {te : TE} {vs : List Nat} (M : List Addr) (sel : Nat → Option V) (hz : n ≤ 1000000) (hG : ∀ H', Kp M H H' → G H')
    (hs : ∀ i x H1 H2 (R : V → Hp → Prop) (R0 : Hp → Prop), i < n → Kp M H H1 → Y i H1 x H2 → (∀ y H4, sel i = some y → Kp M H1 H4 → R y H4) → (∀ H4, sel i = none → Kp M H1 H4 → R0 H4) → g x (wipe σ vs) H2 fun σ2 H3 => wipe σ2 vs = wipe σ vs ∧ tt σ2 H3 fun b H4 => if b = true then te σ2 H4 R else R0 H4)
    (hM : ∀ b ∈ M, ∃ o, H b = some o)
    (hd : ∀ D H', H D = none → Kp M H H' → H' D = some (.lst ((List.range n).filterMap sel)) → Q (.ref D) H') : LcP J g tt te vs Q σ H := by
  intro D hD
  have hDM : D ∉ M := fun z => by obtain ⟨o, e⟩ := hM D z; rw [hD] at e; cases e
  refine lc_it w (fun i H' => Kp M H H' ∧ H' D = some (.lst ((List.range i).filterMap sel))) ⟨Kp.new hD, upd_same⟩ (fun i H' _ z => hG H' z.1) ?_ ?_
  · rintro i x H1 H2 hi ⟨k1, e1⟩ y
    refine hs i x H1 H2 _ _ hi k1 y ?_ ?_
    · intro z H4 hz' k4
      refine ⟨_, k4 _ _ hDM e1, ?_, (k1.trans k4).mutN hD, ?_⟩
      · refine Nat.lt_of_le_of_lt (List.length_filterMap_le _ _) ?_
        rw [List.length_range]
        exact Nat.lt_of_lt_of_le (Nat.lt_of_lt_of_le hi hz) (by decide)
      · rw [upd_same, List.range_succ, List.filterMap_append]
        simp [hz']
    · intro H4 hz' k4
      refine ⟨k1.trans k4, ?_⟩
      rw [k4 _ _ hDM e1, List.range_succ, List.filterMap_append]
      simp [hz']
  · rintro H' ⟨k, e⟩
    exact hd D H' hD k e
/-- {k: v for .. if ..}: the turn i puts sel i, or nothing -/
theorem dcp_sel {J : It} {n : Nat} {G : Hp → Prop} {Y : Nat → Hp → V → Hp → Prop} (w : Walk J n G Y) {g : TG} {tt : TT} {tk tv : TE} {vs : List Nat} (M : List Addr) (sel : Nat → Option (Key × V)) (hz : n ≤ 1000000) (hG : ∀ H', Kp M H H' → G H')
    (hs : ∀ i x H1 H2 (R : V → V → Hp → Prop) (R0 : Hp → Prop), i < n → Kp M H H1 → Y i H1 x H2 → (∀ e H4, sel i = some e → Kp M H1 H4 → R (kV e.1) e.2 H4) → (∀ H4, sel i = none → Kp M H1 H4 → R0 H4) → g x (wipe σ vs) H2 fun σ2 H3 => wipe σ2 vs = wipe σ vs ∧ tt σ2 H3 fun b H4 => if b = true then tk σ2 H4 fun y H5 => tv σ2 H5 fun z H6 => R y z H6 else R0 H4)
    (hM : ∀ b ∈ M, ∃ o, H b = some o)
    (hd : ∀ D H', H D = none → Kp M H H' → H' D = some (.dK (mergeK [] ((List.range n).filterMap sel))) → Q (.ref D) H') : DcP J g tt tk tv vs Q σ H := by
  intro D hD
  have hDM : D ∉ M := fun z => by obtain ⟨o, e⟩ := hM D z; rw [hD] at e; cases e
  refine ⟨fun i m H' => m = n - i ∧ i ≤ n ∧ Kp M H H' ∧ H' D = some (.dK (mergeK [] ((List.range i).filterMap sel))), ⟨n, by simp, Nat.zero_le _, Kp.new hD, upd_same⟩, ?_⟩
  rintro i m H1 ⟨rfl, hi, k1, e1⟩
  by_cases hlt : i < n
  · refine .inr ⟨w.goes i H1 hlt (hG _ k1), fun H' => Kp M H H' ∧ H' D = some (.dK (mergeK [] ((List.range (i + 1)).filterMap sel))), fun H' z => ⟨n - (i + 1), by omega, rfl, hlt, z.1, z.2⟩, fun x H2 y => ?_⟩
    refine hs i x H1 H2 (fun y z H5 => ∃ kvs k, y = kV k ∧ H5 D = some (.dK kvs) ∧ kvs.length < sizeLine ∧ (Kp M H (upd H5 D (.dK (putK kvs k z))) ∧ (upd H5 D (.dK (putK kvs k z))) D = some (.dK (mergeK [] ((List.range (i + 1)).filterMap sel))))) _ hlt k1 (w.yields i H1 x H2 hlt (hG _ k1) y) ?_ ?_
    · intro e H4 he k4
      refine ⟨_, e.1, rfl, k4 _ _ hDM e1, ?_, (k1.trans k4).mutN hD, ?_⟩
      · have h1 := mergeK_len ((List.range i).filterMap sel) []
        have h2 : ((List.range i).filterMap sel).length ≤ i := by
          have := List.length_filterMap_le sel (List.range i)
          rw [List.length_range] at this
          exact this
        exact Nat.lt_of_le_of_lt (Nat.le_trans h1 (show _ ≤ 1000000 by simp only [List.length_nil]; omega)) (by decide)
      · rw [upd_same, List.range_succ, List.filterMap_append]
        simp only [List.filterMap_cons, he, List.filterMap_nil]
        rw [mergeK_snoc]
    · intro H4 he k4
      refine ⟨k1.trans k4, ?_⟩
      rw [k4 _ _ hDM e1, List.range_succ, List.filterMap_append]
      simp [he]
  · have e : i = n := by omega
    subst e
    exact .inl ⟨w.stops H1 (hG _ k1), hd D H1 hD k1 e1⟩
/-! ### a dict that is walked; any, sorted, insert -/
def rInsert : V → List V → Hp → VK → Prop := fun x vs H Q => ∃ (l : Addr) (xs : List V) (i : Int) (y : V), x = .ref l ∧ vs = [.int i, y] ∧ H l = some (.lst xs) ∧ xs.length < sizeLine ∧ 0 ≤ i ∧ i < 2 ^ 63 ∧ Q .non (upd H l (.lst (xs.take i.toNat ++ [y] ++ xs.drop i.toNat)))
theorem m_insert {X : Cx} : MtR X "list.insert" rInsert := mt_insert
theorem w_insert {l : Addr} {xs : List V} {k : Nat} {y : V} (h1 : H l = some (.lst xs)) (h2 : xs.length < sizeLine) (h3 : (k : Int) < 2 ^ 63) (h : ∀ H1, H1 l = some (.lst (xs.take k ++ [y] ++ xs.drop k)) → Off l H H1 → Q .non H1) : rInsert (.ref l) [.int k, y] H Q :=
  ⟨l, xs, k, y, rfl, rfl, h1, h2, by omega, h3, h _ upd_same fun x hx => upd_ne hx⟩
theorem w_any {p : Addr} {bs : List Bool} (h1 : SqL K H p (bs.map V.bl)) (h : Q (.bl (bs.any id)) H) : rAny K [.ref p] H Q := ⟨p, bs, rfl, h1, h⟩
theorem w_sorted {p : Addr} {ns : List Int} (h1 : SqL K H p (ns.map V.int)) (h2 : ns.length < 64) (h : ∀ (ys : List Int) l H1, ys.Perm ns → ys.Pairwise (· ≤ ·) → H l = none → H1 l = some (.lst (ys.map V.int)) → Same H H1 → Q (.ref l) H1) : rSorted K [.ref p] H Q :=
  ⟨p, ns, rfl, h1, h2, fun ys l a b c => h ys l _ a b c upd_same (Same.new c)⟩
section
variable {nx bk ct : L2.St → Hp → Prop} {rt : VK}
theorem w_lock {t : TS} {d : Addr} {kvs : List (Key × V)} (e : H d = some (.dK kvs)) (h : ∀ od H1, H1 d = some (.frz od (.dK kvs)) → Off d H H1 → t ⟨fun σ' H' => H' d = some (.frz od (.dK kvs)) ∧ nx σ' (upd H' d (.dK kvs)), fun v H' => H' d = some (.frz od (.dK kvs)) ∧ rt v (upd H' d (.dK kvs)), fun σ' H' => H' d = some (.frz od (.dK kvs)) ∧ bk σ' (upd H' d (.dK kvs)), fun σ' H' => H' d = some (.frz od (.dK kvs)) ∧ ct σ' (upd H' d (.dK kvs))⟩ σ H1) : tLock t ⟨nx, rt, bk, ct⟩ σ H :=
  ⟨d, _, e, trivial, fun od => h od _ upd_same fun x hx => upd_ne hx⟩
/-- behind the walk the dict is as it was -/
theorem unlock {d : Addr} {kvs : List (Key × V)} {H' : Hp} {R : Hp → Prop} {o : Obj} (e : H' d = some (.frz o (.dK kvs))) (h : ∀ H2, H2 d = some (.dK kvs) → Off d H' H2 → R H2) : H' d = some (.frz o (.dK kvs)) ∧ R (upd H' d (.dK kvs)) := ⟨e, h _ upd_same fun x hx => upd_ne hx⟩
def rKeys (x : V) (H1 : Hp) (R : It → Hp → Prop) : Prop := ∃ d o, x = .ref d ∧ ((∃ kvs, H1 d = some (.frz o (.dK kvs)) ∧ R (Itk d o kvs) H1) ∨ ∃ kvs, H1 d = some (.frz o (.dT kvs)) ∧ R (Itkt d o kvs) H1)
theorem w_keys {td : TE} {R : It → Hp → Prop} (h : td σ H fun x H1 => rKeys x H1 R) : iKeys td σ H R := h
theorem w_keys' {d : Addr} {o : Obj} {kvs : List (Key × V)} {R : It → Hp → Prop} (e : H d = some (.frz o (.dK kvs))) (h : R (Itk d o kvs) H) : rKeys (.ref d) H R := ⟨d, o, rfl, .inl ⟨kvs, e, h⟩⟩
theorem lp_keys {d : Addr} {o : Obj} {kvs : List (Key × V)} {ks : List Int} {g : TG} {tb : TS} (hk : kvs.map (·.1) = ks.map (Sum.inl : Int → Key)) (Pv : Nat → L2.St → Hp → Prop) (h0 : Pv 0 σ H) (hl : ∀ i σ H, i ≤ ks.length → Pv i σ H → H d = some (.frz o (.dK kvs)))
    (hs : ∀ i x σ H, ks[i]? = some x → Pv i σ H → g (.int x) σ H fun σ2 H2 => tb ⟨Pv (i + 1), rt, nx, Pv (i + 1)⟩ σ2 H2) (hd : ∀ σ H, Pv ks.length σ H → nx σ H) : Lp (Itk d o kvs) g tb ⟨nx, rt, bk, ct⟩ σ H := by
  have hn : kvs.length = ks.length := by
    have := congrArg List.length hk
    simpa using this
  refine lp_it walk_keys Pv h0 (fun i σ H hi => hl i σ H (by omega)) ?_ (by rw [hn]; exact hd)
  rintro i x σ H H' hi p ⟨rfl, k, v, e, rfl⟩
  have e2 : (kvs.map (·.1))[i]? = some k := by rw [List.getElem?_map, e]; rfl
  rw [hk, List.getElem?_map] at e2
  obtain ⟨z, e3, rfl⟩ := Option.map_eq_some_iff.mp e2
  exact hs i z σ H' e3 p
end
theorem w_tyes {R : Bool → Hp → Prop} (h : R true H) : tYes σ H R := h
theorem w_dinF {a : Addr} {o : Obj} {kvs : List (Key × V)} {n : Int} (e : H a = some (.frz o (.dK kvs))) (h : Q (.bl (valV kvs (Sum.inl n)).isSome) H) : rDIn (.ref a) (.int n) H Q := ⟨a, _, rfl, .inl ⟨kvs, Sum.inl n, .inr ⟨o, e⟩, rfl, rfl⟩, h⟩
theorem w_dgetF {a : Addr} {o : Obj} {kvs : List (Key × V)} {n : Int} {v : V} (e : H a = some (.frz o (.dK kvs))) (e2 : valV kvs (Sum.inl n) = some v) (h : Q v H) : rDGet (.ref a) (.int n) H Q := ⟨a, v, rfl, .inl ⟨kvs, Sum.inl n, .inr ⟨o, e⟩, rfl, e2.symm⟩, h⟩
/-! ### get, reversed, slices, pop -/
def rDGet1 (a : Addr) (y : V) (H : Hp) (Q : VK) : Prop := ∃ o, DGet H a y o ∧ Q (o.getD .non) H
theorem w_dget1 {td ty : TE} (h : td σ H fun x H1 => rIsD x H1 fun a H1 => ty σ H1 fun y H2 => rDGet1 a y H2 Q) : tDGet1 td ty σ H Q := h
theorem w_dget1I {a : Addr} {kvs : List (Key × V)} {n : Int} (e : H a = some (.dK kvs)) (h : Q ((valV kvs (Sum.inl n)).getD .non) H) : rDGet1 a (.int n) H Q := ⟨_, DGet.k (k := Sum.inl n) e, h⟩
def rRev (K : PySem.W.Frag) (vs : List V) (H : Hp) (R : It → Hp → Prop) : Prop := ∃ (a : Addr) (xs : List V), vs = [.ref a] ∧ SqL K H a xs ∧ R (Itv K a xs.length) H
theorem w_rev {ta : TA} {R : It → Hp → Prop} (h : ta σ H fun vs H1 => rRev K vs H1 R) : iRev K ta σ H R := h
theorem w_rev' {a : Addr} {xs : List V} {R : It → Hp → Prop} (h1 : SqL K H a xs) (h : R (Itv K a xs.length) H) : rRev K [.ref a] H R := ⟨a, xs, rfl, h1, h⟩
theorem lp_rev {nx bk ct : L2.St → Hp → Prop} {rt : VK} {a : Addr} {xs : List V} {g : TG} {tb : TS} (Pv : Nat → L2.St → Hp → Prop) (h0 : Pv 0 σ H) (hl : ∀ i σ H, i ≤ xs.length → Pv i σ H → SqL K H a xs)
    (hs : ∀ i x σ H, i < xs.length → xs[xs.length - 1 - i]? = some x → Pv i σ H → g x σ H fun σ2 H2 => tb ⟨Pv (i + 1), rt, nx, Pv (i + 1)⟩ σ2 H2) (hd : ∀ σ H, Pv xs.length σ H → nx σ H) : Lp (Itv K a xs.length) g tb ⟨nx, rt, bk, ct⟩ σ H := by
  refine lp_it walk_rev Pv h0 hl ?_ hd
  rintro i x σ H H' hi p ⟨rfl, e⟩
  exact hs i x σ H' hi e p
def rPart (x : V) (H : Hp) (R : Option Int → Hp → Prop) : Prop := ∃ i, x = .int i ∧ R (some i) H
theorem w_slice {r : V → Option Int → Option Int → Hp → VK → Prop} {te : TE} {tl th : TO} (h : te σ H fun x H1 => tl σ H1 fun l H2 => th σ H2 fun u H3 => r x l u H3 Q) : L2.tSl r te tl th σ H Q := h
theorem w_noPart {R : Option Int → Hp → Prop} (h : R none H) : tNoPart σ H R := h
theorem w_part {te : TE} {R : Option Int → Hp → Prop} (h : te σ H fun x H1 => rPart x H1 R) : tPart te σ H R := h
theorem w_part' {i : Int} {R : Option Int → Hp → Prop} (h : R (some i) H) : rPart (.int i) H R := ⟨i, rfl, h⟩
theorem w_slL {a : Addr} {xs : List V} {lo hi : Option Int} (h1 : SqL K H a xs) (h : ∀ p H1, H p = none → H1 p = some (.lst (cutV xs lo hi)) → Same H H1 → Q (.ref p) H1) : rSlL K (.ref a) lo hi H Q := ⟨a, xs, rfl, h1, w_new h⟩
theorem cut_last (xs : List V) : cutV xs none (some (-1)) = xs.dropLast := by
  show ((xs.drop 0).take ((if (-1 : Int) < 0 then ((-1 : Int) + (xs.length : Int)).toNat else min (-1 : Int).toNat xs.length) - 0)) = xs.dropLast
  rw [if_pos (by decide), List.drop_zero, List.dropLast_eq_take]
  congr 1
  omega
theorem w_bm0 {r : V → List V → Hp → VK → Prop} {to : TE} (h : to σ H fun x H1 => tyV K "list" x H1 ∧ r x [] H1 Q) : tBM0 K "list" r to σ H Q := h
theorem w_pop {l : Addr} {xs : List V} {y : V} (h1 : H l = some (.lst (xs ++ [y]))) (h : ∀ H1, H1 l = some (.lst xs) → Off l H H1 → Q y H1) : rPop (.ref l) [] H Q :=
  ⟨l, _, y, rfl, rfl, h1, by simp, by rw [List.dropLast_concat]; exact h _ upd_same fun x hx => upd_ne hx⟩
theorem w_retN {nx bk ct : L2.St → Hp → Prop} {rt : VK} (h : rt .non H) : tRetN ⟨nx, rt, bk, ct⟩ σ H := h
theorem range_fm {α β : Type} (f : α → Option β) : ∀ xs : List α, (List.range xs.length).filterMap (fun i => xs[i]?.bind f) = xs.filterMap f
  | [] => rfl
  | x :: r => by
    rw [List.length_cons, List.range_succ_eq_map, List.filterMap_cons, List.filterMap_map, List.filterMap_cons]
    have h := range_fm f r
    show (match f x with | none => List.filterMap (fun i => r[i]?.bind f) (List.range r.length) | some b => b :: List.filterMap (fun i => r[i]?.bind f) (List.range r.length)) = _
    rw [h]
    cases f x <;> rfl
end
end FW

set_option Elab.async false
set_option linter.all false
set_option maxRecDepth 100000
set_option maxHeartbeats 4000000
/-! Data of any kind: what isinstance says of them, and tuples of them to a depth. -/
namespace FW
open PySem PySem.Spec PyProof.Rows L2
inductive Ty (H : Hp) : V → String → Prop where
  | non : Ty H .non "NoneType"
  | bl (b : Bool) : Ty H (.bl b) "bool"
  | int (i : Int) : Ty H (.int i) "int"
  | str (z : Str) : Ty H (.str z) "str"
  | lst {a : Addr} {xs : List V} (e : H a = some (.lst xs)) : Ty H (.ref a) "list"
  | tup {a : Addr} {xs : List V} (e : H a = some (.tup xs)) : Ty H (.ref a) "tuple"
  | dK {a : Addr} {kvs : List (Key × V)} (e : H a = some (.dK kvs)) : Ty H (.ref a) "dict"
section
variable {K : PySem.W.Frag} {σ : L2.St} {H : Hp} {Q : VK} {x : V} {a : String}
theorem Ty.tx (t : Ty H x a) : TyX K H x (.type a) := by
  cases t with
  | non => exact .base .non
  | bl b => exact .base (.bl b)
  | int i => exact .base (.int i)
  | str z => exact .base (.str z)
  | lst e => exact .base (.lst e)
  | tup e => exact .base (.tup e)
  | dK e => exact .base (.dK e)
theorem Ty.kTup (t : Ty H x a) : kitB a "tuple" = some (decide (a = "tuple")) := by
  cases t with
  | non => exact kb_NoneType_tuple
  | bl b => exact kb_bool_tuple
  | int i => exact kb_int_tuple
  | str z => exact kb_str_tuple
  | lst e => exact kb_list_tuple
  | tup e => exact kb_tuple_tuple
  | dK e => exact kb_dict_tuple
theorem Ty.kInt (t : Ty H x a) : kitB a "int" = some (decide (a = "int") || decide (a = "bool")) := by
  cases t with
  | non => exact kb_NoneType_int
  | bl b => exact kb_bool_int
  | int i => exact kb_int_int
  | str z => exact kb_str_int
  | lst e => exact kb_list_int
  | tup e => exact kb_tuple_int
  | dK e => exact kb_dict_int
theorem Ty.kBool (t : Ty H x a) : kitB a "bool" = some (decide (a = "bool")) := by
  cases t with
  | non => exact kb_NoneType_bool
  | bl b => exact kb_bool_bool
  | int i => exact kb_int_bool
  | str z => exact kb_str_bool
  | lst e => exact kb_list_bool
  | tup e => exact kb_tuple_bool
  | dK e => exact kb_dict_bool
theorem w_isTup (t : Ty H x a) (h : Q (.bl (decide (a = "tuple"))) H) : rIsi K [x, .ty "tuple"] H Q := w_isi t.tx t.kTup h
theorem w_isInt (t : Ty H x a) (h : Q (.bl (decide (a = "int") || decide (a = "bool"))) H) : rIsi K [x, .ty "int"] H Q := w_isi t.tx t.kInt h
theorem w_isBool (t : Ty H x a) (h : Q (.bl (decide (a = "bool"))) H) : rIsi K [x, .ty "bool"] H Q := w_isi t.tx t.kBool h
theorem Ty.isTup (t : Ty H x a) (e : a = "tuple") : ∃ p xs, x = .ref p ∧ H p = some (.tup xs) := by
  cases t with
  | tup h => exact ⟨_, _, rfl, h⟩
  | non => exact absurd e (by decide)
  | bl _ => exact absurd e (by decide)
  | int _ => exact absurd e (by decide)
  | str _ => exact absurd e (by decide)
  | lst _ => exact absurd e (by decide)
  | dK _ => exact absurd e (by decide)
theorem Ty.isInt (t : Ty H x a) (e : a = "int") : ∃ i, x = .int i := by
  cases t with
  | int i => exact ⟨i, rfl⟩
  | non => exact absurd e (by decide)
  | bl _ => exact absurd e (by decide)
  | tup _ => exact absurd e (by decide)
  | str _ => exact absurd e (by decide)
  | lst _ => exact absurd e (by decide)
  | dK _ => exact absurd e (by decide)
theorem Ty.ofInt {i : Int} (t : Ty H (.int i) a) : a = "int" := by
  cases t with
  | int i => rfl
theorem Ty.ofTup {p : Addr} {xs : List V} (t : Ty H (.ref p) a) (e : H p = some (.tup xs)) : a = "tuple" := by
  cases t with
  | tup h => rfl
  | lst h => rw [e] at h; cases h
  | dK h => rw [e] at h; cases h
end
/-- data: a tuple of data, or another thing -/
inductive Dat (B : Nat) (H : Hp) : V → Prop where
  | leaf {x : V} {a : String} (t : Ty H x a) (h : a ≠ "tuple") : Dat B H x
  | tup {p : Addr} {xs : List V} (e : H p = some (.tup xs)) (l : xs.length ≤ B) (h : ∀ y ∈ xs, Dat B H y) : Dat B H (.ref p)
theorem Dat.int {B : Nat} {H : Hp} {i : Int} : Dat B H (.int i) := .leaf (.int i) (by decide)
theorem Dat.ty {B : Nat} {H : Hp} {x : V} (h : Dat B H x) : ∃ a, Ty H x a := by
  cases h with
  | leaf t _ => exact ⟨_, t⟩
  | tup e _ _ => exact ⟨_, .tup e⟩
/-- what keeps tuples, and of lists and dicts their kind -/
structure KD (H H' : Hp) : Prop where
  t : KT H H'
  l : ∀ b xs, H b = some (.lst xs) → ∃ ys, H' b = some (.lst ys)
  d : ∀ b kvs, H b = some (.dK kvs) → ∃ kws, H' b = some (.dK kws)
theorem KD.of {H H' : Hp} (k : Same H H') : KD H H' := ⟨KT.of k, fun b xs e => ⟨xs, k _ _ e⟩, fun b kvs e => ⟨kvs, k _ _ e⟩⟩
theorem KD.refl {H : Hp} : KD H H := ⟨KT.refl, fun b xs e => ⟨xs, e⟩, fun b kvs e => ⟨kvs, e⟩⟩
theorem KD.trans {H H1 H2 : Hp} (a : KD H H1) (b : KD H1 H2) : KD H H2 := ⟨a.t.trans b.t, fun c xs e => by
  obtain ⟨ys, e⟩ := a.l c xs e
  exact b.l c ys e, fun c xs e => by
  obtain ⟨ys, e⟩ := a.d c xs e
  exact b.d c ys e⟩
theorem KD.off {p : Addr} {H H' : Hp} {xs ys : List V} (k : Off p H H') (e : H p = some (.lst xs)) (e' : H' p = some (.lst ys)) : KD H H' := ⟨KT.off k e, fun b zs h => by
  by_cases q : b = p
  · subst q; exact ⟨ys, e'⟩
  · exact ⟨zs, k.get q h⟩, fun b kvs h => ⟨kvs, k.get (ne_of h e (fun z => nomatch z)) h⟩⟩
theorem KD.offK {p : Addr} {H H' : Hp} {xs ys : List (Key × V)} (k : Off p H H') (e : H p = some (.dK xs)) (e' : H' p = some (.dK ys)) : KD H H' := ⟨fun b zs h => k.get (ne_of h e (fun z => nomatch z)) h, fun b zs h => ⟨zs, k.get (ne_of h e (fun z => nomatch z)) h⟩, fun b kvs h => by
  by_cases q : b = p
  · subst q; exact ⟨ys, e'⟩
  · exact ⟨kvs, k.get q h⟩⟩
theorem Ty.kd {H H' : Hp} {x : V} {a : String} (t : Ty H x a) (k : KD H H') : Ty H' x a := by
  cases t with
  | non => exact .non
  | bl b => exact .bl b
  | int i => exact .int i
  | str z => exact .str z
  | lst e => obtain ⟨ys, e⟩ := k.l _ _ e; exact .lst e
  | tup e => exact .tup (k.t _ _ e)
  | dK e => obtain ⟨ys, e⟩ := k.d _ _ e; exact .dK e
theorem Dat.kd {B : Nat} {H H' : Hp} {x : V} (h : Dat B H x) (k : KD H H') : Dat B H' x := by
  induction h with
  | leaf t h => exact .leaf (t.kd k) h
  | tup e l _ ih => exact .tup (k.t _ _ e) l fun y hy => ih y hy
theorem Dat.mono {B C : Nat} (hB : B ≤ C) {H : Hp} {x : V} (h : Dat B H x) : Dat C H x := by
  induction h with
  | leaf t h => exact .leaf t h
  | tup e l _ ih => exact .tup e (Nat.le_trans l hB) fun y hy => ih y hy
theorem Dat.cases {B : Nat} {H : Hp} {x : V} (h : Dat B H x) : (∃ a, Ty H x a ∧ a ≠ "tuple") ∨ ∃ (p : Addr) (xs : List V), x = .ref p ∧ H p = some (.tup xs) ∧ xs.length ≤ B ∧ ∀ y ∈ xs, Dat B H y := by
  cases h with
  | leaf t h => exact .inl ⟨_, t, h⟩
  | tup e l h => exact .inr ⟨_, _, rfl, e, l, h⟩
theorem Deck.kd {H H' : Hp} {d c : Addr} {n m : Nat} (D : Deck H d c n) (D' : Deck H' d c m) (o : Off d H H') : KD H H' := by
  obtain ⟨⟨xs, e⟩, _⟩ := D.at
  obtain ⟨⟨ys, e'⟩, _⟩ := D'.at
  exact KD.off o e e'
section
variable {K : PySem.W.Frag} {H : Hp} {Q : VK}
theorem w_slA {a : Addr} {xs : List V} {lo hi : Option Int} (h1 : SqT K H a xs) (h2 : cutV xs lo hi = xs → Q (.ref a) H) (h : ∀ p H1, H p = none → H1 p = some (.tup (cutV xs lo hi)) → Same H H1 → Q (.ref p) H1) : rSlA K (.ref a) lo hi H Q := by
  refine ⟨a, xs, rfl, h1, fun ⟨z1, z2⟩ => h2 ?_, fun _ => w_new h⟩
  unfold cutV
  rw [z1, z2, List.drop_zero, Nat.sub_zero, List.take_length]
/-- new things in turn: the deck, those that were made, what stood at H0 -/
theorem w_newD {H0 : Hp} {d c : Addr} {n B : Nat} {L xs : List V} (D : Deck H d c n) (hL : ∀ y ∈ L, Dat B H y) (kk : Same H0 H) (hx : ∀ y ∈ xs, Dat B H y) (hl : xs.length ≤ B) (h : ∀ p H', Deck H' d c n → (∀ y ∈ V.ref p :: L, Dat B H' y) → Same H0 H' → Q (.ref p) H') : Nw (.tup xs) H Q := by
  refine w_new fun p H' hp e k => h p H' (D.kp (M := []) (Kp.of k) (by simp) (by simp)) (fun y hy => ?_) (Same.trans kk k)
  rcases List.mem_cons.mp hy with rfl | hy
  · exact .tup e hl fun y hy => (hx y hy).kd (KD.of k)
  · exact (hL y hy).kd (KD.of k)
theorem w_newLD {H0 : Hp} {d c : Addr} {n B : Nat} {L xs : List V} (D : Deck H d c n) (hL : ∀ y ∈ L, Dat B H y) (kk : Same H0 H) (hl : xs.length ≤ 1) (h : ∀ p H', Deck H' d c n → (∀ y ∈ V.ref p :: L, Dat B H' y) → Same H0 H' → Q (.ref p) H') : Nw (.lst xs) H Q := by
  refine w_new fun p H' hp e k => h p H' (D.kp (M := []) (Kp.of k) (by simp) (by simp)) (fun y hy => ?_) (Same.trans kk k)
  rcases List.mem_cons.mp hy with rfl | hy
  · exact .leaf (.lst e) (by decide)
  · exact (hL y hy).kd (KD.of k)
theorem w_newB {H0 : Hp} {d c : Addr} {n B : Nat} {L xs : List V} (D : Deck H d c n) (hL : ∀ y ∈ L, Dat B H y) (kk : Same H0 H) (hx : ∀ y ∈ xs, Dat B H y) (h : ∀ p H', Deck H' d c n → (∀ y ∈ xs, Dat B H' y) → H' p = some (.lst xs) → Same H0 H' → Q (.ref p) H') : Nw (.lst xs) H Q :=
  w_new fun p H' hp e k => h p H' (D.kp (M := []) (Kp.of k) (by simp) (by simp)) (fun y hy => (hx y hy).kd (KD.of k)) e (Same.trans kk k)
theorem w_newKD {H0 : Hp} {d c : Addr} {n B : Nat} {L : List V} {kvs : List (Key × V)} (D : Deck H d c n) (hL : ∀ y ∈ L, Dat B H y) (kk : Same H0 H) (h : ∀ p H', Deck H' d c n → (∀ y ∈ V.ref p :: L, Dat B H' y) → Same H0 H' → Q (.ref p) H') : Nw (.dK kvs) H Q := by
  refine w_new fun p H' hp e k => h p H' (D.kp (M := []) (Kp.of k) (by simp) (by simp)) (fun y hy => ?_) (Same.trans kk k)
  rcases List.mem_cons.mp hy with rfl | hy
  · exact .leaf (.dK e) (by decide)
  · exact (hL y hy).kd (KD.of k)
theorem w_dispD {σ : L2.St} {H0 : Hp} {d c : Addr} {n B : Nat} {L : List V} {k : Int} {v : V} (D : Deck H d c n) (hL : ∀ y ∈ L, Dat B H y) (kk : Same H0 H) (h : ∀ p H', Deck H' d c n → (∀ y ∈ V.ref p :: L, Dat B H' y) → Same H0 H' → Q (.ref p) H') : tDisp [(tC (.int k), tC v)] σ H Q := by
  refine w_disp fun p H1 hp e1 k1 => ?_
  refine w_pair (w_c (w_c (w_pnil ?_)))
  refine w_dispE [(Sum.inl k, v)] e1 rfl (show (1 : Nat) ≤ 15 by decide) fun H2 e2 o2 => ?_
  have k2 : Same H H2 := fun b o e => o2.get (ne_of_none e hp) (k1 _ _ e)
  refine h p H2 (D.kp (M := []) (Kp.of k2) (by simp) (by simp)) (fun y hy => ?_) (Same.trans kk k2)
  rcases List.mem_cons.mp hy with rfl | hy
  · exact .leaf (.dK e2) (by decide)
  · exact (hL y hy).kd (KD.of k2)
theorem w_cat {l b : Addr} {xs zs : List V} (h1 : H l = some (.lst xs)) (h2 : H b = some (.lst zs)) (hz : xs.length + zs.length ≤ sizeLine) (h : ∀ p H1, H p = none → H1 p = some (.lst (xs ++ zs)) → Same H H1 → Q (.ref p) H1) : rCat (.ref l) (.ref b) H Q := ⟨l, b, xs, zs, rfl, rfl, h1, h2, hz, w_new h⟩
/-- t[lo:hi]: where it stands, it is the cut -/
theorem w_slAt {a : Addr} {xs : List V} {lo hi : Option Int} (h1 : H a = some (.tup xs)) (h : ∀ p H1, H1 p = some (.tup (cutV xs lo hi)) → Same H H1 → Q (.ref p) H1) : rSlA K (.ref a) lo hi H Q :=
  w_slA (.of h1) (fun e => h a H (by rw [e]; exact h1) (fun _ _ z => z)) (fun p H1 _ e k => h p H1 e k)
theorem w_catAt {a b : Addr} {xs ys : List V} (h1 : H a = some (.tup xs)) (h2 : H b = some (.tup ys)) (hz : xs.length + ys.length ≤ sizeLine) (h : ∀ p H1, H1 p = some (.tup (xs ++ ys)) → Same H H1 → Q (.ref p) H1) : rCatA K (.ref a) (.ref b) H Q := by
  refine ⟨a, b, xs, ys, rfl, rfl, .of h1, .of h2, hz, fun e => ?_, fun _ e => ?_, fun _ _ p hp => h p _ upd_same (Same.new hp)⟩
  · subst e
    exact h b H h2 (fun _ _ z => z)
  · subst e
    exact h a H (by rw [List.append_nil]; exact h1) (fun _ _ z => z)
end
/-! ### except X as e -/
def tTryA (K : PySem.W.Frag) (c : Value) (i : Nat) (tb : WX → TS) (ts : Addr → Value → Option Addr → TS) : TS := fun D σ H => tb (wAs K c i ts (fun _ _ _ _ => False) D) D σ H
def tGuard (P : Prop) (t : TS) : TS := fun D σ H => P ∧ t D σ H
section
variable {X : Cx} {x n : Str} {c : Value} {i : Nat} {body suite : List Stmt} {b₀ : Stmt} {np pos pos' : Pos} {tb : WX → TS} {ts : Addr → Value → Option Addr → TS}
theorem p_tryAs (hs : X.stack = X.env :: X.outer) (hf : X.env.frame = some X.env.locals) (hN : X.N.Nodup) (hi : X.N[i]? = some n) (hln : X.env.kindOf n = some .local) (hc : Names X x c)
    (hb : ∀ (W : WX) (pn : List (Addr × Obj)) (xe : Value → Shared → Prop), Takes (X.tr pn xe) W → PassesOwn (model X.prog X.w) X.A X.env xe → PSs (X.tr pn xe) body (tb W))
    (hsu : ∀ (a : Addr) (oe : Obj) (cls : Value) (d : Option Addr) (pn : List (Addr × Obj)), Zc cls d oe → (∃ vs, oe.data = .fields vs) → PSs (X.suite a ((a, oe) :: pn)) (b₀ :: suite) (ts a cls d)) :
    PS X (.Try body [.ExceptHandler (some (.Name x np)) (some n) (b₀ :: suite) pos'] [] [] pos) (tTryA X.K c i tb ts) := ps_try_as hs hf hN hi hln hc takes0 hb hsu
theorem pss_guard {P : Prop} {ss : List Stmt} {t : TS} (h : P → PSs X ss t) : PSs X ss (tGuard P t) := ⟨fun pins s σ H D I hw => (h hw.1).run pins s σ H D I hw.2⟩
theorem zc_of {C : Addr} {cls : Value} {d : Option Addr} {oe : Obj} (hg : cls = .ref C ∧ d = none) (hz : Zc cls d oe) : Zc (.ref C) none oe := by
  obtain ⟨rfl, rfl⟩ := hg
  exact hz
end
section
variable {K : PySem.W.Frag} {σ : L2.St} {H : Hp} {Q : VK} {nx bk ct : L2.St → Hp → Prop} {rt : VK}
theorem w_tryA {c : Value} {i : Nat} {tb : WX → TS} {ts : Addr → Value → Option Addr → TS} (h : tb (wAs K c i ts (fun _ _ _ _ => False) ⟨nx, rt, bk, ct⟩) ⟨nx, rt, bk, ct⟩ σ H) : tTryA K c i tb ts ⟨nx, rt, bk, ct⟩ σ H := h
theorem w_guard {P : Prop} {t : TS} (p : P) (h : t ⟨nx, rt, bk, ct⟩ σ H) : tGuard P t ⟨nx, rt, bk, ct⟩ σ H := ⟨p, h⟩
theorem w_isE {a D C : Addr} {b : Bool} (e : PySem.W.kitOne K (.ref D) (.ref C) = some b) (h : Q (.bl b) H) : rIsE K D a [.ref a, .ref C] H Q := ⟨.ref C, .ref C, b, rfl, fun u r => r, e, h⟩
theorem w_isEt {a D : Addr} {n : String} {b : Bool} (e : PySem.W.kitOne K (.ref D) (.type n) = some b) (h : Q (.bl b) H) : rIsE K D a [.ref a, .ty n] H Q := ⟨.ty n, .type n, b, rfl, fun u r => r, e, h⟩
end
end FW

set_option Elab.async false
set_option linter.all false
set_option maxRecDepth 100000
set_option maxHeartbeats 4000000
/-! own errors with fields: made, caught, looked at; min of pairs; defaults by keyword -/
namespace FW
section
open PySem PySem.W PySem.Calls PyProof.Rows
variable {prog : Program} {w : World} {A : Around} {E : Value → Shared → Prop} {s : Shared} {K : Frag} {x D : Addr} {ox : Obj} {od : Option Obj}
theorem fo_data {C : Addr} {name : Str} {a g : Value} (hc : (clsIn K C).isSome = true) (ha : findIn K (.ref C) name = some (some a)) (hg : specialIn K a "__get__" = some (some g)) (ht : takesIn K a = some true) : findObj K C od name = some (.bind g a) := by
  obtain ⟨cd, e⟩ := Option.isSome_iff_exists.mp hc
  unfold findObj; rw [e, Option.bind_some, ha, Option.bind_some]; simp [hg, ht]
theorem cls_look {Q : Option Value → Shared → Prop} (C : L2.ExcC K D) (X : K.In s.heap) (I : InstAt s.heap x ox D od) (h : Q (some (.ref D)) { s with toks := s.toks + 1 }) : wpAny (model prog w) A (getAttr? (.ref x) "__class__") Q E s := by
  have hf : findObj K D od "__class__" = some (.bind (.builtin "getset_descriptor.__get__") (.builtin "object.__class__")) := fo_data (by obtain ⟨cd, hc, _⟩ := any_some C.hd; rw [hc]; rfl) C.ha C.hn C.ht
  obtain ⟨hp, g, d, t, os⟩ := s
  have y0 := I.type (M := model prog w); have y1 := looks_findIn (M := model prog w) X C.hg
  have y2 := looks_findIn (M := model prog w) X C.hk; have y3 := looks_find (M := model prog w) X I hf
  have sub : Looks (model prog w) hp (isInstance (.ref x) (.type "BaseException")) true := y0.andThen (looks_subIn X C.hs)
  have n2 : (Value.builtin "BaseException.__getattribute__" == Value.builtin "object.__getattribute__") = false := by decide +kernel
  have n1 : (onTheHeap (Value.ref D) && Value.builtin "BaseException.__getattribute__" == Value.builtin "object.__getattribute__") = false := by rw [n2]; rfl
  unfold getAttr? getAttrBy? getAttrBy
  refine wpAny_bind (wpAny_mkText (wpAny_bind (wpAny_attempt (wpAny_holding (wpAny_bind (y0.at (wpAny_bind (y1.at ?_))))))))
  show wpAny _ _ (if (onTheHeap (Value.ref D) && Value.builtin "BaseException.__getattribute__" == Value.builtin "object.__getattribute__") = true then _ else _) _ _ _; rw [n1, if_neg Bool.false_ne_true]
  unfold getAttrByItsOwn hookBefore; refine wpAny_bind ?_; rw [if_pos (show onTheHeap (Value.ref D) = true from rfl)]; refine y2.at ?_
  refine wpAny_bind (wpAny_attempt (wpAny_holding ?_)); unfold callGetattribute; rw [show (false && onTheHeap (Value.builtin "BaseException.__getattribute__")) = false from rfl, if_neg Bool.false_ne_true]
  unfold boundAndCalled; rw [PySem.F.excAttr_ValueError.ga.bind (.ref x)]; refine wpAny_bind (wpAny_pure ?_)
  show wpAny _ _ (call (.builtin "BaseException.__getattribute__") [.ref x, .str "__class__" t]) _ _ _; refine wpAny_call (codeAny_call_builtin PySem.F.excAttr_ValueError.ga.plain PySem.F.entry_bexc_ga ?_)
  refine @check_slot (model prog w) _ _ ⟨hp, g, d, t + 1, os⟩ "BaseException.__getattribute__" "BaseException" "__getattribute__" (.ref x) [.str "__class__" t] [] _ (by decide +kernel) (by decide +kernel) sub (PySem.F.args_bexc_ga (.ref x) (.str "__class__" t)) ?_; unfold Builtin.«object.__getattribute__»
  refine wpAny_bind (wpAny_of_eq (a := ((Value.ref x : Value), [Value.str "__class__" t])) (by first | rfl | (simp only [slotArgs]; rfl)) ?_); refine wpAny_bind (wpAny_pure (wpAny_bind (y0.at (wpAny_bind (y3.at ?_)))))
  show wpAny _ _ (holding [Value.builtin "object.__class__"] (call (.builtin "getset_descriptor.__get__") [.builtin "object.__class__", .ref x, .ref D]) >>= ret) _ _ _; refine wpAny_bind (wpAny_holding (wpAny_call (class_get (s := ⟨hp, g, d, t + 1, os⟩) (ox := ox) (od := od) X I C.hm ?_)))
  refine wpAny_pure ?_; show wpAny _ _ (handedOut (.ref D)) _ _ _; rw [handedOut_of (v := .ref D) rfl]
  first | exact wpAny_pure (wpAny_pure h) | exact wpAny_pure h | exact wpAny_pure (wpAny_bind (wpAny_pure (wpAny_pure h)))
theorem kitx_of (C : L2.ExcC K D) : KitX K (.ref x) (.ref D) (fun h => InstAt h x ox D od) := by
  have Z : KitX K (.ref x) (.ref D) (fun h => InstAt h x ox D none) := handS_kitx_exc C.hg C.hk C.hs C.hd C.ha C.hn C.ht C.hm
  refine ⟨fun _ _ _ I => I.type, fun _ _ X _ => ?_, Z.ne, fun X I k => cls_look C X I k⟩
  obtain ⟨cd, hc, _⟩ := any_some C.hd
  unfold clsIn at hc
  split at hc
  · rename_i ho
    intro A' Q' E' s' k q
    unfold isType loadHead; exact wpAny_bind (wpAny_loadPart (k _ _ (X _ _ ho)) (wpAny_pure q))
  · cases hc
end
open PySem PySem.Spec PyProof.Rows L2
/-- isinstance(e, c), e the error that the suite holds, with its fields at d -/
def rIsF (K : PySem.W.Frag) (D a : Addr) (d : Option Addr) : List V → Hp → VK → Prop := fun xs H Q => ∃ (c : V) (cv : Value) (b : Bool) (dd : Addr) (fs : List (Str × V)), xs = [.ref a, c] ∧ d = some dd ∧ H dd = some (.xd fs) ∧ (∀ u, RelV c u → u = cv) ∧ PySem.W.kitOne K (.ref D) cv = some b ∧ Q (.bl b) H
theorem call_isF {X : Cx} {a D : Addr} {oe : Obj} {cls : Value} {d : Option Addr} {pn : List (Addr × Obj)} (C : ExcC X.K D) (hc : cls = .ref D) (hz : Zc cls d oe) (hf : ∃ vs, oe.data = .fields vs) : CallR (X.suite a ((a, oe) :: pn)) (.builtin "isinstance") (rIsF X.K D a d) := by
  intro pins s σ H xs us Q I r ⟨c, cv, b, dd, fs, e0, ed, ea, hcv, e, q⟩
  subst e0 hc ed
  cases r with
  | cons rx rr =>
    cases rr with
    | cons rt rr =>
      cases rr
      cases rx
      have ec := hcv _ rt
      subst ec
      obtain ⟨ha, _⟩ := I.pin (a, oe) (List.mem_append.mpr (.inl List.mem_cons_self))
      obtain ⟨vs, hv⟩ := hf
      have hx : ObjOk X.prog X.w H s.heap dd (.xd fs) := I.hok dd _ ea
      obtain ⟨mA, hns, _⟩ := hx
      obtain ⟨od, ho, _⟩ := lookIn_ns hns
      have J : PySem.W.InstAt s.heap a oe D (some od) := ⟨ha, hz.1, by unfold PySem.W.notCls; rw [hv] <;> rfl, by rw [hz.2]; exact ho⟩
      exact PySem.W.kia_one (kitx_of C) I.kIn J e (fun z => nomatch z) fun tk => ⟨.bl b, H, I.kept (t' := tk) fun _ _ z => z, rfl, q⟩
/-- an own error with __init__ -/
structure ExnI (K : PySem.W.Frag) (mg : Str → Option Value) (x : Str) (C fI : Addr) (fd : FuncData) (ps : List Str) (fs : List Str) : Prop where
  g : mg x = some (.ref C)
  T : OexC K C
  i : PySem.W.findIn K (.ref C) "__init__" = some (some (.ref fI))
  t : PySem.W.typeIn K (.ref fI) = some (.type "function")
  b : Binds K fd ps []
  f : XfC K C
  ec : ExcC K C
  nf : ∀ y ∈ fs, PySem.W.findIn K (.ref C) y = some none
/-- a def with keyword-only defaults -/
structure DfK (K : PySem.W.Frag) (mg : Str → Option Value) (x : Str) (st : Stmt) (ps : List Str) (kws : List (Str × V)) (dvs : List V) (f : Addr) (fd : FuncData) : Prop where
  fn : FunD K x x (defArgs st) (defBody st) (defScope st) [] kws f fd
  g : mg x = some (.ref f)
  kp : PySem.W.keepIn K (.ref f) = true
  b : ∃ ds, Vals dvs ds ∧ Binds K fd ps ds
  kb : ∃ g, KBn K fd ps (ps.length - kws.length) (kws.map (·.1)) g (fun vs zs => vs ++ zs)
/-- raise C(..) of two fields -/
def tRaiseO (C : Addr) (W : WX) (sp : Sp) (ta : TA) : TS := fun _ σ H => tMkO C sp [] ta σ H fun cls d H' => W cls d σ H'
section
variable {K : PySem.W.Frag} {σ : L2.St} {H : Hp} {Q : VK} {nx bk ct : L2.St → Hp → Prop} {rt : VK}
theorem w_raiseO {C : Addr} {W : WX} {sp : Sp} {ta : TA} (h : tMkO C sp [] ta σ H fun cls d H' => W cls d σ H') : tRaiseO C W sp ta ⟨nx, rt, bk, ct⟩ σ H := h
theorem w_mkO {C : Addr} {sp : Sp} {ta : TA} {Qx : XK} (h : ta σ H fun vs H1 => vs.length ≤ 1000 ∧ ∀ a, H1 a = none → sp (.ref a :: (vs ++ [])) (upd H1 a (exo a C none)) (fun v H2 => v = .non ∧ ∃ (d : Addr) (fs : List (Str × V)), H2 a = some (exo a C (some d)) ∧ H2 d = some (exd d fs) ∧ H1 d = none ∧ Qx (.ref C) (some d) (upd (del H2 a) d (.xd fs))) (fun _ _ _ => False)) : tMkO C sp [] ta σ H Qx := h
theorem w_callSD {sp : Sp} {dvs : List V} {E : L2.St → XK} {t : TA} (h : t σ H fun vs H1 => sp (vs ++ dvs) H1 Q (E σ)) : tCallSD sp dvs E t σ H Q := h
theorem w_callN {n m : Nat} {sp : Sp} {gV : List V → List V → List V} {E : XK} {t tk : TA} (h : t σ H fun vs H1 => tk σ H1 fun zs H2 => vs.length = n ∧ zs.length = m ∧ sp (gV vs zs) H2 Q E) : tCallN n m sp gV E t tk σ H Q := h
theorem w_xf {a C : Addr} {cls : Value} {d : Option Addr} {f : Str} {te : TE} (h : te σ H fun x H1 => x = .ref a ∧ cls = .ref C ∧ ∃ (dd : Addr) (fs : List (Str × V)) (v : V), d = some dd ∧ H1 dd = some (.xd fs) ∧ fs.lookup f = some v ∧ Q v H1) : tXf a cls d C f te σ H Q := h
theorem w_isF {a D C dd : Addr} {fs : List (Str × V)} {b : Bool} (ed : H dd = some (.xd fs)) (e : PySem.W.kitOne K (.ref D) (.ref C) = some b) (h : Q (.bl b) H) : rIsF K D a (some dd) [.ref a, .ref C] H Q := ⟨.ref C, .ref C, b, dd, fs, rfl, rfl, ed, fun u r => r, e, h⟩
theorem w_isFt {a D dd : Addr} {fs : List (Str × V)} {n : String} {b : Bool} (ed : H dd = some (.xd fs)) (e : PySem.W.kitOne K (.ref D) (.type n) = some b) (h : Q (.bl b) H) : rIsF K D a (some dd) [.ref a, .ty n] H Q := ⟨.ty n, .type n, b, dd, fs, rfl, rfl, ed, fun u r => r, e, h⟩
theorem w_ost {f : Str} {to te : TE} {D : Ends} (h : te σ H fun y H1 => to σ H1 fun x H2 => ∃ a C : Addr, x = .ref a ∧ OexC K C ∧ PySem.W.findIn K (.ref C) f = some none ∧ ((H2 a = some (exo a C none) ∧ ∀ dx, H2 dx = none → dx ≠ a → D.nx σ (upd (upd H2 dx (exd dx [(f, y)])) a (exo a C (some dx)))) ∨ ∃ (dx : Addr) (fs : List (Str × V)), H2 a = some (exo a C (some dx)) ∧ H2 dx = some (exd dx fs) ∧ fs.length ≤ 900 ∧ D.nx σ (upd H2 dx (exd dx ((f, y) :: fs))))) : tOst K f to te D σ H := h
end
/-- what __init__ of two fields leaves -/
def spInit2 (K : PySem.W.Frag) (C : Addr) (f g : Str) : Sp := fun vs H Q _ => ∃ (a : Addr) (x y : V), vs = [.ref a, x, y] ∧ H a = some (exo a C none) ∧ ∀ dx, H dx = none → dx ≠ a → Q .non (upd (upd (upd H dx (exd dx [(f, x)])) a (exo a C (some dx))) dx (exd dx [(g, y), (f, x)]))
def spInit1 (K : PySem.W.Frag) (C : Addr) (f : Str) : Sp := fun vs H Q _ => ∃ (a : Addr) (x : V), vs = [.ref a, x] ∧ H a = some (exo a C none) ∧ ∀ dx, H dx = none → dx ≠ a → Q .non (upd (upd H dx (exd dx [(f, x)])) a (exo a C (some dx)))
/-- the heap behind it -/
theorem mk2_same {K : PySem.W.Frag} {C : Addr} {f g : Str} {x y : V} {H : Hp} {Qx : XK} {a : Addr} (ha : H a = none) (h : ∀ d H', Same H H' → H d = none → H' d = some (.xd [(g, y), (f, x)]) → Qx (.ref C) (some d) H') :
    spInit2 K C f g [.ref a, x, y] (upd H a (exo a C none)) (fun v H2 => v = .non ∧ ∃ (d : Addr) (fs : List (Str × V)), H2 a = some (exo a C (some d)) ∧ H2 d = some (exd d fs) ∧ H d = none ∧ Qx (.ref C) (some d) (upd (del H2 a) d (.xd fs))) (fun _ _ _ => False) := by
  refine ⟨a, x, y, rfl, upd_same, fun dx hd hne => ⟨rfl, dx, _, ?_, upd_same, (upd_none hd).1, h dx _ (fun b o e => ?_) (upd_none hd).1 upd_same⟩⟩
  · rw [upd_ne (Ne.symm hne), upd_same]
  · have n1 : b ≠ dx := ne_of_none e (upd_none hd).1
    have n2 : b ≠ a := ne_of_none e ha
    rw [upd_ne n1, del_ne n2, upd_ne n1, upd_ne n2, upd_ne n1, upd_ne n2]
    exact e
/-! ### min of a list of pairs -/
def LtP (p q : Int × Int) : Prop := p.1 < q.1 ∨ p.1 = q.1 ∧ p.2 < q.2
def rMinP (K : PySem.W.Frag) : List V → Hp → VK → Prop := fun vs H Q => ∃ (a : Addr) (ps : List (Addr × Int × Int)), vs = [V.ref a] ∧ SqL K H a (ps.map fun q => .ref q.1) ∧ (∀ q ∈ ps, H q.1 = some (.tup [.int q.2.1, .int q.2.2])) ∧ ps ≠ [] ∧ ∀ q ∈ ps, (∀ r ∈ ps, ¬ LtP r.2 q.2) → Q (.ref q.1) H
theorem lt_P (p q : Int × Int) : PySem.W.DatumOrd.lt p q = true ↔ LtP p q := by
  show (if p.1 = q.1 then decide (p.2 < q.2) else decide (p.1 < q.1)) = true ↔ _
  unfold LtP
  by_cases e : p.1 = q.1
  · rw [if_pos e, decide_eq_true_iff]; omega
  · rw [if_neg e, decide_eq_true_iff]; omega
theorem minOf_le : ∀ (xs : List (Int × Int)) (x : Int × Int), (∀ r ∈ x :: xs, ¬ LtP r (PySem.W.minOf x xs)) ∧ PySem.W.minOf x xs ∈ x :: xs
  | [], x => ⟨fun r hr => by
      have e : r = x := by simpa using hr
      subst e
      show ¬ LtP r r
      unfold LtP
      omega, by show x ∈ [x]; simp⟩
  | y :: xs, x => by
    have ih := minOf_le xs (if PySem.W.DatumOrd.lt y x = true then y else x)
    have e : PySem.W.minOf x (y :: xs) = PySem.W.minOf (if PySem.W.DatumOrd.lt y x = true then y else x) xs := rfl
    rw [e]
    revert ih
    generalize PySem.W.minOf (if PySem.W.DatumOrd.lt y x = true then y else x) xs = m
    by_cases c : PySem.W.DatumOrd.lt y x = true
    · rw [if_pos c]
      have c' := (lt_P y x).mp c
      intro ih
      refine ⟨fun r hr => ?_, ?_⟩
      · rcases List.mem_cons.mp hr with rfl | h
        · have := ih.1 y (by simp)
          unfold LtP at *
          omega
        · exact ih.1 r h
      · exact List.mem_cons_of_mem _ ih.2
    · rw [if_neg c]
      have c' : ¬ LtP y x := fun z => c ((lt_P y x).mpr z)
      intro ih
      refine ⟨fun r hr => ?_, ?_⟩
      · rcases List.mem_cons.mp hr with rfl | h
        · exact ih.1 r (by simp)
        · rcases List.mem_cons.mp h with rfl | h
          · have := ih.1 x (by simp)
            unfold LtP at *
            omega
          · exact ih.1 r (by simp [h])
      · rcases List.mem_cons.mp ih.2 with h | h
        · rw [h]; simp
        · simp [h]
section
variable {X : Cx} {pins : List (Addr × Obj)} {σ : L2.St} {H : Hp} {s : Shared}
theorem hold_pair (I : Inv X pins σ H s) {p : Addr} {x y : Int} (e : H p = some (.tup [.int x, .int y])) : PySem.W.Holds s.heap (.ref p) (x, y) := by
  obtain ⟨its, rv, hl, _⟩ := I.tuple (.of e)
  cases rv with
  | cons r1 rr =>
    cases rr with
    | cons r2 rr =>
      cases rr
      obtain ⟨t1, rfl⟩ := r1
      obtain ⟨t2, rfl⟩ := r2
      exact PySem.W.holds_pair hl (PySem.W.holds_int _ _) (PySem.W.holds_int _ _)
theorem hold_all (I : Inv X pins σ H s) : ∀ (ps : List (Addr × Int × Int)) (its : List Value), Vals (ps.map fun q => V.ref q.1) its → (∀ q ∈ ps, H q.1 = some (.tup [.int q.2.1, .int q.2.2])) → PySem.W.HoldAll s.heap its (ps.map (·.2)) ∧ its = ps.map fun q => Value.ref q.1
  | [], _, r, _ => by cases r; exact ⟨PySem.W.HoldAll.nil, rfl⟩
  | q :: ps, _, r, h => by
    cases r with
    | cons r1 rr =>
      cases r1
      obtain ⟨h1, h2⟩ := hold_all I ps _ rr fun z hz => h z (by simp [hz])
      exact ⟨PySem.W.HoldAll.cons (hold_pair I (h q (by simp))) h1, by rw [h2]; rfl⟩
theorem c_minP (hc : X.calm = true) (hu : X.A.units + 100 < cLine) : CallR X (.builtin "min") (rMinP X.K) := by
  intro pins s σ H vs us Q I r ⟨a, ps, e0, hs, hp, hne, q⟩
  subst e0
  obtain ⟨its, rv, hl, _⟩ := I.list hs
  rw [Vals.ref1 r]
  obtain ⟨ha, hit⟩ := hold_all I ps its rv hp
  cases ps with
  | nil => exact absurd rfl hne
  | cons p ps =>
    have hdp : PySem.W.Datum.depth (Int × Int) ≤ 50 := by decide
    refine PySem.W.min_list_datum (x := p.2) (xs := ps.map (·.2)) (I.ok.hd hc) hl.isList (by simpa using ha) (by omega) fun i v h' tk hi hv hk => ?_
    have hi' : its[i]? = some v := by simpa using hi
    rw [hit, List.getElem?_map] at hi'
    obtain ⟨z, hz, rfl⟩ := Option.map_eq_some_iff.mp hi'
    have hzm := List.mem_of_getElem? hz
    have e : z.2 = PySem.W.minOf p.2 (ps.map (·.2)) := by
      obtain ⟨as, ra⟩ := (hold_pair I (hp z hzm)).keeps hk
      obtain ⟨bs, rb⟩ := hv
      have e1 := (Reads.unique ra _ _ rb).1
      have e2 := PySem.W.Datum.eqv (z.2.1, z.2.2) (PySem.W.minOf p.2 (ps.map (·.2)))
      rw [← e1, PySem.W.Datum.eqv] at e2
      have e3 : decide ((z.2.1, z.2.2) = PySem.W.minOf p.2 (ps.map (·.2))) = true := by rw [← e2]; simp
      exact of_decide_eq_true e3
    refine ⟨.ref z.1, H, I.kept (t' := tk) hk, rfl, q z hzm fun r hr => ?_⟩
    have := (minOf_le (ps.map (·.2)) p.2).1 r.2 (by
      rcases List.mem_cons.mp hr with rfl | h
      · simp
      · exact List.mem_cons_of_mem _ (List.mem_map_of_mem h))
    rw [e]
    exact this
end
theorem room100 {k : Nat} {A : Around} (r : Room k A) : A.units + 100 < cLine := by have := r.un; omega
theorem w_minP {K : PySem.W.Frag} {H : Hp} {Q : VK} {a : Addr} {ps : List (Addr × Int × Int)} (h1 : SqL K H a (ps.map fun q => .ref q.1)) (h2 : ∀ q ∈ ps, H q.1 = some (.tup [.int q.2.1, .int q.2.2])) (h3 : ps ≠ []) (h : ∀ q ∈ ps, (∀ r ∈ ps, ¬ LtP r.2 q.2) → Q (.ref q.1) H) : rMinP K [.ref a] H Q := ⟨a, ps, rfl, h1, h2, h3, h⟩
end FW

set_option Elab.async false
set_option linter.all false
set_option maxRecDepth 100000
set_option maxHeartbeats 4000000
/-! sorted(d) of a dict of ints, of any length -/
namespace FW
open PySem PySem.Spec PyProof.Rows L2
def rSortA (xs : List V) (H : Hp) (Q : VK) : Prop := ∃ (a : Addr) (kvs : List (Key × V)) (ks : List Int), xs = [.ref a] ∧ Rd H a (.dK kvs) ∧ kvs.map (·.1) = ks.map Sum.inl ∧ ks.length ≤ 100000 ∧
    ∀ (ys : List Int) (p : Addr), ys.Perm ks → ys.Pairwise (· ≤ ·) → H p = none → Q (.ref p) (upd H p (.lst (ys.map V.int)))
theorem c_sortA {X : Cx} (hcalm : X.calm = true) : CallR X (.builtin "sorted") rSortA := by
  intro pins s σ H xs us Q I r ⟨a, kvs, ks, ex, hd, hks, hlk, q⟩
  subst ex
  obtain ⟨u, eu, rx⟩ := vals1 r
  subst eu
  cases rx
  obtain ⟨z, lo, vs, rel, dd⟩ := dk_rd I.hok hd
  obtain ⟨ep, hat⟩ := dd.dictAt
  have hkeys : vs.map (·.1) = ks.map Sum.inl := rel.keys.symm.trans hks
  have hl : vs.length = ks.length := by
    have e := congrArg List.length hkeys
    simpa using e
  have h16 : vs.length ≤ sizeLine := by rw [hl, sizeLine_eq]; omega
  refine Calls.call_function_entry kind_sorted plain_sorted entry_sorted (args_sorted1 _) ?_
  unfold Builtin.«sorted»; refine wpAny_bind (m := checkCount "sorted" 1 1 _) (wpAny_pure ?_)
  refine wpAny_bind (PySem.W.kdu_collect (A := X.A.in1) (PySem.W.kdl_dict (knd := mixKind X.prog X.w) (kvs := vs) (ep := ep) lo) (I.ok.hd hcalm) hat h16 fun h' tk acc hk hacc => ?_)
  have hal : acc.toList.length = ks.length := by rw [Array.length_toList, hacc.1, hl]
  have hS : IntsAre acc.toList ks := ints_each hal fun j v e => by
    obtain ⟨k, x, e1, e2⟩ := hacc.2 j v (by rw [← Array.getElem?_toList]; exact e)
    have e3 : (vs.map (·.1))[j]? = some k := by rw [List.getElem?_map, e1]; rfl
    rw [hkeys, List.getElem?_map] at e3
    obtain ⟨y, e4, e5⟩ := Option.map_eq_some_iff.mp e3
    subst e5
    rcases keyIs_shape (show keyIs (Sum.inl y) v = true from e2) with ⟨i, t, ek, ev⟩ | ⟨z, t, ek, ev⟩
    · cases ek
      exact ⟨y, t, e4, ev⟩
    · cases ek
  have I1 : Inv X pins σ H { s with heap := h', toks := tk } := I.kept hk
  have hz : acc.toList.length ≤ sizeLine := by rw [hal, sizeLine_eq]; omega
  refine wpAny_bind (wpAny_newList ?_ hz)
  have hoL : (h'.push (seqObj "list" acc.toList.toArray 0)).get? h'.objs.size = some (seqObj "list" acc.toList.toArray 0) := Heap.get?_push_size _ rfl
  show wpAny _ _ _ _ _ { s with heap := h'.push (seqObj "list" acc.toList.toArray 0), toks := tk }
  refine wpAny_bind (wpAny_holding (wpAny_call_entry slot_list_sort ⟨_, hoL, rfl⟩ entry_list_sort (SrtO.list_sort_ord (s := { s with heap := h'.push (seqObj "list" acc.toList.toArray 0), toks := tk }) SrtO.swo_int hoL hz (fun h2 => SrtO.ints_sortable hS h2) fun out h1 h2 => ⟨_, rfl, ?_⟩) (args_list_sort _)))
  obtain ⟨g1, g2, g3⟩ := SrtO.ints_out hS h1 h2
  obtain ⟨e', he'⟩ := sortedHeap_at (vs := acc.toList) (out := out.toArray) hoL
  have hlen : ((out.map SrtO.iv).map V.int).length ≤ sizeLine := by rw [List.length_map, g2.length_eq, ← hal]; exact hz
  refine wpAny_pure ⟨_, rfl, .ref h'.objs.size, upd H h'.objs.size (.lst ((out.map SrtO.iv).map V.int)), I1.laid (t' := tk) (fun b u e => ?_) (Nat.le_refl _) (show ObjOk X.prog X.w _ _ _ (.lst ((out.map SrtO.iv).map V.int)) from ⟨hlen, out, e', vals_of_ints g1, he'⟩), rfl, q _ _ g2 g3 (I1.hok.fresh (Nat.le_refl _))⟩
  have hb : b < h'.objs.size := Heap.lt_size e
  rw [sortedHeap_old (Nat.ne_of_lt hb) (by rw [size_push']; exact Nat.lt_succ_of_lt hb)]
  exact Heap.get?_push_of_some _ e
theorem w_lenSetI {K : PySem.W.Frag} {σ : L2.St} {H : Hp} {Q : VK} {ta : TE} (h : ta σ H fun x H1 => ∃ (l : Addr) (ns : List Int), x = .ref l ∧ SqL K H1 l (ns.map V.int) ∧ ns.Nodup ∧ ns.length ≤ 4000 ∧ Q (.int (ns.length : Nat)) H1) : RZ.tLenSetI K ta σ H Q := h
theorem w_sortA {H : Hp} {Q : VK} {a : Addr} {kvs : List (Key × V)} {ks : List Int} (e : H a = some (.dK kvs)) (hk : kvs.map (·.1) = ks.map Sum.inl) (hl : ks.length ≤ 100000) (h : ∀ (ys : List Int) p H1, ys.Perm ks → ys.Pairwise (· ≤ ·) → H p = none → H1 p = some (.lst (ys.map V.int)) → Same H H1 → Q (.ref p) H1) : rSortA [.ref a] H Q :=
  ⟨a, kvs, ks, rfl, .inl e, hk, hl, fun ys p g1 g2 hp => h ys p _ g1 g2 hp upd_same (Same.new hp)⟩
end FW

set_option Elab.async false
set_option linter.all false
set_option maxRecDepth 100000
set_option maxHeartbeats 4000000
namespace FW
open PySem L2
def top (i : Nat) : Stmt := PySem.Challenge.pw_fewasks_k17_whole_long_shapes.main.body.getD i (.Pass ⟨0, 0, 0, 0⟩)
abbrev s_is_whole : Stmt := top 4
abbrev N_is_whole : List Str := ["thing"]
theorem sc_is_whole : FnScope N_is_whole ["thing"] (defScope s_is_whole) := ⟨rfl, rfl, rfl, by decide +kernel, rfl, by decide +kernel, by decide +kernel⟩
abbrev s_spans : Stmt := top 5
abbrev N_spans : List Str := ["shape", "rows", "steps", "version", "parent", "found", "one"]
theorem sc_spans : FnScope N_spans ["shape"] (defScope s_spans) := ⟨rfl, rfl, rfl, by decide +kernel, rfl, by decide +kernel, by decide +kernel⟩
abbrev s_below : Stmt := top 6
abbrev N_below : List Str := ["shape", "version"]
theorem sc_below : FnScope N_below ["shape", "version"] (defScope s_below) := ⟨rfl, rfl, rfl, by decide +kernel, rfl, by decide +kernel, by decide +kernel⟩
abbrev s_give_way : Stmt := top 8
abbrev N_give_way : List Str := ["low", "came", "uppers", "lowers", "upper", "before"]
theorem sc_give_way : FnScope N_give_way ["low", "came", "uppers", "lowers"] (defScope s_give_way) := ⟨rfl, rfl, rfl, by decide +kernel, rfl, by decide +kernel, by decide +kernel⟩
abbrev s_pair_up : Stmt := top 9
abbrev N_pair_up : List Str := ["version", "rows", "uppers", "lowers", "came", "ways", "upper", "low"]
theorem sc_pair_up : FnScope N_pair_up ["version", "rows", "uppers", "lowers"] (defScope s_pair_up) := ⟨rfl, rfl, rfl, by decide +kernel, rfl, by decide +kernel, by decide +kernel⟩
abbrev s_apart_of : Stmt := top 10
abbrev N_apart_of : List Str := ["versions", "rows", "uppers", "lowers", "ways", "left", "right", "version", "low"]
theorem sc_apart_of : FnScope N_apart_of ["versions", "rows", "uppers", "lowers"] (defScope s_apart_of) := ⟨rfl, rfl, rfl, by decide +kernel, rfl, by decide +kernel, by decide +kernel⟩
abbrev s_cover : Stmt := top 11
abbrev N_cover : List Str := ["shape", "versions", "rows", "uppers", "lowers", "version", "chains", "chain"]
theorem sc_cover : FnScope N_cover ["shape"] (defScope s_cover) := ⟨rfl, rfl, rfl, by decide +kernel, rfl, by decide +kernel, by decide +kernel⟩
abbrev s_law_deck : Stmt := top 13
abbrev N_law_deck : List Str := ["_law_script"]
theorem sc_law_deck : FnScope N_law_deck ["_law_script"] (defScope s_law_deck) := ⟨rfl, rfl, rfl, by decide +kernel, rfl, by decide +kernel, by decide +kernel⟩
abbrev s_law_mixed : Stmt := top 14
abbrev N_law_mixed : List Str := ["_law_cell", "_law_turn"]
theorem sc_law_mixed : FnScope N_law_mixed ["_law_cell", "_law_turn"] (defScope s_law_mixed) := ⟨rfl, rfl, rfl, by decide +kernel, rfl, by decide +kernel, by decide +kernel⟩
abbrev s_law_draw : Stmt := top 15
abbrev N_law_draw : List Str := ["_law_deck_here", "_law_many", "_law_cells", "_law_found", "_law_number"]
theorem sc_law_draw : FnScope N_law_draw ["_law_deck_here", "_law_many"] (defScope s_law_draw) := ⟨rfl, rfl, rfl, by decide +kernel, rfl, by decide +kernel, by decide +kernel⟩
abbrev s_law_int : Stmt := top 16
abbrev N_law_int : List Str := ["_law_thing"]
theorem sc_law_int : FnScope N_law_int ["_law_thing"] (defScope s_law_int) := ⟨rfl, rfl, rfl, by decide +kernel, rfl, by decide +kernel, by decide +kernel⟩
abbrev s_law_same : Stmt := top 17
abbrev N_law_same : List Str := ["_law_found", "_law_due", "_law_k"]
theorem sc_law_same : FnScope N_law_same ["_law_found", "_law_due"] (defScope s_law_same) := ⟨rfl, rfl, rfl, by decide +kernel, rfl, by decide +kernel, by decide +kernel⟩
abbrev s_law_rising : Stmt := top 18
abbrev N_law_rising : List Str := ["_law_thing", "_law_last", "_law_one"]
theorem sc_law_rising : FnScope N_law_rising ["_law_thing"] (defScope s_law_rising) := ⟨rfl, rfl, rfl, by decide +kernel, rfl, by decide +kernel, by decide +kernel⟩
abbrev s_law_long_shape : Stmt := top 19
abbrev N_law_long_shape : List Str := ["_law_deck_here", "_law_most", "_law_first", "_law_gap", "_law_width", "_law_many", "_law_versions", "_law_links", "_law_k"]
theorem sc_law_long_shape : FnScope N_law_long_shape ["_law_deck_here", "_law_most"] (defScope s_law_long_shape) := ⟨rfl, rfl, rfl, by decide +kernel, rfl, by decide +kernel, by decide +kernel⟩
abbrev s_law : Stmt := top 20
abbrev N_law : List Str := ["_law_script", "_law_deck_here", "_law_drawn", "_law_web", "_law_width", "_law_many", "_law_place", "_law_k", "_law_found", "_law_seen", "_law_chain", "_law_version", "_law_marks", "_law_firsts", "_law_due"]
theorem sc_law : FnScope N_law ["_law_script"] (defScope s_law) := ⟨rfl, rfl, rfl, by decide +kernel, rfl, by decide +kernel, by decide +kernel⟩
structure Df (K : PySem.W.Frag) (mg : Str → Option Value) (x : Str) (st : Stmt) (ps : List Str) (f : Addr) (fd : FuncData) : Prop where
  fn : Fun K x x st f fd
  b : Binds K fd ps []
  g : mg x = some (.ref f)
structure Txt (K : PySem.W.Frag) (mg : Str → Option Value) : Prop where
  n_len : mg "len" = none
  n_list : mg "list" = none
  n_isinstance : mg "isinstance" = none
  n_int : mg "int" = none
  n_bool : mg "bool" = none
  n_str : mg "str" = none
  n_tuple : mg "tuple" = none
  n_range : mg "range" = none
  n_sorted : mg "sorted" = none
  n_reversed : mg "reversed" = none
  n_min : mg "min" = none
  n_set : mg "set" = none
local macro_rules | `(tactic| walk_at "sq") => `(tactic| first | assumption | exact SqL.of (by assumption) | exact SqT.of (by assumption))
local macro_rules | `(tactic| walk_at "c") => `(tactic| first | ((with_reducible refine cdivw ?_ ?_) <;> first | decide | omega | assumption) | ((with_reducible refine cmul_r ?_ ?_) <;> first | decide | omega) | ((with_reducible refine cmul_l ?_ ?_) <;> first | decide | omega) | with_reducible assumption | decide | omega | exact ⟨by decide, by decide, by first | decide | omega⟩)
local macro_rules | `(tactic| walk_at "at") => `(tactic| first | assumption | exact rfl)
local macro_rules | `(tactic| walk_at "ty") => `(tactic| first | exact .base (.int _) | exact .base (.bl _) | exact .base (.str _) | exact .base .non | exact .base (.tup (by assumption)) | exact .base (.lst (by assumption)) | exact .base (.dK (by assumption)))
local macro_rules | `(tactic| walk_at "kb") => `(tactic| first | exact kb_int_int | exact kb_int_bool | exact kb_int_str | exact kb_int_tuple | exact kb_int_list | exact kb_int_dict | exact kb_bool_int | exact kb_bool_bool | exact kb_bool_str | exact kb_bool_tuple | exact kb_bool_list | exact kb_bool_dict | exact kb_str_int | exact kb_str_bool | exact kb_str_str | exact kb_str_tuple | exact kb_str_list | exact kb_str_dict | exact kb_tuple_int | exact kb_tuple_bool | exact kb_tuple_str | exact kb_tuple_tuple | exact kb_tuple_list | exact kb_tuple_dict | exact kb_list_int | exact kb_list_bool | exact kb_list_str | exact kb_list_tuple | exact kb_list_list | exact kb_list_dict | exact kb_dict_int | exact kb_dict_bool | exact kb_dict_str | exact kb_dict_tuple | exact kb_dict_list | exact kb_dict_dict | exact kb_NoneType_int | exact kb_NoneType_bool | exact kb_NoneType_str | exact kb_NoneType_tuple | exact kb_NoneType_list | exact kb_NoneType_dict)
local macro_rules | `(tactic| walk_at "s") => `(tactic| first
  | with_reducible refine w_seqA ?_
  | with_reducible refine w_seqD ?_
  | with_reducible refine w_seqF ?_
  | with_reducible refine w_seqW ?_
  | with_reducible refine w_seqG ?_
  | with_reducible refine w_seqP ?_
  | with_reducible refine w_asg ?_
  | ((with_reducible refine' w_var ?hv ?_); (case hv => exact rfl))
  | with_reducible refine w_c ?_
  | ((with_reducible refine w_name ?_); dsimp only [List.set_cons_zero, List.set_cons_succ])
  | with_reducible refine w_name ?_
  | with_reducible refine w_op ?_
  | with_reducible refine w_un ?_
  | with_reducible refine w_neg ?_
  | with_reducible refine w_i0 ?_
  | ((with_reducible refine w_i ?hc ?_); (case hc => walk_at "c"))
  | with_reducible refine w_eqI ?_
  | with_reducible refine w_neI ?_
  | ((with_reducible refine' w_ixL ?h1 ?h2 ?_); (case h1 => walk_at "sq"); (case h2 => walk_at "at"))
  | ((with_reducible refine' w_ixT ?h1 ?h2 ?_); (case h1 => walk_at "sq"); (case h2 => walk_at "at"))
  | ((with_reducible refine' w_ixSL ?h1 ?h2 ?_); (case h1 => walk_at "sq"); (case h2 => walk_at "at"))
  | ((with_reducible refine' w_ixST ?h1 ?h2 ?_); (case h1 => walk_at "sq"); (case h2 => walk_at "at"))
  | with_reducible refine w_neB ?_
  | with_reducible refine w_eqN ?_
  | with_reducible refine w_sub ?_
  | with_reducible refine w_if ?_
  | with_reducible refine w_test ?_
  | with_reducible refine w_tb ?_
  | with_reducible refine w_bl ?_
  | with_reducible refine w_and ?_
  | with_reducible refine w_or ?_
  | with_reducible refine w_not ?_
  | with_reducible refine w_andV ?_
  | with_reducible refine w_orV ?_
  | with_reducible refine w_notV ?_
  | with_reducible refine w_ret ?_
  | with_reducible refine w_drop ?_
  | with_reducible refine w_next ?_
  | with_reducible refine w_cb ?_
  | with_reducible refine w_nil ?_
  | with_reducible refine w_cons ?_
  | with_reducible refine w_call ?_
  | with_reducible refine w_lst ?_
  | with_reducible refine w_tup ?_
  | with_reducible refine w_bm ?_
  | ((with_reducible refine' w_tyL ?h1 ?_); (case h1 => assumption))
  | ((with_reducible refine' w_lenL ?h1 ?_); (case h1 => walk_at "sq"))
  | ((with_reducible refine' w_lenT ?h1 ?_); (case h1 => walk_at "sq"))
  | ((with_reducible refine w_sz ?h1 ?_); (case h1 => first | decide | (simp only [List.length_cons, List.length_nil]; decide)))
  | with_reducible refine w_min2 ?_
  | with_reducible refine w_max2 ?_
  | with_reducible refine w_tupRg ?_
  | with_reducible refine w_rg2 ?_
  | with_reducible refine w_rg2' ?_
  | with_reducible refine w_bits ?_
  | with_reducible refine w_bits' ?_
  | with_reducible refine w_for ?_
  | with_reducible refine w_rng1 ?_
  | ((with_reducible refine w_rng1' ?h1 ?h2 ?_); (case h1 => omega); (case h2 => omega))
  | with_reducible refine w_rng2 ?_
  | ((with_reducible refine w_rng2' ?h1 ?_); (case h1 => omega))
  | with_reducible refine w_itL ?_
  | ((with_reducible refine' w_itL' ?h1 ?_); (case h1 => walk_at "sq"))
  | with_reducible refine w_itT ?_
  | ((with_reducible refine' w_itT' ?h1 ?_); (case h1 => walk_at "sq"))
  | with_reducible refine w_lc ?_
  | ((with_reducible refine' w_isi ?ty ?hk ?_); (case ty => walk_at "ty"); (case hk => walk_at "kb"))
  | with_reducible refine iteT ?_
  | with_reducible refine iteF ?_
  | with_reducible refine w_nT ?_
  | with_reducible refine w_nF ?_
  | with_reducible refine w_eqS ?_
  | with_reducible refine w_eqB ?_
  | ((with_reducible refine' w_sum ?h1 ?_); (case h1 => walk_at "sq"))
  | ((with_reducible refine' w_gtup ?h1 ?h2 ?_); (case h1 => walk_at "sq"); (case h2 => exact rfl))
  | with_reducible refine w_gcons ?_
  | with_reducible refine w_gnil ?_
  | with_reducible refine w_din ?_
  | with_reducible refine w_dnotin ?_
  | with_reducible refine w_dget ?_
  | ((with_reducible refine' w_dinI ?h1 ?_); (case h1 => assumption))
  | ((with_reducible refine' w_dnotinI ?h1 ?_); (case h1 => assumption))
  | ((with_reducible refine' w_dgetI ?h1 ?h2 ?_); (case h1 => assumption); (case h2 => assumption))
  | with_reducible refine w_dnewK ?_
  | with_reducible refine w_dput ?_
  | with_reducible refine w_dget2 ?_
  | ((with_reducible refine' w_isD ?h1 ?_); (case h1 => assumption))
  | ((with_reducible refine' w_dget2I ?h1 ?_); (case h1 => assumption))
  | with_reducible refine w_dsetd ?_
  | ((with_reducible refine' w_leT2 ?h1 ?h2 ?_); (case h1 => walk_at "sq"); (case h2 => walk_at "sq"))
  | ((with_reducible refine' w_inT ?h1 ?_); (case h1 => walk_at "sq"))
  | ((with_reducible refine' w_ninT ?h1 ?_); (case h1 => walk_at "sq"))
  | ((with_reducible refine' w_inL ?h1 ?_); (case h1 => walk_at "sq"))
  | ((with_reducible refine' w_ninL ?h1 ?_); (case h1 => walk_at "sq"))
  | with_reducible refine w_pair ?_
  | with_reducible refine w_pnil ?_
  | with_reducible refine w_callS ?_
  | with_reducible refine w_try ?_
  | with_reducible refine w_isB ?_
  | with_reducible refine w_isN ?_
  | with_reducible refine w_notN ?_
  | with_reducible refine w_chain ?_
  | with_reducible refine w_tru ?_
  | ((with_reducible refine' w_trL ?h1 ?_); (case h1 => walk_at "sq"))
  | ((with_reducible refine' w_trT ?h1 ?_); (case h1 => walk_at "sq"))
  | with_reducible refine w_dc ?_
  | with_reducible refine w_dc2 ?_
  | with_reducible refine w_dget1 ?_
  | ((with_reducible refine' w_dget1I ?h1 ?_); (case h1 => assumption))
  | with_reducible refine w_rev ?_
  | ((with_reducible refine' w_rev' ?h1 ?_); (case h1 => walk_at "sq"))
  | with_reducible refine w_slice ?_
  | with_reducible refine w_noPart ?_
  | with_reducible refine w_part ?_
  | with_reducible refine w_part' ?_
  | with_reducible refine w_bm0 ?_
  | with_reducible refine w_retN ?_
  | with_reducible refine w_tyes ?_
  | with_reducible refine w_keys ?_
  | ((with_reducible refine' w_keys' ?h1 ?_); (case h1 => assumption))
  | ((with_reducible refine' w_dinF ?h1 ?_); (case h1 => assumption))
  | ((with_reducible refine' w_dgetF ?h1 ?h2 ?_); (case h1 => assumption); (case h2 => assumption))
  | ((with_reducible refine' w_any ?h1 ?_); (case h1 => walk_at "sq"))
  | dsimp only [Bool.not_true, Bool.not_false]
  )
local macro_rules | `(tactic| walk_at "p") => `(tactic| first | assumption | omega | (simp only [List.length_cons, List.length_nil, List.length_map]; omega) | exact rfl | decide)
local macro_rules | `(tactic| walk_at "d") => `(tactic| first
  | ((with_reducible refine w_yes ?hp ?_); (case hp => walk_at "p"))
  | ((with_reducible refine w_no ?hp ?_); (case hp => walk_at "p"))
  | ((with_reducible refine w_nyes ?hp ?_); (case hp => walk_at "p"))
  | ((with_reducible refine w_nno ?hp ?_); (case hp => walk_at "p")))
local macro_rules | `(tactic| walk_at "g") => `(tactic| repeat walk_at "s")
local macro_rules | `(tactic| walk_at "dg") => `(tactic| (walk_at "d"; repeat walk_at "s"))
local macro_rules | `(tactic| walk_at "x") => `(tactic| ((try dsimp only [cxOf, Cx.nox, Cx.wish]); repeat walk_at "s"))
def spDeck (K : PySem.W.Frag) : Sp := fun vs H Q _ => ∃ (a : Addr) (ns : List Int), vs = [.ref a] ∧ SqL K H a (ns.map V.int) ∧
  ∀ H' d c, Same H H' → H d = none → H c = none → Deck H' d c 0 → Q (.ref d) H'
def spMixed : Sp := fun vs H Q _ => ∃ (x t : Int), vs = [.int x, .int t] ∧ 0 ≤ t ∧ t ≤ 2 ^ 41 ∧ ∀ i, Q (.int i) H
def spDraw : Sp := fun vs H Q _ => ∃ (d c : Addr) (n : Nat) (m : Int), vs = [.ref d, .int m] ∧ Deck H d c n ∧ n < MOSTD ∧ 0 < m ∧ m < 2 ^ 64 ∧
  ∀ (i : Nat) H', (i : Int) < m → Deck H' d c (n + 1) → Off d H H' → Q (.int i) H'
theorem w_deck {K : PySem.W.Frag} {H : Hp} {Q : VK} {E : XK} {a : Addr} {ns : List Int} (h1 : SqL K H a (ns.map V.int)) (h : ∀ H' d c, Same H H' → H d = none → H c = none → Deck H' d c 0 → Q (.ref d) H') : spDeck K ([V.ref a] ++ []) H Q E := ⟨a, ns, rfl, h1, h⟩
theorem w_draw {H : Hp} {Q : VK} {E : XK} {d c : Addr} {n : Nat} {m : Int} (D : Deck H d c n) (hn : n < MOSTD) (h0 : 0 < m) (h1 : m < 2 ^ 64) (h : ∀ (i : Nat) H', (i : Int) < m → Deck H' d c (n + 1) → Off d H H' → Q (.int i) H') : spDraw ([V.ref d, V.int m] ++ []) H Q E := ⟨d, c, n, m, rfl, D, hn, h0, h1, h⟩
theorem dk0 {c : Addr} {a b t : V} : atI [V.ref c, a, b, t] 0 = some (.ref c) := rfl
theorem dk1 {c a b t : V} : atI [c, a, b, t] 1 = some a := rfl
theorem dk2 {c a b t : V} : atI [c, a, b, t] 2 = some b := rfl
theorem dk3 {c a b t : V} : atI [c, a, b, t] 3 = some t := rfl
section
variable {P : Program} {w : World} {K : PySem.W.Frag} {mg : Str → Option Value} {base : Heap}
theorem ok_deck {f : Addr} {fd : FuncData} (T : Txt K mg) (F : Fun K "_law_deck" "_law_deck" s_law_deck f fd) : FnOk P w K mg base CX0 1 f fd ["_law_script"] (spDeck K) := by
  refine F.ok sc_law_deck (fun vs H Q E h => ?_) (fun cdv A outer s H vs Q E hr h => ?_)
  · obtain ⟨a, ns, rfl, _⟩ := h
    rfl
  · obtain ⟨a, ns, rfl, hS, q⟩ := h
    refine ⟨_,
      (pss_one
        (ps_ret (pe_lst (pa_cons (pe_callTy (r := rListOf K) c_listOf (by rfl) T.n_list (by decide +kernel) (pa_cons (pv 0) pa_nil)) (pa_cons pe_int (pa_cons pe_int (pa_cons pe_int pa_nil)))))))
      , ?_⟩
    walk_at "x"
    refine w_listL hS fun c H1 hc e1 k1 => ?_
    walk_at "g"
    refine w_new fun d H2 hd e2 k2 => ?_
    refine q _ d c (Same.trans k1 k2) (k1.free hd) hc ⟨⟨ns, 0, 0, 0, e2, k2 _ _ e1, Nat.le_refl _⟩, ne_of_none e1 hd⟩
theorem ok_mixed {f : Addr} {fd : FuncData} (T : Txt K mg) (F : Fun K "_law_mixed" "_law_mixed" s_law_mixed f fd) : FnOk P w K mg base CX0 1 f fd ["_law_cell", "_law_turn"] spMixed := by
  refine F.ok sc_law_mixed (fun vs H Q E h => ?_) (fun cdv A outer s H vs Q E hr h => ?_)
  · obtain ⟨x, t, rfl, _⟩ := h
    rfl
  · obtain ⟨x, t, rfl, h0, h1, q⟩ := h
    refine ⟨_,
      (pss_one
        (ps_ret (pe_op op_mod (pe_op op_pow (pe_op op_add (pe_op op_add (pe_op op_mod (pv 0) pe_int) (pe_op op_mul (pv 1) pe_int)) pe_int) pe_int) pe_int)))
      , ?_⟩
    have e := Int.emod_lt_of_pos x (show (0 : Int) < 2147483629 by decide)
    have e2 := Int.emod_nonneg x (show (2147483629 : Int) ≠ 0 by decide)
    walk_at "x"
    exact q _
theorem ok_draw {f fM : Addr} {fd fdM : FuncData} (T : Txt K mg) (F : Fun K "_law_draw" "_law_draw" s_law_draw f fd) (D_law_mixed : Df K mg "_law_mixed" s_law_mixed ["_law_cell", "_law_turn"] fM fdM) : FnOk P w K mg base CX0 2 f fd ["_law_deck_here", "_law_many"] spDraw := by
  have G_law_mixed : FnOk P w K mg base CX0 1 fM fdM ["_law_cell", "_law_turn"] spMixed := ok_mixed T D_law_mixed.fn
  refine F.ok sc_law_draw (fun vs H Q E h => ?_) (fun cdv A outer s H vs Q E hr h => ?_)
  · obtain ⟨d, c, n, m, rfl, _⟩ := h
    rfl
  · obtain ⟨d, c, n, m, rfl, ⟨⟨cs, a, b, t, e1, e2, e3⟩, ne⟩, hn, hm, hm2, q⟩ := h
    have hn' : t < 1099511627776 := Nat.lt_of_le_of_lt e3 hn
    refine ⟨_,
      (pss_cons
        (ps_set (i := 2) sc_law_draw.nd rfl (.inl rfl) (pe_ix (r := rIxL K) ix_list (pv 0) pe_int (fun _ _ => rfl)))
      (pss_cons
        (ps_asg (pe_op op_add (pe_ix (r := rIxL K) ix_list (pv 0) pe_int (fun _ _ => rfl)) pe_int) (pg_sub (pv 0) pe_int set_list))
      (pss_cons
        (ps_if (PW.pt (pw_and (pt_cmpR op_eq (pe_ix (r := rIxL K) ix_list (pv 0) pe_int (fun _ _ => rfl)) pe_int (nomark _)) (pw_and1 (pt_cmpR op_lt (pe_ix (r := rIxL K) ix_list (pv 0) pe_int (fun _ _ => rfl)) (pe_callB (r := rLen K) c_len (by rfl) T.n_len (by decide +kernel) (pa_cons (pv 2) pa_nil)) (nomark _)))))
          (pss_cons
            (ps_asg (pe_op op_add (pe_ix (r := rIxL K) ix_list (pv 0) pe_int (fun _ _ => rfl)) pe_int) (pg_sub (pv 0) pe_int set_list))
          (pss_cons
            (ps_if (pt_cmpR op_lt (pe_ix (r := rIxL K) ix_list (pv 2) (pe_op op_sub (pe_ix (r := rIxL K) ix_list (pv 0) pe_int (fun _ _ => rfl)) pe_int) (fun _ _ => rfl)) (pe_op op_pow pe_int pe_int) (nomark _))
              (pss_one
                (ps_ret (pe_op op_mod (pe_call G_law_mixed (hr.mono (by omega)) (by rfl) D_law_mixed.g D_law_mixed.fn.kp D_law_mixed.b .nil pass0 (pa_cons (pe_ix (r := rIxL K) ix_list (pv 2) (pe_op op_sub (pe_ix (r := rIxL K) ix_list (pv 0) pe_int (fun _ _ => rfl)) pe_int) (fun _ _ => rfl)) (pa_cons (pe_ix (r := rIxL K) ix_list (pv 0) pe_int (fun _ _ => rfl)) pa_nil))) (pv 1))))
              pss_nil)
          (pss_one
            (ps_asg (pe_ix (r := rIxL K) ix_list (pv 2) (pe_op op_sub (pe_ix (r := rIxL K) ix_list (pv 0) pe_int (fun _ _ => rfl)) pe_int) (fun _ _ => rfl)) (pg_sub (pv 0) pe_int set_list)))))
          pss_nil)
      (pss_cons
        (ps_if (pt_cmpR op_gt (pe_ix (r := rIxL K) ix_list (pv 0) pe_int (fun _ _ => rfl)) pe_int (nomark _))
          (pss_cons
            (ps_set (i := 3) sc_law_draw.nd rfl (.inl rfl) (pe_op op_mod (pe_ix (r := rIxL K) ix_list (pv 0) pe_int (fun _ _ => rfl)) (pv 1)))
          (pss_cons
            (ps_asg (pe_op op_fdivW (pe_ix (r := rIxL K) ix_list (pv 0) pe_int (fun _ _ => rfl)) (pv 1)) (pg_sub (pv 0) pe_int set_list))
          (pss_one
            (ps_ret (pv 3)))))
          pss_nil)
      (pss_cons
        (ps_set (i := 4) sc_law_draw.nd rfl (.inl rfl) (pe_op op_mul (pe_ix (r := rIxL K) ix_list (pv 0) pe_int (fun _ _ => rfl)) pe_int))
      (pss_cons
        (ps_if (pt_cmpR op_gt (pe_callB (r := rLen K) c_len (by rfl) T.n_len (by decide +kernel) (pa_cons (pv 2) pa_nil)) pe_int (nomark _))
          (pss_one
            (ps_set (i := 4) sc_law_draw.nd rfl (.inl rfl) (pe_op op_add (pv 4) (pe_op op_mod (pe_ix (r := rIxL K) ix_list (pv 2) (pe_op op_mod (pe_op op_mul (pe_ix (r := rIxL K) ix_list (pv 0) pe_int (fun _ _ => rfl)) pe_int) (pe_callB (r := rLen K) c_len (by rfl) T.n_len (by decide +kernel) (pa_cons (pv 2) pa_nil))) (fun _ _ => rfl)) pe_int))))
          pss_nil)
      (pss_one
        (ps_ret (pe_op op_mod (pe_call G_law_mixed (hr.mono (by omega)) (by rfl) D_law_mixed.g D_law_mixed.fn.kp D_law_mixed.b .nil pass0 (pa_cons (pv 4) (pa_cons (pe_ix (r := rIxL K) ix_list (pv 0) pe_int (fun _ _ => rfl)) pa_nil))) (pv 1))))))))))
      , ?_⟩
    rw [show L2.start N_law_draw [V.ref d, V.int m] = [some (.ref d), some (.int m), none, none, none] from rfl]
    -- cells = deck[0]; deck[3] = deck[3] + 1
    walk_at "x"
    refine w_setL e1 rfl rfl fun H1 g0 o0 => ?_
    have fin : ∀ (H' : Hp) (a' : Nat) (b' i : Int), 0 ≤ i → i < m → H' d = some (.lst [.ref c, .int a', .int b', .int (t + 1)]) → Off d H H' → Q (.int i) H' := fun H' a' b' i i0 i1 g1 g2 => by
      have z := q i.toNat H' (by omega) ⟨⟨cs, a', b', t + 1, g1, (g2 c ne).trans e2, by omega⟩, ne⟩ g2
      rw [Int.toNat_of_nonneg i0] at z
      exact z
    have md : ∀ x : Int, 0 ≤ x % m ∧ x % m < m := fun x => ⟨Int.emod_nonneg x (by omega), Int.emod_lt_of_pos x hm⟩
    have g0 : H1 d = some (.lst [.ref c, .int a, .int b, .int ((t : Int) + 1)]) := g0
    have c1 : H1 c = some (.lst (cs.map V.int)) := (o0 c ne).trans e2
    -- if deck[2] == 0 and deck[1] < len(cells): ..
    refine w_seqJ (fun σ' H2 => σ' = [some (.ref d), some (.int m), some (.ref c), none, none] ∧ ∃ (a' : Nat) (b' : Int), H2 d = some (.lst [.ref c, .int a', .int b', .int ((t : Int) + 1)]) ∧ Off d H H2) ?_ ?_
    · rintro σ' H2 ⟨rfl, a', b', g2, o2⟩
      have c2 : H2 c = some (.lst (cs.map V.int)) := (o2 c ne).trans e2
      refine w_seqJ (fun σ' H3 => σ' = [some (.ref d), some (.int m), some (.ref c), none, none] ∧ H3 = H2) ?_ ?_
      · rintro σ' H3 ⟨rfl, rfl⟩
        -- number = deck[3] * 48271; if len(cells) > 0: ..
        walk_at "g"
        refine w_seqJ (fun σ' H4 => (∃ z : Int, σ' = [some (.ref d), some (.int m), some (.ref c), none, some (.int z)]) ∧ H4 = H3) ?_ ?_
        · rintro σ' H4 ⟨⟨z, rfl⟩, rfl⟩
          walk_at "g"
          refine ⟨_, _, rfl, by omega, by omega, fun y => ?_⟩
          walk_at "g"
          exact fin _ a' b' _ (md y).1 (md y).2 g2 o2
        · intro U hU
          walk_at "g"
          refine w_ite (fun hl => ?_) (fun hl => ?_)
          · obtain ⟨v, hv1, hv2⟩ := at_lt (xs := cs.map V.int) (i := ((t : Int) + 1) * 7 % ((cs.map V.int).length : Int)) (Int.emod_nonneg _ (by omega)) (Int.emod_lt_of_pos _ hl)
            rw [List.getElem?_map] at hv1
            obtain ⟨y, _, rfl⟩ := Option.map_eq_some_iff.mp hv1
            walk_at "g"
            exact hU _ _ ⟨⟨_, rfl⟩, rfl⟩
          · exact hU _ _ ⟨⟨_, rfl⟩, rfl⟩
      · intro U hU
        walk_at "g"
        refine w_ite (fun hl => ?_) (fun hl => ?_)
        · walk_at "g"
          refine w_setL g2 rfl rfl fun H9 g9 o9 => ?_
          walk_at "g"
          exact fin _ a' (b' / m) _ (md b').1 (md b').2 g9 (o2.trans o9)
        · exact hU _ _ ⟨rfl, rfl⟩
    · intro U hU
      have no : U [some (.ref d), some (.int m), some (.ref c), none, none] H1 := hU _ _ ⟨rfl, a, b, g0, o0⟩
      walk_at "g"
      refine w_ite (fun hl => ?_) (fun _ => no)
      walk_at "g"
      refine w_ite (fun hl2 => ?_) (fun _ => no)
      obtain ⟨v, hv1, hv2⟩ := at_lt (xs := cs.map V.int) (i := ((a + 1 : Nat) : Int) - 1) (by omega) (by omega)
      rw [List.getElem?_map] at hv1
      obtain ⟨y, _, rfl⟩ := Option.map_eq_some_iff.mp hv1
      walk_at "g"
      refine w_setL g0 rfl rfl fun H2 g2 o2 => ?_
      have g2 : H2 d = some (.lst [.ref c, .int ((a + 1 : Nat) : Int), .int b, .int ((t : Int) + 1)]) := g2
      have o2 : Off d H H2 := o0.trans o2
      have c2 : H2 c = some (.lst (cs.map V.int)) := (o2 c ne).trans e2
      refine w_seq ?_
      walk_at "g"
      refine w_ite (fun hl => ?_) (fun hl => ?_)
      · walk_at "g"
        refine ⟨_, _, rfl, by omega, by omega, fun y => ?_⟩
        walk_at "g"
        exact fin _ (a + 1) b _ (md y).1 (md y).2 g2 o2
      · walk_at "g"
        refine w_setL g2 rfl rfl fun H9 g9 o9 => ?_
        exact hU _ _ ⟨rfl, a + 1, y, g9, o2.trans o9⟩
end
/-! ### shapes on the heap -/
def VL (H : Hp) (a : Addr) (vs : List Int) : Prop := H a = some (.tup (vs.map V.int))
def PL (H : Hp) (b : Addr) (ps : List (Addr × Int × Int)) : Prop := H b = some (.tup (ps.map fun q => .ref q.1)) ∧ ∀ q ∈ ps, H q.1 = some (.tup [.int q.2.1, .int q.2.2])
def ShAt (H : Hp) (t : Addr) (vs : List Int) (ps : List (Addr × Int × Int)) : Prop := ∃ a b, H t = some (.tup [.ref a, .ref b]) ∧ VL H a vs ∧ PL H b ps
theorem VL.kt {H H' : Hp} {a : Addr} {vs : List Int} (h : VL H a vs) (k : KT H H') : VL H' a vs := k _ _ h
theorem PL.kt {H H' : Hp} {a : Addr} {ps : List (Addr × Int × Int)} (h : PL H a ps) (k : KT H H') : PL H' a ps := ⟨k _ _ h.1, fun q hq => k _ _ (h.2 q hq)⟩
theorem ShAt.kt {H H' : Hp} {t : Addr} {vs : List Int} {ps : List (Addr × Int × Int)} (h : ShAt H t vs ps) (k : KT H H') : ShAt H' t vs ps := by
  obtain ⟨a, b, e, v, p⟩ := h
  exact ⟨a, b, k _ _ e, v.kt k, p.kt k⟩
def LexL (x y : Int × Int) : Prop := x.1 < y.1 ∨ x.1 = y.1 ∧ x.2 < y.2
structure ShOk (vs : List Int) (ls : List (Int × Int)) : Prop where
  vr : vs.Pairwise (· < ·)
  v0 : ∀ v ∈ vs, 0 ≤ v
  lr : ls.Pairwise LexL
  lm : ∀ q ∈ ls, q.1 ∈ vs ∧ q.2 ∈ vs ∧ q.2 < q.1
theorem drop_of {α : Type} {xs : List α} {i : Nat} {x : α} (h : xs[i]? = some x) : xs.drop i = x :: xs.drop (i + 1) := by
  obtain ⟨h1, h2⟩ := List.getElem?_eq_some_iff.mp h
  rw [List.drop_eq_getElem_cons h1, h2]
theorem map_at {α : Type} {f : α → V} {xs : List α} {i : Nat} {v : V} (h : (xs.map f)[i]? = some v) : ∃ x, xs[i]? = some x ∧ v = f x := by
  rw [List.getElem?_map] at h
  obtain ⟨y, h1, h2⟩ := Option.map_eq_some_iff.mp h
  exact ⟨y, h1, h2.symm⟩
theorem take_lt {vs : List Int} (h : vs.Pairwise (· < ·)) {j : Nat} {t x : Int} (ht : vs[j]? = some t) (hx : x ∈ vs.take j) : x < t := by
  have e : vs = vs.take j ++ vs.drop j := (List.take_append_drop j vs).symm
  rw [e, List.pairwise_append] at h
  refine h.2.2 x hx t ?_
  rw [drop_of ht]
  simp
/-! ### what is below what -/
inductive Bel (ls : List (Int × Int)) : Int → Int → Prop where
  | refl (v : Int) : Bel ls v v
  | step {v p x : Int} (h : (v, p) ∈ ls) (r : Bel ls p x) : Bel ls v x
theorem Bel.mem {vs : List Int} {ls : List (Int × Int)} (S : ShOk vs ls) {v x : Int} (h : Bel ls v x) (hv : v ∈ vs) : x ∈ vs := by
  induction h with
  | refl v => exact hv
  | step h r ih => exact ih (S.lm _ h).2.1
theorem Bel.le {vs : List Int} {ls : List (Int × Int)} (S : ShOk vs ls) {v x : Int} (h : Bel ls v x) : x ≤ v := by
  induction h with
  | refl v => omega
  | step h r ih => have := (S.lm _ h).2.2; dsimp only at this; omega
theorem Bel.trans {ls : List (Int × Int)} {a b c : Int} (h : Bel ls a b) (r : Bel ls b c) : Bel ls a c := by
  induction h with
  | refl v => exact r
  | step h _ ih => exact .step h (ih r)
theorem Bel.iff {ls : List (Int × Int)} {v x : Int} : Bel ls v x ↔ x = v ∨ ∃ p, (v, p) ∈ ls ∧ Bel ls p x := by
  constructor
  · intro h
    cases h with
    | refl => exact .inl rfl
    | step h r => exact .inr ⟨_, h, r⟩
  · rintro (rfl | ⟨p, h, r⟩)
    · exact .refl _
    · exact .step h r
theorem rise_ext : ∀ (xs ys : List Int), xs.Pairwise (· < ·) → ys.Pairwise (· < ·) → (∀ x, x ∈ xs ↔ x ∈ ys) → xs = ys
  | [], [], _, _, _ => rfl
  | [], y :: ys, _, _, h => by have := (h y).mpr (by simp); simp at this
  | x :: xs, [], _, _, h => by have := (h x).mp (by simp); simp at this
  | x :: xs, y :: ys, h1, h2, h => by
    rw [List.pairwise_cons] at h1 h2
    have e : x = y := by
      have a := (h x).mp (by simp)
      have b := (h y).mpr (by simp)
      rcases List.mem_cons.mp a with a | a
      · exact a
      · rcases List.mem_cons.mp b with b | b
        · exact b.symm
        · have := h2.1 x a
          have := h1.1 y b
          omega
    subst e
    rw [rise_ext xs ys h1.2 h2.2 fun z => ?_]
    constructor
    · intro hz
      rcases List.mem_cons.mp ((h z).mp (by simp [hz])) with e | e
      · have := h1.1 z hz
        omega
      · exact e
    · intro hz
      rcases List.mem_cons.mp ((h z).mpr (by simp [hz])) with e | e
      · have := h2.1 z hz
        omega
      · exact e
structure RowOk (ls : List (Int × Int)) (v : Int) (ys : List Int) : Prop where
  rise : ys.Pairwise (· < ·)
  mem : ∀ x, x ∈ ys ↔ Bel ls v x
theorem RowOk.uniq {ls : List (Int × Int)} {v : Int} {ys zs : List Int} (a : RowOk ls v ys) (b : RowOk ls v zs) : ys = zs :=
  rise_ext _ _ a.rise b.rise fun x => (a.mem x).trans (b.mem x).symm
/-- a rising order of unlike numbers is strictly rising -/
theorem strict_of {ys ks : List Int} (p : ys.Perm ks) (s : ys.Pairwise (· ≤ ·)) (n : ks.Nodup) : ys.Pairwise (· < ·) := by
  have h : ys.Nodup := p.nodup_iff.mpr n
  have h2 : ys.Pairwise (fun a b => a ≤ b ∧ a ≠ b) := s.and h
  exact h2.imp fun {a b} z => by omega
def addK (ks : List Int) (x : Int) : List Int := if x ∈ ks then ks else ks ++ [x]
theorem mem_addK {ks : List Int} {x y : Int} : y ∈ addK ks x ↔ y ∈ ks ∨ y = x := by
  unfold addK
  by_cases h : x ∈ ks
  · rw [if_pos h]
    constructor
    · exact .inl
    · rintro (a | rfl)
      · exact a
      · exact h
  · rw [if_neg h]
    simp
theorem nd_addK {ks : List Int} {x : Int} (h : ks.Nodup) : (addK ks x).Nodup := by
  unfold addK
  by_cases e : x ∈ ks
  · rw [if_pos e]; exact h
  · rw [if_neg e]
    exact List.nodup_append.mpr ⟨h, by simp, fun a ha b hb => by
      have : b = x := by simpa using hb
      subst this
      exact fun z => e (z ▸ ha)⟩
theorem putK_keys {fk : List (Key × V)} {ks : List Int} {x : Int} {v : V} (h : fk.map (·.1) = ks.map (Sum.inl : Int → Key)) : (putK fk (Sum.inl x) v).map (·.1) = (addK ks x).map (Sum.inl : Int → Key) := by
  have he : (fk.any fun kv => decide (kv.1 = (Sum.inl x : Key))) = true ↔ x ∈ ks := by
    rw [List.any_eq_true]
    constructor
    · rintro ⟨kv, hk, e⟩
      have m : (Sum.inl x : Key) ∈ ks.map Sum.inl := by
        rw [← h, ← of_decide_eq_true e]
        exact List.mem_map_of_mem hk
      obtain ⟨y, hy, e2⟩ := List.mem_map.mp m
      exact Sum.inl.inj e2 ▸ hy
    · intro hx
      have m : (Sum.inl x : Key) ∈ fk.map (·.1) := by
        rw [h]
        exact List.mem_map_of_mem hx
      obtain ⟨kv, hk, e⟩ := List.mem_map.mp m
      exact ⟨kv, hk, decide_eq_true e⟩
  unfold putK addK
  by_cases e : x ∈ ks
  · rw [if_pos (he.mpr e), if_pos e, ← h, List.map_map]
    apply List.map_congr_left
    intro kv _
    show (if kv.1 = Sum.inl x then (kv.1, v) else kv).1 = kv.1
    by_cases q : kv.1 = (Sum.inl x : Key)
    · rw [if_pos q]
    · rw [if_neg q]
  · rw [if_neg (fun z => e (he.mp z)), if_neg e, List.map_append, List.map_append, h]
    rfl
theorem nodup_le : ∀ (ks vs : List Int), ks.Nodup → (∀ x ∈ ks, x ∈ vs) → ks.length ≤ vs.length
  | [], _, _, _ => Nat.zero_le _
  | k :: ks, vs, h, hs => by
    rw [List.nodup_cons] at h
    have hk := hs k (by simp)
    have ih := nodup_le ks (vs.erase k) h.2 fun x hx => (List.mem_erase_of_ne (fun z => h.1 (by rw [← z]; exact hx))).mpr (hs x (by simp [hx]))
    rw [List.length_erase_of_mem hk] at ih
    have : 0 < vs.length := List.length_pos_of_mem hk
    rw [List.length_cons]
    omega
structure FoundAt (H : Hp) (f : Addr) (ks : List Int) : Prop where
  at' : ∃ fk, H f = some (.dK fk) ∧ fk.map (·.1) = ks.map (Sum.inl : Int → Key)
  nd : ks.Nodup
theorem FoundAt.put {H1 : Hp} {f : Addr} {ks : List Int} {fk : List (Key × V)} {x : Int} {v : V} (hk : fk.map (·.1) = ks.map (Sum.inl : Int → Key)) (nd : ks.Nodup) (e : H1 f = some (.dK (putK fk (Sum.inl x) v))) : FoundAt H1 f (addK ks x) := ⟨⟨_, e, putK_keys hk⟩, nd_addK nd⟩
/-- the rows so far: of the versions done; each row a list that stood not in H0 -/
def RowsAt (H0 H : Hp) (R : Addr) (ls : List (Int × Int)) (dn : List Int) : Prop := ∃ kvs, H R = some (.dK kvs) ∧ kvs.map (·.1) = dn.map (Sum.inl : Int → Key) ∧ (∀ n, n ∉ dn → valV kvs (Sum.inl n) = none) ∧
  ∀ v ∈ dn, ∃ a ys, valV kvs (Sum.inl v) = some (.ref a) ∧ H a = some (.lst (ys.map V.int)) ∧ RowOk ls v ys ∧ H0 a = none
/-- what keeps lists and dicts but at p -/
theorem RowsAt.kp {H0 H H' : Hp} {R : Addr} {ls : List (Int × Int)} {dn : List Int} {M : List Addr} (h : RowsAt H0 H R ls dn) (k : Kp M H H') (hR : R ∉ M) (hM : ∀ b ∈ M, ∀ xs, H b ≠ some (.lst xs)) : RowsAt H0 H' R ls dn := by
  obtain ⟨kvs, e, hl, hn, hv⟩ := h
  refine ⟨kvs, k _ _ hR e, hl, hn, fun v hv' => ?_⟩
  obtain ⟨a, ys, e1, e2, r, n⟩ := hv v hv'
  exact ⟨a, ys, e1, k _ _ (fun z => hM a z _ e2) e2, r, n⟩
theorem RowsAt.put {H0 H H' : Hp} {R p : Addr} {ls : List (Int × Int)} {dn : List Int} {v : Int} {ys : List Int} {kvs : List (Key × V)} (e : H R = some (.dK kvs)) (hl : kvs.map (·.1) = dn.map (Sum.inl : Int → Key)) (nv : v ∉ dn) (hn : ∀ n, n ∉ dn → valV kvs (Sum.inl n) = none)
    (hv : ∀ v ∈ dn, ∃ a ys, valV kvs (Sum.inl v) = some (.ref a) ∧ H a = some (.lst (ys.map V.int)) ∧ RowOk ls v ys ∧ H0 a = none) (e' : H' R = some (.dK (putK kvs (Sum.inl v) (.ref p)))) (o : Off R H H') (hp : H p = some (.lst (ys.map V.int))) (r : RowOk ls v ys) (h0 : H0 p = none) : RowsAt H0 H' R ls (dn ++ [v]) := by
  have nl : ∀ b xs, H b = some (.lst xs) → b ≠ R := fun b xs z => ne_of z e (fun q => nomatch q)
  refine ⟨_, e', ?_, fun n hn' => ?_, fun x hx => ?_⟩
  · rw [putK_keys hl]
    unfold addK
    rw [if_neg nv]
  · rw [valV_put, if_neg (fun z => hn' (by rw [Sum.inl.inj z]; simp))]
    exact hn n fun z => hn' (List.mem_append_left _ z)
  · rw [valV_put]
    by_cases q : x = v
    · subst q
      rw [if_pos rfl]
      exact ⟨p, ys, rfl, o.get (nl _ _ hp) hp, r, h0⟩
    · rw [if_neg (fun z => q (Sum.inl.inj z))]
      rcases List.mem_append.mp hx with a | a
      · obtain ⟨a, zs, e1, e2, r', n⟩ := hv x a
        exact ⟨a, zs, e1, o.get (nl _ _ e2) e2, r', n⟩
      · exact absurd (by simpa using a) q
/-- the rows as they are read: the lists' addresses are none of M -/
def RowsK (M : List Addr) (H : Hp) (R : Addr) (ls : List (Int × Int)) (dn : List Int) : Prop := ∃ kvs, H R = some (.dK kvs) ∧ kvs.map (·.1) = dn.map (Sum.inl : Int → Key) ∧ (∀ n, n ∉ dn → valV kvs (Sum.inl n) = none) ∧ ∀ v ∈ dn, ∃ a ys, valV kvs (Sum.inl v) = some (.ref a) ∧ H a = some (.lst (ys.map V.int)) ∧ RowOk ls v ys ∧ a ∉ M
theorem RowsK.kp {M N : List Addr} {H H' : Hp} {R : Addr} {ls : List (Int × Int)} {dn : List Int} (h : RowsK M H R ls dn) (k : Kp N H H') (hN : ∀ x ∈ N, x ∈ M) (hR : R ∉ N) : RowsK M H' R ls dn := by
  obtain ⟨kvs, e, hl, hn, hv⟩ := h
  refine ⟨kvs, k _ _ hR e, hl, hn, fun v hv' => ?_⟩
  obtain ⟨a, ys, e1, e2, r, n⟩ := hv v hv'
  exact ⟨a, ys, e1, k _ _ (fun z => n (hN a z)) e2, r, n⟩
theorem RowsK.off {M : List Addr} {H H' : Hp} {R p : Addr} {ls : List (Int × Int)} {dn : List Int} {xs : List V} (h : RowsK M H R ls dn) (o : Off p H H') (hp : p ∈ M) (e : H p = some (.lst xs)) : RowsK M H' R ls dn := by
  obtain ⟨kvs, eR, _⟩ := id h
  exact h.kp (N := [p]) (o.kp (by simp)) (by simpa using hp) (by simpa using ne_of eR e (fun z => nomatch z))
/-- a list that was laid behind is changed -/
theorem RowsK.offN {M : List Addr} {H H1 H' : Hp} {R p : Addr} {ls : List (Int × Int)} {dn : List Int} (h : RowsK M H R ls dn) (k : Same H H1) (o : Off p H1 H') (hp : H p = none) : RowsK M H' R ls dn :=
  h.kp (N := []) (Off.keep (Kp.of k) o hp) (by simp) (by simp)
theorem RowsAt.toK {H0 H : Hp} {R : Addr} {ls : List (Int × Int)} {dn : List Int} {M : List Addr} (h : RowsAt H0 H R ls dn) (hM : ∀ x ∈ M, H0 x ≠ none ∨ H x = none) : RowsK M H R ls dn := by
  obtain ⟨kvs, e, hl, hn, hv⟩ := h
  refine ⟨kvs, e, hl, hn, fun v hv' => ?_⟩
  obtain ⟨a, ys, e1, e2, r, n⟩ := hv v hv'
  refine ⟨a, ys, e1, e2, r, fun z => ?_⟩
  rcases hM a z with h | h
  · exact h n
  · rw [h] at e2; cases e2
theorem map_erase {α β : Type} (f : α → β) : ∀ (xs : List α) (k : Nat), (xs.map f).eraseIdx k = (xs.eraseIdx k).map f
  | [], _ => rfl
  | _ :: _, 0 => rfl
  | x :: xs, k + 1 => by
    show f x :: (xs.map f).eraseIdx k = f x :: (xs.eraseIdx k).map f
    rw [map_erase f xs k]
def par (ls : List (Int × Int)) (v : Int) : List Int := (ls.filter fun q => decide (q.1 = v)).map (·.2)
theorem mem_par {ls : List (Int × Int)} {v p : Int} : p ∈ par ls v ↔ (v, p) ∈ ls := by
  unfold par
  rw [List.mem_map]
  constructor
  · rintro ⟨q, hq, rfl⟩
    obtain ⟨h1, h2⟩ := List.mem_filter.mp hq
    have e : q.1 = v := of_decide_eq_true h2
    rw [← e]
    exact h1
  · intro h
    exact ⟨(v, p), List.mem_filter.mpr ⟨h, decide_eq_true rfl⟩, rfl⟩
theorem par_snoc {ls : List (Int × Int)} {v w p : Int} : par (ls ++ [(v, p)]) w = if v = w then par ls w ++ [p] else par ls w := by
  unfold par
  rw [List.filter_append, List.map_append]
  by_cases e : v = w
  · rw [if_pos e]
    simp [e]
  · rw [if_neg e]
    simp [e]
def StepsAt (H0 H : Hp) (S : Addr) (ls : List (Int × Int)) : Prop := ∃ (kvs : List (Key × V)) (A : Int → Addr), H S = some (.dK kvs) ∧ kvs.length ≤ ls.length ∧
  (∀ v, par ls v = [] → valV kvs (Sum.inl v) = none) ∧ (∀ v, par ls v ≠ [] → valV kvs (Sum.inl v) = some (.ref (A v)) ∧ H (A v) = some (.lst ((par ls v).map V.int)) ∧ H0 (A v) = none) ∧
  ∀ v w, par ls v ≠ [] → par ls w ≠ [] → v ≠ w → A v ≠ A w
def spSpans : Sp := fun vs H Q _ => ∃ (t : Addr) (ns : List Int) (ps : List (Addr × Int × Int)), vs = [.ref t] ∧ ShAt H t ns ps ∧ ShOk ns (ps.map (·.2)) ∧ ns.length < 420 ∧ ps.length ≤ 100000 ∧
  ∀ H' D, Same H H' → H D = none → RowsAt H H' D (ps.map (·.2)) ns → Q (.ref D) H'
section
variable {P : Program} {w : World} {K : PySem.W.Frag} {mg : Str → Option Value} {base : Heap}
theorem ok_spans {f : Addr} {fd : FuncData} (T : Txt K mg) (F : Fun K "spans" "spans" s_spans f fd) : FnOk P w K mg base CX0 1 f fd ["shape"] spSpans := by
  refine F.ok sc_spans (fun vs H Q E h => ?_) (fun cdv A outer s H vs Q E hr h => ?_)
  · obtain ⟨t, ns, ps, rfl, _⟩ := h
    rfl
  · obtain ⟨t, ns, ps, rfl, ⟨a, b, e1, e2, e3⟩, S, hl, hl2, q⟩ := h
    have hu := hu_of hr
    have e3' := e3.1
    refine ⟨_,
      (pss_cons
        (ps_set (i := 1) sc_spans.nd rfl (.inl rfl) pe_dnewK)
      (pss_cons
        (ps_set (i := 2) sc_spans.nd rfl (.inl rfl) pe_dnewK)
      (pss_cons
        (ps_for PassesOwn.never rfl (pi_tup (pe_ix (r := rIxT K) ix_tup (pv 0) pe_int (fun _ _ => rfl))) (pg_tup rfl (pgs_cons (pg_name (i := 3) sc_spans.nd rfl (.inl rfl)) (pgs_cons (pg_name (i := 4) sc_spans.nd rfl (.inl rfl)) pgs_nil)))
          (pss_one
            (ps_expr (pe_bm PySem.F.plainAttrs_list PySem.F.slot_list_append PySem.F.type_list_append mt_append (pe_dsetd (pv 2) (pv 3) (pe_lst pa_nil) ⟨rfl, rfl, rfl, rfl⟩) (pa_cons (pv 4) pa_nil)))))
      (pss_cons
        (ps_for PassesOwn.never rfl (pi_tup (pe_ix (r := rIxT K) ix_tup (pv 0) pe_int (fun _ _ => rfl))) (pg_name (i := 3) sc_spans.nd rfl (.inl rfl))
          (pss_cons
            (ps_set (i := 5) sc_spans.nd rfl (.inl rfl) (pe_disp (pps_cons (pv 3) pe_bl pps_nil) (by rfl) (by rfl) (fun z => by cases z) (by decide)))
          (pss_cons
            (ps_for PassesOwn.never rfl (pi_list (pe_dget2 hu (pv 2) (pv 3) (pe_lst pa_nil) ⟨rfl, rfl, rfl, rfl⟩)) (pg_name (i := 4) sc_spans.nd rfl (.inl rfl))
              (pss_one
                (ps_for PassesOwn.never rfl (pi_list (pe_dget hu (pv 1) (pv 4) (fun _ _ => rfl))) (pg_name (i := 6) sc_spans.nd rfl (.inl rfl))
                  (pss_one
                    (ps_dput hu (pv 5) (pv 6) pe_bl rfl)))))
          (pss_one
            (ps_dput hu (pv 1) (pv 3) (pe_callB (c_sortA rfl) (by rfl) T.n_sorted (by decide +kernel) (pa_cons (pv 5) pa_nil)) rfl)))))
      (pss_one
        (ps_ret (pv 1)))))))
      , ?_⟩
    rw [show L2.start N_spans [V.ref t] = [some (.ref t), none, none, none, none, none, none] from rfl]
    walk_at "x"
    refine w_new fun R H1 hR eR k1 => ?_
    walk_at "g"
    refine w_new fun S' H2 hS eS k2 => ?_
    have nRS : R ≠ S' := ne_of_none eR hS
    have hS0 : H S' = none := k1.free hS
    have e1' := k2 _ _ (k1 _ _ e1)
    have e2' : H2 a = some (.tup (ns.map V.int)) := k2 _ _ (k1 _ _ e2)
    have eb' := k2 _ _ (k1 _ _ e3')
    walk_at "g"
    refine lp_tup (xs := ps.map fun q => .ref q.1) (fun i σ H' => ∃ (y3 y4 : Option V), σ = [some (.ref t), some (.ref R), some (.ref S'), y3, y4, none, none] ∧ Same H H' ∧ H' R = some (.dK []) ∧ StepsAt H H' S' ((ps.take i).map (·.2))) ?_ ?_ ?_ ?_
    · exact ⟨none, none, rfl, Same.trans k1 k2, k2 _ _ eR, [], fun _ => 0, eS, Nat.le_refl _, fun _ _ => rfl, fun v h => absurd rfl h, fun v _ h => absurd rfl h⟩
    · rintro i σ H3 _ ⟨_, _, _, k3, _⟩
      exact .of (k3 _ _ e3')
    · rintro i y σ H3 hy ⟨y3, y4, rfl, k3, eR3, kvs, A3, eS3, hlen, hn, hv, hinj⟩
      obtain ⟨x, hx, rfl⟩ := map_at hy
      have ex := k3 _ _ (e3.2 x (List.mem_of_getElem? hx))
      have hil : i < ps.length := (List.getElem?_eq_some_iff.mp hx).1
      walk_at "g"
      refine w_new fun z H4 hz ez k4 => ?_
      have eS4 := k4 _ _ eS3
      have eR4 := k4 _ _ eR3
      have nzS : S' ≠ z := ne_of_none eS3 hz
      have hz0 : H z = none := k3.free hz
      have tk : (ps.take (i + 1)).map (·.2) = (ps.take i).map (·.2) ++ [x.2] := by
        rw [List.take_add_one, hx, List.map_append]
        rfl
      have hlen2 : kvs.length ≤ i := Nat.le_trans hlen (by rw [List.length_map, List.length_take]; omega)
      refine w_dsetdI eS4 (Nat.lt_of_le_of_lt (Nat.le_trans hlen2 (by omega)) (show 100000 < sizeLine by decide)) (fun u hu' => ?_) (fun hno H5 e5 o5 => ?_)
      · -- there is a list of its own already
        have hp : par ((ps.take i).map (·.2)) x.2.1 ≠ [] := fun z0 => by
          rw [hn _ z0] at hu'
          cases hu'
        obtain ⟨v1, v2, v3⟩ := hv _ hp
        rw [v1] at hu'
        cases hu'
        have v2' := k4 _ _ v2
        walk_at "g"
        refine w_app v2' ?_ fun H5 e5 o5 => ?_
        · rw [List.length_map]
          unfold par
          rw [List.length_map]
          refine Nat.lt_of_le_of_lt (List.length_filter_le _ _) ?_
          rw [List.length_map, List.length_take]
          exact Nat.lt_of_le_of_lt (show min i ps.length ≤ 100000 by omega) (by decide)
        · have nl : ∀ c kv, H4 c = some (.dK kv) → c ≠ A3 x.2.1 := fun c kv e => ne_of e v2' (fun z => nomatch z)
          have ne' : ∀ w, par ((ps.take (i + 1)).map (·.2)) w ≠ [] → par ((ps.take i).map (·.2)) w ≠ [] := fun w hw => by
            rw [tk, par_snoc] at hw
            by_cases q1 : x.2.1 = w
            · rw [← q1]; exact hp
            · rw [if_neg q1] at hw; exact hw
          refine ⟨_, _, rfl, fun c o e => o5.get (ne_of_none e v3) (k4 _ _ (k3 _ _ e)), o5.get (nl _ _ eR4) eR4, kvs, A3, o5.get (nl _ _ eS4) eS4, by rw [tk, List.length_append]; omega, fun w hw => ?_, fun w hw => ?_, fun v w' h1 h2 => hinj v w' (ne' v h1) (ne' w' h2)⟩
          · rw [tk, par_snoc] at hw
            by_cases q1 : x.2.1 = w
            · rw [if_pos q1] at hw
              simp at hw
            · rw [if_neg q1] at hw
              exact hn w hw
          · have hw' := ne' w hw
            obtain ⟨u1, u2, u3⟩ := hv w hw'
            refine ⟨u1, ?_, u3⟩
            rw [tk, par_snoc]
            by_cases q1 : x.2.1 = w
            · rw [if_pos q1, ← q1, e5, List.map_append]
              rfl
            · rw [if_neg q1]
              exact o5.get (fun z0 => hinj w x.2.1 hw' hp (fun z1 => q1 z1.symm) z0) (k4 _ _ u2)
      · -- a new list
        have ez5 := o5.get (Ne.symm nzS) ez
        have hp0 : par ((ps.take i).map (·.2)) x.2.1 = [] := by
          cases hq : par ((ps.take i).map (·.2)) x.2.1 with
          | nil => rfl
          | cons u r =>
            have := (hv x.2.1 (by rw [hq]; simp)).1
            rw [this] at hno
            cases hno
        walk_at "g"
        refine w_app ez5 (by decide) fun H6 e6 o6 => ?_
        have nz : ∀ c o, H3 c = some o → c ≠ z := fun c o e => ne_of_none e hz
        have nS : ∀ c xs, H4 c = some (.lst xs) → c ≠ S' := fun c xs e => ne_of e eS4 (fun z => nomatch z)
        refine ⟨_, _, rfl, fun c o e => o6.get (nz _ _ (k3 _ _ e)) (o5.get (ne_of_none e hS0) (k4 _ _ (k3 _ _ e))), o6.get (nz _ _ eR3) (o5.get nRS eR4), _, fun w => if w = x.2.1 then z else A3 w, o6.get nzS e5, ?_, fun w hw => ?_, fun w hw => ?_, fun v w' h1 h2 hne => ?_⟩
        · have := putK_len' kvs (Sum.inl x.2.1) (V.ref z)
          rw [tk, List.length_append]
          simp only [List.length_cons, List.length_nil]
          omega
        · rw [tk, par_snoc] at hw
          by_cases q1 : x.2.1 = w
          · rw [if_pos q1] at hw
            simp at hw
          · rw [if_neg q1] at hw
            rw [valV_put, if_neg (fun z0 => q1 (Sum.inl.inj z0).symm)]
            exact hn w hw
        · rw [tk, par_snoc] at hw ⊢
          rw [valV_put]
          by_cases q1 : x.2.1 = w
          · rw [if_pos (congrArg Sum.inl q1.symm)]
            simp only [if_pos q1, if_pos q1.symm]
            refine ⟨trivial, ?_, hz0⟩
            rw [← q1, hp0, e6]
            rfl
          · rw [if_neg q1] at hw
            rw [if_neg (fun z0 => q1 (Sum.inl.inj z0).symm)]
            simp only [if_neg q1, if_neg (Ne.symm q1)]
            obtain ⟨u1, u2, u3⟩ := hv w hw
            exact ⟨u1, o6.get (nz _ _ u2) (o5.get (nS _ _ (k4 _ _ u2)) (k4 _ _ u2)), u3⟩
        · rw [tk, par_snoc] at h1 h2
          by_cases q1 : x.2.1 = v
          · have q2 : ¬ x.2.1 = w' := fun z0 => hne (q1.symm.trans z0)
            rw [if_neg q2] at h2
            simp only [if_pos q1.symm, if_neg (Ne.symm q2)]
            exact Ne.symm (nz _ _ (hv w' h2).2.1)
          · rw [if_neg q1] at h1
            by_cases q2 : x.2.1 = w'
            · simp only [if_neg (Ne.symm q1), if_pos q2.symm]
              exact nz _ _ (hv v h1).2.1
            · rw [if_neg q2] at h2
              simp only [if_neg (Ne.symm q1), if_neg (Ne.symm q2)]
              exact hinj v w' h1 h2 hne
    · -- the second loop
      rintro σ H3 ⟨y3, y4, rfl, k3, eR3, T3⟩
      rw [List.length_map, List.take_length] at T3
      have e1'' := k3 _ _ e1
      have e2'' : H3 a = some (.tup (ns.map V.int)) := k3 _ _ e2
      have nRS3 : R ≠ S' := nRS
      walk_at "g"
      refine lp_tup (xs := ns.map V.int) (fun i σ H' => ∃ (y3 y4 y5 y6 : Option V), σ = [some (.ref t), some (.ref R), some (.ref S'), y3, y4, y5, y6] ∧ Kp [R] H3 H' ∧ Same H H' ∧ RowsAt H H' R (ps.map (·.2)) (ns.take i)) ?_ ?_ ?_ ?_
      · exact ⟨_, _, _, _, rfl, Kp.refl, k3, [], eR3, rfl, fun _ _ => rfl, by simp⟩
      · rintro i σ H4 _ ⟨_, _, _, _, _, _, k4, _⟩
        exact .of (k4 _ _ e2)
      · rintro i y σ H4 hy ⟨y3, y4, y5, y6, rfl, k4, s4, RA⟩
        obtain ⟨v, hv, rfl⟩ := map_at hy
        have hvm : v ∈ ns := List.mem_of_getElem? hv
        obtain ⟨skv, A3, eS3, slen, sn, sv, sinj⟩ := T3
        have eS4 := k4 _ _ (by simpa using Ne.symm nRS) eS3
        walk_at "g"
        refine w_disp fun fo H5 hfo efo k5 => ?_
        walk_at "g"
        refine w_dispE [(Sum.inl v, V.bl true)] efo rfl (by simp) fun H6 e6 o6 => ?_
        have k6 : Same H4 H6 := fun c o e => o6.get (ne_of_none e hfo) (k5 _ _ e)
        have eS6 := k6 _ _ eS4
        walk_at "g"
        refine w_new fun z H7 hz ez k7 => ?_
        have eS7 := k7 _ _ eS6
        have s7 : Same H4 H7 := Same.trans k6 k7
        have kp3 : Kp [R] H3 H7 := k4.trans (Kp.of s7)
        obtain ⟨pa, epa, hpa⟩ : ∃ pa, (valV skv (Sum.inl v)).getD (.ref z) = .ref pa ∧ H7 pa = some (.lst ((par (ps.map (·.2)) v).map V.int)) := by
          cases hq : par (ps.map (·.2)) v with
          | nil => exact ⟨z, by rw [sn v hq]; rfl, ez⟩
          | cons u r =>
            have hne : par (ps.map (·.2)) v ≠ [] := by rw [hq]; simp
            obtain ⟨u1, u2, u3⟩ := sv v hne
            refine ⟨A3 v, by rw [u1]; rfl, ?_⟩
            rw [← hq]
            exact kp3 _ _ (by simpa using ne_of u2 eR3 (fun z => nomatch z)) u2
        refine w_dget2I eS7 ?_
        rw [epa]
        walk_at "g"
        obtain ⟨kvs, eR4, rl, rn, rv⟩ := RA
        have nRf : R ≠ fo := ne_of_none eR4 hfo
        have eR7 := s7 _ _ eR4
        have efo7 : H7 fo = some (.dK (mergeK [] [(Sum.inl v, V.bl true)])) := k7 _ _ e6
        have hlt : ∀ p, p ∈ par (ps.map (·.2)) v → p ∈ ns.take i := fun p hp => by
          obtain ⟨m1, m2, m3⟩ := S.lm _ (mem_par.mp hp)
          obtain ⟨j, hj, ej⟩ := List.getElem_of_mem m2
          have hj2 : ns[j]? = some p := by rw [List.getElem?_eq_getElem hj, ej]
          have hji : j < i := by
            rcases Nat.lt_or_ge j i with h | h
            · exact h
            · rcases Nat.eq_or_lt_of_le h with h | h
              · subst h
                rw [hv] at hj2
                have := Option.some.inj hj2
                dsimp only at m3
                omega
              · have hiv : i < ns.length := (List.getElem?_eq_some_iff.mp hv).1
                have := (List.pairwise_iff_getElem.mp S.vr) i j hiv hj h
                have ev : ns[i] = v := (List.getElem?_eq_some_iff.mp hv).2
                rw [ev, ej] at this
                dsimp only at m3
                omega
          exact List.mem_take_iff_getElem.mpr ⟨j, by omega, ej⟩
        have inN : ∀ p ∈ par (ps.map (·.2)) v, ∀ x, Bel (ps.map (·.2)) p x → x ∈ ns := fun p hp x hx => hx.mem S (S.lm _ (mem_par.mp hp)).2.1
        refine lp_list (xs := (par (ps.map (·.2)) v).map V.int) (fun j σ H' => ∃ (ks : List Int) (y4 y6 : Option V), σ = [some (.ref t), some (.ref R), some (.ref S'), some (.int v), y4, some (.ref fo), y6] ∧ Kp [fo] H7 H' ∧ FoundAt H' fo ks ∧ ∀ x, x ∈ ks ↔ x = v ∨ ∃ p ∈ (par (ps.map (·.2)) v).take j, Bel (ps.map (·.2)) p x) ?_ ?_ ?_ ?_
        · exact ⟨[v], _, _, rfl, Kp.refl, ⟨⟨_, efo7, rfl⟩, by simp⟩, fun x => by simp⟩
        · rintro j σ H8 _ ⟨ks, _, _, _, k8, _⟩
          exact .of (k8 _ _ (by simpa using ne_of hpa efo7 (fun z => nomatch z)) hpa)
        · rintro j y σ H8 hy ⟨ks, w4, w6, rfl, k8, F8, hks⟩
          obtain ⟨p, hp, rfl⟩ := map_at hy
          have hpm : p ∈ par (ps.map (·.2)) v := List.mem_of_getElem? hp
          obtain ⟨ap, ys, r1, r2, r3, r4⟩ := rv p (hlt p hpm)
          have eR8 := k8 _ _ (by simpa using nRf) eR7
          have r28 : H8 ap = some (.lst (ys.map V.int)) := k8 _ _ (by simpa using ne_of (s7 _ _ r2) efo7 (fun z => nomatch z)) (s7 _ _ r2)
          walk_at "g"
          refine lp_list (xs := ys.map V.int) (fun m σ H' => ∃ (ks' : List Int) (y6 : Option V), σ = [some (.ref t), some (.ref R), some (.ref S'), some (.int v), some (.int p), some (.ref fo), y6] ∧ Kp [fo] H7 H' ∧ FoundAt H' fo ks' ∧ ∀ x, x ∈ ks' ↔ x ∈ ks ∨ x ∈ ys.take m) ?_ ?_ ?_ ?_
          · exact ⟨ks, _, rfl, k8, F8, fun x => by simp⟩
          · rintro m σ H9 _ ⟨ks', _, _, k9, _⟩
            exact .of (k9 _ _ (by simpa using ne_of (s7 _ _ r2) efo7 (fun z => nomatch z)) (s7 _ _ r2))
          · rintro m y σ H9 hy ⟨ks', w6', rfl, k9, ⟨⟨fk, ef, hfk⟩, nd9⟩, hks'⟩
            obtain ⟨x, hx, rfl⟩ := map_at hy
            have hlen : fk.length < sizeLine := by
              have h1 : fk.length = ks'.length := by
                have := congrArg List.length hfk
                simpa using this
              have h2 : ks'.length ≤ ns.length := nodup_le ks' ns nd9 fun u hu' => by
                rcases (hks' u).mp hu' with a | a
                · rcases (hks u).mp a with rfl | ⟨p', hp', b⟩
                  · exact hvm
                  · exact inN p' (List.mem_of_mem_take hp') u b
                · exact inN p hpm u ((r3.mem u).mp (List.mem_of_mem_take a))
              exact small1000 (by omega)
            walk_at "g"
            refine w_dputI ef hlen fun H10 e10 o10 => ?_
            refine ⟨addK ks' x, _, rfl, k9.trans (o10.kp (by simp)), FoundAt.put hfk nd9 e10, fun u => ?_⟩
            rw [mem_addK, hks', List.take_add_one, hx]
            simp only [Option.toList_some, List.mem_append, List.mem_singleton]
            rw [or_assoc]
          · rintro σ H9 ⟨ks', w6', rfl, k9, F9, hks'⟩
            rw [List.length_map, List.take_length] at hks'
            refine ⟨ks', _, _, rfl, k9, F9, fun x => ?_⟩
            rw [hks', hks, List.take_add_one, hp, r3.mem]
            simp only [Option.toList_some, List.mem_append, List.mem_singleton]
            constructor
            · rintro ((a | ⟨p', b, c⟩) | a)
              · exact .inl a
              · exact .inr ⟨p', .inl b, c⟩
              · exact .inr ⟨p, .inr rfl, a⟩
            · rintro (a | ⟨p', b | rfl, c⟩)
              · exact .inl (.inl a)
              · exact .inl (.inr ⟨p', b, c⟩)
              · exact .inr c
        · rintro σ H8 ⟨ks, w4, w6, rfl, k8, ⟨⟨fk, ef, hfk⟩, nd8⟩, hks⟩
          rw [List.length_map, List.take_length] at hks
          have hsub : ∀ u ∈ ks, u ∈ ns := fun u hu' => by
            rcases (hks u).mp hu' with rfl | ⟨p', hp', b⟩
            · exact hvm
            · exact inN p' hp' u b
          have hkl := nodup_le ks ns nd8 hsub
          walk_at "g"
          refine w_sortA ef hfk (by omega) fun ys L H9 hperm hsort hL eL k9 => ?_
          have eR8 := k8 _ _ (by simpa using nRf) eR7
          have eR9 := k9 _ _ eR8
          have hrow : RowOk (ps.map (·.2)) v ys := ⟨strict_of hperm hsort nd8, fun x => by
            rw [hperm.mem_iff, hks, Bel.iff]
            constructor
            · rintro (a | ⟨p', b, c⟩)
              · exact .inl a
              · exact .inr ⟨p', mem_par.mp b, c⟩
            · rintro (a | ⟨p', b, c⟩)
              · exact .inl a
              · exact .inr ⟨p', mem_par.mpr b, c⟩⟩
          have hL0 : H L = none := by
            cases hq : H L with
            | none => rfl
            | some o =>
              have z1 := s4 _ _ hq
              have z2 : H8 L = some o := k8 _ _ (by simpa using ne_of_none z1 hfo) (s7 _ _ z1)
              rw [hL] at z2
              cases z2
          have rl' : kvs.length = (ns.take i).length := by
            have := congrArg List.length rl
            simpa using this
          have hkv : kvs.length < sizeLine := small1000 (Nat.le_trans (Nat.le_of_eq rl') (by rw [List.length_take]; omega))
          have nvt : v ∉ ns.take i := fun z => by
            have := take_lt S.vr hv z
            omega
          walk_at "g"
          refine w_dputI eR9 hkv fun H10 e10 o10 => ?_
          have kk : Kp [R] H4 H9 := fun c o nR e => k9 _ _ (k8 _ _ (by simpa using ne_of_none e hfo) (s7 _ _ e))
          have kS : Same H H9 := fun c o e => by
            have := s4 _ _ e
            exact k9 _ _ (k8 _ _ (by simpa using ne_of_none this hfo) (s7 _ _ this))
          refine ⟨_, _, _, _, rfl, k4.trans (kk.trans (o10.kp (by simp))), fun c o e => o10.get (ne_of_none e hR) (kS _ _ e), ?_⟩
          rw [List.take_add_one, hv]
          refine RowsAt.put (kvs := kvs) eR9 rl nvt rn (fun v' hv' => ?_) e10 o10 eL hrow hL0
          obtain ⟨a', zs, g1, g2, g3, g4⟩ := rv v' hv'
          exact ⟨a', zs, g1, kk _ _ (by simpa using ne_of g2 eR4 (fun z => nomatch z)) g2, g3, g4⟩
      · rintro σ H4 ⟨y3, y4, y5, y6, rfl, k4, s4, RA⟩
        rw [List.length_map, List.take_length] at RA
        walk_at "g"
        exact q H4 R s4 (by exact hR) RA
end
/-- the rows as they are read, the dict's own place left out -/
def RowsV (M : List Addr) (H : Hp) (kvs : List (Key × V)) (ls : List (Int × Int)) (dn : List Int) : Prop := ∀ v ∈ dn, ∃ a ys, valV kvs (Sum.inl v) = some (.ref a) ∧ H a = some (.lst (ys.map V.int)) ∧ RowOk ls v ys ∧ a ∉ M
theorem RowsV.kp {M N : List Addr} {H H' : Hp} {kvs : List (Key × V)} {ls : List (Int × Int)} {dn : List Int} (h : RowsV M H kvs ls dn) (k : Kp N H H') (hN : ∀ x ∈ N, x ∈ M) : RowsV M H' kvs ls dn := fun v hv => by
  obtain ⟨a, ys, e1, e2, r, n⟩ := h v hv
  exact ⟨a, ys, e1, k _ _ (fun z => n (hN a z)) e2, r, n⟩
theorem RowsV.off {M : List Addr} {H H' : Hp} {p : Addr} {kvs : List (Key × V)} {ls : List (Int × Int)} {dn : List Int} (h : RowsV M H kvs ls dn) (o : Off p H H') (hp : ∀ xs, H p ≠ some (.lst xs)) : RowsV M H' kvs ls dn := fun v hv => by
  obtain ⟨a, ys, e1, e2, r, n⟩ := h v hv
  exact ⟨a, ys, e1, o.get (fun z => hp _ (z ▸ e2)) e2, r, n⟩
theorem RowsV.len {M : List Addr} {H : Hp} {kvs : List (Key × V)} {ls : List (Int × Int)} {dn vs ys : List Int} {v : Int} (S : ShOk vs ls) (hv : v ∈ vs) (r : RowOk ls v ys) : ys.length ≤ vs.length :=
  nodup_le ys vs (r.rise.imp (fun {a b} h => Int.ne_of_lt h)) fun x hx => ((r.mem x).mp hx).mem S hv
/-! ### pairs along a shape: who stands next above whom -/
/-- strictly below -/
def SB (ls : List (Int × Int)) (u l : Int) : Prop := Bel ls u l ∧ l ≠ u
theorem SB.lt {vs : List Int} {ls : List (Int × Int)} (S : ShOk vs ls) {u l : Int} (h : SB ls u l) : l < u := by
  have := h.1.le S
  have := h.2
  omega
theorem SB.trans {vs : List Int} {ls : List (Int × Int)} (S : ShOk vs ls) {a b c : Int} (h : SB ls a b) (g : SB ls b c) : SB ls a c := ⟨h.1.trans g.1, by have := h.lt S; have := g.lt S; omega⟩
/-- up and lo are one pairing: each low with one strictly above it -/
structure Mt (vs : List Int) (ls : List (Int × Int)) (up lo : Int → Option Int) : Prop where
  iff : ∀ l u, up l = some u ↔ lo u = some l
  ok : ∀ l u, up l = some u → l ∈ vs ∧ u ∈ vs ∧ SB ls u l
def setM (f : Int → Option Int) (x y : Int) : Int → Option Int := fun z => if z = x then some y else f z
theorem setM_same {f : Int → Option Int} {x y : Int} : setM f x y x = some y := if_pos rfl
theorem setM_ne {f : Int → Option Int} {x y z : Int} (h : z ≠ x) : setM f x y z = f z := if_neg h
/-- the same while low is being given another partner -/
structure MtX (vs : List Int) (ls : List (Int × Int)) (up lo : Int → Option Int) (low : Int) : Prop where
  iff : ∀ l u, l ≠ low → (up l = some u ↔ lo u = some l)
  ok : ∀ l u, l ≠ low → up l = some u → l ∈ vs ∧ u ∈ vs ∧ SB ls u l
  no : ∀ u, lo u ≠ some low
theorem Mt.toX {vs : List Int} {ls : List (Int × Int)} {up lo : Int → Option Int} {low : Int} (M : Mt vs ls up lo) (h : up low = none) : MtX vs ls up lo low :=
  ⟨fun l u _ => M.iff l u, fun l u _ => M.ok l u, fun u z => by rw [(M.iff low u).mpr z] at h; cases h⟩
theorem MtX.step {vs : List Int} {ls : List (Int × Int)} {up lo : Int → Option Int} {low u b : Int} (M : MtX vs ls up lo low) (hv : low ∈ vs) (hu : u ∈ vs) (hb : SB ls u low) (e : lo u = some b) : MtX vs ls (setM up low u) (setM lo u low) b := by
  have nb : b ≠ low := fun z => M.no u (by rw [e, z])
  refine ⟨fun l x hl => ?_, fun l x hl h => ?_, fun x z => ?_⟩
  · by_cases h1 : l = low
    · subst h1
      rw [setM_same]
      by_cases h2 : x = u
      · subst h2; rw [setM_same]; exact ⟨fun _ => rfl, fun _ => rfl⟩
      · rw [setM_ne h2]
        constructor
        · intro z; exact absurd (Option.some.inj z).symm h2
        · intro z; exact absurd z (M.no x)
    · rw [setM_ne h1]
      by_cases h2 : x = u
      · subst h2
        rw [setM_same, M.iff l x h1, e]
        constructor
        · intro z; exact absurd (Option.some.inj z).symm hl
        · intro z; exact absurd (Option.some.inj z).symm h1
      · rw [setM_ne h2]
        exact M.iff l x h1
  · by_cases h1 : l = low
    · subst h1
      rw [setM_same] at h
      cases h
      exact ⟨hv, hu, hb⟩
    · rw [setM_ne h1] at h
      exact M.ok l x h1 h
  · by_cases h2 : x = u
    · subst h2
      rw [setM_same] at z
      exact nb (Option.some.inj z).symm
    · rw [setM_ne h2] at z
      have z1 := (M.iff b x nb).mpr z
      have z2 := (M.iff b u nb).mpr e
      rw [z1] at z2
      exact h2 (Option.some.inj z2)
theorem MtX.last {vs : List Int} {ls : List (Int × Int)} {up lo : Int → Option Int} {low u : Int} (M : MtX vs ls up lo low) (hv : low ∈ vs) (hu : u ∈ vs) (hb : SB ls u low) (e : lo u = none) : Mt vs ls (setM up low u) (setM lo u low) := by
  refine ⟨fun l x => ?_, fun l x h => ?_⟩
  · by_cases h1 : l = low
    · subst h1
      rw [setM_same]
      by_cases h2 : x = u
      · subst h2; rw [setM_same]; exact ⟨fun _ => rfl, fun _ => rfl⟩
      · rw [setM_ne h2]
        constructor
        · intro z; exact absurd (Option.some.inj z).symm h2
        · intro z; exact absurd z (M.no x)
    · rw [setM_ne h1]
      by_cases h2 : x = u
      · subst h2
        rw [setM_same, M.iff l x h1, e]
        constructor
        · intro z; cases z
        · intro z; exact absurd (Option.some.inj z).symm h1
      · rw [setM_ne h2]
        exact M.iff l x h1
  · by_cases h1 : l = low
    · subst h1
      rw [setM_same] at h
      cases h
      exact ⟨hv, hu, hb⟩
    · rw [setM_ne h1] at h
      exact M.ok l x h1 h
/-- what is closed: from L one comes to R alone, and from R back to L -/
structure Cl (ls : List (Int × Int)) (up : Int → Option Int) (L R : Int → Prop) : Prop where
  dn : ∀ u, L u → ∀ l, SB ls u l → R l
  bk : ∀ r, R r → ∃ u, up r = some u ∧ L u
/-- how the search came: each low from one above it, which is the first or the partner of one that came ahead -/
structure Came (ls : List (Int × Int)) (up : Int → Option Int) (v : Int) (cs : List (Int × Int)) : Prop where
  nd : (cs.map (·.1)).Nodup
  sb : ∀ q ∈ cs, SB ls q.2 q.1
  fr : ∀ (i : Nat) (q : Int × Int), cs[i]? = some q → q.2 = v ∨ ∃ (j : Nat) (q' : Int × Int), j < i ∧ cs[j]? = some q' ∧ up q'.1 = some q.2
def lookI (cs : List (Int × Int)) (x : Int) : Option Int := (cs.find? fun q => decide (q.1 = x)).map (·.2)
theorem lookI_at {cs : List (Int × Int)} (nd : (cs.map (·.1)).Nodup) {i : Nat} {q : Int × Int} (h : cs[i]? = some q) : lookI cs q.1 = some q.2 := by
  unfold lookI
  induction cs generalizing i with
  | nil => cases h
  | cons p r ih =>
    rw [List.map_cons, List.nodup_cons] at nd
    cases i with
    | zero =>
      have e : p = q := by simpa using h
      subst e
      simp
    | succ i =>
      have h' : r[i]? = some q := by simpa using h
      have ne : p.1 ≠ q.1 := fun z => nd.1 (by rw [z]; exact List.mem_map_of_mem (List.mem_of_getElem? h'))
      rw [List.find?_cons]
      simp only [ne, decide_false]
      exact ih nd.2 h'
theorem lookI_none {cs : List (Int × Int)} {x : Int} : lookI cs x = none ↔ x ∉ cs.map (·.1) := by
  unfold lookI
  rw [Option.map_eq_none_iff, List.find?_eq_none]
  constructor
  · intro h z
    obtain ⟨q, hq, e⟩ := List.mem_map.mp z
    exact h q hq (decide_eq_true e)
  · intro h q hq z
    exact h (List.mem_map.mpr ⟨q, hq, of_decide_eq_true z⟩)
theorem lookI_snoc {cs : List (Int × Int)} {x y : Int} (h : x ∉ cs.map (·.1)) : lookI (cs ++ [(x, y)]) = setM (lookI cs) x y := by
  funext z
  unfold lookI setM
  rw [List.find?_append]
  by_cases e : z = x
  · subst e
    rw [if_pos rfl]
    have : cs.find? (fun q => decide (q.1 = z)) = none := by
      rw [List.find?_eq_none]
      intro q hq w
      exact h (List.mem_map.mpr ⟨q, hq, of_decide_eq_true w⟩)
    rw [this]
    simp
  · rw [if_neg e]
    have : ([(x, y)] : List (Int × Int)).find? (fun q => decide (q.1 = z)) = none := by
      rw [List.find?_eq_none]
      intro q hq w
      have : q = (x, y) := by simpa using hq
      subst this
      exact e (of_decide_eq_true w).symm
    rw [this, Option.or_none]
/-- what holds while the way is given, low the i-th that came -/
structure Giv (vs : List Int) (ls : List (Int × Int)) (up0 lo0 : Int → Option Int) (cs : List (Int × Int)) (i : Nat) (low : Int) (up lo : Int → Option Int) : Prop where
  at' : ∃ u, cs[i]? = some (low, u)
  mx : MtX vs ls up lo low
  ch : ∀ x, lo x ≠ lo0 x → ∃ (j : Nat) (q : Int × Int), i ≤ j ∧ cs[j]? = some q ∧ lo0 x = some q.1
  up' : ∀ x, up x ≠ up0 x → ∃ (j : Nat) (q : Int × Int), i < j ∧ cs[j]? = some q ∧ x = q.1
  dom : ∀ x, (lo x).isSome = (lo0 x).isSome
  cl : ∀ L R, Cl ls up0 L R → ¬ R low ∧ ∀ r, R r → up r = up0 r
theorem Giv.start {vs : List Int} {ls : List (Int × Int)} {up0 lo0 : Int → Option Int} {cs : List (Int × Int)} {i : Nat} {low u : Int} (M : Mt vs ls up0 lo0) (h : up0 low = none) (e : cs[i]? = some (low, u)) : Giv vs ls up0 lo0 cs i low up0 lo0 :=
  ⟨⟨u, e⟩, M.toX h, fun x z => absurd rfl z, fun x z => absurd rfl z, fun _ => rfl, fun L R C => ⟨fun z => (by
    obtain ⟨u', e', _⟩ := C.bk low z
    rw [h] at e'
    cases e'), fun _ _ => rfl⟩⟩
/-- one step: the partner of u gives way, or u is the first -/
theorem Giv.step {vs : List Int} {ls : List (Int × Int)} {up0 lo0 up lo : Int → Option Int} {cs : List (Int × Int)} {i : Nat} {low u v : Int} (M0 : Mt vs ls up0 lo0) (hv0 : lo0 v = none) (hvm : v ∈ vs) (S : ShOk vs ls) (C : Came ls up0 v cs) (G : Giv vs ls up0 lo0 cs i low up lo) (e : cs[i]? = some (low, u)) (hlm : low ∈ vs) :
    (∃ b j, lo u = some b ∧ j < i ∧ b ∈ vs ∧ Giv vs ls up0 lo0 cs j b (setM up low u) (setM lo u low)) ∨ (u = v ∧ lo u = none ∧ Mt vs ls (setM up low u) (setM lo u low) ∧ (∀ x, (setM lo u low x).isSome = true ↔ (lo0 x).isSome = true ∨ x = v) ∧ ∀ L R, Cl ls up0 L R → ∀ r, R r → setM up low u r = up0 r) := by
  have hsb : SB ls u low := C.sb _ (List.mem_of_getElem? e)
  have same : lo u = lo0 u := by
    apply Classical.byContradiction
    intro z
    obtain ⟨j, q, hj, eq, e2⟩ := G.ch u z
    rcases C.fr i _ e with h | ⟨k, q', hk, ek, e3⟩
    · have h' : u = v := h
      subst h'
      rw [hv0] at e2
      cases e2
    · have e3' := (M0.iff q'.1 u).mp e3
      rw [e2] at e3'
      have e4 : q.1 = q'.1 := Option.some.inj e3'
      have n1 : (cs.map (·.1))[j]? = some q.1 := by rw [List.getElem?_map, eq]; rfl
      have n2 : (cs.map (·.1))[k]? = some q.1 := by rw [List.getElem?_map, ek, e4]; rfl
      have lj : j < (cs.map (·.1)).length := (List.getElem?_eq_some_iff.mp n1).1
      have := (List.getElem?_inj lj C.nd).mp (n1.trans n2.symm)
      omega
  have rl : ∀ L R, Cl ls up0 L R → ¬ L u := fun L R c z => (G.cl L R c).1 (c.dn u z low hsb)
  rcases C.fr i _ e with h | ⟨k, q', hk, ek, e3⟩
  · have h' : u = v := h
    subst h'
    refine .inr ⟨rfl, same.trans hv0, G.mx.last hlm hvm hsb (same.trans hv0), fun x => ?_, fun L R c r hr => ?_⟩
    · by_cases hx : x = u
      · subst hx; rw [setM_same]; simp
      · rw [setM_ne hx, G.dom]; simp [hx]
    · rw [setM_ne (show r ≠ low from fun z => (G.cl L R c).1 (by rw [← z]; exact hr))]
      exact (G.cl L R c).2 r hr
  · have e3' : lo0 u = some q'.1 := (M0.iff q'.1 u).mp e3
    have elo : lo u = some q'.1 := same.trans e3'
    obtain ⟨m1, m2, m3⟩ := M0.ok _ _ e3
    refine .inl ⟨q'.1, k, elo, hk, m1, ⟨⟨q'.2, ek⟩, G.mx.step hlm m2 hsb elo, fun x z => ?_, fun x z => ?_, fun x => ?_, fun L R c => ⟨fun z => ?_, fun r hr => ?_⟩⟩⟩
    · by_cases hx : x = u
      · subst hx
        exact ⟨k, q', Nat.le_refl _, ek, e3'⟩
      · rw [setM_ne hx] at z
        obtain ⟨j, q, hj, eq, e2⟩ := G.ch x z
        exact ⟨j, q, by omega, eq, e2⟩
    · by_cases hx : x = low
      · exact ⟨i, _, hk, e, hx⟩
      · rw [setM_ne hx] at z
        obtain ⟨j, q, hj, eq, e2⟩ := G.up' x z
        exact ⟨j, q, by omega, eq, e2⟩
    · by_cases hx : x = u
      · subst hx; rw [setM_same, e3']; rfl
      · rw [setM_ne hx, G.dom]
    · obtain ⟨u', eu, hu⟩ := c.bk _ z
      rw [e3] at eu
      cases eu
      exact rl L R c hu
    · rw [setM_ne (show r ≠ low from fun z => (G.cl L R c).1 (by rw [← z]; exact hr))]
      exact (G.cl L R c).2 r hr
/-- the way given, as a relation; it has one end -/
inductive GiveR (cs : List (Int × Int)) : Option Int → (Int → Option Int) → (Int → Option Int) → (Int → Option Int) → (Int → Option Int) → Prop where
  | stop {up lo : Int → Option Int} : GiveR cs none up lo up lo
  | step {low u : Int} {up lo up' lo' : Int → Option Int} (e : lookI cs low = some u) (r : GiveR cs (lo u) (setM up low u) (setM lo u low) up' lo') : GiveR cs (some low) up lo up' lo'
theorem GiveR.det {cs : List (Int × Int)} {o : Option Int} {up lo up1 lo1 up2 lo2 : Int → Option Int} (a : GiveR cs o up lo up1 lo1) (b : GiveR cs o up lo up2 lo2) : up1 = up2 ∧ lo1 = lo2 := by
  induction a with
  | stop => cases b; exact ⟨rfl, rfl⟩
  | step e r ih =>
    cases b with
    | step e2 r2 =>
      rw [e] at e2
      cases e2
      exact ih r2
/-- the search, as a relation -/
inductive PR (rowf : Int → List Int) (up lo : Int → Option Int) : List (Int × Int) → List Int → Option (Int × List Int) → (Int → Option Int) → (Int → Option Int) → Prop where
  | fail {cs : List (Int × Int)} : PR rowf up lo cs [] none up lo
  | pop {cs : List (Int × Int)} {ws ways : List Int} {u : Int} {up' lo' : Int → Option Int} (e : ws = ways ++ [u]) (r : PR rowf up lo cs ways (some (u, rowf u)) up' lo') : PR rowf up lo cs ws none up' lo'
  | skip {cs : List (Int × Int)} {ways rest : List Int} {u low : Int} {up' lo' : Int → Option Int} (e : low ∈ cs.map (·.1)) (r : PR rowf up lo cs ways (some (u, rest)) up' lo') : PR rowf up lo cs ways (some (u, low :: rest)) up' lo'
  | give {cs : List (Int × Int)} {ways rest : List Int} {u low : Int} {up' lo' : Int → Option Int} (e : low ∉ cs.map (·.1)) (e2 : up low = none) (r : GiveR (cs ++ [(low, u)]) (some low) up lo up' lo') : PR rowf up lo cs ways (some (u, low :: rest)) up' lo'
  | push {cs : List (Int × Int)} {ways rest : List Int} {u low w : Int} {up' lo' : Int → Option Int} (e : low ∉ cs.map (·.1)) (e2 : up low = some w) (r : PR rowf up lo (cs ++ [(low, u)]) (ways ++ [w]) (some (u, rest)) up' lo') : PR rowf up lo cs ways (some (u, low :: rest)) up' lo'
  | over {cs : List (Int × Int)} {ways : List Int} {u : Int} {up' lo' : Int → Option Int} (r : PR rowf up lo cs ways none up' lo') : PR rowf up lo cs ways (some (u, [])) up' lo'
theorem PR.det {rowf : Int → List Int} {up lo up1 lo1 up2 lo2 : Int → Option Int} {cs : List (Int × Int)} {ways : List Int} {o : Option (Int × List Int)} (a : PR rowf up lo cs ways o up1 lo1) (b : PR rowf up lo cs ways o up2 lo2) : up1 = up2 ∧ lo1 = lo2 := by
  induction a with
  | fail =>
    cases b with
    | fail => exact ⟨rfl, rfl⟩
    | pop e r => simp at e
  | pop e r ih =>
    cases b with
    | fail => simp at e
    | pop e2 r2 =>
      rw [e] at e2
      obtain ⟨h1, h2⟩ := List.append_inj' e2 rfl
      cases h1
      cases h2
      exact ih r2
  | skip e r ih =>
    cases b with
    | skip e2 r2 => exact ih r2
    | give e2 _ _ => exact absurd e e2
    | push e2 _ _ => exact absurd e e2
  | give e e2 r =>
    cases b with
    | skip e3 r2 => exact absurd e3 e
    | give _ _ r2 => exact r.det r2
    | push _ e3 _ => rw [e2] at e3; cases e3
  | push e e2 r ih =>
    cases b with
    | skip e3 r2 => exact absurd e3 e
    | give _ e3 r2 => rw [e2] at e3; cases e3
    | push _ e3 r2 =>
      rw [e2] at e3
      cases e3
      exact ih r2
  | over r ih =>
    cases b with
    | over r2 => exact ih r2
/-- all of them in turn -/
inductive FR (rowf : Int → List Int) : List Int → (Int → Option Int) → (Int → Option Int) → (Int → Option Int) → (Int → Option Int) → Prop where
  | nil {up lo : Int → Option Int} : FR rowf [] up lo up lo
  | snoc {vs : List Int} {v : Int} {up lo up1 lo1 up2 lo2 : Int → Option Int} (r : FR rowf vs up lo up1 lo1) (p : PR rowf up1 lo1 [] [v] none up2 lo2) : FR rowf (v :: vs) up lo up2 lo2
theorem FR.det {rowf : Int → List Int} {vs : List Int} {up lo up1 lo1 up2 lo2 : Int → Option Int} (a : FR rowf vs up lo up1 lo1) (b : FR rowf vs up lo up2 lo2) : up1 = up2 ∧ lo1 = lo2 := by
  induction a generalizing up2 lo2 with
  | nil => cases b; exact ⟨rfl, rfl⟩
  | snoc r p ih =>
    cases b with
    | snoc r2 p2 =>
      obtain ⟨rfl, rfl⟩ := ih r2
      exact p.det p2
/-- the lows of u, the greatest first -/
noncomputable def lowsF (ls : List (Int × Int)) (u : Int) : List Int := (Classical.epsilon fun ys => RowOk ls u ys).dropLast.reverse
theorem lowsF_is {ls : List (Int × Int)} {u : Int} {ys : List Int} (r : RowOk ls u ys) : lowsF ls u = ys.dropLast.reverse := by
  unfold lowsF
  rw [(Classical.epsilon_spec (p := fun ys => RowOk ls u ys) ⟨ys, r⟩).uniq r]
theorem val_keys {kvs : List (Key × V)} {ks : List Int} (h : kvs.map (·.1) = ks.map (Sum.inl : Int → Key)) (x : Int) : (valV kvs (Sum.inl x)).isSome = decide (x ∈ ks) := by
  rw [Bool.eq_iff_iff, decide_eq_true_iff]
  constructor
  · intro z
    obtain ⟨v, e⟩ := Option.isSome_iff_exists.mp z
    have m := valV_in e
    rw [h] at m
    obtain ⟨y, hy, e2⟩ := List.mem_map.mp m
    exact Sum.inl.inj e2 ▸ hy
  · intro z
    cases e : valV kvs (Sum.inl x) with
    | some v => rfl
    | none => exact absurd (by rw [h]; exact List.mem_map_of_mem z) (valV_not e)
/-- a dict of ints, as a function; its keys are of vs -/
def MapAt (H : Hp) (p : Addr) (vs : List Int) (f : Int → Option Int) : Prop := ∃ (kvs : List (Key × V)) (ks : List Int), H p = some (.dK kvs) ∧ kvs.map (·.1) = ks.map (Sum.inl : Int → Key) ∧ ks.Nodup ∧ (∀ x ∈ ks, x ∈ vs) ∧ ∀ x, valV kvs (Sum.inl x) = (f x).map V.int
theorem MapAt.kp {M : List Addr} {H H' : Hp} {p : Addr} {vs : List Int} {f : Int → Option Int} (h : MapAt H p vs f) (k : Kp M H H') (hp : p ∉ M) : MapAt H' p vs f := by
  obtain ⟨kvs, ks, e, r⟩ := h
  exact ⟨kvs, ks, k _ _ hp e, r⟩
theorem MapAt.len {p : Addr} {vs : List Int} {kvs : List (Key × V)} {ks : List Int} (h1 : kvs.map (·.1) = ks.map (Sum.inl : Int → Key)) (h2 : ks.Nodup) (h3 : ∀ x ∈ ks, x ∈ vs) : kvs.length ≤ vs.length := by
  have e : kvs.length = ks.length := by
    have := congrArg List.length h1
    simpa using this
  rw [e]
  exact nodup_le ks vs h2 h3
theorem MapAt.put {H1 : Hp} {p : Addr} {vs : List Int} {f : Int → Option Int} {kvs : List (Key × V)} {ks : List Int} {x y : Int} (h1 : kvs.map (·.1) = ks.map (Sum.inl : Int → Key)) (h2 : ks.Nodup) (h3 : ∀ x ∈ ks, x ∈ vs) (h4 : ∀ x, valV kvs (Sum.inl x) = (f x).map V.int) (hx : x ∈ vs) (e : H1 p = some (.dK (putK kvs (Sum.inl x) (.int y)))) : MapAt H1 p vs (setM f x y) := by
  refine ⟨_, addK ks x, e, putK_keys h1, nd_addK h2, fun z hz => ?_, fun z => ?_⟩
  · rcases mem_addK.mp hz with a | rfl
    · exact h3 z a
    · exact hx
  · rw [valV_put]
    by_cases e : z = x
    · subst e
      rw [if_pos rfl, setM_same]
      rfl
    · rw [if_neg (fun q => e (Sum.inl.inj q)), setM_ne e]
      exact h4 z
theorem MapAt.in {vs : List Int} {f : Int → Option Int} {kvs : List (Key × V)} (h4 : ∀ x, valV kvs (Sum.inl x) = (f x).map V.int) (x : Int) : (valV kvs (Sum.inl x)).isSome = (f x).isSome := by
  rw [h4]
  cases f x <;> rfl
/-- what a low's partner is behind a way given from v -/
structure Given (vs : List Int) (ls : List (Int × Int)) (v : Int) (up0 lo0 up lo : Int → Option Int) : Prop where
  m : Mt vs ls up lo
  dom : ∀ x, (lo x).isSome = true ↔ (lo0 x).isSome = true ∨ x = v
  cl : ∀ L R, Cl ls up0 L R → ∀ r, R r → up r = up0 r
def spGive : Sp := fun as H Q _ => ∃ (low v u : Int) (i : Nat) (C U D : Addr) (vs : List Int) (ls cs : List (Int × Int)) (up lo : Int → Option Int), as = [.int low, .ref C, .ref U, .ref D] ∧ C ≠ U ∧ C ≠ D ∧ U ≠ D ∧ MapAt H C vs (lookI cs) ∧ MapAt H U vs up ∧ MapAt H D vs lo ∧
  ShOk vs ls ∧ vs.length < 420 ∧ Mt vs ls up lo ∧ lo v = none ∧ v ∈ vs ∧ Came ls up v cs ∧ cs[i]? = some (low, u) ∧ up low = none ∧ low ∈ vs ∧
  ∀ H' up' lo', Kp [U, D] H H' → MapAt H' U vs up' → MapAt H' D vs lo' → Given vs ls v up lo up' lo' → GiveR cs (some low) up lo up' lo' → Q .non H'
section
variable {P : Program} {w : World} {K : PySem.W.Frag} {mg : Str → Option Value} {base : Heap}
theorem ok_give {f : Addr} {fd : FuncData} (T : Txt K mg) (F : Fun K "give_way" "give_way" s_give_way f fd) : FnOk P w K mg base CX0 1 f fd ["low", "came", "uppers", "lowers"] spGive := by
  refine F.ok sc_give_way (fun vs H Q E h => ?_) (fun cdv A outer s H vs Q E hr h => ?_)
  · obtain ⟨low, v, u, i, C, U, D, vs, ls, cs, up, lo, rfl, _⟩ := h
    rfl
  · obtain ⟨low0, v, u0, i0, C, U, D, vs, ls, cs, up0, lo0, rfl, nCU, nCD, nUD, mC, mU, mD, S, hl, M, hv0, hv, Cm, e0, un0, lm0, q⟩ := h
    have hu := hu_of hr
    refine ⟨_,
      (pss_one
        (ps_while PassesOwn.never (pt_cmpR o_notN (pv 0) pe_non (nomark _))
          (pss_cons
            (ps_set (i := 4) sc_give_way.nd rfl (.inl rfl) (pe_dget hu (pv 1) (pv 0) (fun _ _ => rfl)))
          (pss_cons
            (ps_set (i := 5) sc_give_way.nd rfl (.inl rfl) (pe_dget1 hu (pv 3) (pv 4) ⟨rfl, rfl, rfl, rfl⟩))
          (pss_cons
            (ps_dput hu (pv 2) (pv 0) (pv 4) rfl)
          (pss_cons
            (ps_dput hu (pv 3) (pv 4) (pv 0) rfl)
          (pss_one
            (ps_set (i := 0) sc_give_way.nd rfl (.inl rfl) (pv 5)))))))))
      , ?_⟩
    rw [show L2.start N_give_way [V.int low0, V.ref C, V.ref U, V.ref D] = [some (.int low0), some (.ref C), some (.ref U), some (.ref D), none, none] from rfl]
    try dsimp only [cxOf, Cx.nox, Cx.wish]
    refine w_whileN (fun m σ H' => (∃ (low : Int) (i : Nat) (up lo : Int → Option Int) (y4 y5 : Option V), σ = [some (.int low), some (.ref C), some (.ref U), some (.ref D), y4, y5] ∧ m = i + 1 ∧ low ∈ vs ∧ Giv vs ls up0 lo0 cs i low up lo ∧ (∀ up' lo', GiveR cs (some low) up lo up' lo' → GiveR cs (some low0) up0 lo0 up' lo') ∧ Kp [U, D] H H' ∧ MapAt H' U vs up ∧ MapAt H' D vs lo) ∨
      (∃ (up lo : Int → Option Int) (y4 y5 : Option V), σ = [some .non, some (.ref C), some (.ref U), some (.ref D), y4, y5] ∧ Given vs ls v up0 lo0 up lo ∧ GiveR cs (some low0) up0 lo0 up lo ∧ Kp [U, D] H H' ∧ MapAt H' U vs up ∧ MapAt H' D vs lo)) (i0 + 1) (.inl ⟨low0, i0, up0, lo0, _, _, rfl, rfl, lm0, Giv.start M un0 e0, fun _ _ z => z, Kp.refl, mU, mD⟩) ?_
    rintro m σ H1 (⟨low, i, up, lo, y4, y5, rfl, rfl, lm, G, gr, k1, mU1, mD1⟩ | ⟨up, lo, y4, y5, rfl, G, gr, k1, mU1, mD1⟩)
    · walk_at "g"
      refine w_nno (fun z => nomatch z) (w_turn ?_)
      obtain ⟨u, eu⟩ := G.at'
      have mC1 := mC.kp k1 (by simp [nCU, nCD])
      obtain ⟨ck, cks, eC, c2, c3, c4, c5⟩ := mC1
      obtain ⟨uk, uks, eU, u2, u3, u4, u5⟩ := mU1
      obtain ⟨dk, dks, eD, d2, d3, d4, d5⟩ := mD1
      have el : valV ck (Sum.inl low) = some (.int u) := by rw [c5, lookI_at Cm.nd eu]; rfl
      walk_at "g"
      have lU : uk.length < sizeLine := small1000 (by have := MapAt.len (p := U) u2 u3 u4; omega)
      have lD : dk.length < sizeLine := small1000 (by have := MapAt.len (p := D) d2 d3 d4; omega)
      have um : u ∈ vs := by
        rcases Cm.fr i _ eu with h | ⟨k, q', hk, ek, e3⟩
        · have h' : u = v := h
          rw [h']
          exact hv
        · exact (M.ok _ _ e3).2.1
      refine w_dputI eU lU fun H2 e2 o2 => ?_
      have eD2 := o2.get nUD.symm eD
      walk_at "g"
      refine w_dputI eD2 lD fun H3 e3 o3 => ?_
      have mU3 : MapAt H3 U vs (setM up low u) := MapAt.put u2 u3 u4 u5 lm (o3.get nUD e2)
      have mD3 : MapAt H3 D vs (setM lo u low) := MapAt.put d2 d3 d4 d5 um e3
      have k3 : Kp [U, D] H H3 := k1.trans ((o2.kp (by simp)).trans (o3.kp (by simp)))
      walk_at "g"
      rcases Giv.step M hv0 hv S Cm G eu lm with ⟨b, j, eb, hj, hbm, G'⟩ | ⟨rfl, eb, M', dm, cl'⟩
      · rw [show (valV dk (Sum.inl u)).getD V.non = .int b by rw [d5, eb]; rfl]
        exact ⟨j + 1, by omega, .inl ⟨b, j, _, _, _, _, rfl, rfl, hbm, G', fun up' lo' z => gr _ _ (.step (lookI_at Cm.nd eu) (by rw [eb]; exact z)), k3, mU3, mD3⟩⟩
      · rw [show (valV dk (Sum.inl u)).getD V.non = .non by rw [d5, eb]; rfl]
        exact ⟨0, by omega, .inr ⟨_, _, _, _, rfl, ⟨M', dm, cl'⟩, gr _ _ (.step (lookI_at Cm.nd eu) (by rw [eb]; exact .stop)), k3, mU3, mD3⟩⟩
    · walk_at "g"
      refine w_nyes rfl ?_
      exact q H1 up lo k1 mU1 mD1 G gr
end
theorem row_drop {vs : List Int} {ls : List (Int × Int)} (S : ShOk vs ls) {u : Int} {ys : List Int} (r : RowOk ls u ys) (x : Int) : x ∈ ys.dropLast ↔ SB ls u x := by
  have hu : u ∈ ys := (r.mem u).mpr (.refl u)
  have hne : ys ≠ [] := List.ne_nil_of_mem hu
  have e := List.dropLast_concat_getLast hne
  have hp := r.rise
  rw [← e, List.pairwise_append] at hp
  obtain ⟨_, _, h3⟩ := hp
  have hlast : ys.getLast hne = u := by
    have m1 : ys.getLast hne ≤ u := ((r.mem _).mp (List.getLast_mem hne)).le S
    rw [← e] at hu
    rcases List.mem_append.mp hu with a | a
    · have := h3 u a (ys.getLast hne) (by simp)
      omega
    · exact (by simpa using a : u = _).symm
  rw [hlast] at h3 e
  constructor
  · intro h
    have := h3 x h u (by simp)
    exact ⟨(r.mem x).mp (by rw [← e]; exact List.mem_append_left _ h), by omega⟩
  · rintro ⟨h1, h2⟩
    have m := (r.mem x).mpr h1
    rw [← e] at m
    rcases List.mem_append.mp m with a | a
    · exact a
    · exact absurd (by simpa using a) h2
theorem Came.snoc {ls : List (Int × Int)} {up : Int → Option Int} {v u low : Int} {cs : List (Int × Int)} (C : Came ls up v cs) (hn : low ∉ cs.map (·.1)) (hs : SB ls u low) (hu : u = v ∨ ∃ q ∈ cs, up q.1 = some u) : Came ls up v (cs ++ [(low, u)]) := by
  refine ⟨?_, fun q hq => ?_, fun i q hq => ?_⟩
  · rw [List.map_append, List.nodup_append]
    exact ⟨C.nd, by simp, fun a ha b hb z => hn (by
      have : b = low := by simpa using hb
      rw [← this, ← z]
      exact ha)⟩
  · rcases List.mem_append.mp hq with a | a
    · exact C.sb q a
    · have : q = (low, u) := by simpa using a
      subst this
      exact hs
  · by_cases hi : i < cs.length
    · rw [List.getElem?_append_left hi] at hq
      rcases C.fr i q hq with h | ⟨j, q', hj, ej, e⟩
      · exact .inl h
      · exact .inr ⟨j, q', hj, by rw [List.getElem?_append_left (by omega)]; exact ej, e⟩
    · have hi2 : i = cs.length := by
        have := (List.getElem?_eq_some_iff.mp hq).1
        simp at this
        omega
      subst hi2
      have : q = (low, u) := by simpa using hq.symm
      subst this
      rcases hu with h | ⟨q', hq', e⟩
      · exact .inl h
      · obtain ⟨j, hj, ej⟩ := List.getElem_of_mem hq'
        exact .inr ⟨j, q', hj, by rw [List.getElem?_append_left hj, List.getElem?_eq_getElem hj, ej], e⟩
/-- whom the search has come to -/
def Vis (up : Int → Option Int) (v : Int) (cs : List (Int × Int)) (w : Int) : Prop := w = v ∨ ∃ q ∈ cs, up q.1 = some w
structure Srch (vs : List Int) (ls : List (Int × Int)) (up : Int → Option Int) (v : Int) (cs : List (Int × Int)) (ways : List Int) (ex : Int → Prop) : Prop where
  came : Came ls up v cs
  mem : ∀ q ∈ cs, q.1 ∈ vs
  mt : ∀ q ∈ cs, (up q.1).isSome = true
  wy : ∀ u ∈ ways, u ∈ vs ∧ Vis up v cs u
  dn : ∀ w, Vis up v cs w → w ∉ ways → ¬ ex w → ∀ l, SB ls w l → l ∈ cs.map (·.1)
theorem Srch.start {vs : List Int} {ls : List (Int × Int)} {up : Int → Option Int} {v : Int} (hv : v ∈ vs) : Srch vs ls up v [] [v] (fun _ => False) :=
  ⟨⟨List.nodup_nil, by simp, fun i q h => by simp at h⟩, by simp, by simp, fun u hu => by
    have : u = v := by simpa using hu
    subst this
    exact ⟨hv, .inl rfl⟩, fun w hw hn => by
    rcases hw with h | ⟨q, hq, _⟩
    · exact absurd (by simpa using h) hn
    · simp at hq⟩
theorem Srch.pop {vs : List Int} {ls : List (Int × Int)} {up : Int → Option Int} {v u : Int} {cs : List (Int × Int)} {ways : List Int} (s : Srch vs ls up v cs (ways ++ [u]) (fun _ => False)) : Srch vs ls up v cs ways (fun w => w = u) ∧ u ∈ vs ∧ Vis up v cs u :=
  ⟨⟨s.came, s.mem, s.mt, fun w hw => s.wy w (List.mem_append_left _ hw), fun w hw hn hne => s.dn w hw (fun z => by
    rcases List.mem_append.mp z with a | a
    · exact hn a
    · exact hne (by simpa using a)) (fun z => z)⟩, s.wy u (by simp)⟩
theorem Srch.add {vs : List Int} {ls : List (Int × Int)} {up lo : Int → Option Int} {v u low w : Int} {cs : List (Int × Int)} {ways : List Int} (M : Mt vs ls up lo) (s : Srch vs ls up v cs ways (fun w => w = u)) (hu : Vis up v cs u) (hn : low ∉ cs.map (·.1)) (hs : SB ls u low) (hm : low ∈ vs) (e : up low = some w) :
    Srch vs ls up v (cs ++ [(low, u)]) (ways ++ [w]) (fun w => w = u) ∧ Vis up v (cs ++ [(low, u)]) u := by
  have more : ∀ {x}, Vis up v cs x → Vis up v (cs ++ [(low, u)]) x := fun {x} h => by
    rcases h with h | ⟨q, hq, e⟩
    · exact .inl h
    · exact .inr ⟨q, List.mem_append_left _ hq, e⟩
  refine ⟨⟨s.came.snoc hn hs hu, fun q hq => ?_, fun q hq => ?_, fun x hx => ?_, fun x hx hx2 hne l hl => ?_⟩, more hu⟩
  · rcases List.mem_append.mp hq with a | a
    · exact s.mem q a
    · have : q = (low, u) := by simpa using a
      subst this
      exact hm
  · rcases List.mem_append.mp hq with a | a
    · exact s.mt q a
    · have : q = (low, u) := by simpa using a
      subst this
      rw [e]
      rfl
  · rcases List.mem_append.mp hx with a | a
    · exact ⟨(s.wy x a).1, more (s.wy x a).2⟩
    · have : x = w := by simpa using a
      subst this
      exact ⟨(M.ok _ _ e).2.1, .inr ⟨(low, u), by simp, e⟩⟩
  · have old : Vis up v cs x := by
      rcases hx with h | ⟨q, hq, e2⟩
      · exact .inl h
      · rcases List.mem_append.mp hq with a | a
        · exact .inr ⟨q, a, e2⟩
        · have : q = (low, u) := by simpa using a
          subst this
          rw [e] at e2
          cases e2
          exact absurd (by simp) hx2
    rw [List.map_append]
    exact List.mem_append_left _ (s.dn x old (fun z => hx2 (List.mem_append_left _ z)) hne l hl)
theorem Srch.done {vs : List Int} {ls : List (Int × Int)} {up : Int → Option Int} {v u : Int} {cs : List (Int × Int)} {ways : List Int} (s : Srch vs ls up v cs ways (fun w => w = u)) (h : ∀ l, SB ls u l → l ∈ cs.map (·.1)) : Srch vs ls up v cs ways (fun _ => False) :=
  ⟨s.came, s.mem, s.mt, s.wy, fun w hw hn _ l hl => by
    by_cases e : w = u
    · subst e; exact h l hl
    · exact s.dn w hw hn e l hl⟩
theorem Srch.fail {vs : List Int} {ls : List (Int × Int)} {up : Int → Option Int} {v : Int} {cs : List (Int × Int)} (s : Srch vs ls up v cs [] (fun _ => False)) : Cl ls up (Vis up v cs) (fun r => r ∈ cs.map (·.1)) :=
  ⟨fun u hu l hl => s.dn u hu (by simp) (fun z => z) l hl, fun r hr => by
    obtain ⟨q, hq, rfl⟩ := List.mem_map.mp hr
    obtain ⟨u, e⟩ := Option.isSome_iff_exists.mp (s.mt q hq)
    exact ⟨u, e, .inr ⟨q, hq, e⟩⟩⟩
theorem Srch.len {vs : List Int} {ls : List (Int × Int)} {up : Int → Option Int} {v : Int} {cs : List (Int × Int)} {ways : List Int} {ex : Int → Prop} (s : Srch vs ls up v cs ways ex) : cs.length ≤ vs.length := by
  have := nodup_le (cs.map (·.1)) vs s.came.nd fun x hx => by
    obtain ⟨q, hq, rfl⟩ := List.mem_map.mp hx
    exact s.mem q hq
  simpa using this
/-- what a search does to the pairs -/
structure Prd (vs : List Int) (ls : List (Int × Int)) (v : Int) (up0 lo0 up lo : Int → Option Int) : Prop where
  m : Mt vs ls up lo
  d1 : ∀ x, (lo x).isSome = true → (lo0 x).isSome = true ∨ x = v
  d2 : ∀ x, (lo0 x).isSome = true → (lo x).isSome = true
  hit : (lo v).isSome = true ∨ ∃ L R, Cl ls up L R ∧ L v
  cl : ∀ L R, Cl ls up0 L R → Cl ls up L R
theorem Prd.failed {vs : List Int} {ls : List (Int × Int)} {up lo : Int → Option Int} {v : Int} {cs : List (Int × Int)} (M : Mt vs ls up lo) (s : Srch vs ls up v cs [] (fun _ => False)) : Prd vs ls v up lo up lo :=
  ⟨M, fun x h => .inl h, fun x h => h, .inr ⟨_, _, s.fail, .inl rfl⟩, fun L R c => c⟩
theorem Prd.given {vs : List Int} {ls : List (Int × Int)} {up0 lo0 up lo : Int → Option Int} {v : Int} (G : Given vs ls v up0 lo0 up lo) : Prd vs ls v up0 lo0 up lo :=
  ⟨G.m, fun x h => (G.dom x).mp h, fun x h => (G.dom x).mpr (.inl h), .inl ((G.dom v).mpr (.inr rfl)), fun L R c => ⟨c.dn, fun r hr => by rw [G.cl L R c r hr]; exact c.bk r hr⟩⟩
def spPair : Sp := fun as H Q _ => ∃ (v : Int) (R U D : Addr) (kvs : List (Key × V)) (vs : List Int) (ls : List (Int × Int)) (up lo : Int → Option Int), as = [.int v, .ref R, .ref U, .ref D] ∧ U ≠ D ∧ H R = some (.dK kvs) ∧ R ≠ U ∧ R ≠ D ∧ RowsV [] H kvs ls vs ∧ MapAt H U vs up ∧ MapAt H D vs lo ∧
  ShOk vs ls ∧ vs.length < 420 ∧ Mt vs ls up lo ∧ lo v = none ∧ v ∈ vs ∧
  ∀ H' up' lo', Kp [U, D] H H' → MapAt H' U vs up' → MapAt H' D vs lo' → Prd vs ls v up lo up' lo' → PR (lowsF ls) up lo [] [v] none up' lo' → Q .non H'
section
variable {P : Program} {w : World} {K : PySem.W.Frag} {mg : Str → Option Value} {base : Heap}
theorem ok_pair {f fG : Addr} {fd fdG : FuncData} (T : Txt K mg) (F : Fun K "pair_up" "pair_up" s_pair_up f fd) (D_give_way : Df K mg "give_way" s_give_way ["low", "came", "uppers", "lowers"] fG fdG) : FnOk P w K mg base CX0 2 f fd ["version", "rows", "uppers", "lowers"] spPair := by
  have G_give_way : FnOk P w K mg base CX0 1 fG fdG ["low", "came", "uppers", "lowers"] spGive := ok_give T D_give_way.fn
  refine F.ok sc_pair_up (fun vs H Q E h => ?_) (fun cdv A outer s H vs Q E hr h => ?_)
  · obtain ⟨v, R, U, D, kvs, vs, ls, up, lo, rfl, _⟩ := h
    rfl
  · obtain ⟨v, R, U, D, kvs, vs, ls, up, lo, rfl, nUD, eR, nRU, nRD, rv, mU, mD, S, hl, M, hv0, hv, q⟩ := h
    have hu := hu_of hr
    refine ⟨_,
      (pss_cons
        (ps_set (i := 4) sc_pair_up.nd rfl (.inl rfl) pe_dnewK)
      (pss_cons
        (ps_set (i := 5) sc_pair_up.nd rfl (.inl rfl) (pe_lst (pa_cons (pv 0) pa_nil)))
      (pss_one
        (ps_while PassesOwn.never (p_truth (pv 5) (by intro _; rfl))
          (pss_cons
            (ps_set (i := 6) sc_pair_up.nd rfl (.inl rfl) (pe_bm0 PySem.F.plainAttrs_list PySem.F.slot_list_pop PySem.F.type_list_pop mt_pop (pv 5)))
          (pss_one
            (ps_for PassesOwn.never rfl (pi_reversed (by rfl) T.n_reversed (pa_cons (pe_slice sl_list (pe_dget hu (pv 1) (pv 6) (fun _ _ => rfl)) po_none (po_some (pe_un un_neg pe_int))) pa_nil)) (pg_name (i := 7) sc_pair_up.nd rfl (.inl rfl))
              (pss_one
                (ps_if (pt_cmp (pc_dnotin hu (pv 7) (pv 4)))
                  (pss_cons
                    (ps_dput hu (pv 4) (pv 7) (pv 6) rfl)
                  (pss_cons
                    (ps_if (pt_cmp (pc_dnotin hu (pv 7) (pv 2)))
                      (pss_cons
                        (ps_expr (pe_call G_give_way (hr.mono (by omega)) (by rfl) D_give_way.g D_give_way.fn.kp D_give_way.b .nil pass0 (pa_cons (pv 7) (pa_cons (pv 4) (pa_cons (pv 2) (pa_cons (pv 3) pa_nil))))))
                      (pss_one
                        ps_retN))
                      pss_nil)
                  (pss_one
                    (ps_expr (pe_bm PySem.F.plainAttrs_list PySem.F.slot_list_append PySem.F.type_list_append mt_append (pv 5) (pa_cons (pe_dget hu (pv 2) (pv 7) (fun _ _ => rfl)) pa_nil))))))
                  pss_nil)))))))))
      , ?_⟩
    rw [show L2.start N_pair_up [V.int v, V.ref R, V.ref U, V.ref D] = [some (.int v), some (.ref R), some (.ref U), some (.ref D), none, none, none, none] from rfl]
    walk_at "x"
    refine w_new fun C H1 hC eC k1 => ?_
    walk_at "g"
    refine w_new fun Wy H2 hW eW k2 => ?_
    have k02 : Same H H2 := Same.trans k1 k2
    have hW0 : H Wy = none := k1.free hW
    have nCW : C ≠ Wy := ne_of_none eC hW
    obtain ⟨uk, uks, eU, u2, u3, u4, u5⟩ := id mU
    obtain ⟨dk, dks, eD, d2, d3, d4, d5⟩ := id mD
    have nCU : C ≠ U := (ne_of_none eU hC).symm
    have nCD : C ≠ D := (ne_of_none eD hC).symm
    have nCR : C ≠ R := (ne_of_none eR hC).symm
    have nWU : Wy ≠ U := (ne_of_none eU hW0).symm
    have nWD : Wy ≠ D := (ne_of_none eD hW0).symm
    have nWR : Wy ≠ R := (ne_of_none eR hW0).symm
    have mU2 : MapAt H2 U vs up := mU.kp (M := []) (Kp.of k02) (by simp)
    have mD2 : MapAt H2 D vs lo := mD.kp (M := []) (Kp.of k02) (by simp)
    have eR2 := k02 _ _ eR
    have rv2 : RowsV [C, Wy] H2 kvs ls vs := fun x hx => by
      obtain ⟨a, ys, v1, v2, v3, _⟩ := rv x hx
      exact ⟨a, ys, v1, k02 _ _ v2, v3, by simp [ne_of_none v2 hC, ne_of_none v2 hW0]⟩
    walk_at "g"
    refine w_whileN (fun m σ H' => ∃ (cs : List (Int × Int)) (ways : List Int) (y6 y7 : Option V), σ = [some (.int v), some (.ref R), some (.ref U), some (.ref D), some (.ref C), some (.ref Wy), y6, y7] ∧ m = ways.length + 2 * (vs.length - cs.length) ∧ ways.length + 2 * (vs.length - cs.length) ≤ 1 + 2 * vs.length ∧ Srch vs ls up v cs ways (fun _ => False) ∧ (∀ up' lo', PR (lowsF ls) up lo cs ways none up' lo' → PR (lowsF ls) up lo [] [v] none up' lo') ∧ Kp [C, Wy] H2 H' ∧ MapAt H' C vs (lookI cs) ∧ H' Wy = some (.lst (ways.map V.int))) (1 + 2 * vs.length)
      ⟨[], [v], _, _, rfl, rfl, Nat.le_refl _, Srch.start hv, fun _ _ z => z, Kp.refl, ⟨[], [], k2 _ _ eC, rfl, List.nodup_nil, by simp, fun _ => rfl⟩, eW⟩ ?_
    rintro m σ H3 ⟨cs, ways, y6, y7, rfl, rfl, hwl0, sr, pr, k3, mC, e3⟩
    walk_at "g"
    rcases List.eq_nil_or_concat ways with rfl | ⟨rest, u, rfl⟩
    · -- none is left
      walk_at "g"
      have k03 : Kp [U, D] H H3 := fun b o _ e => k3 _ _ (by simp [ne_of_none e hC, ne_of_none e hW0]) (k02 _ _ e)
      exact q H3 up lo k03 (mU2.kp k3 (by simp [nCU.symm, nWU.symm])) (mD2.kp k3 (by simp [nCD.symm, nWD.symm])) (Prd.failed M sr) (pr _ _ .fail)
    · rw [List.concat_eq_append] at sr e3 hwl0 pr ⊢
      have hwl1 : rest.length + 2 * (vs.length - cs.length) ≤ 2 * vs.length := by
        rw [List.length_append] at hwl0
        simp only [List.length_cons, List.length_nil] at hwl0
        omega
      rw [show (!((rest ++ [u]).map V.int).isEmpty) = true by simp]
      refine iteT (w_turn ?_)
      obtain ⟨sr1, hum, hvis⟩ := sr.pop
      rw [List.map_append] at e3
      have e3' : H3 Wy = some (.lst (rest.map V.int ++ [.int u])) := e3
      walk_at "g"
      refine w_pop e3' fun H4 e4 o4 => ?_
      obtain ⟨a, ys, v1, v2, v3, v4⟩ := rv2 u hum
      have k4 : Kp [C, Wy] H2 H4 := k3.trans (o4.kp (by simp))
      have eR4 := k4 _ _ (by simp [nCR.symm, nWR.symm]) eR2
      have v2' := k4 _ _ v4 v2
      have mC4 : MapAt H4 C vs (lookI cs) := mC.kp (o4.kp (M := [Wy]) (by simp)) (by simpa using nCW)
      walk_at "g"
      refine w_slL (.of v2') fun Z H5 hZ eZ k5 => ?_
      rw [cut_last, ← List.map_dropLast] at eZ
      have k5' : Kp [C, Wy] H2 H5 := k4.trans (Kp.of k5)
      have mC5 : MapAt H5 C vs (lookI cs) := mC4.kp (M := []) (Kp.of k5) (by simp)
      have e5 := k5 _ _ e4
      obtain ⟨ck4, cks4, eC4, _⟩ := id mC4
      have nZC : Z ≠ C := (ne_of_none eC4 hZ).symm
      have nZW : Z ≠ Wy := (ne_of_none e4 hZ).symm
      walk_at "g"
      refine lp_rev (xs := ys.dropLast.map V.int) (fun i σ H' => ∃ (cs' : List (Int × Int)) (ways' : List Int) (y7 : Option V), σ = [some (.int v), some (.ref R), some (.ref U), some (.ref D), some (.ref C), some (.ref Wy), some (.int u), y7] ∧ ways'.length + 2 * (vs.length - cs'.length) ≤ rest.length + 2 * (vs.length - cs.length) ∧ Srch vs ls up v cs' ways' (fun w => w = u) ∧ Vis up v cs' u ∧ (∀ up' lo', PR (lowsF ls) up lo cs' ways' (some (u, ys.dropLast.reverse.drop i)) up' lo' → PR (lowsF ls) up lo [] [v] none up' lo') ∧ (∀ l ∈ ys.dropLast.drop (ys.dropLast.length - i), l ∈ cs'.map (·.1)) ∧ Kp [C, Wy] H5 H' ∧ MapAt H' C vs (lookI cs') ∧ H' Wy = some (.lst (ways'.map V.int))) ?_ ?_ ?_ ?_
      · exact ⟨cs, rest, _, rfl, Nat.le_refl _, sr1, hvis, fun _ _ z => pr _ _ (.pop rfl (by rw [lowsF_is v3]; exact z)), fun l hl' => (by rw [Nat.sub_zero, List.drop_length] at hl'; cases hl'), Kp.refl, mC5, e5⟩
      · rintro i σ H' _ ⟨_, _, _, _, _, _, _, _, _, k6, _⟩
        exact .of (k6 _ _ (by simp [nZC, nZW]) eZ)
      · rintro i x σ H6 hi hx ⟨cs', ways', y7, rfl, hm, sr', hvis', pr', hdone, k6, mC6, e6⟩
        rw [List.length_map] at hi hx
        obtain ⟨low, hlow, rfl⟩ := map_at hx
        have hlm : low ∈ ys.dropLast := List.mem_of_getElem? hlow
        have hrd : ys.dropLast.reverse.drop i = low :: ys.dropLast.reverse.drop (i + 1) := drop_of (by rw [List.getElem?_reverse hi]; exact hlow)
        rw [hrd] at pr'
        have hsb : SB ls u low := (row_drop S v3 low).mp hlm
        have hlv : low ∈ vs := hsb.1.mem S hum
        obtain ⟨ck, cks, eC6, c2, c3, c4, c5⟩ := mC6
        have k26 : Kp [C, Wy] H2 H6 := k5'.trans k6
        have mU6 : MapAt H6 U vs up := mU2.kp k26 (by simp [nCU.symm, nWU.symm])
        have mD6 : MapAt H6 D vs lo := mD2.kp k26 (by simp [nCD.symm, nWD.symm])
        have dstep : ∀ l ∈ ys.dropLast.drop (ys.dropLast.length - (i + 1)), l = low ∨ l ∈ ys.dropLast.drop (ys.dropLast.length - i) := fun l hl' => by
          have e1 : ys.dropLast.length - (i + 1) = ys.dropLast.length - 1 - i := by omega
          rw [e1, drop_of hlow] at hl'
          rcases List.mem_cons.mp hl' with a | a
          · exact .inl a
          · exact .inr (by
              have e2 : ys.dropLast.length - 1 - i + 1 = ys.dropLast.length - i := by omega
              rw [e2] at a
              exact a)
        walk_at "g"
        rw [MapAt.in (vs := vs) c5 low]
        refine w_itNB (fun hc => ?_) (fun hc => ?_)
        · -- not come to yet
          have hnin : low ∉ cs'.map (·.1) := lookI_none.mp (by
            cases h : lookI cs' low with
            | none => rfl
            | some z => rw [h] at hc; cases hc)
          have lC : ck.length < sizeLine := small1000 (by have := MapAt.len (p := C) c2 c3 c4; omega)
          walk_at "g"
          refine w_dputI eC6 lC fun H7 e7 o7 => ?_
          have mC7 : MapAt H7 C vs (lookI (cs' ++ [(low, u)])) := by
            rw [lookI_snoc hnin]
            exact MapAt.put c2 c3 c4 c5 hlv e7
          have k7 : Kp [C, Wy] H2 H7 := k26.trans (o7.kp (by simp))
          have mU7 : MapAt H7 U vs up := mU2.kp k7 (by simp [nCU.symm, nWU.symm])
          have mD7 : MapAt H7 D vs lo := mD2.kp k7 (by simp [nCD.symm, nWD.symm])
          obtain ⟨uk7, uks7, eU7, w2, w3, w4, w5⟩ := id mU7
          refine w_seq ?_
          walk_at "g"
          rw [MapAt.in (vs := vs) w5 low]
          refine w_itNB (fun hf => ?_) (fun hf => ?_)
          · -- it is free: the way is given
            have hfree : up low = none := by
              cases h : up low with
              | none => rfl
              | some z => rw [h] at hf; cases hf
            walk_at "g"
            refine ⟨low, v, u, cs'.length, C, U, D, vs, ls, cs' ++ [(low, u)], up, lo, rfl, nCU, nCD, nUD, mC7, mU7, mD7, S, hl, M, hv0, hv, sr'.came.snoc hnin hsb hvis', by simp, hfree, hlv, fun H8 up' lo' k8 mU8 mD8 G gr => ?_⟩
            walk_at "g"
            refine q H8 up' lo' (fun b o hb e => ?_) mU8 mD8 (Prd.given G) (pr' _ _ (.give hnin hfree gr))
            exact k8 _ _ hb (k7 _ _ (by simp [ne_of_none e hC, ne_of_none e hW0]) (k02 _ _ e))
          · obtain ⟨w', ew⟩ := Option.isSome_iff_exists.mp hf
            have evw : valV uk7 (Sum.inl low) = some (.int w') := by rw [w5, ew]; rfl
            have e6' := o7.get nCW.symm e6
            have hwl : ways'.length ≤ 1000 := by
              have := sr'.len
              have := sr.len
              omega
            walk_at "g"
            refine w_app e6' (by rw [List.length_map]; exact small1000 (by omega)) fun H8 e8 o8 => ?_
            obtain ⟨sr8, vis8⟩ := sr'.add M hvis' hnin hsb hlv ew
            refine ⟨cs' ++ [(low, u)], ways' ++ [w'], _, rfl, ?_, sr8, vis8, fun _ _ z => pr' _ _ (.push hnin ew z), fun l hl' => ?_, k6.trans ((o7.kp (by simp)).trans (o8.kp (by simp))), mC7.kp (o8.kp (M := [Wy]) (by simp)) (by simpa using nCW), by rw [e8, List.map_append]; rfl⟩
            · have := sr8.len
              rw [List.length_append, List.length_append]
              rw [List.length_append] at this
              simp only [List.length_cons, List.length_nil] at this ⊢
              omega
            · rw [List.map_append]
              rcases dstep l hl' with h | h
              · exact List.mem_append_right _ (by simp [h])
              · exact List.mem_append_left _ (hdone l h)
        · walk_at "g"
          have hin : low ∈ cs'.map (·.1) := by
            apply Classical.byContradiction
            intro z
            rw [lookI_none.mpr z] at hc
            cases hc
          refine ⟨cs', ways', _, rfl, hm, sr', hvis', fun _ _ z => pr' _ _ (.skip hin z), fun l hl' => ?_, k6, ⟨ck, cks, eC6, c2, c3, c4, c5⟩, e6⟩
          rcases dstep l hl' with h | h
          · rw [h]; exact hin
          · exact hdone l h
      · rintro σ H6 ⟨cs', ways', y7, rfl, hm, sr', hvis', pr', hdone, k6, mC6, e6⟩
        rw [List.length_map, Nat.sub_self, List.drop_zero] at hdone
        refine ⟨ways'.length + 2 * (vs.length - cs'.length), ?_, cs', ways', _, _, rfl, rfl, by omega, sr'.done fun l hl' => hdone l ((row_drop S v3 l).mpr hl'), fun _ _ z => pr' _ _ (by rw [List.drop_of_length_le (by rw [List.length_reverse, List.length_map]; omega)]; exact .over z), k5'.trans k6, mC6, e6⟩
        rw [List.length_append]
        simp only [List.length_cons, List.length_nil]
        omega
end
/-! ### those that stand apart -/
inductive Rch (vs : List Int) (ls : List (Int × Int)) (up lo : Int → Option Int) : Int → Prop where
  | free {x : Int} (h : x ∈ vs) (e : lo x = none) : Rch vs ls up lo x
  | on {u r x : Int} (h : Rch vs ls up lo u) (s : SB ls u r) (e : up r = some x) : Rch vs ls up lo x
def RchR (vs : List Int) (ls : List (Int × Int)) (up lo : Int → Option Int) (r : Int) : Prop := ∃ u, Rch vs ls up lo u ∧ SB ls u r
noncomputable def apartB (vs : List Int) (ls : List (Int × Int)) (up lo : Int → Option Int) (x : Int) : Bool := @decide (Rch vs ls up lo x ∧ ¬ RchR vs ls up lo x) (Classical.propDecidable _)
noncomputable def apartL (vs : List Int) (ls : List (Int × Int)) (up lo : Int → Option Int) : List Int := vs.filter (apartB vs ls up lo)
theorem apartB_iff {vs : List Int} {ls : List (Int × Int)} {up lo : Int → Option Int} {x : Int} : apartB vs ls up lo x = true ↔ Rch vs ls up lo x ∧ ¬ RchR vs ls up lo x := by unfold apartB; exact @decide_eq_true_iff _ (Classical.propDecidable _)
/-- from those that are free one comes to such alone as have a partner -/
def Full (vs : List Int) (ls : List (Int × Int)) (up lo : Int → Option Int) : Prop := ∀ x ∈ vs, (lo x).isSome = true ∨ ∃ L R, Cl ls up L R ∧ L x
theorem Full.reach {vs : List Int} {ls : List (Int × Int)} {up lo : Int → Option Int} (F : Full vs ls up lo) {x : Int} (h : Rch vs ls up lo x) : ∃ L R, Cl ls up L R ∧ L x := by
  induction h with
  | free h e =>
    rcases F _ h with a | a
    · rw [e] at a; cases a
    · exact a
  | on h s e ih =>
    obtain ⟨L, R, c, hl⟩ := ih
    obtain ⟨u, e2, hu⟩ := c.bk _ (c.dn _ hl _ s)
    rw [e] at e2
    cases e2
    exact ⟨L, R, c, hu⟩
theorem Full.some {vs : List Int} {ls : List (Int × Int)} {up lo : Int → Option Int} (F : Full vs ls up lo) {u r : Int} (h : Rch vs ls up lo u) (s : SB ls u r) : ∃ w, up r = some w := by
  obtain ⟨L, R, c, hl⟩ := F.reach h
  obtain ⟨w, e, _⟩ := c.bk _ (c.dn _ hl _ s)
  exact ⟨w, e⟩
structure Apt (vs : List Int) (ls : List (Int × Int)) (up lo : Int → Option Int) (Lk Rk ways : List Int) (ex : Int → Prop) : Prop where
  nl : Lk.Nodup
  nr : Rk.Nodup
  fl : ∀ x ∈ vs, lo x = none → x ∈ Lk
  lm : ∀ x ∈ Lk, x ∈ vs ∧ Rch vs ls up lo x
  rm : ∀ r ∈ Rk, r ∈ vs ∧ RchR vs ls up lo r ∧ ∃ u, up r = some u ∧ u ∈ Lk
  wy : ∀ x ∈ ways, x ∈ Lk
  dn : ∀ x ∈ Lk, x ∉ ways → ¬ ex x → ∀ l, SB ls x l → l ∈ Rk
theorem Apt.pop {vs : List Int} {ls : List (Int × Int)} {up lo : Int → Option Int} {Lk Rk ways : List Int} {u : Int} (a : Apt vs ls up lo Lk Rk (ways ++ [u]) (fun _ => False)) : Apt vs ls up lo Lk Rk ways (fun w => w = u) ∧ u ∈ Lk :=
  ⟨⟨a.nl, a.nr, a.fl, a.lm, a.rm, fun x hx => a.wy x (List.mem_append_left _ hx), fun x hx hn hne => a.dn x hx (fun z => by
    rcases List.mem_append.mp z with h | h
    · exact hn h
    · exact hne (by simpa using h)) (fun z => z)⟩, a.wy u (by simp)⟩
theorem Apt.done {vs : List Int} {ls : List (Int × Int)} {up lo : Int → Option Int} {Lk Rk ways : List Int} {u : Int} (a : Apt vs ls up lo Lk Rk ways (fun w => w = u)) (h : ∀ l, SB ls u l → l ∈ Rk) : Apt vs ls up lo Lk Rk ways (fun _ => False) :=
  ⟨a.nl, a.nr, a.fl, a.lm, a.rm, a.wy, fun x hx hn _ l hl => by
    by_cases e : x = u
    · subst e; exact h l hl
    · exact a.dn x hx hn e l hl⟩
/-- a low that was not come to; its partner is new, or not -/
theorem Apt.add {vs : List Int} {ls : List (Int × Int)} {up lo : Int → Option Int} {Lk Rk ways ways' : List Int} {u low w : Int} (M : Mt vs ls up lo) (a : Apt vs ls up lo Lk Rk ways (fun w => w = u)) (hu : u ∈ Lk) (hn : low ∉ Rk) (hs : SB ls u low) (hm : low ∈ vs) (e : up low = some w)
    (hw : ways' = ways ++ [w] ∨ (w ∈ Lk ∧ ways' = ways)) : Apt vs ls up lo (addK Lk w) (addK Rk low) ways' (fun w => w = u) := by
  have rw' : Rch vs ls up lo w := .on (a.lm u hu).2 hs e
  refine ⟨nd_addK a.nl, nd_addK a.nr, fun x hx h => mem_addK.mpr (.inl (a.fl x hx h)), fun x hx => ?_, fun r hr => ?_, fun x hx => ?_, fun x hx hx2 hne l hl => ?_⟩
  · rcases mem_addK.mp hx with h | rfl
    · exact a.lm x h
    · exact ⟨(M.ok _ _ e).2.1, rw'⟩
  · rcases mem_addK.mp hr with h | rfl
    · obtain ⟨h1, h2, u', h3, h4⟩ := a.rm r h
      exact ⟨h1, h2, u', h3, mem_addK.mpr (.inl h4)⟩
    · exact ⟨hm, ⟨u, (a.lm u hu).2, hs⟩, w, e, mem_addK.mpr (.inr rfl)⟩
  · rcases hw with rfl | ⟨h, rfl⟩
    · rcases List.mem_append.mp hx with h | h
      · exact mem_addK.mpr (.inl (a.wy x h))
      · exact mem_addK.mpr (.inr (by simpa using h))
    · exact mem_addK.mpr (.inl (a.wy x hx))
  · have old : x ∈ Lk ∧ x ∉ ways := by
      rcases hw with rfl | ⟨h, rfl⟩
      · refine ⟨?_, fun z => hx2 (List.mem_append_left _ z)⟩
        rcases mem_addK.mp hx with h | rfl
        · exact h
        · exact absurd (by simp) hx2
      · refine ⟨?_, hx2⟩
        rcases mem_addK.mp hx with h' | rfl
        · exact h'
        · exact h
    exact mem_addK.mpr (.inl (a.dn x old.1 old.2 hne l hl))
theorem Apt.end' {vs : List Int} {ls : List (Int × Int)} {up lo : Int → Option Int} {Lk Rk : List Int} (a : Apt vs ls up lo Lk Rk [] (fun _ => False)) : (∀ x, x ∈ Lk ↔ Rch vs ls up lo x) ∧ ∀ x, x ∈ Rk ↔ RchR vs ls up lo x := by
  have h1 : ∀ x, Rch vs ls up lo x → x ∈ Lk := fun x h => by
    induction h with
    | free h e => exact a.fl _ h e
    | on h s e ih =>
      obtain ⟨_, _, u, e2, hu⟩ := a.rm _ (a.dn _ ih (by simp) (fun z => z) _ s)
      rw [e] at e2
      cases e2
      exact hu
  exact ⟨fun x => ⟨fun h => (a.lm x h).2, h1 x⟩, fun x => ⟨fun h => (a.rm x h).2.1, fun ⟨u, h, s⟩ => a.dn u (h1 u h) (by simp) (fun z => z) x s⟩⟩
def freeL (vs : List Int) (lo : Int → Option Int) : List Int := vs.filter fun x => (lo x).isNone
theorem mem_freeL {vs : List Int} {lo : Int → Option Int} {x : Int} : x ∈ freeL vs lo ↔ x ∈ vs ∧ lo x = none := by
  unfold freeL
  rw [List.mem_filter]
  simp
theorem rise_nodup {xs : List Int} (h : xs.Pairwise (· < ·)) : xs.Nodup := h.imp fun {a b} h => Int.ne_of_lt h
theorem same_len {xs ys : List Int} (h1 : xs.Nodup) (h2 : ys.Nodup) (h : ∀ x, x ∈ xs ↔ x ∈ ys) : xs.length = ys.length :=
  Nat.le_antisymm (nodup_le _ _ h1 fun x hx => (h x).mp hx) (nodup_le _ _ h2 fun x hx => (h x).mpr hx)
structure IsApart (vs : List Int) (ls : List (Int × Int)) (lo : Int → Option Int) (aps : List Int) : Prop where
  rise : aps.Pairwise (· < ·)
  mem : ∀ x ∈ aps, x ∈ vs
  anti : ∀ a ∈ aps, ∀ b ∈ aps, a ≠ b → ¬ Bel ls a b
  len : aps.length = (freeL vs lo).length
theorem apart_is {vs : List Int} {ls : List (Int × Int)} {up lo : Int → Option Int} {Lk Rk : List Int} (S : ShOk vs ls) (M : Mt vs ls up lo) (a : Apt vs ls up lo Lk Rk [] (fun _ => False)) : IsApart vs ls lo (apartL vs ls up lo) := by
  obtain ⟨hL, hR⟩ := a.end'
  have vn := rise_nodup S.vr
  have mem : ∀ x, x ∈ apartL vs ls up lo ↔ x ∈ Lk ∧ x ∉ Rk := fun x => by
    unfold apartL
    rw [List.mem_filter, apartB_iff, hL, hR]
    constructor
    · exact fun h => h.2
    · exact fun h => ⟨(a.lm x ((hL x).mpr h.1)).1, h⟩
  have sub : ∀ r ∈ Rk, r ∈ Lk := fun r hr => by
    obtain ⟨hv, ⟨u, hu, hs⟩, _⟩ := a.rm r hr
    cases e : lo r with
    | none => exact a.fl r hv e
    | some r' =>
      have e2 := (M.iff r' r).mpr e
      have hs2 := hs.trans S (M.ok _ _ e2).2.2
      exact (hL r).mpr (.on hu hs2 e2)
  refine ⟨S.vr.filter _, fun x hx => (List.mem_filter.mp hx).1, fun x hx y hy hne hb => ?_, ?_⟩
  · exact ((mem y).mp hy).2 (a.dn x ((mem x).mp hx).1 (by simp) (fun z => z) y ⟨hb, fun z => hne z.symm⟩)
  · have n1 : (apartL vs ls up lo).Nodup := vn.filter _
    have e1 : Lk.length = (apartL vs ls up lo ++ Rk).length := same_len a.nl (List.nodup_append.mpr ⟨n1, a.nr, fun x hx y hy z => ((mem x).mp hx).2 (by rw [z]; exact hy)⟩) fun x => by
      rw [List.mem_append, mem]
      constructor
      · intro h
        by_cases q : x ∈ Rk
        · exact .inr q
        · exact .inl ⟨h, q⟩
      · rintro (h | h)
        · exact h.1
        · exact sub x h
    have inj : (Rk.map fun r => (up r).getD 0).Nodup := by
      unfold List.Nodup
      rw [List.pairwise_map]
      refine List.Pairwise.imp_of_mem (fun {x y} hx hy hne z => ?_) a.nr
      obtain ⟨_, _, u1, h1, _⟩ := a.rm x hx
      obtain ⟨_, _, u2, h2, _⟩ := a.rm y hy
      rw [h1, h2] at z
      have z' : u1 = u2 := z
      subst z'
      have g1 := (M.iff _ _).mp h1
      have g2 := (M.iff _ _).mp h2
      rw [g1] at g2
      exact hne (Option.some.inj g2)
    have e2 : Lk.length = (freeL vs lo ++ Rk.map fun r => (up r).getD 0).length := same_len a.nl (List.nodup_append.mpr ⟨vn.filter _, inj, fun x hx y hy z => by
        obtain ⟨r, hr, rfl⟩ := List.mem_map.mp hy
        obtain ⟨_, _, u1, h1, _⟩ := a.rm r hr
        rw [h1] at z
        have z' : x = u1 := z
        subst z'
        have g := (M.iff _ _).mp h1
        rw [(mem_freeL.mp hx).2] at g
        cases g⟩) fun x => by
      rw [List.mem_append]
      constructor
      · intro h
        cases e : lo x with
        | none => exact .inl (mem_freeL.mpr ⟨(a.lm x h).1, e⟩)
        | some r =>
          refine .inr (List.mem_map.mpr ⟨r, ?_, ?_⟩)
          · cases (hL x).mp h with
            | free hv e2 => rw [e] at e2; cases e2
            | on hu hs e2 =>
              have g := (M.iff _ _).mp e2
              rw [e] at g
              cases g
              exact a.dn _ ((hL _).mpr hu) (by simp) (fun z => z) _ hs
          · rw [(M.iff r x).mpr e]
            rfl
      · rintro (h | h)
        · exact a.fl x (mem_freeL.mp h).1 (mem_freeL.mp h).2
        · obtain ⟨r, hr, rfl⟩ := List.mem_map.mp h
          obtain ⟨_, _, u1, h1, h2⟩ := a.rm r hr
          rw [h1]
          exact h2
    rw [List.length_append] at e1 e2
    rw [List.length_map] at e2
    omega
theorem merge_found (f : Int → V) : ∀ (ns : List Int) (acc : List (Key × V)) (ks : List Int), acc.map (·.1) = ks.map (Sum.inl : Int → Key) → ks.Nodup → ∃ ks' : List Int, (mergeK acc (ns.map fun i => ((Sum.inl i : Key), f i))).map (·.1) = ks'.map (Sum.inl : Int → Key) ∧ ks'.Nodup ∧ ∀ x, x ∈ ks' ↔ x ∈ ks ∨ x ∈ ns
  | [], acc, ks, h1, h2 => ⟨ks, h1, h2, fun x => by simp⟩
  | n :: r, acc, ks, h1, h2 => by
    obtain ⟨ks', g1, g2, g3⟩ := merge_found f r (putK acc (Sum.inl n) (f n)) (addK ks n) (putK_keys h1) (nd_addK h2)
    refine ⟨ks', g1, g2, fun x => ?_⟩
    rw [g3, mem_addK, List.mem_cons, or_assoc]
def spApart : Sp := fun as H Q _ => ∃ (Vt R U D : Addr) (kvs : List (Key × V)) (vs : List Int) (ls : List (Int × Int)) (up lo : Int → Option Int), as = [.ref Vt, .ref R, .ref U, .ref D] ∧ VL H Vt vs ∧ H R = some (.dK kvs) ∧ RowsV [] H kvs ls vs ∧ MapAt H U vs up ∧ MapAt H D vs lo ∧
  ShOk vs ls ∧ vs.length < 420 ∧ Mt vs ls up lo ∧ Full vs ls up lo ∧ ∀ H' p, Same H H' → VL H' p (apartL vs ls up lo) → IsApart vs ls lo (apartL vs ls up lo) → Q (.ref p) H'
def pickI (p : Int → Bool) (x : Int) : Option V := if p x = true then some (.int x) else none
theorem pickI_yes {p : Int → Bool} {x : Int} (h : p x = true) : pickI p x = some (.int x) := if_pos h
theorem pickI_no {p : Int → Bool} {x : Int} (h : ¬ p x = true) : pickI p x = none := if_neg h
theorem sel_yes {vs : List Int} {i : Nat} {y : Int} {p : Int → Bool} (hy : vs[i]? = some y) (h : p y = true) : vs[i]?.bind (pickI p) = some (.int y) := by
  rw [hy]
  show (if p y = true then some (V.int y) else none) = _
  rw [if_pos h]
theorem sel_no {vs : List Int} {i : Nat} {y : Int} {p : Int → Bool} (hy : vs[i]? = some y) (h : ¬ p y = true) : vs[i]?.bind (pickI p) = none := by
  rw [hy]
  show (if p y = true then some (V.int y) else none) = _
  rw [if_neg h]
theorem pickI_map (p : Int → Bool) : ∀ vs : List Int, vs.filterMap (pickI p) = (vs.filter p).map V.int
  | [] => rfl
  | x :: r => by
    have h := pickI_map p r
    by_cases e : p x = true
    · rw [List.filterMap_cons, List.filter_cons, if_pos e, pickI_yes e]
      show V.int x :: r.filterMap (pickI p) = _
      rw [h]
      rfl
    · rw [List.filterMap_cons, List.filter_cons, if_neg e, pickI_no e]
      exact h
section
variable {P : Program} {w : World} {K : PySem.W.Frag} {mg : Str → Option Value} {base : Heap}
theorem ok_apart {f : Addr} {fd : FuncData} (T : Txt K mg) (F : Fun K "apart_of" "apart_of" s_apart_of f fd) : FnOk P w K mg base CX0 1 f fd ["versions", "rows", "uppers", "lowers"] spApart := by
  refine F.ok sc_apart_of (fun vs H Q E h => ?_) (fun cdv A outer s H vs Q E hr h => ?_)
  · obtain ⟨Vt, R, U, D, kvs, vs, ls, up, lo, rfl, _⟩ := h
    rfl
  · obtain ⟨Vt, R, U, D, kvs, vs, ls, up, lo, rfl, hV, eR, rv, mU, mD, S, hl, M, Fu, q⟩ := h
    have hu := hu_of hr
    have hV' : H Vt = some (.tup (vs.map V.int)) := hV
    obtain ⟨uk, uks, eU, u2, u3, u4, u5⟩ := id mU
    obtain ⟨dk, dks, eD, d2, d3, d4, d5⟩ := id mD
    refine ⟨_,
      (pss_cons
        (ps_setLc (i := 4) (own := [("version", 7)]) (g := (gName 7)) rfl sc_apart_of.nd rfl rfl (sw_true rfl rfl rfl (by decide +kernel)) (pi_tup (pv 0)) (blkOk_by (own := [("version", 7)]) (N := N_apart_of) (sc := defScope s_apart_of) (by decide +kernel)) (fun _ _ _ _ _ => (pg_name (i := 7) sc_apart_of.nd rfl (.inl rfl))) (fun _ _ _ _ _ => (pts_one (pt_cmp (pc_dnotin hu (pv 7) (pv 3))))) (fun _ _ _ _ _ => (pv 7)))
      (pss_cons
        (ps_set (i := 5) sc_apart_of.nd rfl (.inr rfl) (pe_dc (own := [("version", 7)]) (g := (gName 7)) rfl sc_apart_of.nd (pi_list (pv 4)) (blkOk_by (own := [("version", 7)]) (N := N_apart_of) (sc := defScope s_apart_of) (by decide +kernel)) (fun _ _ _ _ _ => (pg_name (i := 7) sc_apart_of.nd rfl (.inl rfl))) (fun _ _ _ _ _ => pts_nil) (fun _ _ _ _ _ => (pv 7)) (fun _ _ _ _ _ => pe_bl)))
      (pss_cons
        (ps_set (i := 6) sc_apart_of.nd rfl (.inr rfl) pe_dnewK)
      (pss_cons
        (ps_while PassesOwn.never (p_truth (pv 4) (by intro _; rfl))
          (pss_cons
            (ps_set (i := 7) sc_apart_of.nd rfl (.inl rfl) (pe_bm0 PySem.F.plainAttrs_list PySem.F.slot_list_pop PySem.F.type_list_pop mt_pop (pv 4)))
          (pss_one
            (ps_for PassesOwn.never rfl (pi_list (pe_slice sl_list (pe_dget hu (pv 1) (pv 7) (fun _ _ => rfl)) po_none (po_some (pe_un un_neg pe_int)))) (pg_name (i := 8) sc_apart_of.nd rfl (.inl rfl))
              (pss_one
                (ps_if (pt_cmp (pc_dnotin hu (pv 8) (pv 6)))
                  (pss_cons
                    (ps_dput hu (pv 6) (pv 8) pe_bl rfl)
                  (pss_one
                    (ps_if (pt_cmp (pc_dnotin hu (pe_dget hu (pv 2) (pv 8) (fun _ _ => rfl)) (pv 5)))
                      (pss_cons
                        (ps_dput hu (pv 5) (pe_dget hu (pv 2) (pv 8) (fun _ _ => rfl)) pe_bl rfl)
                      (pss_one
                        (ps_expr (pe_bm PySem.F.plainAttrs_list PySem.F.slot_list_append PySem.F.type_list_append mt_append (pv 4) (pa_cons (pe_dget hu (pv 2) (pv 8) (fun _ _ => rfl)) pa_nil)))))
                      pss_nil)))
                  pss_nil))))))
      (pss_one
        (ps_ret (pe_callTy (r := rTupOf K) c_tupOf (by rfl) T.n_tuple (by decide +kernel) (pa_cons (pe_lc (own := [("version", 7)]) (g := (gName 7)) rfl sc_apart_of.nd (pi_tup (pv 0)) (blkOk_by (own := [("version", 7)]) (N := N_apart_of) (sc := defScope s_apart_of) (by decide +kernel)) (fun _ _ _ _ _ => (pg_name (i := 7) sc_apart_of.nd rfl (.inl rfl))) (fun _ _ _ _ _ => (pts_one (PW.pt (pw_and (pt_cmp (pc_din hu (pv 7) (pv 5))) (pw_and1 (pt_cmp (pc_dnotin hu (pv 7) (pv 6)))))))) (fun _ _ _ _ _ => (pv 7))) pa_nil))))))))
      , ?_⟩
    rw [show L2.start N_apart_of [V.ref Vt, V.ref R, V.ref U, V.ref D] = [some (.ref Vt), some (.ref R), some (.ref U), some (.ref D), none, none, none, none, none] from rfl]
    walk_at "x"
    refine lcp_sel (walk_tup (K := K) (a := Vt) (xs := vs.map V.int)) [] (fun i => vs[i]?.bind (pickI fun x => (lo x).isNone)) (by rw [List.length_map]; omega) (fun H' k => .of (k _ _ (by simp) hV')) ?_ (by simp) ?_
    · rintro i x H1 H2 Rr R0 hi k1 ⟨rfl, hx⟩ h1 h2
      obtain ⟨y, hy, rfl⟩ := map_at hx
      have eD1 := k1 _ _ (by simp) eD
      refine w_name ⟨rfl, ?_⟩
      walk_at "g"
      rw [MapAt.in (vs := vs) d5 y]
      refine w_itNB (fun hb => ?_) (fun hb => ?_)
      · walk_at "g"
        exact h1 _ _ (sel_yes (p := fun x => (lo x).isNone) hy (by rw [Option.isNone_iff_eq_none]; simpa using hb)) Kp.refl
      · exact h2 _ (sel_no (p := fun x => (lo x).isNone) hy (fun z => by rw [Option.isNone_iff_eq_none] at z; rw [z] at hb; cases hb)) Kp.refl
    · intro Wy H1 hW k1' eW
      rw [List.length_map, range_fm, pickI_map] at eW
      have eW' : H1 Wy = some (.lst ((freeL vs lo).map V.int)) := eW
      have k1 := k1'.same
      have fll : (freeL vs lo).length ≤ vs.length := List.length_filter_le _ _
      walk_at "g"
      refine dcp_map (walk_list (K := K) (a := Wy) (xs := (freeL vs lo).map V.int)) [] ((freeL vs lo).map fun x => ((Sum.inl x : Key), V.bl true)) (by simp) (by rw [List.length_map]; omega) (fun H' k => .of (k _ _ (by simp) eW')) ?_ (by simp) ?_
      · rintro i x H2 H3 Rr hi k2 ⟨rfl, hx⟩ h1
        obtain ⟨y, hy, rfl⟩ := map_at hx
        refine w_name ⟨rfl, ?_⟩
        walk_at "g"
        exact h1 (Sum.inl y, .bl true) _ (by rw [List.getElem?_map, hy]; rfl) Kp.refl
      · intro Ld H2 hL k2' eL
        have k2 := k2'.same
        obtain ⟨Lk0, l1, l2, l3⟩ := merge_found (fun _ => V.bl true) (freeL vs lo) [] [] rfl List.nodup_nil
        walk_at "g"
        refine w_new fun Rd H3 hR eRd k3 => ?_
        have nWL : Wy ≠ Ld := ne_of_none eW hL
        have nWR : Wy ≠ Rd := ne_of_none (k2 _ _ eW) hR
        have nLR : Ld ≠ Rd := ne_of_none eL hR
        have k03 : Same H H3 := Same.trans k1 (Same.trans k2 k3)
        have fW : H Wy = none := hW
        have fL : H Ld = none := k1.free hL
        have fR : H Rd = none := k1.free (k2.free hR)
        have off : ∀ {b : Addr} {o : HO}, H b = some o → b ∉ [Wy, Ld, Rd] := fun {b o} e => by simp [ne_of_none e fW, ne_of_none e fL, ne_of_none e fR]
        have eW3 := k3 _ _ (k2 _ _ eW')
        walk_at "g"
        refine w_whileN (fun m σ H' => ∃ (Lk Rk ways : List Int) (y7 y8 : Option V), σ = [some (.ref Vt), some (.ref R), some (.ref U), some (.ref D), some (.ref Wy), some (.ref Ld), some (.ref Rd), y7, y8] ∧ m = ways.length + (vs.length - Lk.length) ∧ Apt vs ls up lo Lk Rk ways (fun _ => False) ∧ Kp [Wy, Ld, Rd] H3 H' ∧ FoundAt H' Ld Lk ∧ FoundAt H' Rd Rk ∧ H' Wy = some (.lst (ways.map V.int)) ∧ ways.length + (vs.length - Lk.length) ≤ 900) ((freeL vs lo).length + (vs.length - Lk0.length)) ?_ ?_
        · refine ⟨Lk0, [], freeL vs lo, _, _, rfl, rfl, ⟨l2, List.nodup_nil, fun x hx e => (l3 x).mpr (.inr (mem_freeL.mpr ⟨hx, e⟩)), fun x hx => ?_, by simp, fun x hx => (l3 x).mpr (.inr hx), fun x hx hn => ?_⟩, Kp.refl, ⟨⟨_, k3 _ _ eL, l1⟩, l2⟩, ⟨⟨[], eRd, rfl⟩, List.nodup_nil⟩, eW3, by omega⟩
          · rcases (l3 x).mp hx with h | h
            · cases h
            · exact ⟨(mem_freeL.mp h).1, .free (mem_freeL.mp h).1 (mem_freeL.mp h).2⟩
          · rcases (l3 x).mp hx with h | h
            · cases h
            · exact absurd h hn
        · rintro m σ H4 ⟨Lk, Rk, ways, y7, y8, rfl, rfl, ap, k4, FL, FR', e4, hm200⟩
          walk_at "g"
          rcases List.eq_nil_or_concat ways with rfl | ⟨rest, u, rfl⟩
          · obtain ⟨hLi, hRi⟩ := ap.end'
            obtain ⟨⟨lk, eL4, hlk⟩, _⟩ := FL
            obtain ⟨⟨rk, eR4, hrk⟩, _⟩ := FR'
            have eV4 := k4 _ _ (off hV') (k03 _ _ hV')
            refine (iteF ?_ : if false = true then _ else _)
            walk_at "g"
            refine lcp_sel (walk_tup (K := K) (a := Vt) (xs := vs.map V.int)) [] (fun i => vs[i]?.bind (pickI (apartB vs ls up lo))) (by rw [List.length_map]; omega) (fun H' k => .of (k _ _ (by simp) eV4)) ?_ (by simp) ?_
            · rintro i x H5 H6 Rr R0 hi k5 ⟨rfl, hx⟩ h1 h2
              obtain ⟨y, hy, rfl⟩ := map_at hx
              have eL5 := k5 _ _ (by simp) eL4
              have eR5 := k5 _ _ (by simp) eR4
              refine w_name ⟨rfl, ?_⟩
              walk_at "g"
              rw [val_keys hlk y]
              refine w_ite (fun hz => ?_) (fun hz => ?_)
              · walk_at "g"
                rw [val_keys hrk y]
                refine w_itN (fun hz2 => ?_) (fun hz2 => ?_)
                · walk_at "g"
                  exact h1 _ _ (sel_yes hy (apartB_iff.mpr ⟨(hLi y).mp hz, fun z => hz2 ((hRi y).mpr z)⟩)) Kp.refl
                · exact h2 _ (sel_no hy (fun z => (apartB_iff.mp z).2 ((hRi y).mp hz2))) Kp.refl
              · walk_at "g"
                exact h2 _ (sel_no hy (fun z => hz ((hLi y).mpr (apartB_iff.mp z).1))) Kp.refl
            · intro G H5 hG k5' eG
              rw [List.length_map, range_fm, pickI_map] at eG
              have eG' : H5 G = some (.lst ((apartL vs ls up lo).map V.int)) := eG
              walk_at "g"
              refine w_tupL (.of eG') fun p H6 hp ep k6 => ?_
              refine q H6 p (fun b o e => k6 _ _ (k5'.same _ _ (k4 _ _ (off e) (k03 _ _ e)))) ep (apart_is S M ap)
          · rw [List.concat_eq_append] at ap e4 hm200 ⊢
            rw [show (!((rest ++ [u]).map V.int).isEmpty) = true by simp]
            refine iteT (w_turn ?_)
            obtain ⟨ap1, huL⟩ := ap.pop
            have hum : u ∈ vs := (ap.lm u huL).1
            rw [List.map_append] at e4
            have e4' : H4 Wy = some (.lst (rest.map V.int ++ [.int u])) := e4
            walk_at "g"
            refine w_pop e4' fun H5 e5 o5 => ?_
            obtain ⟨a, ys, v1, v2, v3, _⟩ := rv u hum
            have k5 : Kp [Wy, Ld, Rd] H3 H5 := k4.trans (o5.kp (by simp))
            have eR5 := k5 _ _ (off eR) (k03 _ _ eR)
            have v2' := k5 _ _ (off v2) (k03 _ _ v2)
            walk_at "g"
            refine w_slL (.of v2') fun Z H6 hZ eZ k6 => ?_
            rw [cut_last, ← List.map_dropLast] at eZ
            have k6' : Kp [Wy, Ld, Rd] H3 H6 := k5.trans (Kp.of k6)
            obtain ⟨⟨lk, eL4, hlk⟩, nL4⟩ := FL
            obtain ⟨⟨rk, eR4, hrk⟩, nR4⟩ := FR'
            have eL5 := o5.get nWL.symm eL4
            have eRd5 := o5.get nWR.symm eR4
            have nZ : Z ∉ [Wy, Ld, Rd] := by simp [(ne_of_none e5 hZ).symm, (ne_of_none eL5 hZ).symm, (ne_of_none eRd5 hZ).symm]
            have rl : rest.length + 1 + (vs.length - Lk.length) ≤ 900 := by
              rw [List.length_append] at hm200
              simpa using hm200
            walk_at "g"
            refine lp_list (xs := ys.dropLast.map V.int) (fun i σ H' => ∃ (Lk' Rk' ways' : List Int) (y8 : Option V), σ = [some (.ref Vt), some (.ref R), some (.ref U), some (.ref D), some (.ref Wy), some (.ref Ld), some (.ref Rd), some (.int u), y8] ∧ ways'.length + (vs.length - Lk'.length) ≤ rest.length + (vs.length - Lk.length) ∧ Apt vs ls up lo Lk' Rk' ways' (fun w => w = u) ∧ u ∈ Lk' ∧ (∀ l ∈ ys.dropLast.take i, l ∈ Rk') ∧ Kp [Wy, Ld, Rd] H6 H' ∧ FoundAt H' Ld Lk' ∧ FoundAt H' Rd Rk' ∧ H' Wy = some (.lst (ways'.map V.int))) ?_ ?_ ?_ ?_
            · exact ⟨Lk, Rk, rest, _, rfl, Nat.le_refl _, ap1, huL, by simp, Kp.refl, ⟨⟨lk, k6 _ _ eL5, hlk⟩, nL4⟩, ⟨⟨rk, k6 _ _ eRd5, hrk⟩, nR4⟩, k6 _ _ e5⟩
            · rintro i σ H' _ ⟨_, _, _, _, _, _, _, _, _, k7, _⟩
              exact .of (k7 _ _ nZ eZ)
            · rintro i x σ H7 hx ⟨Lk', Rk', ways', y8, rfl, hm, ap', huL', hdone, k7, ⟨⟨lk7, eL7, hlk7⟩, nL7⟩, ⟨⟨rk7, eR7, hrk7⟩, nR7⟩, e7⟩
              obtain ⟨low, hlow, rfl⟩ := map_at hx
              have hsb : SB ls u low := (row_drop S v3 low).mp (List.mem_of_getElem? hlow)
              have hlv : low ∈ vs := hsb.1.mem S hum
              have k37 : Kp [Wy, Ld, Rd] H3 H7 := k6'.trans k7
              have eU7 := k37 _ _ (off eU) (k03 _ _ eU)
              obtain ⟨w', ew⟩ := Fu.some (ap'.lm u huL').2 hsb
              have evw : valV uk (Sum.inl low) = some (.int w') := by rw [u5, ew]; rfl
              have lR : rk7.length < sizeLine := small1000 (by have := MapAt.len (p := Rd) (vs := vs) hrk7 nR7 (fun x hx => (ap'.rm x hx).1); omega)
              have lL : lk7.length < sizeLine := small1000 (by have := MapAt.len (p := Ld) (vs := vs) hlk7 nL7 (fun x hx => (ap'.lm x hx).1); omega)
              have lLk : Lk'.length ≤ vs.length := nodup_le _ _ ap'.nl fun x hx => (ap'.lm x hx).1
              have tk : ∀ l ∈ ys.dropLast.take (i + 1), l ∈ ys.dropLast.take i ∨ l = low := fun l hl' => by
                rw [List.take_add_one, hlow] at hl'
                simpa using hl'
              walk_at "g"
              rw [val_keys hrk7 low]
              refine w_itN (fun hc => ?_) (fun hc => ?_)
              · walk_at "g"
                refine w_dputI eR7 lR fun H8 e8 o8 => ?_
                have eL8 := o8.get nLR eL7
                have eU8 := o8.get (ne_of_none eU fR) eU7
                have e7' := o8.get nWR e7
                walk_at "g"
                rw [val_keys hlk7 w']
                refine w_itN (fun hd => ?_) (fun hd => ?_)
                · walk_at "g"
                  refine w_dputI eL8 lL fun H9 e9 o9 => ?_
                  have eU9 := o9.get (ne_of_none eU fL) eU8
                  have e9' := o9.get nWL e7'
                  walk_at "g"
                  refine w_app e9' (by rw [List.length_map]; exact small1000 (by omega)) fun H10 e10 o10 => ?_
                  have ap10 := ap'.add M huL' hc hsb hlv ew (.inl rfl)
                  have la : (addK Lk' w').length = Lk'.length + 1 := by
                    unfold addK
                    rw [if_neg hd]
                    simp
                  have lb : (addK Lk' w').length ≤ vs.length := nodup_le _ _ ap10.nl fun x hx => (ap10.lm x hx).1
                  refine ⟨addK Lk' w', addK Rk' low, ways' ++ [w'], _, rfl, ?_, ap10, mem_addK.mpr (.inl huL'), fun l hl' => ?_, k7.trans ((o8.kp (by simp)).trans ((o9.kp (by simp)).trans (o10.kp (by simp)))), FoundAt.put hlk7 nL7 (o10.get nWL.symm e9), FoundAt.put hrk7 nR7 (o10.get nWR.symm (o9.get nLR.symm e8)), by rw [e10, List.map_append]; rfl⟩
                  · rw [List.length_append, la]
                    simp only [List.length_cons, List.length_nil]
                    omega
                  · rcases tk l hl' with h | h
                    · exact mem_addK.mpr (.inl (hdone l h))
                    · exact mem_addK.mpr (.inr h)
                · walk_at "g"
                  have ap10 := ap'.add (ways' := ways') M huL' hc hsb hlv ew (.inr ⟨hd, rfl⟩)
                  have la : addK Lk' w' = Lk' := if_pos hd
                  rw [la] at ap10
                  refine ⟨Lk', addK Rk' low, ways', _, rfl, hm, ap10, huL', fun l hl' => ?_, k7.trans (o8.kp (by simp)), ⟨⟨lk7, eL8, hlk7⟩, nL7⟩, FoundAt.put hrk7 nR7 e8, e7'⟩
                  rcases tk l hl' with h | h
                  · exact mem_addK.mpr (.inl (hdone l h))
                  · exact mem_addK.mpr (.inr h)
              · walk_at "g"
                refine ⟨Lk', Rk', ways', _, rfl, hm, ap', huL', fun l hl' => ?_, k7, ⟨⟨lk7, eL7, hlk7⟩, nL7⟩, ⟨⟨rk7, eR7, hrk7⟩, nR7⟩, e7⟩
                rcases tk l hl' with h | h
                · exact hdone l h
                · rw [h]; exact hc
            · rintro σ H7 ⟨Lk', Rk', ways', y8, rfl, hm, ap', huL', hdone, k7, FL7, FR7, e7⟩
              rw [List.length_map, List.take_length] at hdone
              refine ⟨ways'.length + (vs.length - Lk'.length), ?_, Lk', Rk', ways', _, _, rfl, rfl, ap'.done fun l hl' => hdone l ((row_drop S v3 l).mpr hl'), k6'.trans k7, FL7, FR7, e7, by omega⟩
              rw [List.length_append]
              simp only [List.length_cons, List.length_nil]
              omega
end
/-! ### chains -/
inductive Path (up : Int → Option Int) : Int → List Int → Prop where
  | stop {v : Int} (e : up v = none) : Path up v [v]
  | step {v u : Int} {c : List Int} (e : up v = some u) (p : Path up u c) : Path up v (v :: c)
theorem Path.det {up : Int → Option Int} {v : Int} {c d : List Int} (a : Path up v c) (b : Path up v d) : c = d := by
  induction a generalizing d with
  | stop e =>
    cases b with
    | stop _ => rfl
    | step e2 _ => rw [e] at e2; cases e2
  | step e p ih =>
    cases b with
    | stop e2 => rw [e] at e2; cases e2
    | step e2 p2 =>
      rw [e] at e2
      cases e2
      rw [ih p2]
theorem Path.head {up : Int → Option Int} {v : Int} {c : List Int} (a : Path up v c) : ∃ r, c = v :: r := by
  cases a with
  | stop _ => exact ⟨[], rfl⟩
  | step _ _ => exact ⟨_, rfl⟩
theorem Path.in {vs : List Int} {ls : List (Int × Int)} {up lo : Int → Option Int} (M : Mt vs ls up lo) {v : Int} {c : List Int} (a : Path up v c) (hv : v ∈ vs) : ∀ x ∈ c, x ∈ vs := by
  induction a with
  | @stop v e =>
    intro x hx
    have : x = v := by simpa using hx
    rw [this]
    exact hv
  | step e p ih =>
    intro x hx
    rcases List.mem_cons.mp hx with rfl | h
    · exact hv
    · exact ih (M.ok _ _ e).2.1 x h
theorem Path.rise {vs : List Int} {ls : List (Int × Int)} {up lo : Int → Option Int} (S : ShOk vs ls) (M : Mt vs ls up lo) {v : Int} {c : List Int} (a : Path up v c) : c.Pairwise (· < ·) ∧ ∀ x ∈ c, v ≤ x := by
  induction a with
  | stop _ => exact ⟨by simp, fun x hx => by simp at hx; omega⟩
  | step e p ih =>
    have lt := (M.ok _ _ e).2.2.lt S
    refine ⟨List.pairwise_cons.mpr ⟨fun x hx => ?_, ih.1⟩, fun x hx => ?_⟩
    · have := ih.2 x hx
      omega
    · rcases List.mem_cons.mp hx with h | h
      · omega
      · have := ih.2 x h
        omega
theorem Path.link {up : Int → Option Int} {v : Int} {c : List Int} (a : Path up v c) : ∀ (i : Nat) (x y : Int), c[i]? = some x → c[i + 1]? = some y → up x = some y := by
  induction a with
  | stop _ => intro i x y _ h; simp at h
  | @step v u c e p ih =>
    intro i x y h1 h2
    cases i with
    | zero =>
      obtain ⟨r, hr⟩ := p.head
      have z1 : v = x := by simpa using h1
      rw [hr] at h2
      have z2 : u = y := by simpa using h2
      rw [← z1, ← z2]
      exact e
    | succ i =>
      exact ih i x y (by simpa using h1) (by simpa using h2)
theorem Path.succ {up : Int → Option Int} {v : Int} {c : List Int} (a : Path up v c) {y x : Int} (hy : y ∈ c) (e : up y = some x) : x ∈ c := by
  induction a with
  | @stop v e2 =>
    have : y = v := by simpa using hy
    rw [this, e2] at e
    cases e
  | step e2 p ih =>
    rcases List.mem_cons.mp hy with rfl | h
    · rw [e2] at e
      cases e
      obtain ⟨r, hr⟩ := p.head
      rw [hr]
      simp
    · exact List.mem_cons_of_mem _ (ih h)
theorem Path.pred {up : Int → Option Int} {v : Int} {c : List Int} (a : Path up v c) {x : Int} (hx : x ∈ c) : x = v ∨ ∃ y ∈ c, up y = some x := by
  induction a with
  | stop _ => exact .inl (by simpa using hx)
  | @step v u c e p ih =>
    rcases List.mem_cons.mp hx with h | h
    · exact .inl h
    · rcases ih h with h | ⟨y, hy, e2⟩
      · exact .inr ⟨v, by simp, by rw [h]; exact e⟩
      · exact .inr ⟨y, List.mem_cons_of_mem _ hy, e2⟩
theorem Path.uniq {vs : List Int} {ls : List (Int × Int)} {up lo : Int → Option Int} (S : ShOk vs ls) (M : Mt vs ls up lo) {r1 r2 : Int} {c1 c2 : List Int} (a : Path up r1 c1) (b : Path up r2 c2) (h1 : lo r1 = none) (h2 : lo r2 = none) : ∀ (n : Nat) (x : Int), x.toNat ≤ n → x ∈ vs → x ∈ c1 → x ∈ c2 → r1 = r2 := by
  intro n
  induction n with
  | zero =>
    intro x hn hv m1 m2
    rcases a.pred m1 with rfl | ⟨y, hy, e⟩
    · rcases b.pred m2 with h | ⟨z, _, e2⟩
      · exact h
      · rw [(M.iff _ _).mp e2] at h1; cases h1
    · have g := M.ok _ _ e
      have := g.2.2.lt S
      have := S.v0 _ g.1
      omega
  | succ n ih =>
    intro x hn hv m1 m2
    rcases a.pred m1 with rfl | ⟨y, hy, e⟩
    · rcases b.pred m2 with h | ⟨z, _, e2⟩
      · exact h
      · rw [(M.iff _ _).mp e2] at h1; cases h1
    · rcases b.pred m2 with rfl | ⟨z, hz, e2⟩
      · rw [(M.iff _ _).mp e] at h2; cases h2
      · have g1 := (M.iff _ _).mp e
        have g2 := (M.iff _ _).mp e2
        rw [g1] at g2
        cases g2
        have g := M.ok _ _ e
        have := g.2.2.lt S
        have := S.v0 _ g.1
        exact ih y (by omega) g.1 hy hz
theorem Path.root {vs : List Int} {ls : List (Int × Int)} {up lo : Int → Option Int} (S : ShOk vs ls) (M : Mt vs ls up lo) : ∀ (n : Nat) (x : Int), x.toNat ≤ n → x ∈ vs → ∃ r ∈ freeL vs lo, ∀ c, Path up r c → x ∈ c := by
  intro n
  induction n with
  | zero =>
    intro x hn hv
    cases e : lo x with
    | none => exact ⟨x, mem_freeL.mpr ⟨hv, e⟩, fun c p => by obtain ⟨r, rfl⟩ := p.head; simp⟩
    | some y =>
      have g := M.ok _ _ ((M.iff y x).mpr e)
      have := g.2.2.lt S
      have := S.v0 _ g.1
      omega
  | succ n ih =>
    intro x hn hv
    cases e : lo x with
    | none => exact ⟨x, mem_freeL.mpr ⟨hv, e⟩, fun c p => by obtain ⟨r, rfl⟩ := p.head; simp⟩
    | some y =>
      have e2 := (M.iff y x).mpr e
      have g := M.ok _ _ e2
      have := g.2.2.lt S
      have := S.v0 _ g.1
      obtain ⟨r, hr, h⟩ := ih y (by omega) g.1
      exact ⟨r, hr, fun c p => p.succ (h c p) e2⟩
/-- a cover, as the law looks at it -/
structure IsCov (vs : List Int) (ls : List (Int × Int)) (qs : List (Int × List Int)) (aps : List Int) : Prop where
  hd : ∀ q ∈ qs, ∃ r, q.2 = q.1 :: r
  rise : ∀ q ∈ qs, q.2.Pairwise (· < ·)
  link : ∀ q ∈ qs, ∀ (i : Nat) (a b : Int), q.2[i]? = some a → q.2[i + 1]? = some b → Bel ls b a
  first : (qs.map (·.1)).Pairwise (· < ·)
  nd : (qs.map (·.2)).flatten.Nodup
  mem : ∀ x, x ∈ (qs.map (·.2)).flatten ↔ x ∈ vs
  ar : aps.Pairwise (· < ·)
  am : ∀ x ∈ aps, x ∈ vs
  anti : ∀ a ∈ aps, ∀ b ∈ aps, a ≠ b → ¬ Bel ls a b
  al : aps.length = qs.length
/-- what cover tells: one thing alone -/
def CovR (vs : List Int) (ls : List (Int × Int)) (qs : List (Int × List Int)) (aps : List Int) : Prop := ∃ up lo, FR (lowsF ls) vs.reverse (fun _ => none) (fun _ => none) up lo ∧ Mt vs ls up lo ∧ qs.map (·.1) = freeL vs lo ∧ (∀ q ∈ qs, Path up q.1 q.2) ∧ aps = apartL vs ls up lo ∧ IsApart vs ls lo aps
theorem paths_det {up : Int → Option Int} : ∀ (qs rs : List (Int × List Int)), qs.map (·.1) = rs.map (·.1) → (∀ q ∈ qs, Path up q.1 q.2) → (∀ q ∈ rs, Path up q.1 q.2) → qs = rs
  | [], [], _, _, _ => rfl
  | [], _ :: _, h, _, _ => by simp at h
  | _ :: _, [], h, _, _ => by simp at h
  | ⟨a, c⟩ :: qs, ⟨b, d⟩ :: rs, h, h1, h2 => by
    rw [List.map_cons, List.map_cons, List.cons.injEq] at h
    obtain ⟨e, h⟩ := h
    have e' : a = b := e
    subst e'
    have p1 := h1 (a, c) (by simp)
    have p2 := h2 (a, d) (by simp)
    have e3 : c = d := p1.det p2
    subst e3
    rw [paths_det qs rs h (fun q hq => h1 q (List.mem_cons_of_mem _ hq)) (fun q hq => h2 q (List.mem_cons_of_mem _ hq))]
theorem CovR.det {vs : List Int} {ls : List (Int × Int)} {qs rs : List (Int × List Int)} {aps bps : List Int} (a : CovR vs ls qs aps) (b : CovR vs ls rs bps) : qs = rs ∧ aps = bps := by
  obtain ⟨up, lo, f, m, e1, p, e2, _⟩ := a
  obtain ⟨up', lo', f', m', e1', p', e2', _⟩ := b
  obtain ⟨rfl, rfl⟩ := f.det f'
  exact ⟨paths_det qs rs (e1.trans e1'.symm) p p', e2.trans e2'.symm⟩
theorem CovR.is {vs : List Int} {ls : List (Int × Int)} {qs : List (Int × List Int)} {aps : List Int} (S : ShOk vs ls) (a : CovR vs ls qs aps) : IsCov vs ls qs aps := by
  obtain ⟨up, lo, f, M, e1, p, _, A⟩ := a
  have fr : ∀ q ∈ qs, q.1 ∈ vs ∧ lo q.1 = none := fun q hq => mem_freeL.mp (by rw [← e1]; exact List.mem_map_of_mem hq)
  have first : (qs.map (·.1)).Pairwise (· < ·) := by
    rw [e1]
    exact S.vr.filter _
  refine ⟨fun q hq => (p q hq).head, fun q hq => ((p q hq).rise S M).1, fun q hq i a b h1 h2 => (M.ok _ _ ((p q hq).link i a b h1 h2)).2.2.1, first, ?_, fun x => ?_, A.rise, A.mem, A.anti, ?_⟩
  · unfold List.Nodup
    rw [List.pairwise_flatten]
    refine ⟨fun c hc => ?_, ?_⟩
    · obtain ⟨q, hq, rfl⟩ := List.mem_map.mp hc
      exact rise_nodup ((p q hq).rise S M).1
    · rw [List.pairwise_map]
      rw [List.pairwise_map] at first
      refine List.Pairwise.imp_of_mem (fun {q r} hq hr hlt x hx y hy z => ?_) first
      subst z
      have := (p q hq).uniq S M (p r hr) (fr q hq).2 (fr r hr).2 x.toNat x (Nat.le_refl _) ((p q hq).in M (fr q hq).1 x hx) hx hy
      omega
  · rw [List.mem_flatten]
    constructor
    · rintro ⟨c, hc, hx⟩
      obtain ⟨q, hq, rfl⟩ := List.mem_map.mp hc
      exact (p q hq).in M (fr q hq).1 x hx
    · intro hx
      obtain ⟨r, hr, h⟩ := Path.root S M x.toNat x (Nat.le_refl _) hx
      rw [← e1] at hr
      obtain ⟨q, hq, rfl⟩ := List.mem_map.mp hr
      exact ⟨q.2, List.mem_map_of_mem hq, h q.2 (p q hq)⟩
  · rw [A.len, ← e1, List.length_map]
def spCover : Sp := fun as H Q _ => ∃ (t : Addr) (ns : List Int) (ps : List (Addr × Int × Int)), as = [.ref t] ∧ ShAt H t ns ps ∧ ShOk ns (ps.map (·.2)) ∧ ns.length < 420 ∧ ps.length ≤ 100000 ∧
  ∀ H' p a b (css : List (Addr × Int × List Int)) aps, Same H H' → H p = none → H' p = some (.tup [.ref a, .ref b]) → H' a = some (.tup (css.map fun q => .ref q.1)) → (∀ q ∈ css, H' q.1 = some (.tup (q.2.2.map V.int))) → VL H' b aps → CovR ns (ps.map (·.2)) (css.map (·.2)) aps → Q (.ref p) H'
section
variable {P : Program} {w : World} {K : PySem.W.Frag} {mg : Str → Option Value} {base : Heap}
theorem ok_cover {f fS fG fP fA : Addr} {fd fdS fdG fdP fdA : FuncData} (T : Txt K mg) (F : Fun K "cover" "cover" s_cover f fd) (D_spans : Df K mg "spans" s_spans ["shape"] fS fdS) (D_give_way : Df K mg "give_way" s_give_way ["low", "came", "uppers", "lowers"] fG fdG)
    (D_pair_up : Df K mg "pair_up" s_pair_up ["version", "rows", "uppers", "lowers"] fP fdP) (D_apart_of : Df K mg "apart_of" s_apart_of ["versions", "rows", "uppers", "lowers"] fA fdA) : FnOk P w K mg base CX0 3 f fd ["shape"] spCover := by
  have G_spans : FnOk P w K mg base CX0 1 fS fdS ["shape"] spSpans := ok_spans T D_spans.fn
  have G_pair_up : FnOk P w K mg base CX0 2 fP fdP ["version", "rows", "uppers", "lowers"] spPair := ok_pair T D_pair_up.fn D_give_way
  have G_apart_of : FnOk P w K mg base CX0 1 fA fdA ["versions", "rows", "uppers", "lowers"] spApart := ok_apart T D_apart_of.fn
  refine F.ok sc_cover (fun vs H Q E h => ?_) (fun cdv A outer s H vs Q E hr h => ?_)
  · obtain ⟨t, ns, ps, rfl, _⟩ := h
    rfl
  · obtain ⟨t, ns, ps, rfl, hS, S, hl, hl2, q⟩ := h
    have hu := hu_of hr
    obtain ⟨Vt, Lt, et, ev, _⟩ := id hS
    have ev' : H Vt = some (.tup (ns.map V.int)) := ev
    refine ⟨_,
      (pss_cons
        (ps_set (i := 1) sc_cover.nd rfl (.inl rfl) (pe_ix (r := rIxT K) ix_tup (pv 0) pe_int (fun _ _ => rfl)))
      (pss_cons
        (ps_set (i := 2) sc_cover.nd rfl (.inl rfl) (pe_call G_spans (hr.mono (by omega)) (by rfl) D_spans.g D_spans.fn.kp D_spans.b .nil pass0 (pa_cons (pv 0) pa_nil)))
      (pss_cons
        (ps_set (i := 3) sc_cover.nd rfl (.inl rfl) pe_dnewK)
      (pss_cons
        (ps_set (i := 4) sc_cover.nd rfl (.inl rfl) pe_dnewK)
      (pss_cons
        (ps_for PassesOwn.never rfl (pi_tup (pv 1)) (pg_name (i := 5) sc_cover.nd rfl (.inl rfl))
          (pss_one
            (ps_expr (pe_call G_pair_up (hr.mono (by omega)) (by rfl) D_pair_up.g D_pair_up.fn.kp D_pair_up.b .nil pass0 (pa_cons (pv 5) (pa_cons (pv 2) (pa_cons (pv 3) (pa_cons (pv 4) pa_nil))))))))
      (pss_cons
        (ps_set (i := 6) sc_cover.nd rfl (.inl rfl) (pe_lst pa_nil))
      (pss_cons
        (ps_for PassesOwn.never rfl (pi_tup (pv 1)) (pg_name (i := 5) sc_cover.nd rfl (.inl rfl))
          (pss_one
            (ps_if (pt_cmp (pc_dnotin hu (pv 5) (pv 4)))
              (pss_cons
                (ps_set (i := 7) sc_cover.nd rfl (.inl rfl) (pe_lst (pa_cons (pv 5) pa_nil)))
              (pss_cons
                (ps_while PassesOwn.never (pt_cmp (pc_din hu (pe_ix (r := rIxL K) ix_list (pv 7) (pe_un un_neg pe_int) (fun _ _ => rfl)) (pv 3)))
                  (pss_one
                    (ps_expr (pe_bm PySem.F.plainAttrs_list PySem.F.slot_list_append PySem.F.type_list_append mt_append (pv 7) (pa_cons (pe_dget hu (pv 3) (pe_ix (r := rIxL K) ix_list (pv 7) (pe_un un_neg pe_int) (fun _ _ => rfl)) (fun _ _ => rfl)) pa_nil)))))
              (pss_one
                (ps_expr (pe_bm PySem.F.plainAttrs_list PySem.F.slot_list_append PySem.F.type_list_append mt_append (pv 6) (pa_cons (pe_callTy (r := rTupOf K) c_tupOf (by rfl) T.n_tuple (by decide +kernel) (pa_cons (pv 7) pa_nil)) pa_nil))))))
              pss_nil)))
      (pss_one
        (ps_ret (pe_tup (pa_cons (pe_callTy (r := rTupOf K) c_tupOf (by rfl) T.n_tuple (by decide +kernel) (pa_cons (pv 6) pa_nil)) (pa_cons (pe_call G_apart_of (hr.mono (by omega)) (by rfl) D_apart_of.g D_apart_of.fn.kp D_apart_of.b .nil pass0 (pa_cons (pv 1) (pa_cons (pv 2) (pa_cons (pv 3) (pa_cons (pv 4) pa_nil))))) pa_nil))))))))))))
      , ?_⟩
    rw [show L2.start N_cover [V.ref t] = [some (.ref t), none, none, none, none, none, none, none] from rfl]
    walk_at "x"
    refine ⟨t, ns, ps, rfl, hS, S, hl, hl2, fun H1 R k1 hR RA => ?_⟩
    obtain ⟨kvs, eR, hks, _, rv0⟩ := RA
    walk_at "g"
    refine w_new fun U H2 hU eU k2 => ?_
    walk_at "g"
    refine w_new fun D H3 hD eD k3 => ?_
    have nUD : U ≠ D := ne_of_none eU hD
    have k13 : Same H1 H3 := Same.trans k2 k3
    have k03 : Same H H3 := Same.trans k1 k13
    have fD1 : H1 D = none := k2.free hD
    have nRU : R ≠ U := ne_of_none eR hU
    have nRD : R ≠ D := ne_of_none eR fD1
    have rv3 : RowsV [U, D] H3 kvs (ps.map (·.2)) ns := fun v hv => by
      obtain ⟨a, ys, v1, v2, v3, _⟩ := rv0 v hv
      exact ⟨a, ys, v1, k13 _ _ v2, v3, by simp [ne_of_none v2 hU, ne_of_none v2 fD1]⟩
    have fU : H U = none := k1.free hU
    have fD : H D = none := k1.free fD1
    have ev3 := k03 _ _ ev'
    have nV : Vt ∉ [U, D] := by simp [ne_of_none ev' fU, ne_of_none ev' fD]
    walk_at "g"
    refine lp_tup (xs := ns.map V.int) (fun i σ H' => ∃ (y5 : Option V) (up lo : Int → Option Int), σ = [some (.ref t), some (.ref Vt), some (.ref R), some (.ref U), some (.ref D), y5, none, none] ∧ Kp [U, D] H3 H' ∧ MapAt H' U ns up ∧ MapAt H' D ns lo ∧ FR (lowsF (ps.map (·.2))) (ns.take i).reverse (fun _ => none) (fun _ => none) up lo ∧ Mt ns (ps.map (·.2)) up lo ∧ (∀ x, (lo x).isSome = true → x ∈ ns.take i) ∧ ∀ x ∈ ns.take i, (lo x).isSome = true ∨ ∃ L R, Cl (ps.map (·.2)) up L R ∧ L x) ?_ ?_ ?_ ?_
    · exact ⟨_, fun _ => none, fun _ => none, rfl, Kp.refl, ⟨[], [], k3 _ _ eU, rfl, List.nodup_nil, by simp, fun _ => rfl⟩, ⟨[], [], eD, rfl, List.nodup_nil, by simp, fun _ => rfl⟩, .nil, ⟨fun l u => ⟨(fun z => nomatch z), (fun z => nomatch z)⟩, (fun l u z => nomatch z)⟩, (fun x z => nomatch z), by simp⟩
    · rintro i σ H' _ ⟨_, _, _, _, k4, _⟩
      exact .of (k4 _ _ nV ev3)
    · rintro i y σ H4 hy ⟨y5, up, lo, rfl, k4, mU, mD, fr, M, dm, full⟩
      obtain ⟨v, hv, rfl⟩ := map_at hy
      have hvn := List.mem_of_getElem? hv
      have eR4 := k4 _ _ (by simp [nRU, nRD]) (k13 _ _ eR)
      have rv4 : RowsV [] H4 kvs (ps.map (·.2)) ns := fun x hx => by
        obtain ⟨a, ys, v1, v2, v3, v4⟩ := rv3 x hx
        exact ⟨a, ys, v1, k4 _ _ v4 v2, v3, by simp⟩
      have free : lo v = none := by
        cases e : lo v with
        | none => rfl
        | some z =>
          have := take_lt S.vr hv (dm v (by rw [e]; rfl))
          omega
      walk_at "g"
      refine ⟨v, R, U, D, kvs, ns, _, up, lo, rfl, nUD, eR4, nRU, nRD, rv4, mU, mD, S, hl, M, free, hvn, fun H5 up' lo' k5 mU5 mD5 pd pr => ?_⟩
      have tk : ns.take (i + 1) = ns.take i ++ [v] := by rw [List.take_add_one, hv]; rfl
      refine ⟨_, up', lo', rfl, k4.trans k5, mU5, mD5, ?_, pd.m, fun x hx => ?_, fun x hx => ?_⟩
      · rw [tk, List.reverse_append]
        exact .snoc fr pr
      · rw [tk]
        rcases pd.d1 x hx with h | h
        · exact List.mem_append_left _ (dm x h)
        · exact List.mem_append_right _ (by simp [h])
      · rw [tk] at hx
        rcases List.mem_append.mp hx with h | h
        · rcases full x h with h | ⟨L, R', c, hL⟩
          · exact .inl (pd.d2 x h)
          · exact .inr ⟨L, R', pd.cl L R' c, hL⟩
        · have e : x = v := by simpa using h
          subst e
          exact pd.hit
    · rintro σ H4 ⟨y5, up, lo, rfl, k4, mU, mD, fr, M, dm, full⟩
      rw [List.length_map, List.take_length] at fr dm full
      obtain ⟨uk, uks, eU4, u2, u3, u4, u5⟩ := id mU
      obtain ⟨dk, dks, eD4, d2, d3, d4, d5⟩ := id mD
      have ev4 := k4 _ _ nV ev3
      have eR4 := k4 _ _ (by simp [nRU, nRD]) (k13 _ _ eR)
      have rv4 : RowsV [] H4 kvs (ps.map (·.2)) ns := fun x hx => by
        obtain ⟨a, ys, v1, v2, v3, v4⟩ := rv3 x hx
        exact ⟨a, ys, v1, k4 _ _ v4 v2, v3, by simp⟩
      have kH4 : Same H H4 := fun b o e => k4 _ _ (by simp [ne_of_none e fU, ne_of_none e fD]) (k03 _ _ e)
      walk_at "g"
      refine w_new fun Ch H5 hCh eCh k5 => ?_
      have ev5 := k5 _ _ ev4
      walk_at "g"
      refine lp_tup (xs := ns.map V.int) (fun i σ H' => ∃ (y5 y7 : Option V) (css : List (Addr × Int × List Int)), σ = [some (.ref t), some (.ref Vt), some (.ref R), some (.ref U), some (.ref D), y5, some (.ref Ch), y7] ∧ Same H4 H' ∧ css.length ≤ i ∧ H' Ch = some (.lst (css.map fun q => .ref q.1)) ∧ (∀ q ∈ css, H' q.1 = some (.tup (q.2.2.map V.int))) ∧ css.map (·.2.1) = freeL (ns.take i) lo ∧ ∀ q ∈ css, Path up q.2.1 q.2.2) ?_ ?_ ?_ ?_
      · exact ⟨_, _, [], rfl, k5, Nat.le_refl _, eCh, by simp, rfl, by simp⟩
      · rintro i σ H' _ ⟨_, _, _, _, k6, _⟩
        exact .of (k6 _ _ ev4)
      · rintro i y σ H6 hy ⟨y5, y7, css, rfl, k6, hcl, e6, hce, hcf, hcp⟩
        obtain ⟨v, hv, rfl⟩ := map_at hy
        have hvn := List.mem_of_getElem? hv
        have hi : i < ns.length := (List.getElem?_eq_some_iff.mp hv).1
        have tk : freeL (ns.take (i + 1)) lo = if (lo v).isNone = true then freeL (ns.take i) lo ++ [v] else freeL (ns.take i) lo := by
          unfold freeL
          rw [List.take_add_one, hv, List.filter_append]
          by_cases e : (lo v).isNone = true
          · rw [if_pos e]; simp [e]
          · rw [if_neg e]; simp [e]
        have eD6 := k6 _ _ eD4
        walk_at "g"
        rw [MapAt.in (vs := ns) d5 v]
        refine w_itNB (fun hb => ?_) (fun hb => ?_)
        · have isn : (lo v).isNone = true := by rw [Option.isNone_iff_eq_none]; simpa using hb
          rw [if_pos isn] at tk
          walk_at "g"
          refine w_new fun Cn H7 hCn eCn k7 => ?_
          have k47 : Same H4 H7 := Same.trans k6 k7
          have fCn : H4 Cn = none := k6.free hCn
          have nChCn : Ch ≠ Cn := ne_of_none e6 hCn
          refine w_seq ?_
          refine w_whileN (fun m σ H' => ∃ (pre : List Int) (z : Int), σ = [some (.ref t), some (.ref Vt), some (.ref R), some (.ref U), some (.ref D), some (.int v), some (.ref Ch), some (.ref Cn)] ∧ m = ns.length - pre.length ∧ Kp [Cn] H7 H' ∧ H' Cn = some (.lst ((pre ++ [z]).map V.int)) ∧ (∀ x ∈ pre ++ [z], x ∈ ns ∧ x ≤ z) ∧ (pre ++ [z]).Nodup ∧ ∀ c, Path up z c → Path up v (pre ++ c)) ns.length ⟨[], v, rfl, rfl, Kp.refl, eCn, by simp [hvn], by simp, fun c p => p⟩ ?_
          rintro m σ H8 ⟨pre, z, rfl, rfl, k8, e8, hz, hnd, hp⟩
          have k48 : Same H4 H8 := fun b o e => k8 _ _ (by simpa using ne_of_none e fCn) (k47 _ _ e)
          have eU8 := k48 _ _ eU4
          have hlast : atI ((pre ++ [z]).map V.int) (-1) = some (.int z) := by
            rw [List.map_append]
            exact atI_last _ _
          have hplen : pre.length + 1 ≤ ns.length := by
            have := nodup_le _ ns hnd fun x hx => (hz x hx).1
            simpa using this
          walk_at "g"
          rw [MapAt.in (vs := ns) u5 z]
          refine w_itB (fun hc => w_turn ?_) (fun hc => ?_)
          · obtain ⟨u, eu⟩ := Option.isSome_iff_exists.mp hc
            have evu : valV uk (Sum.inl z) = some (.int u) := by rw [u5, eu]; rfl
            have g := M.ok _ _ eu
            have lt := g.2.2.lt S
            walk_at "g"
            refine w_app e8 (by rw [List.length_map, List.length_append]; exact small1000 (by simp; omega)) fun H9 e9 o9 => ?_
            refine ⟨ns.length - (pre ++ [z]).length, by rw [List.length_append]; simp; omega, pre ++ [z], u, rfl, rfl, k8.trans (o9.kp (by simp)), by rw [e9, List.map_append (l₂ := [u])]; rfl, fun x hx => ?_, ?_, fun c p => by rw [List.append_assoc]; exact hp _ (.step eu p)⟩
            · rcases List.mem_append.mp hx with h | h
              · have := hz x h
                exact ⟨this.1, by omega⟩
              · have e : x = u := by simpa using h
                subst e
                exact ⟨g.2.1, by omega⟩
            · refine List.nodup_append.mpr ⟨hnd, by simp, fun x hx y hy e => ?_⟩
              have e2 : y = u := by simpa using hy
              have := (hz x hx).2
              omega
          · have hnone : up z = none := by simpa using hc
            have hpath : Path up v (pre ++ [z]) := hp _ (.stop hnone)
            have e6' : H8 Ch = some (.lst (css.map fun q => .ref q.1)) := k8 _ _ (by simpa using nChCn) (k7 _ _ e6)
            walk_at "g"
            refine w_tupL (.of e8) fun p H9 hp9 ep9 k9 => ?_
            have e9 := k9 _ _ e6'
            walk_at "g"
            refine w_app e9 (by rw [List.length_map]; exact small1000 (by omega)) fun H10 e10 o10 => ?_
            have fCh : H4 Ch = none := hCh
            refine ⟨_, _, css ++ [(p, v, pre ++ [z])], rfl, (Off.keep (M := []) (Kp.of (Same.trans k48 k9)) o10 fCh).same, ?_, by rw [e10, List.map_append]; rfl, fun x hx => ?_, ?_, fun x hx => ?_⟩
            · rw [List.length_append]
              simp only [List.length_cons, List.length_nil]
              omega
            · rcases List.mem_append.mp hx with h | h
              · have z1 := hce x h
                have z2 := k7 _ _ z1
                exact o10.tup e9 (k9 _ _ (k8 _ _ (by simpa using ne_of z2 eCn (fun y => nomatch y)) z2))
              · have e : x = (p, v, pre ++ [z]) := by simpa using h
                subst e
                exact o10.tup e9 ep9
            · rw [tk, List.map_append, hcf]
              rfl
            · rcases List.mem_append.mp hx with h | h
              · exact hcp x h
              · have e : x = (p, v, pre ++ [z]) := by simpa using h
                subst e
                exact hpath
        · have isn : ¬ (lo v).isNone = true := fun z => by rw [Option.isNone_iff_eq_none] at z; rw [z] at hb; cases hb
          rw [if_neg isn] at tk
          walk_at "g"
          exact ⟨_, _, css, rfl, k6, by omega, e6, hce, by rw [tk]; exact hcf, hcp⟩
      · rintro σ H6 ⟨y5, y7, css, rfl, k6, hcl, e6, hce, hcf, hcp⟩
        rw [List.length_map, List.take_length] at hcf
        walk_at "g"
        refine w_tupL (.of e6) fun a H7 ha7 ea7 k7 => ?_
        have k47 : Same H4 H7 := Same.trans k6 k7
        walk_at "g"
        refine ⟨Vt, R, U, D, kvs, ns, _, up, lo, rfl, k47 _ _ ev4, k47 _ _ eR4, rv4.kp (N := []) (Kp.of k47) (by simp), mU.kp (M := []) (Kp.of k47) (by simp), mD.kp (M := []) (Kp.of k47) (by simp), S, hl, M, full, fun H8 b k8 eb IA => ?_⟩
        walk_at "g"
        refine w_new fun p H9 hp9 ep9 k9 => ?_
        have k49 : Same H4 H9 := Same.trans k47 (Same.trans k8 k9)
        refine q H9 p a b css _ (Same.trans kH4 k49) (kH4.free ((Same.trans k47 k8).free hp9)) ep9 (k9 _ _ (k8 _ _ ea7)) (fun x hx => k9 _ _ (k8 _ _ (k7 _ _ (hce x hx)))) (eb.kt (KT.of k9)) ⟨up, lo, fr, M, by rw [List.map_map]; exact hcf, fun x hx => ?_, rfl, IA⟩
        obtain ⟨z, hz, rfl⟩ := List.mem_map.mp hx
        exact hcp z hz
end
/-! ### _law_same, of data that are the same, kind for kind -/
def Sc : V → Prop
  | .non => True
  | .bl _ => True
  | .int _ => True
  | .str _ => True
  | _ => False
def SD : Nat → Hp → V → V → Prop
  | 0, _, x, y => x = y ∧ Sc x
  | n + 1, H, x, y => (x = y ∧ Sc x) ∨ ∃ p q xs ys, x = .ref p ∧ y = .ref q ∧ ((H p = some (.tup xs) ∧ H q = some (.tup ys)) ∨ (H p = some (.lst xs) ∧ H q = some (.lst ys))) ∧ xs.length = ys.length ∧ xs.length ≤ 100000 ∧
      ∀ (i : Nat) (a b : V), xs[i]? = some a → ys[i]? = some b → SD n H a b
theorem SD.ints {H : Hp} {p q : Addr} {xs : List Int} (h1 : H p = some (.lst (xs.map V.int))) (h2 : H q = some (.lst (xs.map V.int))) (hl : xs.length ≤ 100000) : SD 1 H (.ref p) (.ref q) :=
  Or.inr ⟨p, q, _, _, rfl, rfl, .inr ⟨h1, h2⟩, rfl, by simpa using hl, fun i a b ha hb => by
    rw [ha] at hb
    cases hb
    rw [List.getElem?_map] at ha
    obtain ⟨z, _, rfl⟩ := Option.map_eq_some_iff.mp ha
    exact ⟨rfl, trivial⟩⟩
theorem SD.tups {H : Hp} {p q : Addr} {xs : List Int} (h1 : H p = some (.tup (xs.map V.int))) (h2 : H q = some (.tup (xs.map V.int))) (hl : xs.length ≤ 100000) : SD 1 H (.ref p) (.ref q) :=
  Or.inr ⟨p, q, _, _, rfl, rfl, .inl ⟨h1, h2⟩, rfl, by simpa using hl, fun i a b ha hb => by
    rw [ha] at hb
    cases hb
    rw [List.getElem?_map] at ha
    obtain ⟨z, _, rfl⟩ := Option.map_eq_some_iff.mp ha
    exact ⟨rfl, trivial⟩⟩
def spSame (n : Nat) : Sp := fun vs H Q _ => ∃ (x y : V), vs = [x, y] ∧ SD n H x y ∧ Q (.bl true) H
def spIntI : Sp := fun vs H Q _ => ∃ (x : Int), vs = [.int x] ∧ Q (.bl true) H
section
variable {P : Program} {w : World} {K : PySem.W.Frag} {mg : Str → Option Value} {base : Heap}
theorem ok_int {f : Addr} {fd : FuncData} (T : Txt K mg) (F : Fun K "_law_int" "_law_int" s_law_int f fd) : FnOk P w K mg base CX0 1 f fd ["_law_thing"] spIntI := by
  refine F.ok sc_law_int (fun vs H Q E h => ?_) (fun cdv A outer s H vs Q E hr h => ?_)
  · obtain ⟨x, rfl, _⟩ := h
    rfl
  · obtain ⟨x, rfl, q⟩ := h
    refine ⟨_,
      (pss_one
        (ps_ret (pe_and (pe_callB (r := rIsi K) call_isi (by rfl) T.n_isinstance (by decide +kernel) (pa_cons (pv 0) (pa_cons (pe_bltn (v := .ty "int") (u := .type "int") (by rfl) T.n_int (by decide +kernel) rfl) pa_nil))) (pe_one (pe_not (pe_callB (r := rIsi K) call_isi (by rfl) T.n_isinstance (by decide +kernel) (pa_cons (pv 0) (pa_cons (pe_bltn (v := .ty "bool") (u := .type "bool") (by rfl) T.n_bool (by decide +kernel) rfl) pa_nil))))))))
      , ?_⟩
    walk_at "x"
    exact q
theorem ok_same0 {f fI : Addr} {fd fdI : FuncData} (T : Txt K mg) (D_law_same : Df K mg "_law_same" s_law_same ["_law_found", "_law_due"] f fd) (D_law_int : Df K mg "_law_int" s_law_int ["_law_thing"] fI fdI) : FnOk P w K mg base CX0 2 f fd ["_law_found", "_law_due"] (spSame 0) := by
  have G_law_int : FnOk P w K mg base CX0 1 fI fdI ["_law_thing"] spIntI := ok_int T D_law_int.fn
  refine D_law_same.fn.ok sc_law_same (fun vs H Q E h => ?_) (fun cdv A outer s H vs Q E hr h => ?_)
  · obtain ⟨x, y, rfl, _⟩ := h
    rfl
  · obtain ⟨x, y, rfl, ⟨rfl, hx⟩, q⟩ := h
    refine ⟨_,
      (pss_cons
        (ps_if (PW.pt (pw_or (pt_val (pe_callB (r := rIsi K) call_isi (by rfl) T.n_isinstance (by decide +kernel) (pa_cons (pv 1) (pa_cons (pe_bltn (v := .ty "tuple") (u := .type "tuple") (by rfl) T.n_tuple (by decide +kernel) rfl) pa_nil)))) (pw_or1 (pt_val (pe_callB (r := rIsi K) call_isi (by rfl) T.n_isinstance (by decide +kernel) (pa_cons (pv 1) (pa_cons (pe_bltn (v := .ty "list") (u := .type "list") (by rfl) T.n_list (by decide +kernel) rfl) pa_nil)))))))
          pss_never
          pss_nil)
      (pss_cons
        (ps_if (pt_val (pe_callB (r := rIsi K) call_isi (by rfl) T.n_isinstance (by decide +kernel) (pa_cons (pv 1) (pa_cons (pe_bltn (v := .ty "bool") (u := .type "bool") (by rfl) T.n_bool (by decide +kernel) rfl) pa_nil))))
          (pss_one
            (ps_ret (pe_and (pe_callB (r := rIsi K) call_isi (by rfl) T.n_isinstance (by decide +kernel) (pa_cons (pv 0) (pa_cons (pe_bltn (v := .ty "bool") (u := .type "bool") (by rfl) T.n_bool (by decide +kernel) rfl) pa_nil))) (pe_one (pe_cmpR op_eq (pv 0) (pv 1) (nomark _))))))
          pss_nil)
      (pss_cons
        (ps_if (pt_val (pe_callB (r := rIsi K) call_isi (by rfl) T.n_isinstance (by decide +kernel) (pa_cons (pv 1) (pa_cons (pe_bltn (v := .ty "int") (u := .type "int") (by rfl) T.n_int (by decide +kernel) rfl) pa_nil))))
          (pss_one
            (ps_ret (pe_and (pe_call G_law_int (hr.mono (by omega)) (by rfl) D_law_int.g D_law_int.fn.kp D_law_int.b .nil pass0 (pa_cons (pv 0) pa_nil)) (pe_one (pe_cmpR op_eq (pv 0) (pv 1) (nomark _))))))
          pss_nil)
      (pss_cons
        (ps_if (pt_val (pe_callB (r := rIsi K) call_isi (by rfl) T.n_isinstance (by decide +kernel) (pa_cons (pv 1) (pa_cons (pe_bltn (v := .ty "str") (u := .type "str") (by rfl) T.n_str (by decide +kernel) rfl) pa_nil))))
          (pss_one
            (ps_ret (pe_and (pe_callB (r := rIsi K) call_isi (by rfl) T.n_isinstance (by decide +kernel) (pa_cons (pv 0) (pa_cons (pe_bltn (v := .ty "str") (u := .type "str") (by rfl) T.n_str (by decide +kernel) rfl) pa_nil))) (pe_one (pe_cmpR op_eq (pv 0) (pv 1) (nomark _))))))
          pss_nil)
      (pss_one
        (ps_ret (pe_and (pe_cmpR o_isN (pv 1) pe_non (nomark _)) (pe_one (pe_cmpR o_isN (pv 0) pe_non (nomark _))))))))))
      , ?_⟩
    rw [show L2.start N_law_same [x, x] = [some x, some x, none] from rfl]
    cases x with
    | non =>
      refine w_seq ?_
      walk_at "x"
      refine w_seq ?_
      walk_at "g"
      refine w_seq ?_
      walk_at "g"
      refine w_seq ?_
      walk_at "g"
      refine w_yes rfl ?_
      walk_at "g"
      exact q
    | bl b =>
      refine w_seq ?_
      walk_at "x"
      refine w_seq ?_
      walk_at "g"
      rw [decide_eq_true rfl]
      exact q
    | int i =>
      refine w_seq ?_
      walk_at "x"
      refine w_seq ?_
      walk_at "g"
      refine w_seq ?_
      walk_at "g"
      refine ⟨i, rfl, ?_⟩
      walk_at "g"
      rw [decide_eq_true rfl]
      exact q
    | str z =>
      refine w_seq ?_
      walk_at "x"
      refine w_seq ?_
      walk_at "g"
      refine w_seq ?_
      walk_at "g"
      refine w_seq ?_
      walk_at "g"
      rw [decide_eq_true rfl]
      exact q
    | byt _ => exact hx.elim
    | flt _ => exact hx.elim
    | ref _ => exact hx.elim
    | ty _ => exact hx.elim
theorem ok_same {f fI : Addr} {fd fdI : FuncData} (T : Txt K mg) (D_law_same : Df K mg "_law_same" s_law_same ["_law_found", "_law_due"] f fd) (D_law_int : Df K mg "_law_int" s_law_int ["_law_thing"] fI fdI) : ∀ n : Nat, FnOk P w K mg base CX0 (n + 2) f fd ["_law_found", "_law_due"] (spSame n)
  | 0 => ok_same0 T D_law_same D_law_int
  | n + 1 => by
    have G_law_int : FnOk P w K mg base CX0 1 fI fdI ["_law_thing"] spIntI := ok_int T D_law_int.fn
    have G_law_same : FnOk P w K mg base CX0 (n + 2) f fd ["_law_found", "_law_due"] (spSame n) := ok_same T D_law_same D_law_int n
    refine D_law_same.fn.ok sc_law_same (fun vs H Q E h => ?_) (fun cdv A outer s H vs Q E hr h => ?_)
    · obtain ⟨x, y, rfl, _⟩ := h
      rfl
    · obtain ⟨x, y, rfl, hd, q⟩ := h
      have hmono : 1 ≤ n + 1 + 1 := by omega
      refine ⟨_,
      (pss_cons
        (ps_if (PW.pt (pw_or (pt_val (pe_callB (r := rIsi K) call_isi (by rfl) T.n_isinstance (by decide +kernel) (pa_cons (pv 1) (pa_cons (pe_bltn (v := .ty "tuple") (u := .type "tuple") (by rfl) T.n_tuple (by decide +kernel) rfl) pa_nil)))) (pw_or1 (pt_val (pe_callB (r := rIsi K) call_isi (by rfl) T.n_isinstance (by decide +kernel) (pa_cons (pv 1) (pa_cons (pe_bltn (v := .ty "list") (u := .type "list") (by rfl) T.n_list (by decide +kernel) rfl) pa_nil)))))))
          (pss_cons
            (ps_if (PW.pt (pw_or (pt_cmpR op_ne (pe_callB (r := rIsi K) call_isi (by rfl) T.n_isinstance (by decide +kernel) (pa_cons (pv 1) (pa_cons (pe_bltn (v := .ty "tuple") (u := .type "tuple") (by rfl) T.n_tuple (by decide +kernel) rfl) pa_nil))) (pe_callB (r := rIsi K) call_isi (by rfl) T.n_isinstance (by decide +kernel) (pa_cons (pv 0) (pa_cons (pe_bltn (v := .ty "tuple") (u := .type "tuple") (by rfl) T.n_tuple (by decide +kernel) rfl) pa_nil))) (nomark _)) (pw_or1 (pt_cmpR op_ne (pe_callB (r := rIsi K) call_isi (by rfl) T.n_isinstance (by decide +kernel) (pa_cons (pv 1) (pa_cons (pe_bltn (v := .ty "list") (u := .type "list") (by rfl) T.n_list (by decide +kernel) rfl) pa_nil))) (pe_callB (r := rIsi K) call_isi (by rfl) T.n_isinstance (by decide +kernel) (pa_cons (pv 0) (pa_cons (pe_bltn (v := .ty "list") (u := .type "list") (by rfl) T.n_list (by decide +kernel) rfl) pa_nil))) (nomark _)))))
              (pss_one
                (ps_ret pe_bl))
              pss_nil)
          (pss_cons
            (ps_if (pt_cmpR op_ne (pe_callB (r := rLen K) c_len (by rfl) T.n_len (by decide +kernel) (pa_cons (pv 0) pa_nil)) (pe_callB (r := rLen K) c_len (by rfl) T.n_len (by decide +kernel) (pa_cons (pv 1) pa_nil)) (nomark _))
              (pss_one
                (ps_ret pe_bl))
              pss_nil)
          (pss_cons
            (ps_for PassesOwn.never rfl (pi_range1 (by rfl) T.n_range (pa_cons (pe_callB (r := rLen K) c_len (by rfl) T.n_len (by decide +kernel) (pa_cons (pv 1) pa_nil)) pa_nil)) (pg_name (i := 2) sc_law_same.nd rfl (.inl rfl))
              (pss_one
                (ps_if (pt_not (pt_val (pe_call G_law_same (hr.mono (by omega)) (by rfl) D_law_same.g D_law_same.fn.kp D_law_same.b .nil pass0 (pa_cons (pe_ix (r := rIx K) ix_seq (pv 0) (pv 2) (fun _ _ => rfl)) (pa_cons (pe_ix (r := rIx K) ix_seq (pv 1) (pv 2) (fun _ _ => rfl)) pa_nil)))))
                  (pss_one
                    (ps_ret pe_bl))
                  pss_nil)))
          (pss_one
            (ps_ret pe_bl)))))
          pss_nil)
      (pss_cons
        (ps_if (pt_val (pe_callB (r := rIsi K) call_isi (by rfl) T.n_isinstance (by decide +kernel) (pa_cons (pv 1) (pa_cons (pe_bltn (v := .ty "bool") (u := .type "bool") (by rfl) T.n_bool (by decide +kernel) rfl) pa_nil))))
          (pss_one
            (ps_ret (pe_and (pe_callB (r := rIsi K) call_isi (by rfl) T.n_isinstance (by decide +kernel) (pa_cons (pv 0) (pa_cons (pe_bltn (v := .ty "bool") (u := .type "bool") (by rfl) T.n_bool (by decide +kernel) rfl) pa_nil))) (pe_one (pe_cmpR op_eq (pv 0) (pv 1) (nomark _))))))
          pss_nil)
      (pss_cons
        (ps_if (pt_val (pe_callB (r := rIsi K) call_isi (by rfl) T.n_isinstance (by decide +kernel) (pa_cons (pv 1) (pa_cons (pe_bltn (v := .ty "int") (u := .type "int") (by rfl) T.n_int (by decide +kernel) rfl) pa_nil))))
          (pss_one
            (ps_ret (pe_and (pe_call G_law_int (hr.mono (by omega)) (by rfl) D_law_int.g D_law_int.fn.kp D_law_int.b .nil pass0 (pa_cons (pv 0) pa_nil)) (pe_one (pe_cmpR op_eq (pv 0) (pv 1) (nomark _))))))
          pss_nil)
      (pss_cons
        (ps_if (pt_val (pe_callB (r := rIsi K) call_isi (by rfl) T.n_isinstance (by decide +kernel) (pa_cons (pv 1) (pa_cons (pe_bltn (v := .ty "str") (u := .type "str") (by rfl) T.n_str (by decide +kernel) rfl) pa_nil))))
          (pss_one
            (ps_ret (pe_and (pe_callB (r := rIsi K) call_isi (by rfl) T.n_isinstance (by decide +kernel) (pa_cons (pv 0) (pa_cons (pe_bltn (v := .ty "str") (u := .type "str") (by rfl) T.n_str (by decide +kernel) rfl) pa_nil))) (pe_one (pe_cmpR op_eq (pv 0) (pv 1) (nomark _))))))
          pss_nil)
      (pss_one
        (ps_ret (pe_and (pe_cmpR o_isN (pv 1) pe_non (nomark _)) (pe_one (pe_cmpR o_isN (pv 0) pe_non (nomark _))))))))))
        , ?_⟩
      rw [show L2.start N_law_same [x, y] = [some x, some y, none] from rfl]
      rcases hd with ⟨rfl, hx⟩ | ⟨p, r, xs, ys, rfl, rfl, hk, hlen, hle, hd⟩
      · cases x with
        | non =>
          refine w_seq ?_
          walk_at "x"
          refine w_seq ?_
          walk_at "g"
          refine w_seq ?_
          walk_at "g"
          refine w_seq ?_
          walk_at "g"
          refine w_yes rfl ?_
          walk_at "g"
          exact q
        | bl b =>
          refine w_seq ?_
          walk_at "x"
          refine w_seq ?_
          walk_at "g"
          rw [decide_eq_true rfl]
          exact q
        | int i =>
          refine w_seq ?_
          walk_at "x"
          refine w_seq ?_
          walk_at "g"
          refine w_seq ?_
          walk_at "g"
          refine ⟨i, rfl, ?_⟩
          walk_at "g"
          rw [decide_eq_true rfl]
          exact q
        | str z =>
          refine w_seq ?_
          walk_at "x"
          refine w_seq ?_
          walk_at "g"
          refine w_seq ?_
          walk_at "g"
          refine w_seq ?_
          walk_at "g"
          rw [decide_eq_true rfl]
          exact q
        | byt _ => exact hx.elim
        | flt _ => exact hx.elim
        | ref _ => exact hx.elim
        | ty _ => exact hx.elim
      · have turn : ∀ (i : Nat), i < ys.length → ∃ a b, atI xs (0 + (i : Int)) = some a ∧ atI ys (0 + (i : Int)) = some b ∧ SD n H a b := fun i hi => by
          have h1 : xs[i]? = some xs[i] := List.getElem?_eq_getElem (by omega)
          have h2 : ys[i]? = some ys[i] := List.getElem?_eq_getElem hi
          rw [show 0 + (i : Int) = (i : Int) by omega]
          exact ⟨_, _, atI_nat h1, atI_nat h2, hd i _ _ h1 h2⟩
        rcases hk with ⟨h1, h2⟩ | ⟨h1, h2⟩
        all_goals
          refine w_seq ?_
          walk_at "x"
          refine w_seq ?_
          walk_at "g"
          walk_at "dg"
          walk_at "dg"
          refine w_seq ?_
          walk_at "g"
          walk_at "dg"
          refine lp_range (fun i σ H' => H' = H ∧ ∃ y2, σ = [some (.ref p), some (.ref r), y2]) ⟨rfl, _, rfl⟩ ?_ ?_
          · rintro i σ H' hi ⟨rfl, y2, rfl⟩
            obtain ⟨a, b, ha, hb, hab⟩ := turn i (by omega)
            walk_at "g"
            refine ⟨a, b, rfl, hab, ?_⟩
            walk_at "g"
            exact ⟨rfl, _, rfl⟩
          · rintro σ H' ⟨rfl, y2, rfl⟩
            walk_at "g"
            exact q
end
def spWhole : Sp := fun vs H Q _ => ∃ x : Int, vs = [.int x] ∧ Q (.bl true) H
section
variable {P : Program} {w : World} {K : PySem.W.Frag} {mg : Str → Option Value} {base : Heap}
theorem ok_whole {f : Addr} {fd : FuncData} (T : Txt K mg) (F : Fun K "is_whole" "is_whole" s_is_whole f fd) : FnOk P w K mg base CX0 1 f fd ["thing"] spWhole := by
  refine F.ok sc_is_whole (fun vs H Q E h => ?_) (fun cdv A outer s H vs Q E hr h => ?_)
  · obtain ⟨x, rfl, _⟩ := h
    rfl
  · obtain ⟨x, rfl, q⟩ := h
    refine ⟨_,
      (pss_one
        (ps_ret (pe_and (pe_callB (r := rIsi K) call_isi (by rfl) T.n_isinstance (by decide +kernel) (pa_cons (pv 0) (pa_cons (pe_bltn (v := .ty "int") (u := .type "int") (by rfl) T.n_int (by decide +kernel) rfl) pa_nil))) (pe_one (pe_not (pe_callB (r := rIsi K) call_isi (by rfl) T.n_isinstance (by decide +kernel) (pa_cons (pv 0) (pa_cons (pe_bltn (v := .ty "bool") (u := .type "bool") (by rfl) T.n_bool (by decide +kernel) rfl) pa_nil))))))))
      , ?_⟩
    walk_at "x"
    exact q
end
/-- below: a new list of its row; NoShape where the shape has it not -/
def spBelow (C : Addr) : Sp := fun vs H Q E => ∃ (t : Addr) (ns : List Int) (ps : List (Addr × Int × Int)) (v : Int), vs = [.ref t, .int v] ∧ ShAt H t ns ps ∧ ShOk ns (ps.map (·.2)) ∧ ns.length < 420 ∧ ps.length ≤ 100000 ∧
  (v ∈ ns → ∀ H' r ys, Same H H' → H r = none → H' r = some (.lst (ys.map V.int)) → RowOk (ps.map (·.2)) v ys → Q (.ref r) H') ∧ (v ∉ ns → E (.ref C) none H)
section
variable {P : Program} {w : World} {K : PySem.W.Frag} {mg : Str → Option Value} {base : Heap}
theorem ok_below {f fW fS C_NoShape : Addr} {fd fdW fdS : FuncData} (T : Txt K mg) (F : Fun K "below" "below" s_below f fd) (D_is_whole : Df K mg "is_whole" s_is_whole ["thing"] fW fdW) (D_spans : Df K mg "spans" s_spans ["shape"] fS fdS) (X_NoShape : Exn K mg "NoShape" C_NoShape) : FnOk P w K mg base (L2.CX P w) 2 f fd ["shape", "version"] (spBelow C_NoShape) := by
  have G_is_whole : FnOk P w K mg base CX0 1 fW fdW ["thing"] spWhole := ok_whole T D_is_whole.fn
  have G_spans : FnOk P w K mg base CX0 1 fS fdS ["shape"] spSpans := ok_spans T D_spans.fn
  refine F.okX sc_below (fun vs H Q E h => ?_) (fun cdv A outer s H vs Q E hr h => ?_)
  · obtain ⟨t, ns, ps, v, rfl, _⟩ := h
    rfl
  · obtain ⟨t, ns, ps, v, rfl, hS, S, hl, hl2, q1, q2⟩ := h
    have hu := hu_of hr
    obtain ⟨a, b, e1, e2, e3⟩ := id hS
    have e2' : H a = some (.tup (ns.map V.int)) := e2
    refine ⟨_,
      (pss_cons
        (ps_if (PW.pt (pw_or (pt_not (pt_val (pe_call G_is_whole (hr.mono (by omega)) (by rfl) D_is_whole.g D_is_whole.fn.kp D_is_whole.b .nil pass0 (pa_cons (pv 1) pa_nil)))) (pw_or1 (pt_cmpR (r := rIn K true) op_notIn_seq (pv 1) (pe_ix (r := rIxT K) ix_tup (pv 0) pe_int (fun _ _ => rfl)) rfl))))
          (pss_one
            (ps_raise rfl (takes_of rfl rfl rfl rfl) (pmk_own PySem.F.excBase_ValueError X_NoShape.x X_NoShape.g X_NoShape.k (raises_own X_NoShape.b X_NoShape.t) rfl)))
          pss_nil)
      (pss_one
        (ps_ret (pe_dget hu (pe_call G_spans (hr.mono (by omega)) (by rfl) D_spans.g D_spans.fn.kp D_spans.b .nil pass0 (pa_cons (pv 0) pa_nil)) (pv 1) (fun _ _ => rfl)))))
      , ?_⟩
    rw [show L2.start N_below [V.ref t, V.int v] = [some (.ref t), some (.int v)] from rfl]
    refine w_seq ?_
    walk_at "x"
    refine ⟨v, rfl, ?_⟩
    walk_at "g"
    by_cases hv : v ∈ ns
    · refine w_nyes hv ?_
      walk_at "g"
      refine ⟨t, ns, ps, rfl, hS, S, hl, hl2, fun H' D k hD ⟨kvs, eD, _, _, rv⟩ => ?_⟩
      obtain ⟨r, ys, r1, r2, r3, r4⟩ := rv v hv
      walk_at "g"
      exact q1 hv H' r ys k r4 r2 r3
    · refine w_nno hv ?_
      exact q2 hv
end
def LongAt (H : Hp) (t : Addr) (f g : Int) (w many : Nat) : Prop := ∃ a b ps, H t = some (.tup [.ref a, .ref b, .int w]) ∧ VL H a ((List.range many).map fun (k : Nat) => f + g * k) ∧ PL H b ps ∧ ps.map (·.2) = (List.range (many - w)).map fun (j : Nat) => (f + g * ((j + w : Nat) : Int), f + g * (j : Int))
def spLong : Sp := fun vs H Q _ => ∃ (d c : Addr) (n m : Nat), vs = [.ref d, .int m] ∧ Deck H d c n ∧ n + 10000 ≤ MOSTD ∧ m ≤ 400 ∧
  ∀ H' t (f g : Nat) (w many : Nat), Deck H' d c (n + 4) → Kp [d] H H' → LongAt H' t f g w many → 1 ≤ g → g ≤ 3 → 1 ≤ w → w ≤ 6 → many ≤ m → Q (.ref t) H'
section
variable {P : Program} {w : World} {K : PySem.W.Frag} {mg : Str → Option Value} {base : Heap}
theorem ok_long {f fM fD : Addr} {fd fdM fdD : FuncData} (T : Txt K mg) (F : Fun K "_law_long_shape" "_law_long_shape" s_law_long_shape f fd) (D_law_mixed : Df K mg "_law_mixed" s_law_mixed ["_law_cell", "_law_turn"] fM fdM)
    (D_law_draw : Df K mg "_law_draw" s_law_draw ["_law_deck_here", "_law_many"] fD fdD) : FnOk P w K mg base CX0 3 f fd ["_law_deck_here", "_law_most"] spLong := by
  have G_law_draw : FnOk P w K mg base CX0 2 fD fdD ["_law_deck_here", "_law_many"] spDraw := ok_draw T D_law_draw.fn D_law_mixed
  refine F.ok sc_law_long_shape (fun vs H Q E h => ?_) (fun cdv A outer s H vs Q E hr h => ?_)
  · obtain ⟨d, c, n, m, rfl, _⟩ := h
    rfl
  · obtain ⟨d, c, n, m, rfl, D0, hn, hm, q⟩ := h
    refine ⟨_,
      (pss_cons
        (ps_set (i := 2) sc_law_long_shape.nd rfl (.inr rfl) (pe_call G_law_draw (hr.mono (by omega)) (by rfl) D_law_draw.g D_law_draw.fn.kp D_law_draw.b .nil pass0 (pa_cons (pv 0) (pa_cons (pe_op op_pow pe_int pe_int) pa_nil))))
      (pss_cons
        (ps_set (i := 3) sc_law_long_shape.nd rfl (.inr rfl) (pe_op op_add pe_int (pe_call G_law_draw (hr.mono (by omega)) (by rfl) D_law_draw.g D_law_draw.fn.kp D_law_draw.b .nil pass0 (pa_cons (pv 0) (pa_cons pe_int pa_nil)))))
      (pss_cons
        (ps_set (i := 4) sc_law_long_shape.nd rfl (.inr rfl) (pe_op op_add pe_int (pe_call G_law_draw (hr.mono (by omega)) (by rfl) D_law_draw.g D_law_draw.fn.kp D_law_draw.b .nil pass0 (pa_cons (pv 0) (pa_cons pe_int pa_nil)))))
      (pss_cons
        (ps_set (i := 5) sc_law_long_shape.nd rfl (.inl rfl) (pe_call G_law_draw (hr.mono (by omega)) (by rfl) D_law_draw.g D_law_draw.fn.kp D_law_draw.b .nil pass0 (pa_cons (pv 0) (pa_cons (pe_op op_add (pv 1) pe_int) pa_nil))))
      (pss_cons
        (ps_set (i := 6) sc_law_long_shape.nd rfl (.inr rfl) (pe_lc (own := [("_law_k", 8)]) (g := (gName 8)) rfl sc_law_long_shape.nd (pi_range1 (by rfl) T.n_range (pa_cons (pv 5) pa_nil)) (blkOk_by (own := [("_law_k", 8)]) (N := N_law_long_shape) (sc := defScope s_law_long_shape) (by decide +kernel)) (fun _ _ _ _ _ => (pg_name (i := 8) sc_law_long_shape.nd rfl (.inl rfl))) (fun _ _ _ _ _ => pts_nil) (fun _ _ _ _ _ => (pe_op op_add (pv 2) (pe_op op_mul (pv 3) (pv 8))))))
      (pss_cons
        (ps_setLc (i := 7) (own := [("_law_k", 8)]) (g := (gName 8)) rfl sc_law_long_shape.nd rfl rfl (sw_true rfl rfl rfl (by decide +kernel)) (pi_range2 (by rfl) T.n_range (pa_cons (pv 4) (pa_cons (pv 5) pa_nil))) (blkOk_by (own := [("_law_k", 8)]) (N := N_law_long_shape) (sc := defScope s_law_long_shape) (by decide +kernel)) (fun _ _ _ _ _ => (pg_name (i := 8) sc_law_long_shape.nd rfl (.inl rfl))) (fun _ _ _ _ _ => pts_nil) (fun _ _ _ _ _ => (pe_tup (pa_cons (pe_ix (r := rIxL K) ix_list (pv 6) (pv 8) (fun _ _ => rfl)) (pa_cons (pe_ix (r := rIxL K) ix_list (pv 6) (pe_op op_sub (pv 8) (pv 4)) (fun _ _ => rfl)) pa_nil)))))
      (pss_one
        (ps_ret (pe_tup (pa_cons (pe_callTy (r := rTupOf K) c_tupOf (by rfl) T.n_tuple (by decide +kernel) (pa_cons (pv 6) pa_nil)) (pa_cons (pe_callTy (r := rTupOf K) c_tupOf (by rfl) T.n_tuple (by decide +kernel) (pa_cons (pv 7) pa_nil)) (pa_cons (pv 4) pa_nil))))))))))))
      , ?_⟩
    rw [show L2.start N_law_long_shape [V.ref d, V.int m] = [some (.ref d), some (.int m), none, none, none, none, none, none, none] from rfl]
    walk_at "x"
    refine w_draw D0 (by omega) (by decide) (by decide) fun fi H1 hfi D1 o1 => ?_
    walk_at "g"
    refine w_draw D1 (by omega) (by decide) (by decide) fun g0 H2 hg0 D2 o2 => ?_
    walk_at "g"
    refine w_draw D2 (by omega) (by decide) (by decide) fun w0 H3 hw0 D3 o3 => ?_
    walk_at "g"
    refine w_draw D3 (by omega) (by omega) (by omega) fun many H4 hmany D4 o4 => ?_
    walk_at "g"
    have en : ((many : Int)).toNat = many := by omega
    rw [en]
    refine lcp_map (walk_range (lo := 0) (n := many)) [] (((List.range many).map fun (k : Nat) => (fi : Int) + (1 + g0) * k).map V.int) (by simp) (by omega) (fun H' k => trivial) ?_ (by simp) ?_
    · rintro i y H5 H6 R hi k ⟨rfl, rfl⟩ hR
      refine w_name ⟨rfl, ?_⟩
      walk_at "g"
      refine hR _ _ ?_ Kp.refl
      rw [List.getElem?_map, List.getElem?_map, List.getElem?_range hi]
      show some (V.int ((fi : Int) + (1 + g0) * i)) = some (V.int ((fi : Int) + (1 + g0) * (0 + i)))
      rw [Int.zero_add]
    · intro L1 H5 hL1 k5 e5
      have k5 := k5.same
      have hvs : ∀ i : Nat, i < many → atI (((List.range many).map fun (k : Nat) => (fi : Int) + (1 + g0) * k).map V.int) (i : Int) = some (.int ((fi : Int) + (1 + g0) * i)) := fun i hi => atI_nat (by
        rw [List.getElem?_map, List.getElem?_map, List.getElem?_range hi]
        rfl)
      walk_at "g"
      rw [show ((many : Int) - (1 + (w0 : Int))).toNat = many - (1 + w0) by omega]
      refine lcp_rel (walk_range (lo := 1 + (w0 : Int)) (n := many - (1 + w0))) [] (fun j y H' => ∃ p, y = .ref p ∧ H' p = some (.tup [.int ((fi : Int) + (1 + g0) * ((j + (1 + w0) : Nat) : Int)), .int ((fi : Int) + (1 + g0) * (j : Int))])) (by omega) (fun i y H1 H2 k ⟨p, e1, e2⟩ => ⟨p, e1, k _ _ e2⟩) (fun H' k => trivial) ?_ (by simp) ?_
      · rintro i y H6 H7 R hi k6 t6 ⟨rfl, rfl⟩ hR
        have e6 := k6 _ _ (by simp) e5
        have a1 := hvs (i + (1 + w0)) (by omega)
        have a2 := hvs i (by omega)
        rw [show ((i + (1 + w0) : Nat) : Int) = 1 + (w0 : Int) + (i : Int) by omega] at a1
        rw [show (i : Int) = 1 + (w0 : Int) + (i : Int) - (1 + (w0 : Int)) by omega] at a2
        refine w_name ⟨rfl, ?_⟩
        walk_at "g"
        refine w_new fun p H8 hp e8 k8 => ?_
        refine hR _ _ ⟨p, rfl, ?_⟩ (Kp.of k8) (KT.of k8)
        rw [e8]
        rw [show ((i + (1 + w0) : Nat) : Int) = 1 + (w0 : Int) + (i : Int) by omega]
        rw [show 1 + (w0 : Int) + (i : Int) - (1 + (w0 : Int)) = (i : Int) by omega]
      · intro L2 H6 ys hys hp hL2 k6 t6 e6
        obtain ⟨ps, p1, p2, p3⟩ := refs_of (fun p (l : Int × Int) => H6 p = some (.tup [.int l.1, .int l.2])) ys (fun j => ((fi : Int) + (1 + g0) * ((j + (1 + w0) : Nat) : Int), (fi : Int) + (1 + g0) * (j : Int))) hp
        have k6 := k6.same
        have e5' := k6 _ _ e5
        walk_at "g"
        refine w_tupL (.of e5') fun t1 H7 ht1 e7 k7 => ?_
        have e6' := k7 _ _ e6
        walk_at "g"
        refine w_tupL (.of e6') fun t2 H8 ht2 e8 k8 => ?_
        walk_at "g"
        refine w_new fun t3 H9 ht3 e9 k9 => ?_
        have ks : Same H4 H9 := Same.trans k5 (Same.trans k6 (Same.trans k7 (Same.trans k8 k9)))
        have ko : Kp [d] H H4 := (o1.kp (by simp)).trans ((o2.kp (by simp)).trans ((o3.kp (by simp)).trans (o4.kp (by simp))))
        refine q H9 t3 fi (1 + g0) (1 + w0) many (D4.kp (M := []) (Kp.of ks) (by simp) (by simp)) (ko.trans (Kp.of ks)) ⟨t1, t2, ps, ?_, ?_, ⟨?_, fun q hq => ?_⟩, ?_⟩ (by omega) (by omega) (by omega) (by omega) (by omega)
        · rw [e9]
          simp
        · have z : H9 t1 = _ := k9 _ _ (k8 _ _ e7)
          unfold VL
          rw [z]
          simp
        · rw [k9 _ _ e8, p1]
        · exact k9 _ _ (k8 _ _ (k7 _ _ (p3 q hq)))
        · rw [p2, hys]
          simp
end
theorem rise_map {n : Nat} {F : Nat → Int} (h : ∀ i j, i < j → F i < F j) : ((List.range n).map F).Pairwise (· < ·) := by
  rw [List.pairwise_map]
  exact List.Pairwise.imp (fun {a b} hab => h a b hab) List.pairwise_lt_range
theorem gap_lt {f g : Int} (hg : 0 < g) {i j : Nat} (h : i < j) : f + g * (i : Int) < f + g * (j : Int) := by
  have h1 : (i : Int) < (j : Int) := by omega
  have := Int.mul_lt_mul_of_pos_left h1 hg
  omega
theorem long_ok {f g : Int} {w many : Nat} (hf : 0 ≤ f) (hg : 0 < g) (hw : 1 ≤ w) : ShOk ((List.range many).map fun (k : Nat) => f + g * k) ((List.range (many - w)).map fun (j : Nat) => (f + g * ((j + w : Nat) : Int), f + g * (j : Int))) := by
  refine ⟨rise_map fun i j h => gap_lt hg h, fun v hv => ?_, ?_, fun q hq => ?_⟩
  · obtain ⟨k, _, rfl⟩ := List.mem_map.mp hv
    have : 0 ≤ g * (k : Int) := Int.mul_nonneg (by omega) (by omega)
    omega
  · rw [List.pairwise_map]
    exact List.Pairwise.imp (fun {a b} hab => .inl (gap_lt hg (Nat.add_lt_add_right hab w))) List.pairwise_lt_range
  · obtain ⟨j, hj, rfl⟩ := List.mem_map.mp hq
    have hj' : j < many - w := List.mem_range.mp hj
    exact ⟨List.mem_map.mpr ⟨j + w, List.mem_range.mpr (by omega), rfl⟩, List.mem_map.mpr ⟨j, List.mem_range.mpr (by omega), rfl⟩, gap_lt hg (by omega)⟩
def spRising : Sp := fun vs H Q _ => ∃ (a : Addr) (ns : List Int), vs = [.ref a] ∧ VL H a ns ∧ ns.Pairwise (· < ·) ∧ (∀ v ∈ ns, 0 ≤ v) ∧ Q (.bl true) H
section
variable {P : Program} {w : World} {K : PySem.W.Frag} {mg : Str → Option Value} {base : Heap}
theorem ok_lrising {f fW : Addr} {fd fdW : FuncData} (T : Txt K mg) (F : Fun K "_law_rising" "_law_rising" s_law_rising f fd) (D_law_int : Df K mg "_law_int" s_law_int ["_law_thing"] fW fdW) : FnOk P w K mg base CX0 2 f fd ["_law_thing"] spRising := by
  have G_law_int : FnOk P w K mg base CX0 1 fW fdW ["_law_thing"] spIntI := ok_int T D_law_int.fn
  refine F.ok sc_law_rising (fun vs H Q E h => ?_) (fun cdv A outer s H vs Q E hr h => ?_)
  · obtain ⟨a, ns, rfl, _⟩ := h
    rfl
  · obtain ⟨a, ns, rfl, ha, hs, h0, q⟩ := h
    have ha' : H a = some (.tup (ns.map V.int)) := ha
    refine ⟨_,
      (pss_cons
        (ps_if (pt_not (pt_val (pe_callB (r := rIsi K) call_isi (by rfl) T.n_isinstance (by decide +kernel) (pa_cons (pv 0) (pa_cons (pe_bltn (v := .ty "tuple") (u := .type "tuple") (by rfl) T.n_tuple (by decide +kernel) rfl) pa_nil)))))
          (pss_one
            (ps_ret pe_bl))
          pss_nil)
      (pss_cons
        (ps_set (i := 1) sc_law_rising.nd rfl (.inl rfl) (pe_un un_neg pe_int))
      (pss_cons
        (ps_for PassesOwn.never rfl (pi_tup (pv 0)) (pg_name (i := 2) sc_law_rising.nd rfl (.inl rfl))
          (pss_cons
            (ps_if (PW.pt (pw_or (pt_not (pt_val (pe_call G_law_int (hr.mono (by omega)) (by rfl) D_law_int.g D_law_int.fn.kp D_law_int.b .nil pass0 (pa_cons (pv 2) pa_nil)))) (pw_or1 (pt_cmpR op_le (pv 2) (pv 1) (nomark _)))))
              (pss_one
                (ps_ret pe_bl))
              pss_nil)
          (pss_one
            (ps_set (i := 1) sc_law_rising.nd rfl (.inl rfl) (pv 2)))))
      (pss_one
        (ps_ret pe_bl)))))
      , ?_⟩
    rw [show L2.start N_law_rising [V.ref a] = [some (.ref a), none, none] from rfl]
    refine w_seq ?_
    walk_at "x"
    refine lp_tup (xs := ns.map V.int) (fun i σ H' => H' = H ∧ ∃ (l : Int) (y : Option V), σ = [some (.ref a), some (.int l), y] ∧ -1 ≤ l ∧ ∀ x ∈ ns.drop i, l < x) ?_ ?_ ?_ ?_
    · exact ⟨rfl, -1, none, rfl, by omega, fun x hx => by have := h0 x (by simpa using hx); omega⟩
    · rintro i σ H' _ ⟨rfl, _⟩
      exact .of ha
    · rintro i y σ H' hy ⟨rfl, l, y0, rfl, hl, hd⟩
      obtain ⟨v, hv, rfl⟩ := map_at hy
      have hlv : l < v := hd v (by rw [drop_of hv]; simp)
      refine w_seq ?_
      walk_at "g"
      refine ⟨v, rfl, ?_⟩
      walk_at "g"
      refine w_no (by omega) ?_
      walk_at "g"
      refine ⟨rfl, v, _, rfl, by omega, fun x hx => ?_⟩
      have hs' : (ns.drop i).Pairwise (· < ·) := hs.drop
      rw [drop_of hv, List.pairwise_cons] at hs'
      exact hs'.1 x hx
    · rintro σ H' ⟨rfl, l, y0, rfl, _⟩
      walk_at "g"
      exact q
end
/-! ### long chains: residues -/
def Vx (f g : Int) (i : Nat) : Int := f + g * (i : Int)
def vsL (f g : Int) (many : Nat) : List Int := (List.range many).map (Vx f g)
def lsL (f g : Int) (w many : Nat) : List (Int × Int) := (List.range (many - w)).map fun (j : Nat) => (Vx f g (j + w), Vx f g j)
def ixI (f g x : Int) : Int := (x - f) / g
theorem ix_Vx {f g : Int} (hg : 0 < g) (k : Nat) : ixI f g (Vx f g k) = (k : Int) := by
  unfold ixI Vx
  have e : f + g * (k : Int) - f = g * (k : Int) := by omega
  rw [e, Int.mul_ediv_cancel_left _ (by omega)]
theorem Vx_inj {f g : Int} (hg : 0 < g) {i j : Nat} (h : Vx f g i = Vx f g j) : i = j := by
  have := congrArg (ixI f g) h
  rw [ix_Vx hg, ix_Vx hg] at this
  omega
theorem mem_vsL {f g : Int} {many : Nat} {x : Int} : x ∈ vsL f g many ↔ ∃ k, k < many ∧ x = Vx f g k := by
  unfold vsL
  rw [List.mem_map]
  constructor
  · rintro ⟨k, hk, rfl⟩
    exact ⟨k, List.mem_range.mp hk, rfl⟩
  · rintro ⟨k, hk, rfl⟩
    exact ⟨k, List.mem_range.mpr hk, rfl⟩
theorem vsL_len {f g : Int} {many : Nat} : (vsL f g many).length = many := by unfold vsL; simp
theorem bel_mod {f g : Int} (hg : 0 < g) {w many : Nat} {v x : Int} (h : Bel (lsL f g w many) v x) : ∀ i, v = Vx f g i → ∃ j, x = Vx f g j ∧ j ≤ i ∧ j % w = i % w := by
  induction h with
  | refl v => exact fun i e => ⟨i, e, Nat.le_refl _, rfl⟩
  | step h r ih =>
    intro i e
    obtain ⟨j, hj, e2⟩ := List.mem_map.mp h
    have e3 : Vx f g (j + w) = Vx f g i := by rw [← e]; exact (Prod.mk.inj e2).1
    have e4 := Vx_inj hg e3
    obtain ⟨m, h1, h2, h3⟩ := ih j (Prod.mk.inj e2).2.symm
    exact ⟨m, h1, by omega, by rw [h3, ← e4, Nat.add_mod_right]⟩
theorem mod_bel {f g : Int} {w many : Nat} (hw : 1 ≤ w) : ∀ (n i j : Nat), i ≤ n → i < many → j ≤ i → j % w = i % w → Bel (lsL f g w many) (Vx f g i) (Vx f g j)
  | n, i, j, hn, hi, hj, hm => by
    by_cases e : j = i
    · rw [e]; exact .refl _
    · have hwi : j + w ≤ i := by
        have h1 := Nat.div_add_mod i w
        have h2 := Nat.div_add_mod j w
        have h3 : j / w < i / w := by
          rcases Nat.lt_or_ge (j / w) (i / w) with h | h
          · exact h
          · have := Nat.mul_le_mul_left w h
            omega
        have h4 : w * (j / w + 1) ≤ w * (i / w) := Nat.mul_le_mul_left w h3
        rw [Nat.mul_add] at h4
        omega
      match n, hn with
      | 0, hn => omega
      | n + 1, hn =>
        have ih := mod_bel (f := f) (g := g) (many := many) hw n (i - w) j (by omega) (by omega) (by omega) (by
          rw [hm]
          have : i = (i - w) + w := by omega
          rw [this, Nat.add_mod_right]
          congr 1
          omega)
        refine .step (p := Vx f g (i - w)) (List.mem_map.mpr ⟨i - w, List.mem_range.mpr (by omega), ?_⟩) ih
        rw [show i - w + w = i by omega]
theorem cover_nodup : ∀ (ks l : List Int), ks.Nodup → (∀ x ∈ ks, x ∈ l) → l.length ≤ ks.length → l.Nodup
  | [], l, _, _, h => by
    have : l = [] := List.length_eq_zero_iff.mp (by simpa using h)
    rw [this]; exact List.nodup_nil
  | k :: ks, l, hn, hs, hl => by
    have hk := hs k (by simp)
    rw [List.nodup_cons] at hn
    have hle : (l.erase k).length = l.length - 1 := List.length_erase_of_mem hk
    have ih := cover_nodup ks (l.erase k) hn.2 (fun x hx => (List.mem_erase_of_ne (fun z => hn.1 (by rw [← z]; exact hx))).mpr (hs x (by simp [hx]))) (by rw [hle]; simp at hl; omega)
    have hnk : k ∉ l.erase k := fun h => by
      have := nodup_le (k :: ks) (l.erase k) (List.nodup_cons.mpr hn) fun x hx => by
        rcases List.mem_cons.mp hx with rfl | hx
        · exact h
        · exact (List.mem_erase_of_ne (fun z => hn.1 (by rw [← z]; exact hx))).mpr (hs x (by simp [hx]))
      have hpos : 0 < l.length := List.length_pos_of_mem hk
      rw [hle] at this
      simp at this hl
      omega
    exact (List.perm_cons_erase hk).nodup_iff.mpr (List.nodup_cons.mpr ⟨hnk, ih⟩)
section
variable {f g : Int} {w many : Nat} {qs : List (Int × List Int)} {aps : List Int}
def resI (f g : Int) (w : Nat) (x : Int) : Int := ixI f g x % (w : Int)
theorem res_Vx (hg : 0 < g) (k : Nat) : resI f g w (Vx f g k) = ((k % w : Nat) : Int) := by
  unfold resI
  rw [ix_Vx hg]
  exact (Int.natCast_emod k w).symm
/-- the versions of a chain have one residue -/
theorem chain_res (hg : 0 < g) (C : IsCov (vsL f g many) (lsL f g w many) qs aps) {q : Int × List Int} (hq : q ∈ qs) : ∀ x ∈ q.2, resI f g w x = resI f g w q.1 := by
  obtain ⟨r, hr⟩ := C.hd q hq
  have key : ∀ (i : Nat) (x : Int), q.2[i]? = some x → resI f g w x = resI f g w q.1 := by
    intro i
    induction i with
    | zero =>
      intro x hx
      rw [hr] at hx
      have e : q.1 = x := by simpa using hx
      rw [e]
    | succ i ih =>
      intro x hx
      obtain ⟨y, hy⟩ : ∃ y, q.2[i]? = some y := ⟨_, List.getElem?_eq_getElem (by have := (List.getElem?_eq_some_iff.mp hx).1; omega)⟩
      have hb := C.link q hq i y x hy hx
      have hxm : x ∈ vsL f g many := (C.mem x).mp (List.mem_flatten.mpr ⟨q.2, List.mem_map_of_mem hq, List.mem_of_getElem? hx⟩)
      obtain ⟨k, hk, rfl⟩ := mem_vsL.mp hxm
      obtain ⟨j, e, _, hm⟩ := bel_mod hg hb k rfl
      rw [← ih y hy, e, res_Vx hg, res_Vx hg, hm]
  intro x hx
  obtain ⟨i, hi, e⟩ := List.getElem_of_mem hx
  exact key i x (by rw [List.getElem?_eq_getElem hi, e])
theorem aps_res (hg : 0 < g) (hw : 1 ≤ w) (C : IsCov (vsL f g many) (lsL f g w many) qs aps) : (aps.map (resI f g w)).Nodup := by
  refine List.pairwise_map.mpr (List.Pairwise.imp_of_mem (fun {a b} ha hb hlt => ?_) C.ar)
  intro e
  obtain ⟨i, hi, rfl⟩ := mem_vsL.mp (C.am a ha)
  obtain ⟨j, hj, rfl⟩ := mem_vsL.mp (C.am b hb)
  rw [res_Vx hg, res_Vx hg] at e
  have e2 : i % w = j % w := by omega
  have hne : i ≠ j := fun z => by rw [z] at hlt; omega
  rcases Nat.lt_or_ge i j with h | h
  · exact C.anti _ hb _ ha (fun z => hne (Vx_inj hg z).symm) (mod_bel hw j j i (Nat.le_refl _) hj (by omega) e2)
  · exact C.anti _ ha _ hb (fun z => hne (Vx_inj hg z)) (mod_bel hw i i j (Nat.le_refl _) hi h e2.symm)
theorem res_lt (hg : 0 < g) (hw : 1 ≤ w) {x : Int} (hx : x ∈ vsL f g many) : resI f g w x ∈ (List.range (min w many)).map fun (k : Nat) => (k : Int) := by
  obtain ⟨k, hk, rfl⟩ := mem_vsL.mp hx
  rw [res_Vx hg]
  have h1 := Nat.mod_lt k (show 0 < w by omega)
  have h2 := Nat.mod_le k w
  exact List.mem_map.mpr ⟨k % w, List.mem_range.mpr (by omega), rfl⟩
theorem rangeI_nodup (n : Nat) : ((List.range n).map fun (k : Nat) => (k : Int)).Nodup := List.pairwise_map.mpr (List.Pairwise.imp (fun {a b} h => by omega) List.pairwise_lt_range)
theorem cov_len (hg : 0 < g) (hw : 1 ≤ w) (C : IsCov (vsL f g many) (lsL f g w many) qs aps) : qs.length = min w many ∧ (qs.map fun q => resI f g w q.1).Nodup := by
  have hle : aps.length ≤ min w many := by
    have := nodup_le (aps.map (resI f g w)) ((List.range (min w many)).map fun (k : Nat) => (k : Int)) (aps_res hg hw C) fun x hx => by
      obtain ⟨a, ha, rfl⟩ := List.mem_map.mp hx
      exact res_lt hg hw (C.am a ha)
    simpa using this
  have hal := C.al
  have sur : ∀ x ∈ (List.range (min w many)).map fun (k : Nat) => (k : Int), x ∈ qs.map fun q => resI f g w q.1 := fun x hx => by
    obtain ⟨k, hk, rfl⟩ := List.mem_map.mp hx
    have hk' := List.mem_range.mp hk
    have hm : Vx f g k ∈ vsL f g many := mem_vsL.mpr ⟨k, by omega, rfl⟩
    obtain ⟨c, hc, hx⟩ := List.mem_flatten.mp ((C.mem _).mpr hm)
    obtain ⟨q, hq, rfl⟩ := List.mem_map.mp hc
    refine List.mem_map.mpr ⟨q, hq, ?_⟩
    rw [← chain_res hg C hq _ hx, res_Vx hg, Nat.mod_eq_of_lt (by omega)]
  have h1 := nodup_le _ _ (rangeI_nodup (min w many)) sur
  rw [List.length_map, List.length_map, List.length_range] at h1
  refine ⟨by omega, cover_nodup _ _ (rangeI_nodup (min w many)) sur ?_⟩
  rw [List.length_map, List.length_map, List.length_range]
  omega
end
def spLaw (K : PySem.W.Frag) : Sp := fun vs H Q _ => ∃ (a : Addr) (ns : List Int), vs = [.ref a] ∧ SqL K H a (ns.map V.int) ∧ ns.length ≤ 63 ∧ ∀ H', Q (.bl true) H'
def PlaceAt (f g : Int) (H : Hp) (D : Addr) (n : Nat) : Prop := ∃ kvs, H D = some (.dK kvs) ∧ kvs.length ≤ n ∧ ∀ k, k < n → valV kvs (Sum.inl (Vx f g k)) = some (.int (k : Int))
theorem PlaceAt.put {f g : Int} (hg : 0 < g) {H1 : Hp} {D : Addr} {n : Nat} {kvs : List (Key × V)} (hl : kvs.length ≤ n) (h : ∀ k, k < n → valV kvs (Sum.inl (Vx f g k)) = some (.int (k : Int))) (e : H1 D = some (.dK (putK kvs (Sum.inl (Vx f g n)) (.int (n : Int))))) : PlaceAt f g H1 D (n + 1) := by
  refine ⟨_, e, Nat.le_trans (putK_len' _ _ _) (by omega), fun k hk => ?_⟩
  rw [valV_put]
  by_cases z : k = n
  · subst z
    rw [if_pos rfl]
  · rw [if_neg (fun y => z (Vx_inj hg (Sum.inl.inj y)))]
    exact h k (by omega)
theorem fm_if {p : Nat → Bool} (P : Nat → Prop) [DecidablePred P] (hp : ∀ i, p i = decide (P i)) (g : Nat → Int) : ∀ l : List Nat, (l.filterMap fun i => if P i then some (V.int (g i)) else none) = ((l.filter p).map g).map V.int
  | [] => rfl
  | x :: l => by
    have ih := fm_if P hp g l
    by_cases h : P x
    · rw [List.filterMap_cons, if_pos h, List.filter_cons, if_pos (by rw [hp]; exact decide_eq_true h), ih]
      rfl
    · rw [List.filterMap_cons, if_neg h, List.filter_cons, if_neg (by rw [hp]; simpa using h), ih]
theorem len_sum (css : List (Addr × Int × List Int)) (i : Nat) {q : Addr × Int × List Int} (h : css[i]? = some q) : (((css.take (i + 1)).map (·.2.2)).flatten).length = (((css.take i).map (·.2.2)).flatten).length + q.2.2.length := by
  rw [List.take_add_one, h]
  simp
section
variable {P : Program} {w : World} {K : PySem.W.Frag} {mg : Str → Option Value} {base : Heap}
theorem ok_law {f_is_whole f_spans f_below f_give_way f_pair_up f_apart_of f_cover f_law_deck f_law_mixed f_law_draw f_law_int f_law_same f_law_rising f_law_long_shape f C_NoShape : Addr} {fd_is_whole fd_spans fd_below fd_give_way fd_pair_up fd_apart_of fd_cover fd_law_deck fd_law_mixed fd_law_draw fd_law_int fd_law_same fd_law_rising fd_law_long_shape fd : FuncData} (T : Txt K mg)
    (D_is_whole : Df K mg "is_whole" s_is_whole ["thing"] f_is_whole fd_is_whole) (D_spans : Df K mg "spans" s_spans ["shape"] f_spans fd_spans) (D_below : Df K mg "below" s_below ["shape", "version"] f_below fd_below) (D_give_way : Df K mg "give_way" s_give_way ["low", "came", "uppers", "lowers"] f_give_way fd_give_way) (D_pair_up : Df K mg "pair_up" s_pair_up ["version", "rows", "uppers", "lowers"] f_pair_up fd_pair_up) (D_apart_of : Df K mg "apart_of" s_apart_of ["versions", "rows", "uppers", "lowers"] f_apart_of fd_apart_of) (D_cover : Df K mg "cover" s_cover ["shape"] f_cover fd_cover)
    (D_law_deck : Df K mg "_law_deck" s_law_deck ["_law_script"] f_law_deck fd_law_deck) (D_law_mixed : Df K mg "_law_mixed" s_law_mixed ["_law_cell", "_law_turn"] f_law_mixed fd_law_mixed) (D_law_draw : Df K mg "_law_draw" s_law_draw ["_law_deck_here", "_law_many"] f_law_draw fd_law_draw)
    (D_law_int : Df K mg "_law_int" s_law_int ["_law_thing"] f_law_int fd_law_int) (D_law_same : Df K mg "_law_same" s_law_same ["_law_found", "_law_due"] f_law_same fd_law_same) (D_law_rising : Df K mg "_law_rising" s_law_rising ["_law_thing"] f_law_rising fd_law_rising) (D_law_long_shape : Df K mg "_law_long_shape" s_law_long_shape ["_law_deck_here", "_law_most"] f_law_long_shape fd_law_long_shape)
    (D_law : Df K mg "law" s_law ["_law_script"] f fd) (X_NoShape : Exn K mg "NoShape" C_NoShape) : FnOk P w K mg base CX0 6 f fd ["_law_script"] (spLaw K) := by
  have G_law_deck : FnOk P w K mg base CX0 1 f_law_deck fd_law_deck ["_law_script"] (spDeck K) := ok_deck T D_law_deck.fn
  have G_law_same : FnOk P w K mg base CX0 3 f_law_same fd_law_same ["_law_found", "_law_due"] (spSame 1) := ok_same T D_law_same D_law_int 1
  have G_law_long_shape : FnOk P w K mg base CX0 3 f_law_long_shape fd_law_long_shape ["_law_deck_here", "_law_most"] spLong := ok_long T D_law_long_shape.fn D_law_mixed D_law_draw
  have G_law_rising : FnOk P w K mg base CX0 2 f_law_rising fd_law_rising ["_law_thing"] spRising := ok_lrising T D_law_rising.fn D_law_int
  have G_cover : FnOk P w K mg base CX0 3 f_cover fd_cover ["shape"] spCover := ok_cover T D_cover.fn D_spans D_give_way D_pair_up D_apart_of
  have G_below : FnOk P w K mg base (L2.CX P w) 2 f_below fd_below ["shape", "version"] (spBelow C_NoShape) := ok_below T D_below.fn D_is_whole D_spans X_NoShape
  refine D_law.fn.ok sc_law (fun vs H Q E h => ?_) (fun cdv A outer s H vs Q E hr h => ?_)
  · obtain ⟨a, ns, rfl, _⟩ := h
    rfl
  · obtain ⟨a0, ns0, rfl, hS0, hl0, q⟩ := h
    have hu := hu_of hr
    refine ⟨_,
      (pss_cons
        (ps_set (i := 1) sc_law.nd rfl (.inl rfl) (pe_call G_law_deck (hr.mono (by omega)) (by rfl) D_law_deck.g D_law_deck.fn.kp D_law_deck.b .nil pass0 (pa_cons (pv 0) pa_nil)))
      (pss_cons
        (ps_set (i := 2) sc_law.nd rfl (.inl rfl) (pe_call G_law_long_shape (hr.mono (by omega)) (by rfl) D_law_long_shape.g D_law_long_shape.fn.kp D_law_long_shape.b .nil pass0 (pa_cons (pv 1) (pa_cons pe_int pa_nil))))
      (pss_cons
        (ps_set (i := 3) sc_law.nd rfl (.inr rfl) (pe_tup (pa_cons (pe_ix (r := rIxT K) ix_tup (pv 2) pe_int (fun _ _ => rfl)) (pa_cons (pe_ix (r := rIxT K) ix_tup (pv 2) pe_int (fun _ _ => rfl)) pa_nil))))
      (pss_cons
        (ps_set (i := 4) sc_law.nd rfl (.inr rfl) (pe_ix (r := rIxT K) ix_tup (pv 2) pe_int (fun _ _ => rfl)))
      (pss_cons
        (ps_set (i := 5) sc_law.nd rfl (.inr rfl) (pe_callB (r := rLen K) c_len (by rfl) T.n_len (by decide +kernel) (pa_cons (pe_ix (r := rIxT K) ix_tup (pv 3) pe_int (fun _ _ => rfl)) pa_nil)))
      (pss_cons
        (ps_set (i := 6) sc_law.nd rfl (.inr rfl) pe_dnewK)
      (pss_cons
        (ps_for PassesOwn.never rfl (pi_range1 (by rfl) T.n_range (pa_cons (pv 5) pa_nil)) (pg_name (i := 7) sc_law.nd rfl (.inl rfl))
          (pss_one
            (ps_dput hu (pv 6) (pe_ix (r := rIxT K) ix_tup (pe_ix (r := rIxT K) ix_tup (pv 3) pe_int (fun _ _ => rfl)) (pv 7) (fun _ _ => rfl)) (pv 7) rfl)))
      (pss_cons
        (ps_set (i := 8) sc_law.nd rfl (.inl rfl) (pe_call G_cover (hr.mono (by omega)) (by rfl) D_cover.g D_cover.fn.kp D_cover.b .nil pass0 (pa_cons (pv 3) pa_nil)))
      (pss_cons
        (ps_if (PW.pt (pw_or (pt_not (pt_val (pe_callB (r := rIsi K) call_isi (by rfl) T.n_isinstance (by decide +kernel) (pa_cons (pv 8) (pa_cons (pe_bltn (v := .ty "tuple") (u := .type "tuple") (by rfl) T.n_tuple (by decide +kernel) rfl) pa_nil))))) (pw_or1 (pt_cmpR op_ne (pe_callB (r := rLen K) c_len (by rfl) T.n_len (by decide +kernel) (pa_cons (pv 8) pa_nil)) pe_int (nomark _)))))
          (pss_one
            (ps_ret pe_bl))
          pss_nil)
      (pss_cons
        (ps_if (PW.pt (pw_or (pt_not (pt_val (pe_callB (r := rIsi K) call_isi (by rfl) T.n_isinstance (by decide +kernel) (pa_cons (pe_ix (r := rIxT K) ix_tup (pv 8) pe_int (fun _ _ => rfl)) (pa_cons (pe_bltn (v := .ty "tuple") (u := .type "tuple") (by rfl) T.n_tuple (by decide +kernel) rfl) pa_nil))))) (pw_or1 (pt_not (pt_val (pe_call G_law_rising (hr.mono (by omega)) (by rfl) D_law_rising.g D_law_rising.fn.kp D_law_rising.b .nil pass0 (pa_cons (pe_ix (r := rIxT K) ix_tup (pv 8) pe_int (fun _ _ => rfl)) pa_nil)))))))
          (pss_one
            (ps_ret pe_bl))
          pss_nil)
      (pss_cons
        (ps_if (PW.pt (pw_or (pt_cmpR op_ne (pe_callB (r := rLen K) c_len (by rfl) T.n_len (by decide +kernel) (pa_cons (pe_ix (r := rIxT K) ix_tup (pv 8) pe_int (fun _ _ => rfl)) pa_nil)) (pe_callB (c_min2 rfl) (by rfl) T.n_min (by decide +kernel) (pa_cons (pv 4) (pa_cons (pv 5) pa_nil))) (nomark _)) (pw_or1 (pt_cmpR op_ne (pe_callB (r := rLen K) c_len (by rfl) T.n_len (by decide +kernel) (pa_cons (pe_ix (r := rIxT K) ix_tup (pv 8) pe_int (fun _ _ => rfl)) pa_nil)) (pe_callB (c_min2 rfl) (by rfl) T.n_min (by decide +kernel) (pa_cons (pv 4) (pa_cons (pv 5) pa_nil))) (nomark _)))))
          (pss_one
            (ps_ret pe_bl))
          pss_nil)
      (pss_cons
        (ps_set (i := 9) sc_law.nd rfl (.inl rfl) pe_int)
      (pss_cons
        (ps_for PassesOwn.never rfl (pi_tup (pe_ix (r := rIxT K) ix_tup (pv 8) pe_int (fun _ _ => rfl))) (pg_name (i := 10) sc_law.nd rfl (.inl rfl))
          (pss_cons
            (ps_if (PW.pt (pw_or (pt_not (pt_val (pe_call G_law_rising (hr.mono (by omega)) (by rfl) D_law_rising.g D_law_rising.fn.kp D_law_rising.b .nil pass0 (pa_cons (pv 10) pa_nil)))) (pw_or1 (pt_cmpR op_eq (pe_callB (r := rLen K) c_len (by rfl) T.n_len (by decide +kernel) (pa_cons (pv 10) pa_nil)) pe_int (nomark _)))))
              (pss_one
                (ps_ret pe_bl))
              pss_nil)
          (pss_cons
            (ps_for PassesOwn.never rfl (pi_tup (pv 10)) (pg_name (i := 11) sc_law.nd rfl (.inl rfl))
              (pss_one
                (ps_if (PW.pt (pw_or (pt_cmp (pc_dnotin hu (pv 11) (pv 6))) (pw_or1 (pt_cmpR op_ne (pe_op op_mod (pe_dget hu (pv 6) (pv 11) (fun _ _ => rfl)) (pv 4)) (pe_op op_mod (pe_dget hu (pv 6) (pe_ix (r := rIxT K) ix_tup (pv 10) pe_int (fun _ _ => rfl)) (fun _ _ => rfl)) (pv 4)) (nomark _)))))
                  (pss_one
                    (ps_ret pe_bl))
                  pss_nil)))
          (pss_one
            (ps_set (i := 9) sc_law.nd rfl (.inl rfl) (pe_op op_add (pv 9) (pe_callB (r := rLen K) c_len (by rfl) T.n_len (by decide +kernel) (pa_cons (pv 10) pa_nil))))))))
      (pss_cons
        (ps_for PassesOwn.never rfl (pi_tup (pe_ix (r := rIxT K) ix_tup (pv 8) pe_int (fun _ _ => rfl))) (pg_name (i := 11) sc_law.nd rfl (.inl rfl))
          (pss_one
            (ps_if (pt_cmp (pc_dnotin hu (pv 11) (pv 6)))
              (pss_one
                (ps_ret pe_bl))
              pss_nil)))
      (pss_cons
        (ps_setLc (i := 12) (own := [("_law_version", 11)]) (g := (gName 11)) rfl sc_law.nd rfl rfl (sw_true rfl rfl rfl (by decide +kernel)) (pi_tup (pe_ix (r := rIxT K) ix_tup (pv 8) pe_int (fun _ _ => rfl))) (blkOk_by (own := [("_law_version", 11)]) (N := N_law) (sc := defScope s_law) (by decide +kernel)) (fun _ _ _ _ _ => (pg_name (i := 11) sc_law.nd rfl (.inl rfl))) (fun _ _ _ _ _ => pts_nil) (fun _ _ _ _ _ => (pe_op op_mod (pe_dget hu (pv 6) (pv 11) (fun _ _ => rfl)) (pv 4))))
      (pss_cons
        (ps_setLc (i := 13) (own := [("_law_chain", 10)]) (g := (gName 10)) rfl sc_law.nd rfl rfl (sw_true rfl rfl rfl (by decide +kernel)) (pi_tup (pe_ix (r := rIxT K) ix_tup (pv 8) pe_int (fun _ _ => rfl))) (blkOk_by (own := [("_law_chain", 10)]) (N := N_law) (sc := defScope s_law) (by decide +kernel)) (fun _ _ _ _ _ => (pg_name (i := 10) sc_law.nd rfl (.inl rfl))) (fun _ _ _ _ _ => pts_nil) (fun _ _ _ _ _ => (pe_op op_mod (pe_dget hu (pv 6) (pe_ix (r := rIxT K) ix_tup (pv 10) pe_int (fun _ _ => rfl)) (fun _ _ => rfl)) (pv 4))))
      (pss_cons
        (ps_if (PW.pt (pw_or (pt_cmpR op_ne (pv 9) (pv 5) (nomark _)) (pw_or (pt_cmpR op_ne (RZ.pe_lenSetI (by rfl) T.n_len (by rfl) T.n_set (pv 12)) (pe_callB (r := rLen K) c_len (by rfl) T.n_len (by decide +kernel) (pa_cons (pv 12) pa_nil)) (nomark _)) (pw_or1 (pt_cmpR op_ne (RZ.pe_lenSetI (by rfl) T.n_len (by rfl) T.n_set (pv 13)) (pe_callB (r := rLen K) c_len (by rfl) T.n_len (by decide +kernel) (pa_cons (pv 13) pa_nil)) (nomark _))))))
          (pss_one
            (ps_ret pe_bl))
          pss_nil)
      (pss_cons
        (ps_if (pt_cmpR op_eq (pv 5) pe_int (nomark _))
          (pss_one
            (ps_ret pe_bl))
          pss_nil)
      (pss_cons
        (ps_setLc (i := 14) (own := [("_law_k", 7)]) (g := (gName 7)) rfl sc_law.nd rfl rfl (sw_true rfl rfl rfl (by decide +kernel)) (pi_range1 (by rfl) T.n_range (pa_cons (pv 5) pa_nil)) (blkOk_by (own := [("_law_k", 7)]) (N := N_law) (sc := defScope s_law) (by decide +kernel)) (fun _ _ _ _ _ => (pg_name (i := 7) sc_law.nd rfl (.inl rfl))) (fun _ _ _ _ _ => (pts_one (pt_cmpR op_eq (pe_op op_mod (pv 7) (pv 4)) (pe_op op_mod (pe_op op_sub (pv 5) pe_int) (pv 4)) (nomark _)))) (fun _ _ _ _ _ => (pe_ix (r := rIxT K) ix_tup (pe_ix (r := rIxT K) ix_tup (pv 3) pe_int (fun _ _ => rfl)) (pv 7) (fun _ _ => rfl))))
      (pss_one
        (ps_ret (pe_call G_law_same (hr.mono (by omega)) (by rfl) D_law_same.g D_law_same.fn.kp D_law_same.b .nil pass0 (pa_cons (pe_call G_below (hr.mono (by omega)) (by rfl) D_below.g D_below.fn.kp D_below.b .nil passL (pa_cons (pv 3) (pa_cons (pe_ix (r := rIxT K) ix_tup (pe_ix (r := rIxT K) ix_tup (pv 3) pe_int (fun _ _ => rfl)) (pe_op op_sub (pv 5) pe_int) (fun _ _ => rfl)) pa_nil))) (pa_cons (pv 14) pa_nil))))))))))))))))))))))))
      , ?_⟩
    rw [show L2.start N_law [V.ref a0] = [some (.ref a0), none, none, none, none, none, none, none, none, none, none, none, none, none, none] from rfl]
    walk_at "x"
    refine w_deck hS0 fun H1 d c k1 hd hc D1 => ?_
    walk_at "g"
    refine ⟨d, c, _, 400, rfl, D1, by decide, by decide, fun H2 dr f' g' w' many D2 k2 hL hg1 hg3 hw1 hw6 hmany => ?_⟩
    obtain ⟨Vt, Lt, ps, edr, ev, epl, hps⟩ := hL
    have ev' : H2 Vt = some (.tup ((vsL (f' : Int) (g' : Int) many).map V.int)) := ev
    have hps' : ps.map (·.2) = lsL (f' : Int) (g' : Int) w' many := hps
    have S : ShOk (vsL (f' : Int) (g' : Int) many) (lsL (f' : Int) (g' : Int) w' many) := long_ok (f := (f' : Int)) (g := (g' : Int)) (w := w') (many := many) (by omega) (by omega) hw1
    have hg : (0 : Int) < (g' : Int) := by omega
    generalize (f' : Int) = F at ev' hps' S
    generalize (g' : Int) = G at ev' hps' S hg
    have lenv : ((vsL F G many).map V.int).length = many := by rw [List.length_map, vsL_len]
    have hpsl : ps.length ≤ 100000 := by
      have := congrArg List.length hps'
      unfold lsL at this
      simp only [List.length_map, List.length_range] at this
      omega
    walk_at "g"
    refine w_new fun W H3 hW eW k3 => ?_
    have edr3 := k3 _ _ edr
    have ev3 := k3 _ _ ev'
    walk_at "g"
    rw [lenv]
    refine w_new fun D H4 hD eD k4 => ?_
    have eW4 := k4 _ _ eW
    have ev4 := k4 _ _ ev3
    have offD : ∀ {x : Addr} {o : HO}, H3 x = some o → x ∉ [D] := fun {x o} e => by simpa using ne_of_none e hD
    walk_at "g"
    refine lp_range (fun i σ H' => ∃ (y7 : Option V), σ = [some (.ref a0), some (.ref d), some (.ref dr), some (.ref W), some (.int (w' : Int)), some (.int (many : Int)), some (.ref D), y7, none, none, none, none, none, none, none] ∧ Kp [D] H4 H' ∧ PlaceAt F G H' D i) ⟨_, rfl, Kp.refl, [], eD, by simp, fun k hk => by omega⟩ ?_ ?_
    · rintro i σ H5 hi ⟨y7, rfl, k5, kvs, eK, hkl, hkv⟩
      have him : i < many := by omega
      have eW5 := k5 _ _ (offD eW) eW4
      have ev5 := k5 _ _ (offD ev3) ev4
      have hat : atI ((vsL F G many).map V.int) (i : Int) = some (.int (Vx F G i)) := atI_nat (by unfold vsL; rw [List.getElem?_map, List.getElem?_map, List.getElem?_range him]; rfl)
      refine w_name ?_
      dsimp only [List.set_cons_zero, List.set_cons_succ]
      rw [Int.zero_add]
      walk_at "g"
      refine w_dputI eK (small1000 (by omega)) fun H6 e6 o6 => ?_
      exact ⟨_, rfl, k5.trans (o6.kp (by simp)), PlaceAt.put hg hkl hkv e6⟩
    · rintro σ H5 ⟨y7, rfl, k5, kvs, eK, hkl, hkv⟩
      have em : ((many : Int)).toNat = many := by omega
      rw [em] at hkl hkv
      have k35 : Same H3 H5 := fun x o e => k5 _ _ (offD e) (k4 _ _ e)
      have hSh : ShAt H5 W (vsL F G many) ps := ⟨Vt, Lt, k35 _ _ eW, k35 _ _ ev3, (epl.kt (KT.of k3)).kt (KT.of k35)⟩
      walk_at "g"
      refine ⟨W, _, ps, rfl, hSh, by rw [hps']; exact S, by rw [vsL_len]; omega, hpsl, fun H6 p a b css aps k6 hp ep ea hcs hb R1 => ?_⟩
      rw [hps'] at R1
      have C := R1.is S
      have eb : H6 b = some (.tup (aps.map V.int)) := hb
      have eK6 := k6 _ _ eK
      have eW6 := k6 _ _ (k35 _ _ eW)
      have ev6 := k6 _ _ (k35 _ _ ev3)
      obtain ⟨cl1, cl2⟩ := cov_len hg hw1 C
      have clen : css.length = min w' many := by rw [← cl1, List.length_map]
      have alen : aps.length = min w' many := by rw [C.al, cl1]
      have hmin : (if (many : Int) < (w' : Int) then (many : Int) else (w' : Int)) = ((min w' many : Nat) : Int) := by split <;> omega
      have cmem : ∀ z ∈ css, ∀ x ∈ z.2.2, x ∈ vsL F G many := fun z hz x hx => (C.mem x).mp (List.mem_flatten.mpr ⟨z.2.2, List.mem_map.mpr ⟨z.2, List.mem_map_of_mem hz, rfl⟩, hx⟩)
      have v0 : ∀ x ∈ vsL F G many, 0 ≤ x := S.v0
      have look : ∀ x ∈ vsL F G many, valV kvs (Sum.inl x) = some (.int (ixI F G x)) ∧ 0 ≤ ixI F G x := fun x hx => by
        obtain ⟨k, hk, rfl⟩ := mem_vsL.mp hx
        rw [ix_Vx hg]
        exact ⟨hkv k hk, by omega⟩
      walk_at "g"
      refine w_seq ?_
      walk_at "g"
      refine w_nyes (show (([V.ref a, V.ref b] : List V).length : Int) = 2 from rfl) ?_
      walk_at "g"
      refine w_seq ?_
      walk_at "g"
      refine ⟨b, aps, rfl, hb, C.ar, fun v hv => v0 v (C.am v hv), ?_⟩
      walk_at "g"
      refine w_seq ?_
      walk_at "g"
      rw [hmin]
      refine w_nyes (by rw [List.length_map, clen]) ?_
      walk_at "g"
      rw [hmin]
      refine w_nyes (by rw [List.length_map, alen]) ?_
      walk_at "g"
      have nd : (css.map (·.2.2)).flatten.Nodup := by
        have := C.nd
        rw [List.map_map] at this
        exact this
      have lenF : ((css.map (·.2.2)).flatten).length = many := by
        have := same_len nd (rise_nodup S.vr) fun x => by
          have := C.mem x
          rw [List.map_map] at this
          exact this
        rw [this, vsL_len]
      refine lp_tup (xs := css.map fun q => .ref q.1) (fun i σ H' => H' = H6 ∧ ∃ (y10 y11 : Option V), σ = [some (.ref a0), some (.ref d), some (.ref dr), some (.ref W), some (.int (w' : Int)), some (.int (many : Int)), some (.ref D), y7, some (.ref p), some (.int (((((css.take i).map (·.2.2)).flatten).length : Nat) : Int)), y10, y11, none, none, none]) ?_ ?_ ?_ ?_
      · exact ⟨rfl, _, _, rfl⟩
      · rintro i σ H' _ ⟨rfl, _⟩
        exact .of ea
      · rintro i y σ H' hy ⟨rfl, y10, y11, rfl⟩
        obtain ⟨z, hz, rfl⟩ := map_at hy
        have hzm := List.mem_of_getElem? hz
        have ez := hcs z hzm
        obtain ⟨r, hr'⟩ := C.hd z.2 (List.mem_map_of_mem hzm)
        have h0m : z.2.1 ∈ vsL F G many := cmem z hzm z.2.1 (by rw [hr']; simp)
        obtain ⟨lk0, _⟩ := look _ h0m
        have at0 : atI (z.2.2.map V.int) 0 = some (.int z.2.1) := by
          rw [hr']
          show atI (V.int z.2.1 :: r.map V.int) ((0 : Nat) : Int) = _
          exact atI_nat rfl
        refine w_seq ?_
        walk_at "g"
        refine ⟨z.1, z.2.2, rfl, ez, C.rise z.2 (List.mem_map_of_mem hzm), fun v hv => v0 v (cmem z hzm v hv), ?_⟩
        walk_at "g"
        refine w_no (by rw [List.length_map, hr']; simp; omega) ?_
        walk_at "g"
        refine lp_tup (xs := z.2.2.map V.int) (fun j σ H'' => H'' = H' ∧ ∃ (y11 : Option V), σ = [some (.ref a0), some (.ref d), some (.ref dr), some (.ref W), some (.int (w' : Int)), some (.int (many : Int)), some (.ref D), y7, some (.ref p), some (.int (((((css.take i).map (·.2.2)).flatten).length : Nat) : Int)), some (.ref z.1), y11, none, none, none]) ⟨rfl, _, rfl⟩ ?_ ?_ ?_
        · rintro j σ H'' _ ⟨rfl, _⟩
          exact .of ez
        · rintro j y σ H'' hy' ⟨rfl, y11, rfl⟩
          obtain ⟨x, hx, rfl⟩ := map_at hy'
          have hxm := List.mem_of_getElem? hx
          obtain ⟨lkx, _⟩ := look x (cmem z hzm x hxm)
          have hres : ixI F G x % (w' : Int) = ixI F G z.2.1 % (w' : Int) := chain_res hg C (List.mem_map_of_mem hzm) x hxm
          walk_at "g"
          rw [lkx]
          refine (iteF ?_ : if false = true then _ else _)
          walk_at "g"
          refine w_nyes hres ?_
          walk_at "g"
          exact ⟨rfl, _, rfl⟩
        · rintro σ H'' ⟨rfl, y11, rfl⟩
          walk_at "g"
          refine ⟨rfl, some (.ref z.1), y11, ?_⟩
          rw [len_sum css i hz, Int.natCast_add, List.length_map]
      · rintro σ H' ⟨rfl, y10, y11, rfl⟩
        rw [List.length_map, List.take_length, lenF]
        walk_at "g"
        refine lp_tup (xs := aps.map V.int) (fun i σ H'' => H'' = H' ∧ ∃ (y11 : Option V), σ = [some (.ref a0), some (.ref d), some (.ref dr), some (.ref W), some (.int (w' : Int)), some (.int (many : Int)), some (.ref D), y7, some (.ref p), some (.int (many : Int)), y10, y11, none, none, none]) ⟨rfl, _, rfl⟩ ?_ ?_ ?_
        · rintro i σ H'' _ ⟨rfl, _⟩
          exact .of eb
        · rintro i y σ H'' hy' ⟨rfl, y11, rfl⟩
          obtain ⟨x, hx, rfl⟩ := map_at hy'
          obtain ⟨lkx, _⟩ := look x (C.am x (List.mem_of_getElem? hx))
          walk_at "g"
          rw [lkx]
          refine (iteF ?_ : if false = true then _ else _)
          walk_at "g"
          exact ⟨rfl, _, rfl⟩
        · rintro σ H'' ⟨rfl, y11, rfl⟩
          walk_at "g"
          refine lcp_map (walk_tup (K := K) (a := b) (xs := aps.map V.int)) [] ((aps.map (resI F G w')).map V.int) (by simp) (by rw [List.length_map]; omega) (fun H' k => .of (k _ _ (by simp) eb)) ?_ (by simp) ?_
          · rintro i x H7 H8 R' hi k7 ⟨rfl, hx⟩ hR'
            obtain ⟨v, hv, rfl⟩ := map_at hx
            obtain ⟨lkx, _⟩ := look v (C.am v (List.mem_of_getElem? hv))
            have eK7 := k7 _ _ (by simp) eK6
            refine w_name ⟨rfl, ?_⟩
            walk_at "g"
            exact hR' _ _ (by rw [List.getElem?_map, List.getElem?_map, hv]; rfl) Kp.refl
          · intro M1 H7 hM1 k7 eM1
            have s7 := k7.same
            have eK7 := s7 _ _ eK6
            have ep7 := s7 _ _ ep
            have ea7 := s7 _ _ ea
            walk_at "g"
            refine lcp_map (walk_tup (K := K) (a := a) (xs := css.map fun q => .ref q.1)) [] ((css.map fun q => resI F G w' q.2.1).map V.int) (by simp) (by rw [List.length_map]; omega) (fun H' k => .of (k _ _ (by simp) ea7)) ?_ (by simp) ?_
            · rintro i x H8 H9 R' hi k8 ⟨rfl, hx⟩ hR'
              obtain ⟨z, hz, rfl⟩ := map_at hx
              have hzm := List.mem_of_getElem? hz
              obtain ⟨r, hr'⟩ := C.hd z.2 (List.mem_map_of_mem hzm)
              have h0m : z.2.1 ∈ vsL F G many := cmem z hzm z.2.1 (by rw [hr']; simp)
              obtain ⟨lk0, _⟩ := look _ h0m
              have at0 : atI (z.2.2.map V.int) 0 = some (.int z.2.1) := by
                rw [hr']
                show atI (V.int z.2.1 :: r.map V.int) ((0 : Nat) : Int) = _
                exact atI_nat rfl
              have ez8 := k8 _ _ (by simp) (s7 _ _ (hcs z hzm))
              have eK8 := k8 _ _ (by simp) eK7
              refine w_name ⟨rfl, ?_⟩
              walk_at "g"
              exact hR' _ _ (by rw [List.getElem?_map, List.getElem?_map, hz]; rfl) Kp.refl
            · intro M2 H8 hM2 k8 eM2
              have s8 := k8.same
              have eM1' := s8 _ _ eM1
              have s68 : Same _ H8 := Same.trans s7 s8
              have eW8 := s68 _ _ eW6
              have ev8 := s68 _ _ ev6
              walk_at "g"
              refine w_seq ?_
              walk_at "g"
              refine w_nyes rfl ?_
              walk_at "g"
              refine w_lenSetI ?_
              walk_at "g"
              refine ⟨M1, aps.map (resI F G w'), rfl, .of eM1', aps_res hg hw1 C, by rw [List.length_map]; omega, ?_⟩
              walk_at "g"
              refine w_nyes (by rw [List.length_map (f := V.int)]) ?_
              walk_at "g"
              refine w_lenSetI ?_
              walk_at "g"
              refine ⟨M2, css.map fun q => resI F G w' q.2.1, rfl, .of eM2, by rw [List.map_map] at cl2; exact cl2, by rw [List.length_map]; omega, ?_⟩
              walk_at "g"
              refine w_nyes (by rw [List.length_map (f := V.int)]) ?_
              walk_at "g"
              refine w_seq ?_
              walk_at "g"
              refine w_ite (fun hm0 => ?_) (fun hm0 => ?_)
              · walk_at "g"
                exact q _
              walk_at "g"
              rw [em]
              have modc : ∀ k : Nat, ((k : Int)) % (w' : Int) = ((k % w' : Nat) : Int) := fun k => (Int.natCast_emod k w').symm
              have em1 : ((many : Int) - 1) = ((many - 1 : Nat) : Int) := by omega
              refine lcp_sel (walk_range (lo := 0) (n := many)) [] (fun i => if i % w' = (many - 1) % w' then some (.int (Vx F G i)) else none) (by omega) (fun H' k => trivial) ?_ (by simp) ?_
              · rintro i x H9 H10 Rr R0 hi k9 ⟨rfl, rfl⟩ h1 h2
                have eW9 := k9 _ _ (by simp) eW8
                have ev9 := k9 _ _ (by simp) ev8
                have hat : atI ((vsL F G many).map V.int) (0 + (i : Int)) = some (.int (Vx F G i)) := by
                  rw [Int.zero_add]
                  exact atI_nat (by unfold vsL; rw [List.getElem?_map, List.getElem?_map, List.getElem?_range hi]; rfl)
                refine w_name ⟨rfl, ?_⟩
                walk_at "g"
                refine w_ite (fun hz => ?_) (fun hz => ?_)
                · walk_at "g"
                  refine h1 _ _ (if_pos ?_) Kp.refl
                  rw [Int.zero_add, em1, modc, modc] at hz
                  omega
                · refine h2 _ (if_neg ?_) Kp.refl
                  rw [Int.zero_add, em1, modc, modc] at hz
                  omega
              · intro Du H9 hDu k9 eDu
                have s9 := k9.same
                rw [fm_if (p := fun i => decide (i % w' = (many - 1) % w')) (fun i => i % w' = (many - 1) % w') (fun i => rfl) (Vx F G)] at eDu
                have s69 : Same _ H9 := Same.trans s68 s9
                have eW9 := s9 _ _ eW8
                have ev9 := s9 _ _ ev8
                have hat : atI ((vsL F G many).map V.int) ((many : Int) - 1) = some (.int (Vx F G (many - 1))) := by
                  rw [em1]
                  exact atI_nat (by unfold vsL; rw [List.getElem?_map, List.getElem?_map, List.getElem?_range (by omega)]; rfl)
                have hmem : Vx F G (many - 1) ∈ vsL F G many := mem_vsL.mpr ⟨many - 1, by omega, rfl⟩
                walk_at "g"
                refine ⟨W, _, ps, _, rfl, (hSh.kt (KT.of k6)).kt (KT.of s69), by rw [hps']; exact S, by rw [vsL_len]; omega, hpsl, fun _ H10 r ys k10 hr10 er RO => ?_, fun hn => absurd hmem hn⟩
                rw [hps'] at RO
                have eys : ys = ((List.range many).filter fun i => decide (i % w' = (many - 1) % w')).map (Vx F G) := by
                  refine rise_ext _ _ RO.rise ?_ fun x => ?_
                  · rw [List.pairwise_map]
                    exact List.Pairwise.imp (fun {a b} h => gap_lt hg h) (List.pairwise_lt_range.filter _)
                  · rw [RO.mem, List.mem_map]
                    constructor
                    · intro hb'
                      obtain ⟨j, e, h1, h2⟩ := bel_mod hg hb' _ rfl
                      exact ⟨j, List.mem_filter.mpr ⟨List.mem_range.mpr (by omega), decide_eq_true h2⟩, e.symm⟩
                    · rintro ⟨j, hj, rfl⟩
                      obtain ⟨h1, h2⟩ := List.mem_filter.mp hj
                      have h1' := List.mem_range.mp h1
                      exact mod_bel hw1 (many - 1) (many - 1) j (Nat.le_refl _) (by omega) (by omega) (of_decide_eq_true h2)
                rw [eys] at er
                walk_at "g"
                refine ⟨_, _, rfl, SD.ints er (k10 _ _ eDu) ?_, q _⟩
                rw [List.length_map]
                refine Nat.le_trans (List.length_filter_le _ _) ?_
                rw [List.length_range]
                omega
end
theorem all_mk {l : PySem.W.OpenLaw} {w : World} {K : PySem.W.Frag} {h : Heap} {mg : Str → Option Value} {fa f_is_whole f_spans f_below f_give_way f_pair_up f_apart_of f_cover f_law_deck f_law_mixed f_law_draw f_law_int f_law_same f_law_rising f_law_long_shape f_law : Addr} (X : K.In h) (G : h.Ns mainGlobals mg) (hfa : mg "law" = some (.ref fa))
    {od_is_whole an_is_whole : Option Addr} {sl_is_whole : Array (Option Value)} {oc_is_whole kV_is_whole dc_is_whole pm_is_whole cd_is_whole ct_is_whole : Value}
    (a_is_whole : PySem.W.nsIn K mainGlobals "is_whole" = some (some (.ref f_is_whole)))
    (l_is_whole : K.lookup f_is_whole = some ⟨oc_is_whole, od_is_whole, .func (PySem.W.fnOf "is_whole" "is_whole" (defArgs s_is_whole) (defBody s_is_whole) (defScope s_is_whole) .none kV_is_whole dc_is_whole pm_is_whole an_is_whole cd_is_whole ct_is_whole), sl_is_whole⟩) (c_is_whole : PySem.W.codeIn K cd_is_whole "is_whole" = true) (k_is_whole : PySem.W.keepIn K (.ref f_is_whole) = true)
    {od_spans an_spans : Option Addr} {sl_spans : Array (Option Value)} {oc_spans kV_spans dc_spans pm_spans cd_spans ct_spans : Value}
    (a_spans : PySem.W.nsIn K mainGlobals "spans" = some (some (.ref f_spans)))
    (l_spans : K.lookup f_spans = some ⟨oc_spans, od_spans, .func (PySem.W.fnOf "spans" "spans" (defArgs s_spans) (defBody s_spans) (defScope s_spans) .none kV_spans dc_spans pm_spans an_spans cd_spans ct_spans), sl_spans⟩) (c_spans : PySem.W.codeIn K cd_spans "spans" = true) (k_spans : PySem.W.keepIn K (.ref f_spans) = true)
    {od_below an_below : Option Addr} {sl_below : Array (Option Value)} {oc_below kV_below dc_below pm_below cd_below ct_below : Value}
    (a_below : PySem.W.nsIn K mainGlobals "below" = some (some (.ref f_below)))
    (l_below : K.lookup f_below = some ⟨oc_below, od_below, .func (PySem.W.fnOf "below" "below" (defArgs s_below) (defBody s_below) (defScope s_below) .none kV_below dc_below pm_below an_below cd_below ct_below), sl_below⟩) (c_below : PySem.W.codeIn K cd_below "below" = true) (k_below : PySem.W.keepIn K (.ref f_below) = true)
    {od_give_way an_give_way : Option Addr} {sl_give_way : Array (Option Value)} {oc_give_way kV_give_way dc_give_way pm_give_way cd_give_way ct_give_way : Value}
    (a_give_way : PySem.W.nsIn K mainGlobals "give_way" = some (some (.ref f_give_way)))
    (l_give_way : K.lookup f_give_way = some ⟨oc_give_way, od_give_way, .func (PySem.W.fnOf "give_way" "give_way" (defArgs s_give_way) (defBody s_give_way) (defScope s_give_way) .none kV_give_way dc_give_way pm_give_way an_give_way cd_give_way ct_give_way), sl_give_way⟩) (c_give_way : PySem.W.codeIn K cd_give_way "give_way" = true) (k_give_way : PySem.W.keepIn K (.ref f_give_way) = true)
    {od_pair_up an_pair_up : Option Addr} {sl_pair_up : Array (Option Value)} {oc_pair_up kV_pair_up dc_pair_up pm_pair_up cd_pair_up ct_pair_up : Value}
    (a_pair_up : PySem.W.nsIn K mainGlobals "pair_up" = some (some (.ref f_pair_up)))
    (l_pair_up : K.lookup f_pair_up = some ⟨oc_pair_up, od_pair_up, .func (PySem.W.fnOf "pair_up" "pair_up" (defArgs s_pair_up) (defBody s_pair_up) (defScope s_pair_up) .none kV_pair_up dc_pair_up pm_pair_up an_pair_up cd_pair_up ct_pair_up), sl_pair_up⟩) (c_pair_up : PySem.W.codeIn K cd_pair_up "pair_up" = true) (k_pair_up : PySem.W.keepIn K (.ref f_pair_up) = true)
    {od_apart_of an_apart_of : Option Addr} {sl_apart_of : Array (Option Value)} {oc_apart_of kV_apart_of dc_apart_of pm_apart_of cd_apart_of ct_apart_of : Value}
    (a_apart_of : PySem.W.nsIn K mainGlobals "apart_of" = some (some (.ref f_apart_of)))
    (l_apart_of : K.lookup f_apart_of = some ⟨oc_apart_of, od_apart_of, .func (PySem.W.fnOf "apart_of" "apart_of" (defArgs s_apart_of) (defBody s_apart_of) (defScope s_apart_of) .none kV_apart_of dc_apart_of pm_apart_of an_apart_of cd_apart_of ct_apart_of), sl_apart_of⟩) (c_apart_of : PySem.W.codeIn K cd_apart_of "apart_of" = true) (k_apart_of : PySem.W.keepIn K (.ref f_apart_of) = true)
    {od_cover an_cover : Option Addr} {sl_cover : Array (Option Value)} {oc_cover kV_cover dc_cover pm_cover cd_cover ct_cover : Value}
    (a_cover : PySem.W.nsIn K mainGlobals "cover" = some (some (.ref f_cover)))
    (l_cover : K.lookup f_cover = some ⟨oc_cover, od_cover, .func (PySem.W.fnOf "cover" "cover" (defArgs s_cover) (defBody s_cover) (defScope s_cover) .none kV_cover dc_cover pm_cover an_cover cd_cover ct_cover), sl_cover⟩) (c_cover : PySem.W.codeIn K cd_cover "cover" = true) (k_cover : PySem.W.keepIn K (.ref f_cover) = true)
    {od_law_deck an_law_deck : Option Addr} {sl_law_deck : Array (Option Value)} {oc_law_deck kV_law_deck dc_law_deck pm_law_deck cd_law_deck ct_law_deck : Value}
    (a_law_deck : PySem.W.nsIn K mainGlobals "_law_deck" = some (some (.ref f_law_deck)))
    (l_law_deck : K.lookup f_law_deck = some ⟨oc_law_deck, od_law_deck, .func (PySem.W.fnOf "_law_deck" "_law_deck" (defArgs s_law_deck) (defBody s_law_deck) (defScope s_law_deck) .none kV_law_deck dc_law_deck pm_law_deck an_law_deck cd_law_deck ct_law_deck), sl_law_deck⟩) (c_law_deck : PySem.W.codeIn K cd_law_deck "_law_deck" = true) (k_law_deck : PySem.W.keepIn K (.ref f_law_deck) = true)
    {od_law_mixed an_law_mixed : Option Addr} {sl_law_mixed : Array (Option Value)} {oc_law_mixed kV_law_mixed dc_law_mixed pm_law_mixed cd_law_mixed ct_law_mixed : Value}
    (a_law_mixed : PySem.W.nsIn K mainGlobals "_law_mixed" = some (some (.ref f_law_mixed)))
    (l_law_mixed : K.lookup f_law_mixed = some ⟨oc_law_mixed, od_law_mixed, .func (PySem.W.fnOf "_law_mixed" "_law_mixed" (defArgs s_law_mixed) (defBody s_law_mixed) (defScope s_law_mixed) .none kV_law_mixed dc_law_mixed pm_law_mixed an_law_mixed cd_law_mixed ct_law_mixed), sl_law_mixed⟩) (c_law_mixed : PySem.W.codeIn K cd_law_mixed "_law_mixed" = true) (k_law_mixed : PySem.W.keepIn K (.ref f_law_mixed) = true)
    {od_law_draw an_law_draw : Option Addr} {sl_law_draw : Array (Option Value)} {oc_law_draw kV_law_draw dc_law_draw pm_law_draw cd_law_draw ct_law_draw : Value}
    (a_law_draw : PySem.W.nsIn K mainGlobals "_law_draw" = some (some (.ref f_law_draw)))
    (l_law_draw : K.lookup f_law_draw = some ⟨oc_law_draw, od_law_draw, .func (PySem.W.fnOf "_law_draw" "_law_draw" (defArgs s_law_draw) (defBody s_law_draw) (defScope s_law_draw) .none kV_law_draw dc_law_draw pm_law_draw an_law_draw cd_law_draw ct_law_draw), sl_law_draw⟩) (c_law_draw : PySem.W.codeIn K cd_law_draw "_law_draw" = true) (k_law_draw : PySem.W.keepIn K (.ref f_law_draw) = true)
    {od_law_int an_law_int : Option Addr} {sl_law_int : Array (Option Value)} {oc_law_int kV_law_int dc_law_int pm_law_int cd_law_int ct_law_int : Value}
    (a_law_int : PySem.W.nsIn K mainGlobals "_law_int" = some (some (.ref f_law_int)))
    (l_law_int : K.lookup f_law_int = some ⟨oc_law_int, od_law_int, .func (PySem.W.fnOf "_law_int" "_law_int" (defArgs s_law_int) (defBody s_law_int) (defScope s_law_int) .none kV_law_int dc_law_int pm_law_int an_law_int cd_law_int ct_law_int), sl_law_int⟩) (c_law_int : PySem.W.codeIn K cd_law_int "_law_int" = true) (k_law_int : PySem.W.keepIn K (.ref f_law_int) = true)
    {od_law_same an_law_same : Option Addr} {sl_law_same : Array (Option Value)} {oc_law_same kV_law_same dc_law_same pm_law_same cd_law_same ct_law_same : Value}
    (a_law_same : PySem.W.nsIn K mainGlobals "_law_same" = some (some (.ref f_law_same)))
    (l_law_same : K.lookup f_law_same = some ⟨oc_law_same, od_law_same, .func (PySem.W.fnOf "_law_same" "_law_same" (defArgs s_law_same) (defBody s_law_same) (defScope s_law_same) .none kV_law_same dc_law_same pm_law_same an_law_same cd_law_same ct_law_same), sl_law_same⟩) (c_law_same : PySem.W.codeIn K cd_law_same "_law_same" = true) (k_law_same : PySem.W.keepIn K (.ref f_law_same) = true)
    {od_law_rising an_law_rising : Option Addr} {sl_law_rising : Array (Option Value)} {oc_law_rising kV_law_rising dc_law_rising pm_law_rising cd_law_rising ct_law_rising : Value}
    (a_law_rising : PySem.W.nsIn K mainGlobals "_law_rising" = some (some (.ref f_law_rising)))
    (l_law_rising : K.lookup f_law_rising = some ⟨oc_law_rising, od_law_rising, .func (PySem.W.fnOf "_law_rising" "_law_rising" (defArgs s_law_rising) (defBody s_law_rising) (defScope s_law_rising) .none kV_law_rising dc_law_rising pm_law_rising an_law_rising cd_law_rising ct_law_rising), sl_law_rising⟩) (c_law_rising : PySem.W.codeIn K cd_law_rising "_law_rising" = true) (k_law_rising : PySem.W.keepIn K (.ref f_law_rising) = true)
    {od_law_long_shape an_law_long_shape : Option Addr} {sl_law_long_shape : Array (Option Value)} {oc_law_long_shape kV_law_long_shape dc_law_long_shape pm_law_long_shape cd_law_long_shape ct_law_long_shape : Value}
    (a_law_long_shape : PySem.W.nsIn K mainGlobals "_law_long_shape" = some (some (.ref f_law_long_shape)))
    (l_law_long_shape : K.lookup f_law_long_shape = some ⟨oc_law_long_shape, od_law_long_shape, .func (PySem.W.fnOf "_law_long_shape" "_law_long_shape" (defArgs s_law_long_shape) (defBody s_law_long_shape) (defScope s_law_long_shape) .none kV_law_long_shape dc_law_long_shape pm_law_long_shape an_law_long_shape cd_law_long_shape ct_law_long_shape), sl_law_long_shape⟩) (c_law_long_shape : PySem.W.codeIn K cd_law_long_shape "_law_long_shape" = true) (k_law_long_shape : PySem.W.keepIn K (.ref f_law_long_shape) = true)
    {od_law an_law : Option Addr} {sl_law : Array (Option Value)} {oc_law kV_law dc_law pm_law cd_law ct_law : Value}
    (a_law : PySem.W.nsIn K mainGlobals "law" = some (some (.ref f_law)))
    (l_law : K.lookup f_law = some ⟨oc_law, od_law, .func (PySem.W.fnOf "law" "law" (defArgs s_law) (defBody s_law) (defScope s_law) .none kV_law dc_law pm_law an_law cd_law ct_law), sl_law⟩) (c_law : PySem.W.codeIn K cd_law "law" = true) (k_law : PySem.W.keepIn K (.ref f_law) = true)
    (z_len : PySem.W.nsIn K mainGlobals "len" = some none)
    (z_list : PySem.W.nsIn K mainGlobals "list" = some none)
    (z_isinstance : PySem.W.nsIn K mainGlobals "isinstance" = some none)
    (z_int : PySem.W.nsIn K mainGlobals "int" = some none)
    (z_bool : PySem.W.nsIn K mainGlobals "bool" = some none)
    (z_str : PySem.W.nsIn K mainGlobals "str" = some none)
    (z_tuple : PySem.W.nsIn K mainGlobals "tuple" = some none)
    (z_range : PySem.W.nsIn K mainGlobals "range" = some none)
    (z_sorted : PySem.W.nsIn K mainGlobals "sorted" = some none)
    (z_reversed : PySem.W.nsIn K mainGlobals "reversed" = some none)
    (z_min : PySem.W.nsIn K mainGlobals "min" = some none)
    (z_set : PySem.W.nsIn K mainGlobals "set" = some none)
    {C_NoShape : Addr} (xa_NoShape : PySem.W.nsIn K mainGlobals "NoShape" = some (some (.ref C_NoShape))) (xx_NoShape : PySem.W.excIn K C_NoShape [.type "ValueError", .type "Exception", .type "BaseException", .type "object"] "ValueError.__new__" = true) (xk_NoShape : PySem.W.keepIn K (.ref C_NoShape) = true) (xb_NoShape : PySem.W.subIn K (.ref C_NoShape) (.type "BaseException") = some true) (xt_NoShape : PySem.W.typeIn K (.ref C_NoShape) = some (.type "type")) (xi_NoShape : PySem.W.isClsIn K C_NoShape = true) (xs_NoShape : PySem.W.subIn K (.ref C_NoShape) (.ref C_NoShape) = some true)
    : ∃ fd : FuncData, (∀ (s : Shared) (v : Value), BindsTo s fd ⟨[v], []⟩ [("_law_script", v)]) ∧ ∀ base : Heap, K.In base → base.Ns mainGlobals mg → FnOk l.prog w K mg base CX0 6 fa fd ["_law_script"] (spLaw K) := by
  have e := hfa.symm.trans (PySem.W.mg_of X G a_law)
  cases e
  have F_is_whole := fun_mk (st := s_is_whole) l_is_whole c_is_whole k_is_whole
  have D_is_whole : Df K mg "is_whole" s_is_whole ["thing"] _ _ := ⟨F_is_whole, F_is_whole.binds (ps := ["thing"]) fun _ _ _ _ _ _ us hl => match us, hl with | [_], _ => rfl, PySem.W.mg_of X G a_is_whole⟩
  have F_spans := fun_mk (st := s_spans) l_spans c_spans k_spans
  have D_spans : Df K mg "spans" s_spans ["shape"] _ _ := ⟨F_spans, F_spans.binds (ps := ["shape"]) fun _ _ _ _ _ _ us hl => match us, hl with | [_], _ => rfl, PySem.W.mg_of X G a_spans⟩
  have F_below := fun_mk (st := s_below) l_below c_below k_below
  have D_below : Df K mg "below" s_below ["shape", "version"] _ _ := ⟨F_below, F_below.binds (ps := ["shape", "version"]) fun _ _ _ _ _ _ us hl => match us, hl with | [_, _], _ => rfl, PySem.W.mg_of X G a_below⟩
  have F_give_way := fun_mk (st := s_give_way) l_give_way c_give_way k_give_way
  have D_give_way : Df K mg "give_way" s_give_way ["low", "came", "uppers", "lowers"] _ _ := ⟨F_give_way, F_give_way.binds (ps := ["low", "came", "uppers", "lowers"]) fun _ _ _ _ _ _ us hl => match us, hl with | [_, _, _, _], _ => rfl, PySem.W.mg_of X G a_give_way⟩
  have F_pair_up := fun_mk (st := s_pair_up) l_pair_up c_pair_up k_pair_up
  have D_pair_up : Df K mg "pair_up" s_pair_up ["version", "rows", "uppers", "lowers"] _ _ := ⟨F_pair_up, F_pair_up.binds (ps := ["version", "rows", "uppers", "lowers"]) fun _ _ _ _ _ _ us hl => match us, hl with | [_, _, _, _], _ => rfl, PySem.W.mg_of X G a_pair_up⟩
  have F_apart_of := fun_mk (st := s_apart_of) l_apart_of c_apart_of k_apart_of
  have D_apart_of : Df K mg "apart_of" s_apart_of ["versions", "rows", "uppers", "lowers"] _ _ := ⟨F_apart_of, F_apart_of.binds (ps := ["versions", "rows", "uppers", "lowers"]) fun _ _ _ _ _ _ us hl => match us, hl with | [_, _, _, _], _ => rfl, PySem.W.mg_of X G a_apart_of⟩
  have F_cover := fun_mk (st := s_cover) l_cover c_cover k_cover
  have D_cover : Df K mg "cover" s_cover ["shape"] _ _ := ⟨F_cover, F_cover.binds (ps := ["shape"]) fun _ _ _ _ _ _ us hl => match us, hl with | [_], _ => rfl, PySem.W.mg_of X G a_cover⟩
  have F_law_deck := fun_mk (st := s_law_deck) l_law_deck c_law_deck k_law_deck
  have D_law_deck : Df K mg "_law_deck" s_law_deck ["_law_script"] _ _ := ⟨F_law_deck, F_law_deck.binds (ps := ["_law_script"]) fun _ _ _ _ _ _ us hl => match us, hl with | [_], _ => rfl, PySem.W.mg_of X G a_law_deck⟩
  have F_law_mixed := fun_mk (st := s_law_mixed) l_law_mixed c_law_mixed k_law_mixed
  have D_law_mixed : Df K mg "_law_mixed" s_law_mixed ["_law_cell", "_law_turn"] _ _ := ⟨F_law_mixed, F_law_mixed.binds (ps := ["_law_cell", "_law_turn"]) fun _ _ _ _ _ _ us hl => match us, hl with | [_, _], _ => rfl, PySem.W.mg_of X G a_law_mixed⟩
  have F_law_draw := fun_mk (st := s_law_draw) l_law_draw c_law_draw k_law_draw
  have D_law_draw : Df K mg "_law_draw" s_law_draw ["_law_deck_here", "_law_many"] _ _ := ⟨F_law_draw, F_law_draw.binds (ps := ["_law_deck_here", "_law_many"]) fun _ _ _ _ _ _ us hl => match us, hl with | [_, _], _ => rfl, PySem.W.mg_of X G a_law_draw⟩
  have F_law_int := fun_mk (st := s_law_int) l_law_int c_law_int k_law_int
  have D_law_int : Df K mg "_law_int" s_law_int ["_law_thing"] _ _ := ⟨F_law_int, F_law_int.binds (ps := ["_law_thing"]) fun _ _ _ _ _ _ us hl => match us, hl with | [_], _ => rfl, PySem.W.mg_of X G a_law_int⟩
  have F_law_same := fun_mk (st := s_law_same) l_law_same c_law_same k_law_same
  have D_law_same : Df K mg "_law_same" s_law_same ["_law_found", "_law_due"] _ _ := ⟨F_law_same, F_law_same.binds (ps := ["_law_found", "_law_due"]) fun _ _ _ _ _ _ us hl => match us, hl with | [_, _], _ => rfl, PySem.W.mg_of X G a_law_same⟩
  have F_law_rising := fun_mk (st := s_law_rising) l_law_rising c_law_rising k_law_rising
  have D_law_rising : Df K mg "_law_rising" s_law_rising ["_law_thing"] _ _ := ⟨F_law_rising, F_law_rising.binds (ps := ["_law_thing"]) fun _ _ _ _ _ _ us hl => match us, hl with | [_], _ => rfl, PySem.W.mg_of X G a_law_rising⟩
  have F_law_long_shape := fun_mk (st := s_law_long_shape) l_law_long_shape c_law_long_shape k_law_long_shape
  have D_law_long_shape : Df K mg "_law_long_shape" s_law_long_shape ["_law_deck_here", "_law_most"] _ _ := ⟨F_law_long_shape, F_law_long_shape.binds (ps := ["_law_deck_here", "_law_most"]) fun _ _ _ _ _ _ us hl => match us, hl with | [_, _], _ => rfl, PySem.W.mg_of X G a_law_long_shape⟩
  have F_law := fun_mk (st := s_law) l_law c_law k_law
  have D_law : Df K mg "law" s_law ["_law_script"] _ _ := ⟨F_law, F_law.binds (ps := ["_law_script"]) fun _ _ _ _ _ _ us hl => match us, hl with | [_], _ => rfl, PySem.W.mg_of X G a_law⟩
  have T : Txt K mg := ⟨PySem.W.mg_none_of X G z_len, PySem.W.mg_none_of X G z_list, PySem.W.mg_none_of X G z_isinstance, PySem.W.mg_none_of X G z_int, PySem.W.mg_none_of X G z_bool, PySem.W.mg_none_of X G z_str, PySem.W.mg_none_of X G z_tuple, PySem.W.mg_none_of X G z_range, PySem.W.mg_none_of X G z_sorted, PySem.W.mg_none_of X G z_reversed, PySem.W.mg_none_of X G z_min, PySem.W.mg_none_of X G z_set⟩
  have X_NoShape : Exn K mg "NoShape" C_NoShape := ⟨PySem.W.mg_of X G xa_NoShape, xx_NoShape, xk_NoShape, xb_NoShape, xt_NoShape, exm_is xb_NoShape xi_NoShape xt_NoShape xs_NoShape⟩
  exact ⟨PySem.W.fnOf "law" "law" (defArgs s_law) (defBody s_law) (defScope s_law) .none kV_law dc_law pm_law an_law cd_law ct_law, fun s v => .of_eq rfl, fun base _ _ => ok_law T D_is_whole D_spans D_below D_give_way D_pair_up D_apart_of D_cover D_law_deck D_law_mixed D_law_draw D_law_int D_law_same D_law_rising D_law_long_shape D_law X_NoShape⟩
end FW
open PySem PySem.W PyProof.Rows
set_option maxRecDepth 100000 in
set_option maxHeartbeats 0 in
theorem PySem.Challenge.cw_fewasks_k17_whole_long_shapes_holds : PySem.Challenge.rw_fewasks_k17_whole_long_shapes.Holds := by
  w_on; o_law; k_head; (case hw => w_witness2)
  k_fill
  refine L2.walk_of (l := PySem.Challenge.rw_fewasks_k17_whole_long_shapes) (n := 63) (k := 6) (x := "_law_script") (CX := fun _ => L2.CX0) (sp := fun w => FW.spLaw _) rfl (by decide) rfl ⟨rfl, by decide, by decide⟩ (fun w h Y => PySem.W.kIn_of Y) ?F (fun _ _ a ns hl _ hS => ⟨a, ns, rfl, hS, hl, fun _ => rfl⟩) (fun _ _ _ _ _ h => h)
  case F =>
    intro w mg fa h KX G hmg
    refine' FW.all_mk KX G hmg ?a_is_whole ?l_is_whole ?c_is_whole ?k_is_whole ?a_spans ?l_spans ?c_spans ?k_spans ?a_below ?l_below ?c_below ?k_below ?a_give_way ?l_give_way ?c_give_way ?k_give_way ?a_pair_up ?l_pair_up ?c_pair_up ?k_pair_up ?a_apart_of ?l_apart_of ?c_apart_of ?k_apart_of ?a_cover ?l_cover ?c_cover ?k_cover ?a_law_deck ?l_law_deck ?c_law_deck ?k_law_deck ?a_law_mixed ?l_law_mixed ?c_law_mixed ?k_law_mixed ?a_law_draw ?l_law_draw ?c_law_draw ?k_law_draw ?a_law_int ?l_law_int ?c_law_int ?k_law_int ?a_law_same ?l_law_same ?c_law_same ?k_law_same ?a_law_rising ?l_law_rising ?c_law_rising ?k_law_rising ?a_law_long_shape ?l_law_long_shape ?c_law_long_shape ?k_law_long_shape ?a_law ?l_law ?c_law ?k_law ?z_len ?z_list ?z_isinstance ?z_int ?z_bool ?z_str ?z_tuple ?z_range ?z_sorted ?z_reversed ?z_min ?z_set ?xa_NoShape ?xx_NoShape ?xk_NoShape ?xb_NoShape ?xt_NoShape ?xi_NoShape ?xs_NoShape
    (case a_is_whole => k_is); (case l_is_whole => k_is); (case c_is_whole => k_is); (case k_is_whole => k_is); (case a_spans => k_is); (case l_spans => k_is); (case c_spans => k_is); (case k_spans => k_is); (case a_below => k_is); (case l_below => k_is); (case c_below => k_is); (case k_below => k_is); (case a_give_way => k_is); (case l_give_way => k_is); (case c_give_way => k_is); (case k_give_way => k_is); (case a_pair_up => k_is); (case l_pair_up => k_is); (case c_pair_up => k_is); (case k_pair_up => k_is); (case a_apart_of => k_is); (case l_apart_of => k_is); (case c_apart_of => k_is); (case k_apart_of => k_is); (case a_cover => k_is); (case l_cover => k_is); (case c_cover => k_is); (case k_cover => k_is); (case a_law_deck => k_is); (case l_law_deck => k_is); (case c_law_deck => k_is); (case k_law_deck => k_is); (case a_law_mixed => k_is); (case l_law_mixed => k_is); (case c_law_mixed => k_is); (case k_law_mixed => k_is); (case a_law_draw => k_is); (case l_law_draw => k_is); (case c_law_draw => k_is); (case k_law_draw => k_is); (case a_law_int => k_is); (case l_law_int => k_is); (case c_law_int => k_is); (case k_law_int => k_is); (case a_law_same => k_is); (case l_law_same => k_is); (case c_law_same => k_is); (case k_law_same => k_is); (case a_law_rising => k_is); (case l_law_rising => k_is); (case c_law_rising => k_is); (case k_law_rising => k_is); (case a_law_long_shape => k_is); (case l_law_long_shape => k_is); (case c_law_long_shape => k_is); (case k_law_long_shape => k_is); (case a_law => k_is); (case l_law => k_is); (case c_law => k_is); (case k_law => k_is); (case z_len => k_is); (case z_list => k_is); (case z_isinstance => k_is); (case z_int => k_is); (case z_bool => k_is); (case z_str => k_is); (case z_tuple => k_is); (case z_range => k_is); (case z_sorted => k_is); (case z_reversed => k_is); (case z_min => k_is); (case z_set => k_is); (case xa_NoShape => k_is); (case xx_NoShape => k_exc); (case xk_NoShape => k_is); (case xb_NoShape => k_is); (case xt_NoShape => k_is); (case xi_NoShape => k_is); (case xs_NoShape => k_is)

