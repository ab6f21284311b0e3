import PyProof.Rows.All
import Wide.All
import OpenK.AllK
import Wide.FinOn
import HandS.ForMost
import HandS.Wide
import HandS.WideBits
import HandS.Conv
import HandS.IsInst
import HandS.Walk
import HandS.TupLe
import HandS.TupAny
import HandS.DictComp
import HandS.SetKeys
import HandS.ForExc
import HandS.ExcIs
import PySem.Challenge.RW_fewasks_k12_no_shape
set_option Elab.async false
set_option linter.all false
set_option maxRecDepth 100000
/-! My own small words over the layer: steps of readings as lemmas, heaps that keep. -/
namespace FW
open PySem L2
/-! ### heaps -/
/-- all that stood stands, but at the addresses M -/
def Kp (M : List Addr) (H H' : Hp) : Prop := ∀ b o, b ∉ M → H b = some o → H' b = some o
theorem Kp.refl {M : List Addr} {H : Hp} : Kp M H H := fun _ _ _ h => h
theorem Kp.trans {M : List Addr} {H H1 H2 : Hp} (a : Kp M H H1) (b : Kp M H1 H2) : Kp M H H2 := fun c o n h => b c o n (a c o n h)
theorem Kp.mono {M N : List Addr} {H H1 : Hp} (a : Kp M H H1) (s : ∀ x ∈ M, x ∈ N) : Kp N H H1 := fun c o n h => a c o (fun z => n (s c z)) h
theorem Kp.same {H H1 : Hp} (a : Kp [] H H1) : Same H H1 := fun c o h => a c o (by simp) h
theorem Kp.of {M : List Addr} {H H1 : Hp} (a : Same H H1) : Kp M H H1 := fun c o _ h => a c o h
theorem Kp.new {M : List Addr} {H : Hp} {p : Addr} {o : HO} (h : H p = none) : Kp M H (upd H p o) := fun b u _ e => by rw [upd_ne (ne_of_none e h)]; exact e
theorem Kp.mut {M : List Addr} {H : Hp} {p : Addr} {o : HO} (h : p ∈ M) : Kp M H (upd H p o) := fun b u n e => by
  rw [upd_ne (show b ≠ p from fun z => n (by rw [z]; exact h))]; exact e
/-- a new object that was mutated or laid since: it stood not at the start -/
theorem Kp.mutN {M : List Addr} {H H1 : Hp} {p : Addr} {o : HO} (k : Kp M H H1) (h : H p = none) : Kp M H (upd H1 p o) := fun b u n e => by
  rw [upd_ne (ne_of_none e h)]; exact k b u n e
theorem Same.new {H : Hp} {p : Addr} {o : HO} (h : H p = none) : Same H (upd H p o) := fun b u e => by rw [upd_ne (ne_of_none e h)]; exact e
theorem nofree {M : List Addr} {H H1 : Hp} {p : Addr} (k : Kp M H H1) (hM : p ∉ M) (h : H1 p = none) : H p = none := by
  cases e : H p with
  | none => rfl
  | some o => rw [k p o hM e] at h; cases h
theorem Kp.seqL {M : List Addr} {K : PySem.W.Frag} {H H' : Hp} {a : Addr} {xs : List V} (k : Kp M H H') (hM : a ∉ M) (h : SqL K H a xs) : SqL K H' a xs := by
  rcases h with (h | ⟨o, h⟩) | h
  · exact .inl (.inl (k _ _ hM h))
  · exact .inl (.inr ⟨o, k _ _ hM h⟩)
  · exact .inr h
theorem Kp.seqT {M : List Addr} {K : PySem.W.Frag} {H H' : Hp} {a : Addr} {xs : List V} (k : Kp M H H') (hM : a ∉ M) (h : SqT K H a xs) : SqT K H' a xs := by
  rcases h with (h | ⟨o, h⟩) | h
  · exact .inl (.inl (k _ _ hM h))
  · exact .inl (.inr ⟨o, k _ _ hM h⟩)
  · exact .inr h
theorem upd_get {H : Hp} {a b : Addr} {o u : HO} (h : b ≠ a) (e : H b = some u) : upd H a o b = some u := by rw [upd_ne h]; exact e
theorem upd_new {H : Hp} {a b : Addr} {o u : HO} (h : H a = none) (e : H b = some u) : upd H a o b = some u := upd_get (ne_of_none e h) e
theorem upd_none {H : Hp} {a b : Addr} {o : HO} (e : upd H a o b = none) : H b = none ∧ b ≠ a := by
  by_cases h : b = a
  · subst h; rw [upd_same] at e; cases e
  · rw [upd_ne h] at e; exact ⟨e, h⟩
/-- all but p is as it was -/
def Off (p : Addr) (H H' : Hp) : Prop := ∀ b, b ≠ p → H' b = H b
theorem Off.get {p b : Addr} {H H' : Hp} {o : HO} (k : Off p H H') (n : b ≠ p) (e : H b = some o) : H' b = some o := (k b n).trans e
theorem Off.kp {p : Addr} {M : List Addr} {H H' : Hp} (k : Off p H H') (m : p ∈ M) : Kp M H H' := fun b o n e => (k b (fun z => n (by rw [z]; exact m))).trans e
theorem Off.trans {p : Addr} {H H1 H2 : Hp} (a : Off p H H1) (b : Off p H1 H2) : Off p H H2 := fun x n => (b x n).trans (a x n)
theorem Off.keep {p : Addr} {M : List Addr} {H H1 H2 : Hp} (a : Kp M H H1) (b : Off p H1 H2) (n : H p = none) : Kp M H H2 := fun x o m e => (b x (ne_of_none e n)).trans (a x o m e)
/-- a list's change keeps the tuples -/
theorem Off.tup {p b : Addr} {H H' : Hp} {xs ys : List V} (k : Off p H H') (hp : H p = some (.lst xs)) (e : H b = some (.tup ys)) : H' b = some (.tup ys) := k.get (ne_of e hp (fun z => nomatch z)) e
/-- what keeps the tuples -/
def KT (H H' : Hp) : Prop := ∀ b xs, H b = some (.tup xs) → H' b = some (.tup xs)
theorem KT.refl {H : Hp} : KT H H := fun _ _ e => e
theorem KT.of {H H' : Hp} (k : Same H H') : KT H H' := fun b xs e => k _ _ e
theorem KT.off {p : Addr} {H H' : Hp} {xs : List V} (k : Off p H H') (e : H p = some (.lst xs)) : KT H H' := fun b ys e2 => k.tup e e2
theorem KT.trans {H H1 H2 : Hp} (a : KT H H1) (b : KT H1 H2) : KT H H2 := fun c xs e => b c xs (a c xs e)
theorem KT.kp {M : List Addr} {H H' : Hp} (k : Kp M H H') (h : ∀ b ∈ M, ∃ xs, H b = some (.lst xs)) : KT H H' := fun b ys e => k b _ (fun z => by
  obtain ⟨xs, e2⟩ := h b z
  rw [e] at e2; cases e2) e
theorem KT.upd {H H1 : Hp} {D : Addr} {o : HO} (k : KT H H1) (h : H D = none) : KT H (upd H1 D o) := fun b xs e => by rw [upd_ne (ne_of_none e h)]; exact k b xs e
theorem KT.updL {H : Hp} {D : Addr} {o : HO} {ys : List V} (h : H D = some (.lst ys)) : KT H (L2.upd H D o) := fun b xs e => upd_get (ne_of e h (fun z => nomatch z)) e
/-! ### rules by names -/
/-- a new object o -/
def Nw (o : HO) (H : Hp) (Q : VK) : Prop := ∀ p, H p = none → Q (.ref p) (upd H p o)
def rLen (K : PySem.W.Frag) : List V → Hp → VK → Prop := fun xs H Q => ∃ p ys, xs = [.ref p] ∧ (SqL K H p ys ∨ SqT K H p ys) ∧ Q (.int ys.length) H
def rMin2 : List V → Hp → VK → Prop := fun xs H Q => ∃ i j, xs = [.int i, .int j] ∧ Q (.int (if j < i then j else i)) H
def rMax2 : List V → Hp → VK → Prop := fun xs H Q => ∃ i j, xs = [.int i, .int j] ∧ Q (.int (if j > i then j else i)) H
def rListOf (K : PySem.W.Frag) : List V → Hp → VK → Prop := fun xs H Q => ∃ p ys, xs = [.ref p] ∧ (SqL K H p ys ∨ SqT K H p ys) ∧ ∀ l, H l = none → Q (.ref l) (upd H l (.lst ys))
def rTupOf (K : PySem.W.Frag) : List V → Hp → VK → Prop := fun xs H Q => ∃ p ys, xs = [.ref p] ∧ ((SqL K H p ys ∧ ∀ l, H l = none → Q (.ref l) (upd H l (.tup ys))) ∨ (SqT K H p ys ∧ Q (.ref p) H))
def rRg2 (x y : V) (H : Hp) (R : Int → Int → Hp → Prop) : Prop := ∃ i j, x = .int i ∧ y = .int j ∧ R i j H
def rBits (x : V) (H : Hp) (Q : VK) : Prop := ∃ i, x = .int i ∧ Q (.int (Builtin.Int.intBits i : Nat)) H
def rRng1 (vs : List V) (H : Hp) (R : It → Hp → Prop) : Prop := ∃ j : Int, vs = [.int j] ∧ -(2 ^ 62) ≤ j ∧ j < 2 ^ 62 ∧ R (Itr 0 j.toNat) H
def rRng2 (vs : List V) (H : Hp) (R : It → Hp → Prop) : Prop := ∃ i j : Int, vs = [.int i, .int j] ∧ (-(2 ^ 62) ≤ i ∧ i < 2 ^ 62 ∧ -(2 ^ 62) ≤ j ∧ j < 2 ^ 62) ∧ R (Itr i (j - i).toNat) H
def rItL (K : PySem.W.Frag) (x : V) (H : Hp) (R : It → Hp → Prop) : Prop := ∃ a, x = .ref a ∧ (∃ xs, SqL K H a xs) ∧ R (Itl K a) H
def rItT (K : PySem.W.Frag) (x : V) (H : Hp) (R : It → Hp → Prop) : Prop := ∃ a, x = .ref a ∧ (∃ xs, SqT K H a xs) ∧ R (Itt K a) H
def rDIn (x y : V) (H : Hp) (Q : VK) : Prop := ∃ a o, x = .ref a ∧ DGet H a y o ∧ Q (.bl o.isSome) H
def rDNotIn (x y : V) (H : Hp) (Q : VK) : Prop := ∃ a o, x = .ref a ∧ DGet H a y o ∧ Q (.bl (!o.isSome)) H
def rDGet (x y : V) (H : Hp) (Q : VK) : Prop := ∃ a v, x = .ref a ∧ DGet H a y (some v) ∧ Q v H
def rDGet2 (a : Addr) (y z : V) (H : Hp) (Q : VK) : Prop := ∃ o, DGet H a y o ∧ Q (o.getD z) H
def rDPut (x y v : V) (H : Hp) (R : Hp → Prop) : Prop := ∃ a H4, x = .ref a ∧ DPut H a y v H4 ∧ R H4
def rDSetd (a : Addr) (y z : V) (H : Hp) (Q : VK) : Prop := ∃ (kvs : List (Key × V)) (k : Key), H a = some (.dK kvs) ∧ y = kV k ∧ kvs.length < sizeLine ∧ (∀ v, valV kvs k = some v → Q v H) ∧ (valV kvs k = none → Q z (upd H a (.dK (putK kvs k z))))
def rIsD (x : V) (H : Hp) (R : Addr → Hp → Prop) : Prop := ∃ a, x = .ref a ∧ IsD H a ∧ R a H
def rIsBl : R2 := fun x y H Q => ∃ a b, x = .bl a ∧ y = .bl b ∧ Q (.bl (decide (a = b))) H
def rIsNon : R2 := fun x y H Q => y = .non ∧ Q (.bl (decide (x = .non))) H
def rNotNon : R2 := fun x y H Q => y = .non ∧ Q (.bl (!decide (x = .non))) H
def rTru (K : PySem.W.Frag) (x : V) (H : Hp) (R : Bool → Hp → Prop) : Prop := ∃ k, TruV K x H k ∧ R k H
def tTru (K : PySem.W.Frag) (ta : TE) : TT := fun σ H R => ta σ H fun x H' => ∃ k, TruV K x H' k ∧ R k H'
def rSortD (xs : List V) (H : Hp) (Q : VK) : Prop := ∃ (a : Addr) (kvs : List (Key × V)) (ks : List Int), xs = [.ref a] ∧ Rd H a (.dK kvs) ∧ kvs.map (·.1) = ks.map Sum.inl ∧ ks.length < 64 ∧
    ∀ (ys : List Int) (p : Addr), ys.Perm ks → ys.Pairwise (· ≤ ·) → H p = none → Q (.ref p) (upd H p (.lst (ys.map V.int)))
section
variable {X : Cx}
theorem o_isB : OpR X (compareOp .Is) rIsBl := op_is_bl
theorem o_isN : OpR X (compareOp .Is) rIsNon := op_isN
theorem o_notN : OpR X (compareOp .IsNot) rNotNon := op_notN
theorem p_truth {a : Expr} {ta : TE} (ha : PE X a ta) (he : ∀ whole, isTrue a X.env whole = (do let v ← whole; standAt a.pos; holding [v] (truthy v))) : PT X a (tTru X.K ta) := pt_truth ha he
theorem c_sortD (hc : X.calm = true) : CallR X (.builtin "sorted") rSortD := call_sortedDI hc
theorem c_len : CallR X (.builtin "len") (rLen X.K) := call_len_seq
theorem c_min2 (hc : X.calm = true) : CallR X (.builtin "min") rMin2 := call_min2 hc
theorem c_max2 (hc : X.calm = true) : CallR X (.builtin "max") rMax2 := call_max2 hc
theorem c_listOf : CallR X (.type "list") (rListOf X.K) := call_list_of
theorem c_tupOf : CallR X (.type "tuple") (rTupOf X.K) := call_tuple_of
end
theorem kb_int_int : kitB "int" "int" = some true := by decide +kernel
theorem kb_int_bool : kitB "int" "bool" = some false := by decide +kernel
theorem kb_int_str : kitB "int" "str" = some false := by decide +kernel
theorem kb_int_tuple : kitB "int" "tuple" = some false := by decide +kernel
theorem kb_int_list : kitB "int" "list" = some false := by decide +kernel
theorem kb_int_dict : kitB "int" "dict" = some false := by decide +kernel
theorem kb_bool_int : kitB "bool" "int" = some true := by decide +kernel
theorem kb_bool_bool : kitB "bool" "bool" = some true := by decide +kernel
theorem kb_bool_str : kitB "bool" "str" = some false := by decide +kernel
theorem kb_bool_tuple : kitB "bool" "tuple" = some false := by decide +kernel
theorem kb_bool_list : kitB "bool" "list" = some false := by decide +kernel
theorem kb_bool_dict : kitB "bool" "dict" = some false := by decide +kernel
theorem kb_str_int : kitB "str" "int" = some false := by decide +kernel
theorem kb_str_bool : kitB "str" "bool" = some false := by decide +kernel
theorem kb_str_str : kitB "str" "str" = some true := by decide +kernel
theorem kb_str_tuple : kitB "str" "tuple" = some false := by decide +kernel
theorem kb_str_list : kitB "str" "list" = some false := by decide +kernel
theorem kb_str_dict : kitB "str" "dict" = some false := by decide +kernel
theorem kb_tuple_int : kitB "tuple" "int" = some false := by decide +kernel
theorem kb_tuple_bool : kitB "tuple" "bool" = some false := by decide +kernel
theorem kb_tuple_str : kitB "tuple" "str" = some false := by decide +kernel
theorem kb_tuple_tuple : kitB "tuple" "tuple" = some true := by decide +kernel
theorem kb_tuple_list : kitB "tuple" "list" = some false := by decide +kernel
theorem kb_tuple_dict : kitB "tuple" "dict" = some false := by decide +kernel
theorem kb_list_int : kitB "list" "int" = some false := by decide +kernel
theorem kb_list_bool : kitB "list" "bool" = some false := by decide +kernel
theorem kb_list_str : kitB "list" "str" = some false := by decide +kernel
theorem kb_list_tuple : kitB "list" "tuple" = some false := by decide +kernel
theorem kb_list_list : kitB "list" "list" = some true := by decide +kernel
theorem kb_list_dict : kitB "list" "dict" = some false := by decide +kernel
theorem kb_dict_int : kitB "dict" "int" = some false := by decide +kernel
theorem kb_dict_bool : kitB "dict" "bool" = some false := by decide +kernel
theorem kb_dict_str : kitB "dict" "str" = some false := by decide +kernel
theorem kb_dict_tuple : kitB "dict" "tuple" = some false := by decide +kernel
theorem kb_dict_list : kitB "dict" "list" = some false := by decide +kernel
theorem kb_dict_dict : kitB "dict" "dict" = some true := by decide +kernel
theorem kb_NoneType_int : kitB "NoneType" "int" = some false := by decide +kernel
theorem kb_NoneType_bool : kitB "NoneType" "bool" = some false := by decide +kernel
theorem kb_NoneType_str : kitB "NoneType" "str" = some false := by decide +kernel
theorem kb_NoneType_tuple : kitB "NoneType" "tuple" = some false := by decide +kernel
theorem kb_NoneType_list : kitB "NoneType" "list" = some false := by decide +kernel
theorem kb_NoneType_dict : kitB "NoneType" "dict" = some false := by decide +kernel
/-! ### steps -/
section
variable {K : PySem.W.Frag} {σ : St} {H : Hp} {Q : VK} {nx bk ct : St → Hp → Prop} {rt : VK} {v : V}
theorem w_seq {t u : TS} (h : t ⟨u ⟨nx, rt, bk, ct⟩, rt, bk, ct⟩ σ H) : tSeq t u ⟨nx, rt, bk, ct⟩ σ H := h
theorem w_seqA {te : TE} {g : TG} {u : TS} (h : te σ H fun x H1 => g x σ H1 (u ⟨nx, rt, bk, ct⟩)) : tSeq (tAsg te g) u ⟨nx, rt, bk, ct⟩ σ H := h
theorem w_seqD {te : TE} {u : TS} (h : te σ H fun _ H1 => u ⟨nx, rt, bk, ct⟩ σ H1) : tSeq (tDrop te) u ⟨nx, rt, bk, ct⟩ σ H := h
theorem w_seqF {wi : TI} {g : TG} {tb u : TS} (h : tFor wi g tb ⟨u ⟨nx, rt, bk, ct⟩, rt, bk, ct⟩ σ H) : tSeq (tFor wi g tb) u ⟨nx, rt, bk, ct⟩ σ H := h
theorem w_seqW {c : TT} {tb u : TS} (h : tWhile c tb ⟨u ⟨nx, rt, bk, ct⟩, rt, bk, ct⟩ σ H) : tSeq (tWhile c tb) u ⟨nx, rt, bk, ct⟩ σ H := h
theorem w_seqG {i : Nat} {te : TE} {ti : TIp} {u : TS} (h : tAug i te ti ⟨u ⟨nx, rt, bk, ct⟩, rt, bk, ct⟩ σ H) : tSeq (tAug i te ti) u ⟨nx, rt, bk, ct⟩ σ H := h
/-- a statement whose ways meet: what follows is taken as U, of which R is enough -/
theorem w_seqJ {t u : TS} (R : St → Hp → Prop) (h2 : ∀ σ' H', R σ' H' → u ⟨nx, rt, bk, ct⟩ σ' H') (h1 : ∀ U : St → Hp → Prop, (∀ σ' H', R σ' H' → U σ' H') → t ⟨U, rt, bk, ct⟩ σ H) : tSeq t u ⟨nx, rt, bk, ct⟩ σ H := h1 _ h2
theorem w_var {i : Nat} (e : σ[i]? = some (some v)) (h : Q v H) : tVar i σ H Q := ⟨v, e, h⟩
theorem w_c (h : Q v H) : tC v σ H Q := h
theorem w_asg {te : TE} {g : TG} (h : te σ H fun x H1 => g x σ H1 nx) : tAsg te g ⟨nx, rt, bk, ct⟩ σ H := h
theorem w_name {i : Nat} {R : St → Hp → Prop} (h : R (σ.set i (some v)) H) : gName i v σ H R := h
theorem w_op {r : R2} {ta tb : TE} (h : ta σ H fun x H1 => tb σ H1 fun y H2 => r x y H2 Q) : tOp r ta tb σ H Q := h
theorem w_un {r : V → Hp → VK → Prop} {ta : TE} (h : ta σ H fun x H1 => r x H1 Q) : tUn r ta σ H Q := h
theorem w_neg {i : Int} (h : Q (.int (-i)) H) : rU (fun i => .int (-i)) (.int i) H Q := ⟨i, rfl, h⟩
theorem w_i {C : Int → Int → Prop} {g : Int → Int → V} {i j : Int} (c : C i j) (h : Q (g i j) H) : rI C g (.int i) (.int j) H Q := ⟨i, j, rfl, rfl, c, h⟩
theorem w_i0 {g : Int → Int → V} {i j : Int} (h : Q (g i j) H) : rI0 g (.int i) (.int j) H Q := ⟨i, j, rfl, rfl, h⟩
theorem w_eqI {i j : Int} (h : Q (.bl (decide (i = j))) H) : rEq (.int i) (.int j) H Q := ⟨rfl, by
  have e : decide (V.int i = V.int j) = decide (i = j) := by
    by_cases q : i = j
    · subst q; rw [decide_eq_true rfl, decide_eq_true rfl]
    · rw [decide_eq_false q, decide_eq_false (fun z => q (V.int.inj z))]
  rw [e]; exact h⟩
theorem w_neI {i j : Int} (h : Q (.bl (!decide (i = j))) H) : rNe (.int i) (.int j) H Q := ⟨rfl, by
  have e : decide (V.int i = V.int j) = decide (i = j) := by
    by_cases q : i = j
    · subst q; rw [decide_eq_true rfl, decide_eq_true rfl]
    · rw [decide_eq_false q, decide_eq_false (fun z => q (V.int.inj z))]
  rw [e]; exact h⟩
theorem w_ixL {p : Addr} {xs : List V} {i : Int} (h1 : SqL K H p xs) (h2 : atI xs i = some v) (h : Q v H) : rIxL K (.ref p) (.int i) H Q := ⟨p, xs, i, v, rfl, rfl, h1, h2, h⟩
theorem w_ixT {p : Addr} {xs : List V} {i : Int} (h1 : SqT K H p xs) (h2 : atI xs i = some v) (h : Q v H) : rIxT K (.ref p) (.int i) H Q := ⟨p, xs, i, v, rfl, rfl, h1, h2, h⟩
theorem w_ixSL {p : Addr} {xs : List V} {i : Int} (h1 : SqL K H p xs) (h2 : atI xs i = some v) (h : Q v H) : rIx K (.ref p) (.int i) H Q := .inl ⟨p, xs, i, v, rfl, rfl, h1, h2, h⟩
theorem w_ixST {p : Addr} {xs : List V} {i : Int} (h1 : SqT K H p xs) (h2 : atI xs i = some v) (h : Q v H) : rIx K (.ref p) (.int i) H Q := .inr (.inl ⟨p, xs, i, v, rfl, rfl, h1, h2, h⟩)
theorem w_neB {x y : Bool} (h : Q (.bl (!decide (x = y))) H) : rNe (.bl x) (.bl y) H Q := ⟨rfl, by
  have e : decide (V.bl x = V.bl y) = decide (x = y) := by
    by_cases q : x = y
    · subst q; rw [decide_eq_true rfl, decide_eq_true rfl]
    · rw [decide_eq_false q, decide_eq_false (fun z => q (V.bl.inj z))]
  rw [e]; exact h⟩
theorem w_eqN (h : Q (.bl true) H) : rEq .non .non H Q := ⟨rfl, h⟩
theorem w_popAt {l : Addr} {xs : List V} {i : Int} {k : Nat} {y : V} (h1 : H l = some (.lst xs)) (h2 : -(2 ^ 63) ≤ i) (h3 : i < 2 ^ 63) (h4 : seqIndex? i xs.length = some k) (h5 : xs[k]? = some y) (h : ∀ H1, H1 l = some (.lst (xs.eraseIdx k)) → Off l H H1 → Q y H1) : rPopAt (.ref l) [.int i] H Q :=
  ⟨l, xs, i, k, y, rfl, rfl, h1, h2, h3, h4, h5, h _ upd_same fun x hx => upd_ne hx⟩
theorem w_sub {to ti : TE} {t : TSet} {R : St → Hp → Prop} (h : to σ H fun o H1 => ti σ H1 fun i H2 => t o i v H2 fun H3 => R σ H3) : gSub to ti t v σ H R := h
theorem w_setL {p : Addr} {xs ys : List V} {k : Int} {j : Nat} {R : Hp → Prop} (h1 : H p = some (.lst xs)) (h2 : ixN xs.length k = some j) (e : xs.set j v = ys) (h : ∀ H1, H1 p = some (.lst ys) → Off p H H1 → R H1) : rSetL (.ref p) (.int k) v H R :=
  ⟨p, xs, k, j, rfl, rfl, h1, h2, by rw [e]; exact h _ upd_same fun x hx => upd_ne hx⟩
theorem w_if {c : TT} {t u : TS} (h : c σ H fun b H1 => if b = true then t ⟨nx, rt, bk, ct⟩ σ H1 else u ⟨nx, rt, bk, ct⟩ σ H1) : tIfS c t u ⟨nx, rt, bk, ct⟩ σ H := h
theorem w_test {t : TE} {R : Bool → Hp → Prop} (h : t σ H fun x H' => ∃ k, x = .bl k ∧ R k H') : tTest t σ H R := h
theorem w_tb {t : TE} {R : Bool → Hp → Prop} (h : t σ H fun x H' => ∃ k, x = .bl k ∧ R k H') : tB t σ H R := h
theorem w_bl {b : Bool} {R : Bool → Prop} (h : R b) : ∃ k, V.bl b = .bl k ∧ R k := ⟨b, rfl, h⟩
theorem w_and {t u : TT} {R : Bool → Hp → Prop} (h : t σ H fun c H1 => if c = true then u σ H1 R else R false H1) : tAnd t u σ H R := h
theorem w_or {t u : TT} {R : Bool → Hp → Prop} (h : t σ H fun c H1 => if c = true then R true H1 else u σ H1 R) : tOr t u σ H R := h
theorem w_not {t : TT} {R : Bool → Hp → Prop} (h : t σ H fun c H1 => R (!c) H1) : tNot t σ H R := h
theorem w_andV {ta tb : TE} (h : ta σ H fun x H1 => ∃ c, x = .bl c ∧ if c = true then tb σ H1 Q else Q (.bl false) H1) : tAndV ta tb σ H Q := h
theorem w_orV {ta tb : TE} (h : ta σ H fun x H1 => ∃ c, x = .bl c ∧ if c = true then Q (.bl true) H1 else tb σ H1 Q) : tOrV ta tb σ H Q := h
theorem w_notV {ta : TE} (h : ta σ H fun x H1 => ∃ c, x = .bl c ∧ Q (.bl (!c)) H1) : tNotV ta σ H Q := h
theorem w_ite {p : Prop} {inst : Decidable p} {A B : Prop} (h1 : p → A) (h2 : ¬ p → B) : if decide p = true then A else B := by
  by_cases h : p
  · rw [if_pos (decide_eq_true h)]; exact h1 h
  · rw [if_neg (fun z => h (of_decide_eq_true z))]; exact h2 h
theorem w_itN {p : Prop} {inst : Decidable p} {A B : Prop} (h1 : ¬ p → A) (h2 : p → B) : if (!decide p) = true then A else B := by
  by_cases h : p
  · rw [decide_eq_true h]; exact h2 h
  · rw [decide_eq_false h]; exact h1 h
theorem w_yes {p : Prop} {inst : Decidable p} {A B : Prop} (h : p) (a : A) : if decide p = true then A else B := by rw [if_pos (decide_eq_true h)]; exact a
theorem w_no {p : Prop} {inst : Decidable p} {A B : Prop} (h : ¬ p) (b : B) : if decide p = true then A else B := by rw [if_neg (fun z => h (of_decide_eq_true z))]; exact b
theorem w_nyes {p : Prop} {inst : Decidable p} {A B : Prop} (h : p) (b : B) : if (!decide p) = true then A else B := by rw [decide_eq_true h]; exact b
theorem w_nno {p : Prop} {inst : Decidable p} {A B : Prop} (h : ¬ p) (a : A) : if (!decide p) = true then A else B := by rw [decide_eq_false h]; exact a
theorem w_itB {b : Bool} {A B : Prop} (h1 : b = true → A) (h2 : b = false → B) : if b = true then A else B := by
  cases b with
  | true => exact h1 rfl
  | false => exact h2 rfl
theorem w_itNB {b : Bool} {A B : Prop} (h1 : b = false → A) (h2 : b = true → B) : if (!b) = true then A else B := by
  cases b with
  | true => exact h2 rfl
  | false => exact h1 rfl
theorem w_nT {A B : Prop} (h : B) : if (!true) = true then A else B := h
theorem w_nF {A B : Prop} (h : A) : if (!false) = true then A else B := h
theorem w_nnT {A B : Prop} (h : A) : if (!(!true)) = true then A else B := h
theorem w_ret {te : TE} (h : te σ H rt) : tRet te ⟨nx, rt, bk, ct⟩ σ H := h
theorem w_drop {te : TE} (h : te σ H fun _ H1 => nx σ H1) : tDrop te ⟨nx, rt, bk, ct⟩ σ H := h
theorem w_next (h : nx σ H) : tNext ⟨nx, rt, bk, ct⟩ σ H := h
theorem w_cb {r : List V → Hp → VK → Prop} {t : TA} (h : t σ H fun vs H1 => r vs H1 Q) : tCB r t σ H Q := h
theorem w_nil {R : List V → Hp → Prop} (h : R [] H) : tNil σ H R := h
theorem w_cons {ta : TE} {tr : TA} {R : List V → Hp → Prop} (h : ta σ H fun x H1 => tr σ H1 fun xs H2 => R (x :: xs) H2) : tCons ta tr σ H R := h
theorem w_call {sp : Sp} {E : XK} {t : TA} (h : t σ H fun vs H1 => sp (vs ++ []) H1 Q E) : tCall sp [] E t σ H Q := h
theorem w_lst {t : TA} (h : t σ H fun xs H1 => xs.length ≤ sizeLine ∧ Nw (.lst xs) H1 Q) : tLst t σ H Q := h
theorem w_tup {t : TA} (h : t σ H fun xs H1 => xs.length ≤ sizeLine ∧ Nw (.tup xs) H1 Q) : tTup t σ H Q := h
theorem w_new {o : HO} (h : ∀ p H2, H p = none → H2 p = some o → Same H H2 → Q (.ref p) H2) : Nw o H Q := fun p hp => h p _ hp upd_same (Same.new hp)
theorem w_sz {n : Nat} {o : HO} (h1 : n ≤ sizeLine) (h : Nw o H Q) : n ≤ sizeLine ∧ Nw o H Q := ⟨h1, h⟩
theorem w_app {p : Addr} {xs : List V} (h1 : H p = some (.lst xs)) (h2 : xs.length < sizeLine) (h : ∀ H1, H1 p = some (.lst (xs ++ [v])) → Off p H H1 → Q .non H1) : rAppend (.ref p) [v] H Q :=
  ⟨p, xs, v, rfl, rfl, h1, h2, h _ upd_same fun x hx => upd_ne hx⟩
theorem w_bm {r : V → List V → Hp → VK → Prop} {to : TE} {t : TA} (h : to σ H fun x H1 => tyV K "list" x H1 ∧ t σ H1 fun xs H2 => r x xs H2 Q) : tBM K "list" r to t σ H Q := h
theorem w_tyL {p : Addr} {xs : List V} {A : Prop} (h1 : H p = some (.lst xs)) (h : A) : tyV K "list" (.ref p) H ∧ A := ⟨.inl ⟨rfl, _, .inl (.inl h1)⟩, h⟩
theorem w_lenL {p : Addr} {ys : List V} (h1 : SqL K H p ys) (h : Q (.int ys.length) H) : rLen K [V.ref p] H Q := ⟨p, ys, rfl, .inl h1, h⟩
theorem w_lenT {p : Addr} {ys : List V} (h1 : SqT K H p ys) (h : Q (.int ys.length) H) : rLen K [V.ref p] H Q := ⟨p, ys, rfl, .inr h1, h⟩
theorem w_min2 {i j : Int} (h : Q (.int (if j < i then j else i)) H) : rMin2 [V.int i, V.int j] H Q := ⟨i, j, rfl, h⟩
theorem w_max2 {i j : Int} (h : Q (.int (if j > i then j else i)) H) : rMax2 [V.int i, V.int j] H Q := ⟨i, j, rfl, h⟩
theorem w_listL {p : Addr} {ys : List V} (h1 : SqL K H p ys) (h : ∀ l H2, H l = none → H2 l = some (.lst ys) → Same H H2 → Q (.ref l) H2) : rListOf K [V.ref p] H Q := ⟨p, ys, rfl, .inl h1, w_new h⟩
theorem w_listT {p : Addr} {ys : List V} (h1 : SqT K H p ys) (h : ∀ l H2, H l = none → H2 l = some (.lst ys) → Same H H2 → Q (.ref l) H2) : rListOf K [V.ref p] H Q := ⟨p, ys, rfl, .inr h1, w_new h⟩
theorem w_tupL {p : Addr} {ys : List V} (h1 : SqL K H p ys) (h : ∀ l H2, H l = none → H2 l = some (.tup ys) → Same H H2 → Q (.ref l) H2) : rTupOf K [V.ref p] H Q := ⟨p, ys, rfl, .inl ⟨h1, w_new h⟩⟩
theorem w_sum {p : Addr} {ns : List Int} (h1 : SqL K H p (ns.map V.int)) (h : Q (.int ns.sum) H) : rSum K [V.ref p] H Q := ⟨p, ns, rfl, h1, h⟩
theorem w_tupRg {te : St → Hp → (Int → Int → Hp → Prop) → Prop} (h : te σ H fun a b H1 => RgOk a b ∧ Nw (.tup (rgV a b)) H1 Q) : tTupRg te σ H Q := h
theorem w_rg2 {ta tb : TE} {R : Int → Int → Hp → Prop} (h : ta σ H fun x H1 => tb σ H1 fun y H2 => rRg2 x y H2 R) : tRg2 ta tb σ H R := h
theorem w_rg2' {i j : Int} {R : Int → Int → Hp → Prop} (h : R i j H) : rRg2 (.int i) (.int j) H R := ⟨i, j, rfl, rfl, h⟩
theorem w_bits {to : TE} (h : to σ H fun x H1 => rBits x H1 Q) : tBits to σ H Q := h
theorem w_bits' {i : Int} (h : Q (.int (Builtin.Int.intBits i : Nat)) H) : rBits (.int i) H Q := ⟨i, rfl, h⟩
theorem w_isi {x : V} {a n : String} {b : Bool} (ty : TyX K H x (.type a)) (hk : kitB a n = some b) (h : Q (.bl b) H) : rIsi K [x, .ty n] H Q := ⟨x, .ty n, _, _, b, rfl, .ty n, ty, kit_ty hk, h⟩
theorem w_eqS {x y : Str} (h : Q (.bl (decide (x = y))) H) : rEq (.str x) (.str y) H Q := ⟨rfl, by
  have e : decide (V.str x = V.str y) = decide (x = y) := by
    by_cases q : x = y
    · subst q; rw [decide_eq_true rfl, decide_eq_true rfl]
    · rw [decide_eq_false q, decide_eq_false (fun z => q (V.str.inj z))]
  rw [e]; exact h⟩
theorem w_eqB {x y : Bool} (h : Q (.bl (decide (x = y))) H) : rEq (.bl x) (.bl y) H Q := ⟨rfl, by
  have e : decide (V.bl x = V.bl y) = decide (x = y) := by
    by_cases q : x = y
    · subst q; rw [decide_eq_true rfl, decide_eq_true rfl]
    · rw [decide_eq_false q, decide_eq_false (fun z => q (V.bl.inj z))]
  rw [e]; exact h⟩
theorem w_tupT {p : Addr} {ys : List V} (h1 : SqT K H p ys) (h : Q (.ref p) H) : rTupOf K [V.ref p] H Q := ⟨p, ys, rfl, .inr ⟨h1, h⟩⟩
/-! targets, dicts -/
theorem w_gtup {a : Addr} {xs : List V} {n : Nat} {t : TGs} {R : St → Hp → Prop} (h1 : SqT K H a xs) (h2 : xs.length = n) (h : t xs σ H R) : gTup K n t (.ref a) σ H R := ⟨a, xs, rfl, h1, h2, h⟩
theorem w_gcons {t : TG} {u : TGs} {r : List V} {R : St → Hp → Prop} (h : t v σ H fun σ' H' => u r σ' H' R) : gCons t u (v :: r) σ H R := ⟨v, r, rfl, h⟩
theorem w_gnil {R : St → Hp → Prop} (h : R σ H) : gNil [] σ H R := ⟨rfl, h⟩
theorem w_din {ty td : TE} (h : ty σ H fun y H1 => td σ H1 fun x H2 => rDIn x y H2 Q) : tDIn ty td σ H Q := h
theorem w_dnotin {ty td : TE} (h : ty σ H fun y H1 => td σ H1 fun x H2 => rDNotIn x y H2 Q) : tDNotIn ty td σ H Q := h
theorem w_dget {ty td : TE} (h : td σ H fun x H1 => ty σ H1 fun y H2 => rDGet x y H2 Q) : tDGet td ty σ H Q := h
theorem w_dinI {a : Addr} {kvs : List (Key × V)} {n : Int} (e : H a = some (.dK kvs)) (h : Q (.bl (valV kvs (Sum.inl n)).isSome) H) : rDIn (.ref a) (.int n) H Q := ⟨a, _, rfl, DGet.k (k := Sum.inl n) e, h⟩
theorem w_dnotinI {a : Addr} {kvs : List (Key × V)} {n : Int} (e : H a = some (.dK kvs)) (h : Q (.bl (!(valV kvs (Sum.inl n)).isSome)) H) : rDNotIn (.ref a) (.int n) H Q := ⟨a, _, rfl, DGet.k (k := Sum.inl n) e, h⟩
theorem w_dgetI {a : Addr} {kvs : List (Key × V)} {n : Int} (e : H a = some (.dK kvs)) (e2 : valV kvs (Sum.inl n) = some v) (h : Q v H) : rDGet (.ref a) (.int n) H Q := ⟨a, v, rfl, e2 ▸ DGet.k (k := Sum.inl n) e, h⟩
theorem w_dnewK (h : Nw (.dK []) H Q) : tDNewK σ H Q := h
theorem w_dput {td ty tv : TE} (h : tv σ H fun v H1 => td σ H1 fun x H2 => ty σ H2 fun y H3 => rDPut x y v H3 fun H4 => nx σ H4) : sDPut td ty tv ⟨nx, rt, bk, ct⟩ σ H := h
theorem w_seqP {td ty tv : TE} {u : TS} (h : tv σ H fun v H1 => td σ H1 fun x H2 => ty σ H2 fun y H3 => rDPut x y v H3 fun H4 => u ⟨nx, rt, bk, ct⟩ σ H4) : tSeq (sDPut td ty tv) u ⟨nx, rt, bk, ct⟩ σ H := h
theorem w_dputI {a : Addr} {kvs : List (Key × V)} {n : Int} {R : Hp → Prop} (e : H a = some (.dK kvs)) (hl : kvs.length < sizeLine) (h : ∀ H1, H1 a = some (.dK (putK kvs (Sum.inl n) v)) → Off a H H1 → R H1) : rDPut (.ref a) (.int n) v H R :=
  ⟨a, _, rfl, DPut.k (k := Sum.inl n) e hl, h _ upd_same fun x hx => upd_ne hx⟩
theorem w_dget2 {td ty tx : TE} (h : td σ H fun x H1 => rIsD x H1 fun a H1 => ty σ H1 fun y H2 => tx σ H2 fun z H3 => rDGet2 a y z H3 Q) : tDGet2 td ty tx σ H Q := h
theorem w_isD {a : Addr} {kvs : List (Key × V)} {R : Addr → Hp → Prop} (e : H a = some (.dK kvs)) (h : R a H) : rIsD (.ref a) H R := ⟨a, rfl, .inl ⟨kvs, .inl e⟩, h⟩
theorem w_dget2I {a : Addr} {kvs : List (Key × V)} {n : Int} {z : V} (e : H a = some (.dK kvs)) (h : Q ((valV kvs (Sum.inl n)).getD z) H) : rDGet2 a (.int n) z H Q := ⟨_, DGet.k (k := Sum.inl n) e, h⟩
theorem w_dsetd {td ty tx : TE} (h : td σ H fun x H1 => rIsD x H1 fun a H1 => ty σ H1 fun y H2 => tx σ H2 fun z H3 => rDSetd a y z H3 Q) : tDSetd td ty tx σ H Q := h
theorem w_dsetdI {a : Addr} {kvs : List (Key × V)} {n : Int} {z : V} (e : H a = some (.dK kvs)) (hl : kvs.length < sizeLine) (h1 : ∀ u, valV kvs (Sum.inl n) = some u → Q u H) (h2 : valV kvs (Sum.inl n) = none → ∀ H1, H1 a = some (.dK (putK kvs (Sum.inl n) z)) → Off a H H1 → Q z H1) : rDSetd a (.int n) z H Q :=
  ⟨kvs, Sum.inl n, e, rfl, hl, h1, fun z => h2 z _ upd_same fun x hx => upd_ne hx⟩
theorem w_sortD {a : Addr} {kvs : List (Key × V)} {ks : List Int} (e : H a = some (.dK kvs)) (hk : kvs.map (·.1) = ks.map Sum.inl) (hl : ks.length < 64) (h : ∀ (ys : List Int) p H1, ys.Perm ks → ys.Pairwise (· ≤ ·) → H p = none → H1 p = some (.lst (ys.map V.int)) → Same H H1 → Q (.ref p) H1) : rSortD [.ref a] H Q :=
  ⟨a, kvs, ks, rfl, .inl e, hk, hl, fun ys p hp hs hn => h ys p _ hp hs hn upd_same (Same.new hn)⟩
theorem w_leT2 {p q : Addr} {a b c d : Int} (h1 : SqT K H p [.int a, .int b]) (h2 : SqT K H q [.int c, .int d]) (h : Q (.bl (decide (a < c ∨ a = c ∧ b ≤ d))) H) : rLeT K (.ref p) (.ref q) H Q := by
  refine ⟨p, q, [a, b], [c, d], rfl, rfl, h1, h2, ?_⟩
  have e : Ob.lexAt (fun j => decide (([a, b] : List Int).getD j 0 = ([c, d] : List Int).getD j 0)) (fun j => decide (([a, b] : List Int).getD j 0 ≤ ([c, d] : List Int).getD j 0)) (decide (([a, b] : List Int).length ≤ ([c, d] : List Int).length)) 0 (min ([a, b] : List Int).length ([c, d] : List Int).length) = decide (a < c ∨ a = c ∧ b ≤ d) := by
    show (if decide (a = c) = true then (if decide (b = d) = true then true else decide (b ≤ d)) else decide (a ≤ c)) = _
    by_cases h1 : a = c
    · rw [if_pos (decide_eq_true h1)]
      by_cases h2 : b = d
      · rw [if_pos (decide_eq_true h2)]
        exact (decide_eq_true (by omega)).symm
      · rw [if_neg (fun z => h2 (of_decide_eq_true z))]
        rw [Bool.eq_iff_iff]; simp; omega
    · rw [if_neg (fun z => h1 (of_decide_eq_true z))]
      rw [Bool.eq_iff_iff]; simp; omega
  rw [e]
  exact h
theorem inV_ints (n : Int) (vs : List Int) : inV (.int n) (vs.map V.int) = decide (n ∈ vs) := by
  unfold inV
  rw [Bool.eq_iff_iff, List.any_eq_true]
  constructor
  · rintro ⟨y, hy, e⟩
    obtain ⟨z, hz, rfl⟩ := List.mem_map.mp hy
    have e' : z = n := by simpa [eqV] using e
    subst e'
    exact decide_eq_true hz
  · intro h
    exact ⟨.int n, List.mem_map_of_mem (of_decide_eq_true h), by simp [eqV]⟩
theorem flat_ints (vs : List Int) : (vs.map V.int).all flatV = true := by
  rw [List.all_eq_true]
  intro y hy
  obtain ⟨z, _, rfl⟩ := List.mem_map.mp hy
  rfl
theorem w_inT {p : Addr} {vs : List Int} {n : Int} (h1 : SqT K H p (vs.map V.int)) (h : Q (.bl (decide (n ∈ vs))) H) : rIn K false (.int n) (.ref p) H Q := ⟨p, _, rfl, .inr h1, rfl, flat_ints vs, by rw [inV_ints]; exact h⟩
theorem w_ninT {p : Addr} {vs : List Int} {n : Int} (h1 : SqT K H p (vs.map V.int)) (h : Q (.bl (!decide (n ∈ vs))) H) : rIn K true (.int n) (.ref p) H Q := ⟨p, _, rfl, .inr h1, rfl, flat_ints vs, by rw [inV_ints]; exact h⟩
theorem w_inL {p : Addr} {vs : List Int} {n : Int} (h1 : SqL K H p (vs.map V.int)) (h : Q (.bl (decide (n ∈ vs))) H) : rIn K false (.int n) (.ref p) H Q := ⟨p, _, rfl, .inl h1, rfl, flat_ints vs, by rw [inV_ints]; exact h⟩
theorem w_ninL {p : Addr} {vs : List Int} {n : Int} (h1 : SqL K H p (vs.map V.int)) (h : Q (.bl (!decide (n ∈ vs))) H) : rIn K true (.int n) (.ref p) H Q := ⟨p, _, rfl, .inl h1, rfl, flat_ints vs, by rw [inV_ints]; exact h⟩
def rDisp (p : Addr) (ps : List (V × V)) (H2 : Hp) (Q : VK) : Prop := H2 p = some (.dK []) ∧ ∃ kvs : List (Key × V), ps = kvs.map (fun kv => (kV kv.1, kv.2)) ∧ kvs.length ≤ 15 ∧ Q (.ref p) (upd H2 p (.dK (mergeK [] kvs)))
theorem w_disp {trs : List (TE × TE)} (h : ∀ p H1, H p = none → H1 p = some (.dK []) → Same H H1 → tPairs trs σ H1 (fun ps H2 => rDisp p ps H2 Q)) : tDisp trs σ H Q := fun p hp => h p _ hp upd_same (Same.new hp)
theorem w_pair {tk tv : TE} {r : List (TE × TE)} {R : List (V × V) → Hp → Prop} (h : tk σ H fun x H1 => tv σ H1 fun y H2 => tPairs r σ H2 fun ps H3 => R ((x, y) :: ps) H3) : tPairs ((tk, tv) :: r) σ H R := h
theorem w_pnil {R : List (V × V) → Hp → Prop} (h : R [] H) : tPairs [] σ H R := h
theorem w_dispE {p : Addr} {ps : List (V × V)} (kvs : List (Key × V)) (h1 : H p = some (.dK [])) (h2 : ps = kvs.map (fun kv => (kV kv.1, kv.2))) (h3 : kvs.length ≤ 15) (h : ∀ H1, H1 p = some (.dK (mergeK [] kvs)) → Off p H H1 → Q (.ref p) H1) : rDisp p ps H Q :=
  ⟨h1, kvs, h2, h3, h _ upd_same fun x hx => upd_ne hx⟩
theorem w_callS {sp : Sp} {E : St → XK} {t : TA} (h : t σ H fun vs H1 => sp vs H1 Q (E σ)) : tCallS sp E t σ H Q := h
theorem w_isB {x y : Bool} (h : Q (.bl (decide (x = y))) H) : rIsBl (.bl x) (.bl y) H Q := ⟨x, y, rfl, rfl, h⟩
theorem w_isN (h : Q (.bl (decide (v = .non))) H) : rIsNon v .non H Q := ⟨rfl, h⟩
theorem w_notN (h : Q (.bl (!decide (v = .non))) H) : rNotNon v .non H Q := ⟨rfl, h⟩
theorem w_chain {r r' : R2} {ta tb tc : TE} (h : ta σ H fun x H1 => tb σ H1 fun y H2 => r x y H2 fun z H3 => ∃ k, z = .bl k ∧ (if k = true then tc σ H3 fun w' H4 => r' y w' H4 Q else Q (.bl false) H3)) : tChain r r' ta tb tc σ H Q := h
theorem w_trL {p : Addr} {xs : List V} {R : Bool → Hp → Prop} (h1 : SqL K H p xs) (h : R (!xs.isEmpty) H) : rTru K (.ref p) H R := ⟨_, .inl ⟨xs, h1, rfl⟩, h⟩
theorem w_trT {p : Addr} {xs : List V} {R : Bool → Hp → Prop} (h1 : SqT K H p xs) (h : R (!xs.isEmpty) H) : rTru K (.ref p) H R := ⟨_, .inr (.inl ⟨xs, h1, rfl⟩), h⟩
theorem w_tru {ta : TE} {R : Bool → Hp → Prop} (h : ta σ H fun x H1 => rTru K x H1 R) : tTru K ta σ H R := h
theorem w_seqX {w : Stmt → Prop} {u : TS} {t : TS} (h : t ⟨u ⟨nx, rt, bk, ct⟩, rt, bk, ct⟩ σ H) : tSeq t u ⟨nx, rt, bk, ct⟩ σ H := h
/-! loops -/
def Lp (J : It) (g : TG) (tb : TS) (D : Ends) (σ : St) (H1 : Hp) : Prop := ∃ W : Nat → Nat → St → Hp → Prop, (∃ m, W 0 m σ H1) ∧ ∀ i m σ H, W i m σ H →
  (J.stop i H ∧ D.nx σ H) ∨ (J.go i H ∧ ∃ N : St → Hp → Prop, (∀ σ' H', N σ' H' → ∃ m', m' < m ∧ W (i + 1) m' σ' H') ∧ ∀ x H', J.yld i H x H' → g x σ H' fun σ2 H2 => tb { D with nx := N, ct := N, bk := D.nx } σ2 H2)
theorem w_for {wi : TI} {g : TG} {tb : TS} (h : wi σ H fun J H1 => Lp J g tb ⟨nx, rt, bk, ct⟩ σ H1) : tFor wi g tb ⟨nx, rt, bk, ct⟩ σ H := h
theorem lp_it {J : It} {n : Nat} {G : Hp → Prop} {Y : Nat → Hp → V → Hp → Prop} (w : Walk J n G Y) {g : TG} {tb : TS} (Pv : Nat → St → Hp → Prop) (h0 : Pv 0 σ H) (hG : ∀ i σ H, i ≤ n → Pv i σ H → G H)
    (hs : ∀ i x σ H H', i < n → Pv i σ H → Y i H x H' → g x σ H' fun σ2 H2 => tb ⟨Pv (i + 1), rt, nx, Pv (i + 1)⟩ σ2 H2) (hd : ∀ σ H, Pv n σ H → nx σ H) : Lp J g tb ⟨nx, rt, bk, ct⟩ σ H :=
  for_it w (D := ⟨nx, rt, bk, ct⟩) Pv h0 hG hs hd
theorem lp_list {a : Addr} {xs : List V} {g : TG} {tb : TS} (Pv : Nat → St → Hp → Prop) (h0 : Pv 0 σ H) (hl : ∀ i σ H, i ≤ xs.length → Pv i σ H → SqL K H a xs)
    (hs : ∀ i x σ H, xs[i]? = some x → Pv i σ H → g x σ H fun σ2 H2 => tb ⟨Pv (i + 1), rt, nx, Pv (i + 1)⟩ σ2 H2) (hd : ∀ σ H, Pv xs.length σ H → nx σ H) : Lp (Itl K a) g tb ⟨nx, rt, bk, ct⟩ σ H :=
  for_list (D := ⟨nx, rt, bk, ct⟩) Pv h0 hl hs hd
theorem lp_tup {a : Addr} {xs : List V} {g : TG} {tb : TS} (Pv : Nat → St → Hp → Prop) (h0 : Pv 0 σ H) (hl : ∀ i σ H, i ≤ xs.length → Pv i σ H → SqT K H a xs)
    (hs : ∀ i x σ H, xs[i]? = some x → Pv i σ H → g x σ H fun σ2 H2 => tb ⟨Pv (i + 1), rt, nx, Pv (i + 1)⟩ σ2 H2) (hd : ∀ σ H, Pv xs.length σ H → nx σ H) : Lp (Itt K a) g tb ⟨nx, rt, bk, ct⟩ σ H :=
  for_tup (D := ⟨nx, rt, bk, ct⟩) Pv h0 hl hs hd
theorem lp_range {lo : Int} {n : Nat} {g : TG} {tb : TS} (Pv : Nat → St → Hp → Prop) (h0 : Pv 0 σ H)
    (hs : ∀ i σ H, i < n → Pv i σ H → g (.int (lo + i)) σ H fun σ2 H2 => tb ⟨Pv (i + 1), rt, nx, Pv (i + 1)⟩ σ2 H2) (hd : ∀ σ H, Pv n σ H → nx σ H) : Lp (Itr lo n) g tb ⟨nx, rt, bk, ct⟩ σ H :=
  for_range (D := ⟨nx, rt, bk, ct⟩) Pv h0 hs hd
theorem w_rng1 {t : TA} {R : It → Hp → Prop} (h : t σ H fun vs H1 => rRng1 vs H1 R) : iRng1 t σ H R := h
theorem w_rng1' {j : Int} {R : It → Hp → Prop} (h1 : -(2 ^ 62) ≤ j) (h2 : j < 2 ^ 62) (h : R (Itr 0 j.toNat) H) : rRng1 [.int j] H R := ⟨j, rfl, h1, h2, h⟩
theorem w_rng2 {t : TA} {R : It → Hp → Prop} (h : t σ H fun vs H1 => rRng2 vs H1 R) : iRng2 t σ H R := h
theorem w_rng2' {i j : Int} {R : It → Hp → Prop} (h1 : -(2 ^ 62) ≤ i ∧ i < 2 ^ 62 ∧ -(2 ^ 62) ≤ j ∧ j < 2 ^ 62) (h : R (Itr i (j - i).toNat) H) : rRng2 [.int i, .int j] H R := ⟨i, j, rfl, h1, h⟩
theorem w_itL {tl : TE} {R : It → Hp → Prop} (h : tl σ H fun x H1 => rItL K x H1 R) : iList K tl σ H R := h
theorem w_itL' {a : Addr} {xs : List V} {R : It → Hp → Prop} (h1 : SqL K H a xs) (h : R (Itl K a) H) : rItL K (.ref a) H R := ⟨a, rfl, ⟨xs, h1⟩, h⟩
theorem w_itT {tl : TE} {R : It → Hp → Prop} (h : tl σ H fun x H1 => rItT K x H1 R) : iTup K tl σ H R := h
theorem w_itT' {a : Addr} {xs : List V} {R : It → Hp → Prop} (h1 : SqT K H a xs) (h : R (Itt K a) H) : rItT K (.ref a) H R := ⟨a, rfl, ⟨xs, h1⟩, h⟩
theorem w_while {c : TT} {tb : TS} (Pv : St → Hp → Prop) (μ : St → Hp → Nat) (h0 : Pv σ H)
    (hs : ∀ σ H, Pv σ H → c σ H fun b H1 => if b = true then ∃ N : St → Hp → Prop, (∀ σ' H', N σ' H' → Pv σ' H' ∧ μ σ' H' < μ σ H) ∧ tb ⟨N, rt, nx, N⟩ σ H1 else nx σ H1) (mono : ∀ σ H (R R' : Bool → Hp → Prop), (∀ b H1, R b H1 → R' b H1) → c σ H R → c σ H R') : tWhile c tb ⟨nx, rt, bk, ct⟩ σ H := by
  refine ⟨fun m σ H => m = μ σ H ∧ Pv σ H, ⟨_, rfl, h0⟩, ?_⟩
  rintro m σ H ⟨rfl, p⟩
  refine mono σ H _ _ (fun b H1 q => ?_) (hs σ H p)
  cases b with
  | true =>
    obtain ⟨N, h1, h2⟩ := q
    exact ⟨N, fun σ' H' z => ⟨_, (h1 σ' H' z).2, rfl, (h1 σ' H' z).1⟩, h2⟩
  | false => exact q
/-- one turn of a while: W (by a falling number) is reached again -/
def WhT (W : Nat → St → Hp → Prop) (m : Nat) (tb : TS) (rt : VK) (nx : St → Hp → Prop) (σ : St) (H : Hp) : Prop := ∃ N : St → Hp → Prop, (∀ σ' H', N σ' H' → ∃ m', m' < m ∧ W m' σ' H') ∧ tb ⟨N, rt, nx, N⟩ σ H
theorem w_turn {W : Nat → St → Hp → Prop} {m : Nat} {tb : TS} (h : tb ⟨fun σ' H' => ∃ m', m' < m ∧ W m' σ' H', rt, nx, fun σ' H' => ∃ m', m' < m ∧ W m' σ' H'⟩ σ H) : WhT W m tb rt nx σ H := ⟨_, fun _ _ z => z, h⟩
theorem w_whileN {c : TT} {tb : TS} (W : Nat → St → Hp → Prop) (m0 : Nat) (h0 : W m0 σ H) (hs : ∀ m σ H, W m σ H → c σ H fun b H1 => if b = true then WhT W m tb rt nx σ H1 else nx σ H1) : tWhile c tb ⟨nx, rt, bk, ct⟩ σ H := ⟨W, ⟨m0, h0⟩, hs⟩
/-! comprehensions -/
def LcP (J : It) (g : TG) (tt : TT) (te : TE) (vs : List Nat) (Q : VK) (σ : St) (H1 : Hp) : Prop := ∀ D, H1 D = none → ∃ W : Nat → Nat → Hp → Prop, (∃ m, W 0 m (upd H1 D (.lst []))) ∧ ∀ i m H, W i m H →
  (J.stop i H ∧ Q (.ref D) H) ∨ (J.go i H ∧ ∃ Nx : Hp → Prop, (∀ H', Nx H' → ∃ m', m' < m ∧ W (i + 1) m' H') ∧ ∀ x H', J.yld i H x H' → g x (wipe σ vs) H' fun σ2 H2 => wipe σ2 vs = wipe σ vs ∧ tt σ2 H2 fun b H3 =>
    if b = true then te σ2 H3 fun y H4 => ∃ acc, H4 D = some (.lst acc) ∧ acc.length < sizeLine ∧ Nx (upd H4 D (.lst (acc ++ [y]))) else Nx H3)
theorem w_lc {wi : TI} {g : TG} {tt : TT} {te : TE} {vs : List Nat} (h : wi σ H fun J H1 => LcP J g tt te vs Q σ H1) : tLc wi g tt te vs σ H Q := h
/-- each turn adds one: the k-th is ys[k]; what stood but M stands -/
theorem lcp_map {J : It} {n : Nat} {G : Hp → Prop} {Y : Nat → Hp → V → Hp → Prop} (w : Walk J n G Y) {g : TG} {te : TE} {vs : List Nat} (M : List Addr) (ys : List V) (hn : ys.length = n) (hz : n ≤ 1000000) (hG : ∀ H', Kp M H H' → G H')
    (hs : ∀ i x H1 H2 (R : V → Hp → Prop), i < n → Kp M H H1 → Y i H1 x H2 → (∀ y H4, ys[i]? = some y → Kp M H1 H4 → R y H4) → g x (wipe σ vs) H2 fun σ2 H3 => wipe σ2 vs = wipe σ vs ∧ te σ2 H3 R)
    (hM : ∀ b ∈ M, ∃ o, H b = some o)
    (hd : ∀ D H', H D = none → Kp M H H' → H' D = some (.lst ys) → Q (.ref D) H') : LcP J g tYes te vs Q σ H := by
  intro D hD
  have hDM : D ∉ M := fun z => by obtain ⟨o, e⟩ := hM D z; rw [hD] at e; cases e
  refine lc_it w (fun i H' => Kp M H H' ∧ H' D = some (.lst (ys.take i))) ⟨Kp.new hD, upd_same⟩ (fun i H' _ z => hG H' z.1) ?_ ?_
  · rintro i x H1 H2 hi ⟨k1, e1⟩ y
    refine (hs i x H1 H2 _ hi k1 y ?_)
    intro z H4 hz' k4
    refine ⟨ys.take i, k4 _ _ hDM e1, ?_, ?_, ?_⟩
    · rw [List.length_take]; exact Nat.lt_of_le_of_lt (Nat.min_le_left _ _) (Nat.lt_of_lt_of_le (Nat.lt_of_lt_of_le hi hz) (by decide))
    · exact (k1.trans k4).mutN hD
    · rw [upd_same, List.take_add_one, hz']; rfl
  · rintro H' ⟨k, e⟩
    rw [List.take_of_length_le (by omega)] at e
    exact hd D H' hD k e
/-- each turn adds one of which P holds (P leans on tuples alone); S: what else holds turn by turn -/
theorem lcp_gen {J : It} {n : Nat} {G : Hp → Prop} {Y : Nat → Hp → V → Hp → Prop} (w : Walk J n G Y) {g : TG} {te : TE} {vs : List Nat} (M : List Addr) (P : Nat → V → Hp → Prop) (S : Nat → Hp → Prop) (hz : n ≤ 1000000)
    (mono : ∀ i y H1 H2, KT H1 H2 → P i y H1 → P i y H2) (SD : ∀ D, H D = none → ∀ i H1 o, S i H1 → S i (upd H1 D o)) (hG : ∀ i H', Kp M H H' → S i H' → G H') (S0 : S 0 H)
    (hs : ∀ i x H1 H2 (R : V → Hp → Prop), i < n → Kp M H H1 → KT H H1 → S i H1 → Y i H1 x H2 → (∀ y H4, P i y H4 → Kp M H1 H4 → KT H1 H4 → S (i + 1) H4 → R y H4) → g x (wipe σ vs) H2 fun σ2 H3 => wipe σ2 vs = wipe σ vs ∧ te σ2 H3 R)
    (hM : ∀ b ∈ M, ∃ o, H b = some o)
    (hd : ∀ D H' ys, ys.length = n → (∀ i y, ys[i]? = some y → P i y H') → H D = none → Kp M H H' → KT H H' → S n H' → H' D = some (.lst ys) → Q (.ref D) H') : LcP J g tYes te vs Q σ H := by
  intro D hD
  have hDM : D ∉ M := fun z => by obtain ⟨o, e⟩ := hM D z; rw [hD] at e; cases e
  refine lc_it w (fun i H' => Kp M H H' ∧ KT H H' ∧ S i H' ∧ ∃ ys, ys.length = i ∧ H' D = some (.lst ys) ∧ ∀ k y, ys[k]? = some y → P k y H') ⟨Kp.new hD, KT.refl.upd hD, SD D hD _ _ _ S0, [], rfl, upd_same, by simp⟩ (fun i H' _ z => hG i H' z.1 z.2.2.1) ?_ ?_
  · rintro i x H1 H2 hi ⟨k1, t1, s1, ys, hl, e1, hp⟩ y
    refine hs i x H1 H2 _ hi k1 t1 s1 y ?_
    intro z H4 pz k4 t4 s4
    have e4 := k4 _ _ hDM e1
    refine ⟨ys, e4, ?_, (k1.trans k4).mutN hD, (t1.trans t4).upd hD, SD D hD _ _ _ s4, ys ++ [z], by rw [List.length_append, hl]; rfl, upd_same, ?_⟩
    · rw [hl]; exact Nat.lt_of_lt_of_le (Nat.lt_of_lt_of_le hi hz) (by decide)
    · intro k y' hy'
      by_cases hk : k < ys.length
      · rw [List.getElem?_append_left hk] at hy'
        exact mono _ _ _ _ (KT.updL e4) (mono _ _ _ _ t4 (hp k y' hy'))
      · rw [List.getElem?_append_right (by omega)] at hy'
        by_cases hk2 : k = ys.length
        · subst hk2
          have e : z = y' := by simpa using hy'
          subst e
          rw [hl]
          exact mono _ _ _ _ (KT.updL e4) pz
        · rw [List.getElem?_eq_none (by simp; omega)] at hy'
          cases hy'
  · rintro H' ⟨k, t, sn, ys, hl, e, hp⟩
    exact hd D H' ys hl hp hD k t sn e
theorem lcp_rel {J : It} {n : Nat} {G : Hp → Prop} {Y : Nat → Hp → V → Hp → Prop} (w : Walk J n G Y) {g : TG} {te : TE} {vs : List Nat} (M : List Addr) (P : Nat → V → Hp → Prop) (hz : n ≤ 1000000)
    (mono : ∀ i y H1 H2, KT H1 H2 → P i y H1 → P i y H2) (hG : ∀ H', Kp M H H' → G H')
    (hs : ∀ i x H1 H2 (R : V → Hp → Prop), i < n → Kp M H H1 → KT H H1 → Y i H1 x H2 → (∀ y H4, P i y H4 → Kp M H1 H4 → KT H1 H4 → R y H4) → g x (wipe σ vs) H2 fun σ2 H3 => wipe σ2 vs = wipe σ vs ∧ te σ2 H3 R)
    (hM : ∀ b ∈ M, ∃ o, H b = some o)
    (hd : ∀ D H' ys, ys.length = n → (∀ i y, ys[i]? = some y → P i y H') → H D = none → Kp M H H' → KT H H' → H' D = some (.lst ys) → Q (.ref D) H') : LcP J g tYes te vs Q σ H :=
  lcp_gen w M P (fun _ _ => True) hz mono (fun _ _ _ _ _ _ => trivial) (fun _ H' k _ => hG H' k) trivial (fun i x H1 H2 R hi k t _ y h => hs i x H1 H2 R hi k t y fun y' H4 p k4 t4 => h y' H4 p k4 t4 trivial) hM fun D H' ys h1 h2 h3 h4 h5 _ h6 => hd D H' ys h1 h2 h3 h4 h5 h6
theorem refs_of {α : Type} (C : Addr → α → Prop) : ∀ (ys : List V) (F : Nat → α), (∀ j y, ys[j]? = some y → ∃ p, y = .ref p ∧ C p (F j)) → ∃ ps : List (Addr × α), ys = ps.map (fun q => .ref q.1) ∧ ps.map (·.2) = (List.range ys.length).map F ∧ ∀ q ∈ ps, C q.1 q.2
  | [], _, _ => ⟨[], rfl, rfl, by simp⟩
  | y :: r, F, h => by
    obtain ⟨p, rfl, hp⟩ := h 0 y rfl
    obtain ⟨ps, e1, e2, e3⟩ := refs_of C r (F ∘ Nat.succ) fun j z hz => h (j + 1) z hz
    refine ⟨(p, F 0) :: ps, by rw [e1]; rfl, ?_, ?_⟩
    · rw [List.length_cons, List.range_succ_eq_map, List.map_cons, e2, List.map_cons, List.map_map]
    · intro q hq
      rcases List.mem_cons.mp hq with rfl | hq
      · exact hp
      · exact e3 q hq
end
/-! ### errors -/
/-- what the top has written of an own error class without __init__ -/
structure Exn (K : PySem.W.Frag) (mg : Str → Option Value) (x : Str) (C : Addr) : Prop where
  g : mg x = some (.ref C)
  x : PySem.W.excIn K C [.type "ValueError", .type "Exception", .type "BaseException", .type "object"] "ValueError.__new__" = true
  k : PySem.W.keepIn K (.ref C) = true
  b : PySem.W.subIn K (.ref C) (.type "BaseException") = some true
  t : PySem.W.typeIn K (.ref C) = some (.type "type")
  e : PySem.W.exmOne K (.ref C) (.ref C) = some true
theorem exm_is {K : PySem.W.Frag} {t : Value} {C : Addr} {r : Bool} (hb : PySem.W.subIn K (.ref C) (.type "BaseException") = some true) (hi : PySem.W.isClsIn K C = true) (ht : PySem.W.typeIn K (.ref C) = some (.type "type")) (hs : PySem.W.subIn K t (.ref C) = some r) : PySem.W.exmOne K t (.ref C) = some r := by
  have hi' : (PySem.W.clsIn K C).isSome = true := hi
  unfold PySem.W.exmOne
  rw [hb, if_pos (by rfl)]
  show (if ((PySem.W.clsIn K C).isSome && PySem.W.typeIn K (Value.ref C) == some (Value.type "type")) = true then PySem.W.subIn K t (Value.ref C) else none) = some r
  rw [hi', ht]
  exact hs
def tTryO (K : PySem.W.Frag) (c : Value) (tb : WX → TS) (ts : Addr → Value → Option Addr → TS) : TS := fun D σ H => tb (wOnly K c ts (fun _ _ _ _ => False) D) D σ H
section
variable {X : Cx} {x : Str} {c : Value} {body suite : List Stmt} {b₀ : Stmt} {np pos pos' : Pos} {tb : WX → TS} {ts : Addr → Value → Option Addr → TS}
theorem p_try (hs : X.stack = X.env :: X.outer) (hf : X.env.frame = some X.env.locals) (hc : Names X x c)
    (hb : ∀ (W : WX) (pn : List (Addr × Obj)) (xe : Value → Shared → Prop), Takes (X.tr pn xe) W → PassesOwn (model X.prog X.w) X.A X.env xe → PSs (X.tr pn xe) body (tb W))
    (hsu : ∀ (a : Addr) (oe : Obj) (cls : Value) (d : Option Addr) (pn : List (Addr × Obj)), Zc cls d oe → (∃ vs, oe.data = .fields vs) → PSs (X.suite a ((a, oe) :: pn)) (b₀ :: suite) (ts a cls d)) :
    PS X (.Try body [.ExceptHandler (some (.Name x np)) none (b₀ :: suite) pos'] [] [] pos) (tTryO X.K c tb ts) := ps_try_only hs hf hc takes0 hb hsu
end
section
variable {K : PySem.W.Frag} {σ : St} {H : Hp} {nx bk ct : St → Hp → Prop} {rt : VK}
theorem w_try {c : Value} {tb : WX → TS} {ts : Addr → Value → Option Addr → TS} (h : tb (wOnly K c ts (fun _ _ _ _ => False) ⟨nx, rt, bk, ct⟩) ⟨nx, rt, bk, ct⟩ σ H) : tTryO K c tb ts ⟨nx, rt, bk, ct⟩ σ H := h
theorem w_only {c cls : Value} {d : Option Addr} {ts : Addr → Value → Option Addr → TS} {Wo : WX} {D : Ends} (e : PySem.W.exmOne K cls c = some true) (h : ∀ a, H a = none → ts a cls d D σ H) : wOnly K c ts Wo D cls d σ H := ⟨true, e, fun _ => h, fun z => nomatch z⟩
end
/-! ### dict comprehensions -/
section
open PySem.Spec PyProof.Rows
variable {X : Cx}
/-- name = {k: v for ..}, the name a local: as the layer's rule for a list's comprehension -/
theorem ps_setDc {i : Nat} {y : Str} {py : Pos} {kx vx tg iter : Expr} {ifs : List Expr} {scope : Scope} {own : List (Str × Nat)} {pos spos : Pos} {wi : TI} {g : TG} {tt : TT} {tk tv : TE}
    (hc : X.calm = true) (hN : X.N.Nodup) (hy : X.N[i]? = some y) (hyl : X.env.scope.names.lookup y = some .local)
    (hsw : swapsWith (.DictComp kx vx [⟨tg, iter, ifs, 0⟩] scope pos) (some (.Name y py)) spos.line X.env = pure true)
    (hi : PI X tg iter wi) (ok : BlkOk X.N X.env.scope scope own)
    (hg : ∀ s0 H0 C0 cl fp, PG (X.blk s0 H0 scope (compEnvC scope cl C0 X.env) fp) tg g) (ht : ∀ s0 H0 C0 cl fp, PTs (X.blk s0 H0 scope (compEnvC scope cl C0 X.env) fp) ifs tt)
    (hk : ∀ s0 H0 C0 cl fp, PE (X.blk s0 H0 scope (compEnvC scope cl C0 X.env) fp) kx tk) (he : ∀ s0 H0 C0 cl fp, PE (X.blk s0 H0 scope (compEnvC scope cl C0 X.env) fp) vx tv)
    (hs : ∀ z, foldedSetIterable iter X.env z = pure z := by intro _; rfl) :
    PS X (.Assign [.Name y py] (.DictComp kx vx [⟨tg, iter, ifs, 0⟩] scope pos) spos) (tAsg (tDc wi g tt tk tv (own.map (·.2))) (gName i)) := by
  constructor
  intro pins s σ H Ed I h
  rw [exec_Assign_Name_used y py _ _ hsw]
  apply wpAny_bind
  apply wpAny_standAt
  apply wpAny_bind
  show wpAny _ X.A (comprehension (.DictComp kx vx [⟨tg, iter, ifs, 0⟩] scope pos) scope X.env (firstIterPos [⟨tg, iter, ifs, 0⟩] pos) newDict false (eval iter X.env) (some (assign (.Name y py) X.env)) >>= fun _ => pure ()) _ _ s
  apply wpAny_bind
  have h' : tDc wi g tt tk tv (own.map (·.2)) σ H (fun x H1 => gName i x σ H1 Ed.nx) := h
  refine thn (dc_core (Qf := fun _ s1 => SP X pins Ed .next s1) hc hN I hi ok hg ht hk he hs h' ?_) (fun _ _ z => wpAny_pure (wpAny_pure z))
  intro L C s1 m H1 I1 q hn ff
  obtain ⟨f0, f1, f2, f3, f4, f5⟩ := ff
  show wpAny _ _ (assign (.Name y py) X.env (.ref L)) _ _ _
  apply wpAny_assign_Name
  refine store_ok2 (v := V.ref L) I1 hN hy (.inl hyl) rfl ?_ (.inr hyl)
  rintro s2 I2 ⟨ad, sb, had⟩
  have hne : C ≠ ad := by
    rcases had with hz | hz
    · exact fun e => f1 (e.trans hz)
    · exact fun e => f4 y ad hz e.symm
  refine ⟨m, hn.sameBut sb hne, fun h3 sb3 => ⟨_, H1, ?_, q⟩⟩
  exact I2.turned (t' := s2.toks) (fun b o hb e => (sb3.2 b hb).trans e) f0 f1 f3 f4 f5
theorem sw_trueD {kx vx : Expr} {gs : List Comprehension} {scope : Scope} {pos py : Pos} {y : Str} {l : Nat} {env : Env} (hkd : env.scope.kind = .function) (hlk : env.scope.names.lookup y = some .local)
    (hln : (py.line == pos.line) = true) (hno : (scope.names.any fun (n, k) => n == y && (k == .local || k == .cell)) = false) : swapsWith (.DictComp kx vx gs scope pos) (some (.Name y py)) l env = pure true := by
  have e1 : env.kindOf y = some .local := hlk
  have e2 : env.blockKind = .function := by
    unfold Env.blockKind
    rw [hkd]
    rfl
  unfold swapsWith
  simp only [e2, e1, hno, Expr.pos, hln]
  rfl
end
section
variable {K : PySem.W.Frag} {σ : St} {H : Hp} {Q : VK}
def DcP (J : It) (g : TG) (tt : TT) (tk tv : TE) (vs : List Nat) (Q : VK) (σ : St) (H1 : Hp) : Prop := ∀ D, H1 D = none → ∃ W : Nat → Nat → Hp → Prop, (∃ m, W 0 m (upd H1 D (.dK []))) ∧ ∀ i m H, W i m H →
  (J.stop i H ∧ Q (.ref D) H) ∨ (J.go i H ∧ ∃ Nx : Hp → Prop, (∀ H', Nx H' → ∃ m', m' < m ∧ W (i + 1) m' H') ∧ ∀ x H', J.yld i H x H' → g x (wipe σ vs) H' fun σ2 H2 => wipe σ2 vs = wipe σ vs ∧ tt σ2 H2 fun b H3 =>
    if b = true then tk σ2 H3 fun y H4 => tv σ2 H4 fun z H5 => ∃ kvs k, y = kV k ∧ H5 D = some (.dK kvs) ∧ kvs.length < sizeLine ∧ Nx (upd H5 D (.dK (putK kvs k z))) else Nx H3)
theorem w_dc {wi : TI} {g : TG} {tt : TT} {tk tv : TE} {vs : List Nat} (h : wi σ H fun J H1 => DcP J g tt tk tv vs Q σ H1) : tDc wi g tt tk tv vs σ H Q := h
theorem putK_len' {κ : Type} [DecidableEq κ] (c : List (κ × V)) (k : κ) (x : V) : (putK c k x).length ≤ c.length + 1 := by
  unfold putK
  by_cases e : (c.any fun kv => decide (kv.1 = k)) = true
  · rw [if_pos e, List.length_map]; omega
  · rw [if_neg e, List.length_append]; simp
theorem mergeK_len (es : List (Key × V)) : ∀ acc, (mergeK acc es).length ≤ acc.length + es.length := by
  unfold mergeK
  induction es with
  | nil => intro acc; simp
  | cons e r ih =>
    intro acc
    have h1 := ih (putK acc e.1 e.2)
    have h2 := putK_len' acc e.1 e.2
    simp only [List.foldl_cons, List.length_cons] at *
    omega
theorem mergeK_snoc (acc es : List (Key × V)) (e : Key × V) : mergeK acc (es ++ [e]) = putK (mergeK acc es) e.1 e.2 := by
  unfold mergeK; rw [List.foldl_append]; rfl
/-- each turn adds a pair: the k-th is es[k]; what stood but M stands -/
theorem dcp_map {J : It} {n : Nat} {G : Hp → Prop} {Y : Nat → Hp → V → Hp → Prop} (w : Walk J n G Y) {g : TG} {tk tv : TE} {vs : List Nat} (M : List Addr) (es : List (Key × V)) (hn : es.length = n) (hz : n ≤ 1000000) (hG : ∀ H', Kp M H H' → G H')
    (hs : ∀ i x H1 H2 (R : V → V → Hp → Prop), i < n → Kp M H H1 → Y i H1 x H2 → (∀ e H4, es[i]? = some e → Kp M H1 H4 → R (kV e.1) e.2 H4) → g x (wipe σ vs) H2 fun σ2 H3 => wipe σ2 vs = wipe σ vs ∧ tk σ2 H3 fun y H4 => tv σ2 H4 fun z H5 => R y z H5)
    (hM : ∀ b ∈ M, ∃ o, H b = some o)
    (hd : ∀ D H', H D = none → Kp M H H' → H' D = some (.dK (mergeK [] es)) → Q (.ref D) H') : DcP J g tYes tk tv vs Q σ H := by
  intro D hD
  have hDM : D ∉ M := fun z => by obtain ⟨o, e⟩ := hM D z; rw [hD] at e; cases e
  refine ⟨fun i m H' => m = n - i ∧ i ≤ n ∧ Kp M H H' ∧ H' D = some (.dK (mergeK [] (es.take i))), ⟨n, by simp, Nat.zero_le _, Kp.new hD, upd_same⟩, ?_⟩
  rintro i m H1 ⟨rfl, hi, k1, e1⟩
  by_cases hlt : i < n
  · refine .inr ⟨w.goes i H1 hlt (hG _ k1), fun H' => Kp M H H' ∧ H' D = some (.dK (mergeK [] (es.take (i + 1)))), fun H' z => ⟨n - (i + 1), by omega, rfl, hlt, z.1, z.2⟩, fun x H2 y => ?_⟩
    refine hs i x H1 H2 (fun y z H5 => ∃ kvs k, y = kV k ∧ H5 D = some (.dK kvs) ∧ kvs.length < sizeLine ∧ (Kp M H (upd H5 D (.dK (putK kvs k z))) ∧ (upd H5 D (.dK (putK kvs k z))) D = some (.dK (mergeK [] (es.take (i + 1)))))) hlt k1 (w.yields i H1 x H2 hlt (hG _ k1) y) ?_
    intro e H4 he k4
    refine ⟨mergeK [] (es.take i), e.1, rfl, k4 _ _ hDM e1, ?_, (k1.trans k4).mutN hD, ?_⟩
    · have h1 := mergeK_len (es.take i) []
      have h2 : (es.take i).length ≤ 1000000 := by rw [List.length_take]; omega
      exact Nat.lt_of_le_of_lt (Nat.le_trans h1 (by simpa using h2)) (by decide)
    · rw [upd_same, List.take_add_one, he]
      show _ = some (HO.dK (mergeK [] (es.take i ++ [e])))
      rw [mergeK_snoc]
  · have e : i = n := by omega
    subst e
    rw [List.take_of_length_le (by omega)] at e1
    exact .inl ⟨w.stops H1 (hG _ k1), hd D H1 hD k1 e1⟩
theorem valV_merge (k : Key) : ∀ (es acc : List (Key × V)), (valV (mergeK acc es) k).isSome = ((valV acc k).isSome || es.any fun e => decide (e.1 = k)) := by
  intro es
  induction es with
  | nil => intro acc; show (valV acc k).isSome = _; simp
  | cons e r ih =>
    intro acc
    show (valV (mergeK (putK acc e.1 e.2) r) k).isSome = _
    rw [ih, valV_put, List.any_cons]
    by_cases h : k = e.1
    · rw [if_pos h, decide_eq_true h.symm]; simp
    · rw [if_neg h, decide_eq_false (fun z => h z.symm)]; simp
/-- {x: True for x in ns}: who is in it -/
theorem known_in (ns : List Int) (f : Int → V) (n : Int) : (valV (mergeK [] (ns.map fun i => ((Sum.inl i : Key), f i))) (Sum.inl n)).isSome = decide (n ∈ ns) := by
  rw [valV_merge, valV_nil]
  rw [Bool.eq_iff_iff]
  simp
end
/-! ### ints -/
theorem cmul_l {i j : Int} (h1 : -(2 ^ 64) < i) (h2 : i < 2 ^ 64) : CMul i j := .inl ⟨h1, h2⟩
theorem cmul_r {i j : Int} (h1 : -(2 ^ 64) < j) (h2 : j < 2 ^ 64) : CMul i j := .inr ⟨h1, h2⟩
theorem cdivw {i j : Int} (h1 : 0 < j) (h2 : j < 2 ^ 64) : CDivW i j := wide_div (b := 64) h1 (by omega) (by decide) (by decide)
theorem at_lt {α : Type} {xs : List α} {i : Int} (h0 : 0 ≤ i) (h1 : i < xs.length) : ∃ v, xs[i.toNat]? = some v ∧ atI xs i = some v := by
  have hl : i.toNat < xs.length := by omega
  refine ⟨xs[i.toNat], List.getElem?_eq_getElem hl, ?_⟩
  have e := atI_nat (xs := xs) (j := i.toNat) (List.getElem?_eq_getElem hl)
  rw [Int.toNat_of_nonneg h0] at e
  exact e
theorem at_neg1 {xs : List V} {d : V} (h : 0 < xs.length) : atI xs (-1) = some (xs.getLastD d) := by
  have hne : xs ≠ [] := by intro z; subst z; simp at h
  have z := atI_last xs.dropLast (xs.getLast hne)
  rw [List.dropLast_concat_getLast hne] at z
  rw [z, List.getLastD_eq_getLast?, List.getLast?_eq_some_getLast hne]
  rfl
/-! ### the deck -/
def MOSTD : Nat := 1099511627776
structure Deck (H : Hp) (d c : Addr) (n : Nat) : Prop where
  ex : ∃ (cs : List Int) (a : Nat) (b : Int) (t : Nat), H d = some (.lst [.ref c, .int a, .int b, .int t]) ∧ H c = some (.lst (cs.map V.int)) ∧ t ≤ n
  ne : c ≠ d
theorem Deck.kp {M : List Addr} {H H' : Hp} {d c : Addr} {n : Nat} (k : Kp M H H') (h1 : d ∉ M) (h2 : c ∉ M) (D : Deck H d c n) : Deck H' d c n := by
  obtain ⟨⟨cs, a, b, t, e1, e2, e3⟩, ne⟩ := D
  exact ⟨⟨cs, a, b, t, k _ _ h1 e1, k _ _ h2 e2, e3⟩, ne⟩
theorem Deck.new {H : Hp} {d c : Addr} {n : Nat} {p : Addr} {o : HO} (h : H p = none) (D : Deck H d c n) : Deck (upd H p o) d c n := D.kp (M := []) (Kp.new h) (by simp) (by simp)
theorem Deck.mut {H : Hp} {d c : Addr} {n : Nat} {p : Addr} {o : HO} (h1 : p ≠ d) (h2 : p ≠ c) (D : Deck H d c n) : Deck (upd H p o) d c n :=
  D.kp (M := [p]) (Kp.mut (by simp)) (by simpa using Ne.symm h1) (by simpa using Ne.symm h2)
theorem Deck.mono {H : Hp} {d c : Addr} {n m : Nat} (D : Deck H d c n) (h : n ≤ m) : Deck H d c m := by
  obtain ⟨⟨cs, a, b, t, e1, e2, e3⟩, ne⟩ := D
  exact ⟨⟨cs, a, b, t, e1, e2, Nat.le_trans e3 h⟩, ne⟩
theorem Deck.at {H : Hp} {d c : Addr} {n : Nat} (D : Deck H d c n) : (∃ xs, H d = some (.lst xs)) ∧ ∃ xs, H c = some (.lst xs) := by
  obtain ⟨⟨cs, a, b, t, e1, e2, e3⟩, ne⟩ := D
  exact ⟨⟨_, e1⟩, ⟨_, e2⟩⟩
theorem Deck.ne1 {H : Hp} {d c p : Addr} {n : Nat} (D : Deck H d c n) (h : H p = none) : p ≠ d ∧ p ≠ c := by
  obtain ⟨⟨xs, e1⟩, ys, e2⟩ := D.at
  exact ⟨(ne_of_none e1 h).symm, (ne_of_none e2 h).symm⟩
end FW

set_option Elab.async false
set_option linter.all false
set_option maxRecDepth 100000
set_option maxHeartbeats 4000000
/-! {key: value for a in as if .. for b in bs if ..}: a dict by two clauses, as a rule of the layer (my own: the layer has it for lists). -/
namespace FW
open PySem PySem.Spec PyProof.Rows L2
section
variable {kx vx ta ia tb ib : Expr} {fa fb : List Expr} {sc : Scope} {ps : Pos}
abbrev two (kx vx ta ia : Expr) (fa : List Expr) (tb ib : Expr) (fb : List Expr) (sc : Scope) (ps : Pos) : Expr := .DictComp kx vx [⟨ta, ia, fa, 0⟩, ⟨tb, ib, fb, 0⟩] sc ps
/-- the tests of a clause, one behind the other -/
abbrev testsOf2 (fs : List Expr) (env : Env) : Sem Bool := forIn fs true fun c r => if r = true then do let ok ← isTrue c env (eval c env); pure (ForInStep.yield ok) else pure (ForInStep.yield r)
theorem turn_first (it : Value) (D : Addr) (env : Env) : compTurn (two kx vx ta ia fa tb ib fb sc ps) 0 it (.ref D) env = (do
    standAt ia.pos
    match ← pyNext it with
    | none => pure (.done .next)
    | some u =>
      letOwnedTupleGo ta it u
      assign ta env u
      let mut good := true
      for c in fa do
        if good then good ← isTrue c env (eval c env)
      if good then
        let y ← eval ib env
        standAt ib.pos
        let y ← foldedSetIterable ib env y
        let _ ← runOwn (.compStart (two kx vx ta ia fa tb ib fb sc ps) 1 (← holding [y] (pyIter y)) (.ref D) env) env
      again (.compLoop (two kx vx ta ia fa tb ib fb sc ps) 0 it (.ref D) env)) := by rfl
theorem turn_second (it : Value) (D : Addr) (env : Env) : compTurn (two kx vx ta ia fa tb ib fb sc ps) 1 it (.ref D) env = (do
    standAt ib.pos
    match ← pyNext it with
    | none => pure (.done .next)
    | some u =>
      letOwnedTupleGo tb it u
      assign tb env u
      let mut good := true
      for c in fb do
        if good then good ← isTrue c env (eval c env)
      if good then
        (do
          let k ← eval kx env
          let v ← holding [k] (eval vx env)
          standAt { kx.pos with endLine := vx.pos.endLine, endCol := vx.pos.endCol }
          holding [k, v] (dictSet D k v))
      again (.compLoop (two kx vx ta ia fa tb ib fb sc ps) 1 it (.ref D) env)) := by rfl
variable {pg : Program} {wd : World} {A : Around} {R : Result → Shared → Prop} {st : Shared} {it : Value} {D : Addr} {env : Env}
/-- the first clause's loop; nothing raises in it -/
theorem loop_first (hf : ∀ y, foldedSetIterable ib env y = pure y) (G : Nat → Shared → Prop)
    (go : ∀ n z, G n z → wpAny (model pg wd) A (pyNext it) (fun r z1 => match r with
      | none => R (.ok .next) z1
      | some u => wpAny (model pg wd) A (letOwnedTupleGo ta it u) (fun _ z2 => wpAny (model pg wd) A (assign ta env u) (fun _ z3 => wpAny (model pg wd) A (testsOf2 fa env) (fun b z4 =>
          if b = true then wpAny (model pg wd) A (eval ib env) (fun y z5 => wpAny (model pg wd) A (pyIter y) (fun j z6 =>
            codeAny (model pg wd) A (.compStart (two kx vx ta ia fa tb ib fb sc ps) 1 j (.ref D) env) (fun r z7 => match r with
              | .ok _ => ∃ m, m < n ∧ G m z7
              | .error _ => False) z6) (fun _ _ => False) z5) (fun _ _ => False) z4
          else ∃ m, m < n ∧ G m z4) (fun _ _ => False) z3) (fun _ _ => False) z2) (fun _ _ => False) z1) (fun _ _ => False) z)
    (n : Nat) (h : G n st) : codeAny (model pg wd) A (.compLoop (two kx vx ta ia fa tb ib fb sc ps) 0 it (.ref D) env) R st := by
  refine codeAny_loop rfl G ?_ n h
  intro n z hz
  show wpAny _ A ((compTurn (two kx vx ta ia fa tb ib fb sc ps) 0 it (.ref D) env).onRaise _) _ _ z
  apply wpAny_noted
  rw [turn_first]
  apply wpAny_bind
  apply wpAny_standAt
  apply wpAny_bind
  refine thnF (go n z hz) fun r z1 h1 => ?_
  cases r with
  | none => exact wpAny_pure h1
  | some u =>
    apply wpAny_bind
    refine thnF h1 fun _ z2 h2 => ?_
    apply wpAny_bind
    refine thnF h2 fun _ z3 h3 => ?_
    apply wpAny_bind
    refine thnF h3 fun b z4 h4 => ?_
    cases b with
    | false => exact wpAny_pure ⟨rfl, h4⟩
    | true =>
      apply wpAny_bind
      refine thnF h4 fun y z5 h5 => ?_
      apply wpAny_bind
      apply wpAny_standAt
      apply wpAny_bind
      refine wpAny_of_eq (hf y) ?_
      apply wpAny_bind
      apply wpAny_holding
      refine thnF h5 fun j z6 h6 => ?_
      apply wpAny_bind
      refine wpAny_runOwn ?_
      rw [Around.mark_none]
      refine codeAny_mono h6 fun r z7 h7 => ?_
      cases r with
      | error _ => exact False.elim h7
      | ok _ => first | exact wpAny_pure ⟨rfl, h7⟩ | exact wpAny_bind (wpAny_pure (wpAny_pure ⟨rfl, h7⟩))
/-- the second clause's loop -/
theorem loop_second (G : Nat → Shared → Prop)
    (go : ∀ n z, G n z → wpAny (model pg wd) A (pyNext it) (fun r z1 => match r with
      | none => R (.ok .next) z1
      | some u => wpAny (model pg wd) A (letOwnedTupleGo tb it u) (fun _ z2 => wpAny (model pg wd) A (assign tb env u) (fun _ z3 => wpAny (model pg wd) A (testsOf2 fb env) (fun b z4 =>
          if b = true then wpAny (model pg wd) A (eval kx env) (fun k z5 => wpAny (model pg wd) A (eval vx env) (fun v z6 => wpAny (model pg wd) A (dictSet D k v) (fun _ z7 => ∃ m, m < n ∧ G m z7) (fun _ _ => False) z6) (fun _ _ => False) z5) (fun _ _ => False) z4
          else ∃ m, m < n ∧ G m z4) (fun _ _ => False) z3) (fun _ _ => False) z2) (fun _ _ => False) z1) (fun _ _ => False) z)
    (n : Nat) (h : G n st) : codeAny (model pg wd) A (.compLoop (two kx vx ta ia fa tb ib fb sc ps) 1 it (.ref D) env) R st := by
  refine codeAny_loop rfl G ?_ n h
  intro n z hz
  show wpAny _ A ((compTurn (two kx vx ta ia fa tb ib fb sc ps) 1 it (.ref D) env).onRaise _) _ _ z
  apply wpAny_noted
  rw [turn_second]
  apply wpAny_bind
  apply wpAny_standAt
  apply wpAny_bind
  refine thnF (go n z hz) fun r z1 h1 => ?_
  cases r with
  | none => exact wpAny_pure h1
  | some u =>
    apply wpAny_bind
    refine thnF h1 fun _ z2 h2 => ?_
    apply wpAny_bind
    refine thnF h2 fun _ z3 h3 => ?_
    apply wpAny_bind
    refine thnF h3 fun b z4 h4 => ?_
    cases b with
    | false => exact wpAny_pure ⟨rfl, h4⟩
    | true =>
      apply wpAny_bind
      apply wpAny_bind
      refine thnF h4 fun k z5 h5 => ?_
      apply wpAny_bind
      apply wpAny_holding
      refine thnF h5 fun v z6 h6 => ?_
      apply wpAny_bind
      apply wpAny_standAt
      apply wpAny_holding
      exact thnF h6 fun _ z7 h7 => wpAny_pure ⟨rfl, h7⟩
/-- the second clause begins -/
theorem start_second (h0 : codeAny (model pg wd) A (.compLoop (two kx vx ta ia fa tb ib fb sc ps) 1 it (.ref D) env) R st)
    (h1 : wpAny (model pg wd) A (pyIter it) (fun j z => codeAny (model pg wd) A (.compLoop (two kx vx ta ia fa tb ib fb sc ps) 1 j (.ref D) env) R z) (notedBy (model pg wd) A env fun x z => R (.error x) z) st) :
    codeAny (model pg wd) A (.compStart (two kx vx ta ia fa tb ib fb sc ps) 1 it (.ref D) env) R st := by
  apply codeAny_of_tree
  show wpAny _ _ ((compStart (two kx vx ta ia fa tb ib fb sc ps) 1 it (.ref D) env).onRaise _) _ _ st
  apply wpAny_notedAt
  unfold compStart
  show wpAny _ _ (ask >>= _) _ _ st
  apply wpAny_bind
  apply wpAny_askSetting
  apply wpAny_ite
  split
  · first | exact wpAny_bind (wpAny_pure (wpAny_pure ⟨rfl, h0⟩)) | exact wpAny_pure ⟨rfl, h0⟩
  · apply wpAny_bind
    apply wpAny_rule
    show wpAny _ _ (standAt ib.pos >>= _) _ _ st
    apply wpAny_bind
    apply wpAny_standAt
    apply wpAny_bind
    exact wpAny_mono h1 (fun _ _ q => wpAny_pure ⟨rfl, q⟩) fun _ _ q => q
end
section
variable {X : Cx} {kx vx ta ia tb ib : Expr} {fa fb : List Expr} {sc : Scope} {ps qs : Pos} {own : List (Str × Nat)} {us : List Nat} {wa wb : TI} {ga gb : TG} {ra rb : TT} {tk tv : TE}
/-- the inner walk of one turn: from it Nx is reached -/
def Inner2 (J : It) (gb : TG) (rb : TT) (tk tv : TE) (us : List Nat) (D : Addr) (σ : L2.St) (H : Hp) (Nx : Hp → Prop) : Prop := ∃ W : Nat → Nat → Hp → Prop, (∃ m, W 0 m H) ∧ ∀ j k H1, W j k H1 →
  (J.stop j H1 ∧ Nx H1) ∨ (J.go j H1 ∧ ∃ Ny : Hp → Prop, (∀ H2, Ny H2 → ∃ k', k' < k ∧ W (j + 1) k' H2) ∧ ∀ x H2, J.yld j H1 x H2 → gb x (wipe σ us) H2 fun σ3 H3 => wipe σ3 us = wipe σ us ∧ rb σ3 H3 fun b H4 =>
    if b = true then tk σ3 H4 fun y H5 => tv σ3 H5 fun z H6 => ∃ kvs key, y = kV key ∧ H6 D = some (.dK kvs) ∧ kvs.length < sizeLine ∧ Ny (upd H6 D (.dK (putK kvs key z))) else Ny H4)
/-- the whole -/
def tDc2 (wa : TI) (ga : TG) (ra : TT) (wb : TI) (gb : TG) (rb : TT) (tk tv : TE) (os us : List Nat) : TE := fun σ H Q => wa σ H fun J H1 => ∀ D, H1 D = none → ∃ W : Nat → Nat → Hp → Prop, (∃ m, W 0 m (upd H1 D (.dK []))) ∧ ∀ i m H2, W i m H2 →
  (J.stop i H2 ∧ Q (.ref D) H2) ∨ (J.go i H2 ∧ ∃ Nx : Hp → Prop, (∀ H3, Nx H3 → ∃ m', m' < m ∧ W (i + 1) m' H3) ∧ ∀ x H3, J.yld i H2 x H3 → ga x (wipe σ os) H3 fun σ2 H4 => wipe σ2 os = wipe σ os ∧ ra σ2 H4 fun b H5 =>
    if b = true then wb σ2 H5 fun J1 H6 => Inner2 J1 gb rb tk tv us D σ2 H6 Nx else Nx H5)
theorem dc2_run {pins : List (Addr × Obj)} {s : Shared} {σ : L2.St} {H : Hp} {Q : VK} {use : Option (Value → Sem Unit)} {Qf : Value → Shared → Prop}
    (calm : X.calm = true) (nd : X.N.Nodup) (I : Inv X pins σ H s) (pa : PI X ta ia wa) (ok : BlkOk X.N X.env.scope sc own) (sub : ∀ i ∈ us, i ∈ own.map (·.2))
    (pga : ∀ z G C cl fp, PG (X.blk z G sc (compEnvC sc cl C X.env) fp) ta ga) (pra : ∀ z G C cl fp, PTs (X.blk z G sc (compEnvC sc cl C X.env) fp) fa ra)
    (pb : ∀ z G C cl fp, PI (X.blk z G sc (compEnvC sc cl C X.env) fp) tb ib wb) (pgb : ∀ z G C cl fp, PG (X.blk z G sc (compEnvC sc cl C X.env) fp) tb gb) (prb : ∀ z G C cl fp, PTs (X.blk z G sc (compEnvC sc cl C X.env) fp) fb rb)
    (pk : ∀ z G C cl fp, PE (X.blk z G sc (compEnvC sc cl C X.env) fp) kx tk) (pv' : ∀ z G C cl fp, PE (X.blk z G sc (compEnvC sc cl C X.env) fp) vx tv)
    (hfa : ∀ y, foldedSetIterable ia X.env y = pure y) (hfb : ∀ env y, foldedSetIterable ib env y = pure y)
    (h : tDc2 wa ga ra wb gb rb tk tv (own.map (·.2)) us σ H Q)
    (fin : ∀ D C z m H', Inv X pins σ H' z → Q (.ref D) H' → z.heap.Ns C m → FpOk X pins H' C → compPost (model X.prog X.w) X.A X.xe use Qf (.ref D) C (.ok .next) z) :
    wpAny (model X.prog X.w) X.A (comprehension (two kx vx ta ia fa tb ib fb sc ps) sc X.env qs newDict false (eval ia X.env) use) Qf X.xe s := by
  have cellsOk : ∀ y ∈ sc.names, y.2 = .free → ∃ c, X.env.cells.lookup y.1 = some c := by
    intro y hy e
    rcases ok.free y hy e with k | k
    · exact I.ok.has _ (.inl k)
    · exact I.ok.has _ (.inr k)
  refine wpAny_comprehension_free (use := use) rfl hfa (closure_ok cellsOk) ok.kind (fun y hy e => by rw [ok.uniq y hy, e]) ?_
  refine thn (pa.run pins s σ H _ I h) fun _ _ hx => thn hx fun _ z2 hz2 => ?_
  obtain ⟨it, fp, tn, J, G2, rfl, I2, T, at2, far2, q⟩ := hz2
  refine wpAny_newObj_type (newEnv_comp ?_)
  -- the new dict stands at D
  obtain ⟨D, hD⟩ : ∃ D, D = z2.heap.objs.size := ⟨_, rfl⟩
  rw [← hD]
  have freeD : G2 D = none := I2.hok.fresh (Nat.le_of_eq hD.symm)
  obtain ⟨W, ⟨m0, w0⟩, turn⟩ := q D freeD
  obtain ⟨z3, e3⟩ : ∃ z3 : Shared, z3 = { z2 with heap := z2.heap.push { cls := .type "dict", data := .dict #[] } } := ⟨_, rfl⟩
  have h3 : z3.heap = z2.heap.push { cls := .type "dict", data := .dict #[] } := by rw [e3]
  have I3 : Inv X pins σ (upd G2 D (.dK [])) z3 := by
    rw [e3]
    refine I2.laid (t' := z2.toks) (fun _ _ e => Heap.get?_push_of_some _ e) (Nat.le_of_eq hD.symm) ?_
    rw [hD]
    exact dk_empty z2.heap I2.big
  have small : ∀ b ∈ fp, b < z2.heap.objs.size := by
    intro b hb
    obtain ⟨_, e, _⟩ := T.obj _ _ at2 b hb
    exact Heap.lt_size e
  have far3 : ∀ b ∈ fp, FpOk X pins (upd G2 D (.dK [])) b ∧ b < z3.heap.objs.size := by
    intro b hb
    have lt := small b hb
    constructor
    · refine ⟨?_, (far2 b hb).2⟩
      rw [upd_ne (by rw [hD]; exact Nat.ne_of_lt lt)]
      exact (far2 b hb).1
    · rw [h3, Heap.size_push]
      exact Nat.lt_succ_of_lt lt
  have at3 : tn 0 z3.heap := T.keep _ _ _ at2 fun _ _ _ e => by rw [h3]; exact Heap.get?_push_of_some _ e
  have I4 := block_start I3 ok nd far3
  -- the block's frame
  obtain ⟨cl, hcl⟩ : ∃ cl, cl = cellsFrom (z3.heap.objs.size + 1) sc.names (cloFrom X.env.cells sc.names []) := ⟨_, rfl⟩
  rw [← hcl] at I4
  have gA := pga z3 (upd G2 D (.dK [])) z3.heap.objs.size cl fp
  have tA := pra z3 (upd G2 D (.dK [])) z3.heap.objs.size cl fp
  have iB := pb z3 (upd G2 D (.dK [])) z3.heap.objs.size cl fp
  have gB := pgb z3 (upd G2 D (.dK [])) z3.heap.objs.size cl fp
  have tB := prb z3 (upd G2 D (.dK [])) z3.heap.objs.size cl fp
  have eK := pk z3 (upd G2 D (.dK [])) z3.heap.objs.size cl fp
  have eV := pv' z3 (upd G2 D (.dK [])) z3.heap.objs.size cl fp
  show codeAny _ _ (.compStart (two kx vx ta ia fa tb ib fb sc ps) 0 (.ref it) (.ref D) (compEnvC sc (cellsFrom (({ z2 with heap := z2.heap.push { cls := .type "dict", data := .dict #[] } } : Shared).heap.objs.size + 1) sc.names (cloFrom X.env.cells sc.names [])) ({ z2 with heap := z2.heap.push { cls := .type "dict", data := .dict #[] } } : Shared).heap.objs.size X.env))
    (compPost (model X.prog X.w) X.A X.xe use Qf (.ref D) ({ z2 with heap := z2.heap.push { cls := .type "dict", data := .dict #[] } } : Shared).heap.objs.size) { ({ z2 with heap := z2.heap.push { cls := .type "dict", data := .dict #[] } } : Shared) with heap := pushCells (({ z2 with heap := z2.heap.push { cls := .type "dict", data := .dict #[] } } : Shared).heap.push { cls := .type "dict", data := .dict #[] }) sc.names }
  rw [← e3, ← hcl]
  have none3 : ∀ b ∈ fp, (upd G2 D (.dK [])) b = none := fun b hb => (far3 b hb).1.1
  obtain ⟨ev, hev⟩ : ∃ ev, ev = compEnvC sc cl z3.heap.objs.size X.env := ⟨_, rfl⟩
  rw [← hev] at I4 gA tA iB gB tB eK eV ⊢
  have evL : ev.locals = z3.heap.objs.size := by rw [hev]; rfl
  obtain ⟨G3, hG3⟩ : ∃ G3, G3 = upd G2 D (.dK []) := ⟨_, rfl⟩
  rw [← hG3] at I3 I4 gA tA iB gB tB eK eV w0 none3 far3
  obtain ⟨z4, e4⟩ : ∃ z4 : Shared, z4 = { z3 with heap := pushCells (z3.heap.push { cls := .type "dict", data := .dict #[] }) sc.names } := ⟨_, rfl⟩
  rw [← e4] at I4 ⊢
  have at4 : tn 0 z4.heap := T.keep _ _ _ at3 fun _ _ _ e => by rw [e4]; exact pushCells_keeps _ _ _ _ (Heap.get?_push_of_some _ e)
  have aside : ∀ {σ' : L2.St} {G : Hp} {z : Shared}, Inv (X.blk z3 G3 sc ev fp) [] σ' G z → (∀ b ∈ fp, G b = none) → ∀ b ∈ fp, FpOk (X.blk z3 G3 sc ev fp) [] G b := by
    intro σ' G z J' hn b hb
    exact ⟨hn b hb, (J'.ok.exf b hb).1, J'.ok.exfs b hb, .inl hb, fun x c e => (J'.ok.exf b hb).2 x c e, fun p hp => absurd (show p ∈ ([] : List (Addr × Obj)) ++ [] from hp) (by simp)⟩
  have whole : codeAny (model X.prog X.w) X.A (.compLoop (two kx vx ta ia fa tb ib fb sc ps) 0 (.ref it) (.ref D) ev) (compPost (model X.prog X.w) X.A X.xe use Qf (.ref D) z3.heap.objs.size) z4 := by
    refine loop_first (hfb ev) (fun n z => ∃ i G, Inv (X.blk z3 G3 sc ev fp) [] (wipe σ (own.map (·.2))) G z ∧ tn i z.heap ∧ (∀ b ∈ fp, G b = none) ∧ W i n G) ?_ m0 ⟨0, G3, I4, at4, none3, w0⟩
    rintro n z5 ⟨i, G5, I5, at5, none5, w5⟩
    rcases turn i n G5 w5 with ⟨stop, qq⟩ | ⟨goes, Nx, hNx, step⟩
    · refine thnF (T.done (X.blk z3 G3 sc ev fp) rfl rfl rfl calm i [] z5 _ G5 (fun _ _ => False) I5 (aside I5 none5) at5 stop) ?_
      rintro r z6 ⟨rfl, I6⟩
      have I7 : Inv X pins σ G5 z6 := I3.call' (ch := fp) I6.os I6.base I6.hok I6.bare fun b hb =>
        let f := (far3 b hb).1
        ⟨f.2.2.2.1, f.2.1, f.2.2.2.2.1, f.2.2.2.2.2⟩
      have noC : G5 z3.heap.objs.size = none := by
        have y : G5 ev.locals = none := I6.free
        rw [evL] at y
        exact y
      obtain ⟨m, hn, _⟩ := I6.loc
      have hn' : z6.heap.Ns ev.locals m := hn
      rw [evL] at hn'
      exact fin D _ z6 m G5 I7 qq hn' (I3.fpOk (Nat.le_refl _) noC)
    · refine thnF (T.item (X.blk z3 G3 sc ev fp) rfl rfl rfl calm i [] z5 _ G5 (fun _ _ => False) I5 (aside I5 none5) at5 goes) ?_
      rintro r z6 ⟨u, rfl, h6⟩
      refine thnF h6 ?_
      rintro _ z7 ⟨x, G7, I7, r7, y7, at7, none7⟩
      refine thnF (gA.run _ z7 _ G7 x u _ (I7.pinned (aside I7 none7) (T.obj _ _ at7)) r7 (step x G7 y7)) ?_
      rintro _ z8 ⟨σ8, G8, I8, hw8, q8⟩
      refine thnF (tA.run _ z8 σ8 G8 _ I8 q8) ?_
      rintro b z9 ⟨G9, I9, q9⟩
      -- one turn of the first clause is over
      have over : ∀ {σ9 : L2.St} {z : Shared} {G : Hp}, Inv (X.blk z3 G3 sc ev fp) ([] ++ pinsAt fp z7.heap) σ9 G z → (wipe σ (own.map (·.2))).length = σ9.length → (∀ (j : Nat) v, (wipe σ (own.map (·.2)))[j]? = some (some v) → σ9[j]? = some (some v)) → Nx G →
          ∃ m, m < n ∧ ∃ i G, Inv (X.blk z3 G3 sc ev fp) [] (wipe σ (own.map (·.2))) G z ∧ tn i z.heap ∧ (∀ b ∈ fp, G b = none) ∧ W i m G := by
        intro σ9 z G I' hl hk nx
        obtain ⟨m', lt, w'⟩ := hNx G nx
        have pins' : ∀ b ∈ fp, ∀ o, z7.heap.get? b = some o → z.heap.get? b = some o ∧ G b = none := by
          intro b hb o e
          have y := I'.pin (b, o) (List.mem_append_right _ (List.mem_append_right _ (mem_pinsAt hb e)))
          exact ⟨y.1, y.2.1⟩
        refine ⟨m', lt, i + 1, G, (I'.unpinned (pins := [])).weak hl hk, T.keep _ _ _ at7 (fun b hb o e => (pins' b hb o e).1), ?_, w'⟩
        intro b hb
        obtain ⟨o, e, _⟩ := T.obj _ _ at7 b hb
        exact (pins' b hb o e).2
      have len8 : (wipe σ (own.map (·.2))).length = σ8.length := by rw [← hw8, wipe_length]
      cases b with
      | false =>
        have q9' : Nx G9 := q9
        show ∃ m, m < n ∧ _
        exact over I9 len8 (fun j v e => by rw [← hw8] at e; exact (wipe_some e).1) q9'
      | true =>
        have q9' : wb σ8 G9 fun J1 H6 => Inner2 J1 gb rb tk tv us D σ8 H6 Nx := q9
        show wpAny _ _ (eval ib ev) _ _ z9
        refine thnF (iB.run _ z9 σ8 G9 _ I9 q9') fun _ _ hx => thnF hx ?_
        rintro _ z11 ⟨it1, fp1, tn1, J1, G11, rfl, I11, T1, at11, far11, W1, ⟨m1, w1⟩, turn1⟩
        have aside1 : ∀ {G : Hp}, (∀ b ∈ fp1, G b = none) → ∀ b ∈ fp1, FpOk (X.blk z3 G3 sc ev fp) ([] ++ pinsAt fp z7.heap) G b := fun hn b hb => ⟨hn b hb, (far11 b hb).2⟩
        have inner : codeAny (model X.prog X.w) X.A (.compLoop (two kx vx ta ia fa tb ib fb sc ps) 1 (.ref it1) (.ref D) ev) (fun r z => match r with
            | .ok _ => ∃ m, m < n ∧ ∃ i G, Inv (X.blk z3 G3 sc ev fp) [] (wipe σ (own.map (·.2))) G z ∧ tn i z.heap ∧ (∀ b ∈ fp, G b = none) ∧ W i m G
            | .error _ => False) z11 := by
          refine loop_second (fun k z => ∃ j G, Inv (X.blk z3 G3 sc ev fp) ([] ++ pinsAt fp z7.heap) (wipe σ8 us) G z ∧ tn1 j z.heap ∧ (∀ b ∈ fp1, G b = none) ∧ W1 j k G) ?_ m1 ⟨0, G11, I11.weak (wipe_length _ _) (fun j v e => (wipe_some e).1), at11, fun b hb => (far11 b hb).1, w1⟩
          rintro k z12 ⟨j, G12, I12, at12, none12, w12⟩
          rcases turn1 j k G12 w12 with ⟨stop1, nx1⟩ | ⟨goes1, Ny, hNy, step1⟩
          · refine thnF (T1.done (X.blk z3 G3 sc ev fp) rfl rfl rfl calm j _ z12 (wipe σ8 us) G12 (fun _ _ => False) I12 (aside1 none12) at12 stop1) ?_
            rintro r z13 ⟨rfl, I13⟩
            refine over I13 (len8.trans (wipe_length σ8 us).symm) ?_ nx1
            intro j' v e
            rw [← hw8] at e
            obtain ⟨e1, e2⟩ := wipe_some e
            rw [wipe_out fun y => e2 (sub j' y)]
            exact e1
          · refine thnF (T1.item (X.blk z3 G3 sc ev fp) rfl rfl rfl calm j _ z12 (wipe σ8 us) G12 (fun _ _ => False) I12 (aside1 none12) at12 goes1) ?_
            rintro r z13 ⟨u1, rfl, h13⟩
            refine thnF h13 ?_
            rintro _ z14 ⟨x1, G14, I14, r14, y14, at14, none14⟩
            refine thnF (gB.run _ z14 (wipe σ8 us) G14 x1 u1 _ (I14.pinned (aside1 none14) (T1.obj _ _ at14)) r14 (step1 x1 G14 y14)) ?_
            rintro _ z15 ⟨σ15, G15, I15, hw15, q15⟩
            refine thnF (tB.run _ z15 σ15 G15 _ I15 q15) ?_
            rintro b1 z16 ⟨G16, I16, q16⟩
            have over1 : ∀ {z : Shared} {G : Hp}, Inv (X.blk z3 G3 sc ev fp) (([] ++ pinsAt fp z7.heap) ++ pinsAt fp1 z14.heap) σ15 G z → Ny G → ∃ m, m < k ∧ ∃ j G, Inv (X.blk z3 G3 sc ev fp) ([] ++ pinsAt fp z7.heap) (wipe σ8 us) G z ∧ tn1 j z.heap ∧ (∀ b ∈ fp1, G b = none) ∧ W1 j m G := by
              intro z G I' nx
              obtain ⟨m', lt, w'⟩ := hNy G nx
              have pins' : ∀ b ∈ fp1, ∀ o, z14.heap.get? b = some o → z.heap.get? b = some o ∧ G b = none := by
                intro b hb o e
                have y := I'.pin (b, o) (List.mem_append_right _ (List.mem_append_right _ (mem_pinsAt hb e)))
                exact ⟨y.1, y.2.1⟩
              refine ⟨m', lt, j + 1, G, I'.unpinned.weak (by rw [← hw15, wipe_length]) (fun j v e => by rw [← hw15] at e; exact (wipe_some e).1), T1.keep _ _ _ at14 (fun b hb o e => (pins' b hb o e).1), ?_, w'⟩
              intro b hb
              obtain ⟨o, e, _⟩ := T1.obj _ _ at14 b hb
              exact (pins' b hb o e).2
            cases b1 with
            | false =>
              have q16' : Ny G16 := q16
              show ∃ m, m < k ∧ _
              exact over1 I16 q16'
            | true =>
              have q16' : tk σ15 G16 fun y H5 => tv σ15 H5 fun z H6 => ∃ kvs key, y = kV key ∧ H6 D = some (.dK kvs) ∧ kvs.length < sizeLine ∧ Ny (upd H6 D (.dK (putK kvs key z))) := q16
              show wpAny _ _ (eval kx ev) _ _ z16
              refine thnF (eK.run _ z16 σ15 G16 _ I16 q16') ?_
              rintro _ z17 ⟨yk, G17, I17, r17, q17⟩
              refine thnF (eV.run _ z17 σ15 G17 _ I17 q17) ?_
              rintro _ z18 ⟨yv, G18, I18, r18, kvs, key, rfl, hD18, lt18, nx⟩
              exact d_dictSet (X := X.blk z3 G3 sc ev fp) I18 hD18 lt18 r17 r18 fun _ I19 => over1 I19 nx
        exact start_second inner (T1.self X.A 0 _ _ _ at11 inner)
  exact codeAny_compStart_dict whole (T.self X.A 0 _ _ _ at4 whole)
/-- name = {..}, the name a local of the def -/
theorem ps_setDc2 {i : Nat} {y : Str} {py spos : Pos} (calm : X.calm = true) (nd : X.N.Nodup) (hy : X.N[i]? = some y) (hyl : X.env.scope.names.lookup y = some .local)
    (hsw : swapsWith (two kx vx ta ia fa tb ib fb sc ps) (some (.Name y py)) spos.line X.env = pure true)
    (pa : PI X ta ia wa) (ok : BlkOk X.N X.env.scope sc own) (sub : ∀ i ∈ us, i ∈ own.map (·.2))
    (pga : ∀ z G C cl fp, PG (X.blk z G sc (compEnvC sc cl C X.env) fp) ta ga) (pra : ∀ z G C cl fp, PTs (X.blk z G sc (compEnvC sc cl C X.env) fp) fa ra)
    (pb : ∀ z G C cl fp, PI (X.blk z G sc (compEnvC sc cl C X.env) fp) tb ib wb) (pgb : ∀ z G C cl fp, PG (X.blk z G sc (compEnvC sc cl C X.env) fp) tb gb) (prb : ∀ z G C cl fp, PTs (X.blk z G sc (compEnvC sc cl C X.env) fp) fb rb)
    (pk : ∀ z G C cl fp, PE (X.blk z G sc (compEnvC sc cl C X.env) fp) kx tk) (pv' : ∀ z G C cl fp, PE (X.blk z G sc (compEnvC sc cl C X.env) fp) vx tv)
    (hfa : ∀ y, foldedSetIterable ia X.env y = pure y := by intro _; rfl) (hfb : ∀ env y, foldedSetIterable ib env y = pure y := by intro _ _; rfl) :
    PS X (.Assign [.Name y py] (two kx vx ta ia fa tb ib fb sc ps) spos) (tAsg (tDc2 wa ga ra wb gb rb tk tv (own.map (·.2)) us) (gName i)) := by
  constructor
  intro pins s σ H Ed I h
  rw [exec_Assign_Name_used y py _ _ hsw]
  apply wpAny_bind
  apply wpAny_standAt
  apply wpAny_bind
  show wpAny _ X.A (comprehension (two kx vx ta ia fa tb ib fb sc ps) sc X.env (firstIterPos [⟨ta, ia, fa, 0⟩, ⟨tb, ib, fb, 0⟩] ps) newDict false (eval ia X.env) (some (assign (.Name y py) X.env)) >>= fun _ => pure ()) _ _ s
  apply wpAny_bind
  have h' : tDc2 wa ga ra wb gb rb tk tv (own.map (·.2)) us σ H (fun x H1 => gName i x σ H1 Ed.nx) := h
  refine thn (dc2_run (Qf := fun _ s1 => SP X pins Ed .next s1) calm nd I pa ok sub pga pra pb pgb prb pk pv' hfa hfb h' ?_) (fun _ _ z => wpAny_pure (wpAny_pure z))
  intro L C s1 m H1 I1 q hn ff
  obtain ⟨f0, f1, f2, f3, f4, f5⟩ := ff
  show wpAny _ _ (assign (.Name y py) X.env (.ref L)) _ _ _
  apply wpAny_assign_Name
  refine store_ok2 (v := V.ref L) I1 nd hy (.inl hyl) rfl ?_ (.inr hyl)
  rintro s2 I2 ⟨ad, sb, had⟩
  have hne : C ≠ ad := by
    rcases had with hz | hz
    · exact fun e => f1 (e.trans hz)
    · exact fun e => f4 y ad hz e.symm
  refine ⟨m, hn.sameBut sb hne, fun h3 sb3 => ⟨_, H1, ?_, q⟩⟩
  exact I2.turned (t' := s2.toks) (fun b o hb e => (sb3.2 b hb).trans e) f0 f1 f3 f4 f5
theorem pi_listK {K : PySem.W.Frag} {l tg : Expr} {tl : TE} (hK : X.K = K) (hl : PE X l tl) : PI X tg l (iList K tl) := hK ▸ pi_list hl
theorem pi_tupK {K : PySem.W.Frag} {l tg : Expr} {tl : TE} (hK : X.K = K) (hl : PE X l tl) : PI X tg l (iTup K tl) := hK ▸ pi_tup hl
end
/-! ### its steps -/
section
variable {K : PySem.W.Frag} {σ : L2.St} {H : Hp} {Q : VK}
def Dc2P (J : It) (ga : TG) (ra : TT) (wb : TI) (gb : TG) (rb : TT) (tk tv : TE) (os us : List Nat) (Q : VK) (σ : L2.St) (H1 : Hp) : Prop := ∀ D, H1 D = none → ∃ W : Nat → Nat → Hp → Prop, (∃ m, W 0 m (upd H1 D (.dK []))) ∧ ∀ i m H2, W i m H2 →
  (J.stop i H2 ∧ Q (.ref D) H2) ∨ (J.go i H2 ∧ ∃ Nx : Hp → Prop, (∀ H3, Nx H3 → ∃ m', m' < m ∧ W (i + 1) m' H3) ∧ ∀ x H3, J.yld i H2 x H3 → ga x (wipe σ os) H3 fun σ2 H4 => wipe σ2 os = wipe σ os ∧ ra σ2 H4 fun b H5 =>
    if b = true then wb σ2 H5 fun J1 H6 => Inner2 J1 gb rb tk tv us D σ2 H6 Nx else Nx H5)
theorem w_dc2 {wa wb : TI} {ga gb : TG} {ra rb : TT} {tk tv : TE} {os us : List Nat} (h : wa σ H fun J H1 => Dc2P J ga ra wb gb rb tk tv os us Q σ H1) : tDc2 wa ga ra wb gb rb tk tv os us σ H Q := h
theorem dc2_it {J : It} {n : Nat} {G : Hp → Prop} {Y : Nat → Hp → V → Hp → Prop} (w : Walk J n G Y) {wb : TI} {ga gb : TG} {ra rb : TT} {tk tv : TE} {os us : List Nat} (Pv : Addr → Nat → Hp → Prop) (h0 : ∀ D, H D = none → Pv D 0 (upd H D (.dK []))) (hG : ∀ D i H1, i ≤ n → Pv D i H1 → G H1)
    (hs : ∀ D i x H1 H2, H D = none → i < n → Pv D i H1 → Y i H1 x H2 → ga x (wipe σ os) H2 fun σ2 H4 => wipe σ2 os = wipe σ os ∧ ra σ2 H4 fun b H5 => if b = true then wb σ2 H5 fun J1 H6 => Inner2 J1 gb rb tk tv us D σ2 H6 (Pv D (i + 1)) else Pv D (i + 1) H5)
    (hd : ∀ D H1, H D = none → Pv D n H1 → Q (.ref D) H1) : Dc2P J ga ra wb gb rb tk tv os us Q σ H := by
  intro D hD
  refine ⟨fun i m H1 => m = n - i ∧ i ≤ n ∧ Pv D i H1, ⟨n, by simp, Nat.zero_le _, h0 D hD⟩, ?_⟩
  rintro i m H1 ⟨rfl, hi, p⟩
  by_cases lt : i < n
  · exact .inr ⟨w.goes i H1 lt (hG D i H1 hi p), Pv D (i + 1), fun H3 q => ⟨n - (i + 1), by omega, rfl, lt, q⟩, fun x H2 y => hs D i x H1 H2 hD lt p (w.yields i H1 x H2 lt (hG D i H1 hi p) y)⟩
  · have e : i = n := by omega
    subst e
    exact .inl ⟨w.stops H1 (hG D i H1 hi p), hd D H1 hD p⟩
theorem inner_it {J : It} {n : Nat} {G : Hp → Prop} {Y : Nat → Hp → V → Hp → Prop} (w : Walk J n G Y) {gb : TG} {rb : TT} {tk tv : TE} {us : List Nat} {D : Addr} {Nx : Hp → Prop} (Pv : Nat → Hp → Prop) (h0 : Pv 0 H) (hG : ∀ i H1, i ≤ n → Pv i H1 → G H1)
    (hs : ∀ i x H1 H2, i < n → Pv i H1 → Y i H1 x H2 → gb x (wipe σ us) H2 fun σ3 H3 => wipe σ3 us = wipe σ us ∧ rb σ3 H3 fun b H4 =>
      if b = true then tk σ3 H4 fun y H5 => tv σ3 H5 fun z H6 => ∃ kvs key, y = kV key ∧ H6 D = some (.dK kvs) ∧ kvs.length < sizeLine ∧ Pv (i + 1) (upd H6 D (.dK (putK kvs key z))) else Pv (i + 1) H4)
    (hd : ∀ H1, Pv n H1 → Nx H1) : Inner2 J gb rb tk tv us D σ H Nx := by
  refine ⟨fun i m H1 => m = n - i ∧ i ≤ n ∧ Pv i H1, ⟨n, by simp, Nat.zero_le _, h0⟩, ?_⟩
  rintro i m H1 ⟨rfl, hi, p⟩
  by_cases lt : i < n
  · exact .inr ⟨w.goes i H1 lt (hG i H1 hi p), Pv (i + 1), fun H3 q => ⟨n - (i + 1), by omega, rfl, lt, q⟩, fun x H2 y => hs i x H1 H2 lt p (w.yields i H1 x H2 lt (hG i H1 hi p) y)⟩
  · have e : i = n := by omega
    subst e
    exact .inl ⟨w.stops H1 (hG i H1 hi p), hd H1 p⟩
/-- a comprehension with a test: the turn i gives sel i, or nothing -/
theorem lcp_sel {J : It} {n : Nat} {G : Hp → Prop} {Y : Nat → Hp → V → Hp → Prop} (w : Walk J n G Y) {g : TG} {tt : TT} {te : TE} {vs : List Nat} (M : List Addr) (sel : Nat → Option V) (hz : n ≤ 1000000) (hG : ∀ H', Kp M H H' → G H')
    (hs : ∀ i x H1 H2 (R : V → Hp → Prop) (R0 : Hp → Prop), i < n → Kp M H H1 → Y i H1 x H2 → (∀ y H4, sel i = some y → Kp M H1 H4 → R y H4) → (∀ H4, sel i = none → Kp M H1 H4 → R0 H4) → g x (wipe σ vs) H2 fun σ2 H3 => wipe σ2 vs = wipe σ vs ∧ tt σ2 H3 fun b H4 => if b = true then te σ2 H4 R else R0 H4)
    (hM : ∀ b ∈ M, ∃ o, H b = some o)
    (hd : ∀ D H', H D = none → Kp M H H' → H' D = some (.lst ((List.range n).filterMap sel)) → Q (.ref D) H') : LcP J g tt te vs Q σ H := by
  intro D hD
  have hDM : D ∉ M := fun z => by obtain ⟨o, e⟩ := hM D z; rw [hD] at e; cases e
  refine lc_it w (fun i H' => Kp M H H' ∧ H' D = some (.lst ((List.range i).filterMap sel))) ⟨Kp.new hD, upd_same⟩ (fun i H' _ z => hG H' z.1) ?_ ?_
  · rintro i x H1 H2 hi ⟨k1, e1⟩ y
    refine hs i x H1 H2 _ _ hi k1 y ?_ ?_
    · intro z H4 hz' k4
      refine ⟨_, k4 _ _ hDM e1, ?_, (k1.trans k4).mutN hD, ?_⟩
      · refine Nat.lt_of_le_of_lt (List.length_filterMap_le _ _) ?_
        rw [List.length_range]
        exact Nat.lt_of_lt_of_le (Nat.lt_of_lt_of_le hi hz) (by decide)
      · rw [upd_same, List.range_succ, List.filterMap_append]
        simp [hz']
    · intro H4 hz' k4
      refine ⟨k1.trans k4, ?_⟩
      rw [k4 _ _ hDM e1, List.range_succ, List.filterMap_append]
      simp [hz']
  · rintro H' ⟨k, e⟩
    exact hd D H' hD k e
/-- {k: v for .. if ..}: the turn i puts sel i, or nothing -/
theorem dcp_sel {J : It} {n : Nat} {G : Hp → Prop} {Y : Nat → Hp → V → Hp → Prop} (w : Walk J n G Y) {g : TG} {tt : TT} {tk tv : TE} {vs : List Nat} (M : List Addr) (sel : Nat → Option (Key × V)) (hz : n ≤ 1000000) (hG : ∀ H', Kp M H H' → G H')
    (hs : ∀ i x H1 H2 (R : V → V → Hp → Prop) (R0 : Hp → Prop), i < n → Kp M H H1 → Y i H1 x H2 → (∀ e H4, sel i = some e → Kp M H1 H4 → R (kV e.1) e.2 H4) → (∀ H4, sel i = none → Kp M H1 H4 → R0 H4) → g x (wipe σ vs) H2 fun σ2 H3 => wipe σ2 vs = wipe σ vs ∧ tt σ2 H3 fun b H4 => if b = true then tk σ2 H4 fun y H5 => tv σ2 H5 fun z H6 => R y z H6 else R0 H4)
    (hM : ∀ b ∈ M, ∃ o, H b = some o)
    (hd : ∀ D H', H D = none → Kp M H H' → H' D = some (.dK (mergeK [] ((List.range n).filterMap sel))) → Q (.ref D) H') : DcP J g tt tk tv vs Q σ H := by
  intro D hD
  have hDM : D ∉ M := fun z => by obtain ⟨o, e⟩ := hM D z; rw [hD] at e; cases e
  refine ⟨fun i m H' => m = n - i ∧ i ≤ n ∧ Kp M H H' ∧ H' D = some (.dK (mergeK [] ((List.range i).filterMap sel))), ⟨n, by simp, Nat.zero_le _, Kp.new hD, upd_same⟩, ?_⟩
  rintro i m H1 ⟨rfl, hi, k1, e1⟩
  by_cases hlt : i < n
  · refine .inr ⟨w.goes i H1 hlt (hG _ k1), fun H' => Kp M H H' ∧ H' D = some (.dK (mergeK [] ((List.range (i + 1)).filterMap sel))), fun H' z => ⟨n - (i + 1), by omega, rfl, hlt, z.1, z.2⟩, fun x H2 y => ?_⟩
    refine hs i x H1 H2 (fun y z H5 => ∃ kvs k, y = kV k ∧ H5 D = some (.dK kvs) ∧ kvs.length < sizeLine ∧ (Kp M H (upd H5 D (.dK (putK kvs k z))) ∧ (upd H5 D (.dK (putK kvs k z))) D = some (.dK (mergeK [] ((List.range (i + 1)).filterMap sel))))) _ hlt k1 (w.yields i H1 x H2 hlt (hG _ k1) y) ?_ ?_
    · intro e H4 he k4
      refine ⟨_, e.1, rfl, k4 _ _ hDM e1, ?_, (k1.trans k4).mutN hD, ?_⟩
      · have h1 := mergeK_len ((List.range i).filterMap sel) []
        have h2 : ((List.range i).filterMap sel).length ≤ i := by
          have := List.length_filterMap_le sel (List.range i)
          rw [List.length_range] at this
          exact this
        exact Nat.lt_of_le_of_lt (Nat.le_trans h1 (show _ ≤ 1000000 by simp only [List.length_nil]; omega)) (by decide)
      · rw [upd_same, List.range_succ, List.filterMap_append]
        simp only [List.filterMap_cons, he, List.filterMap_nil]
        rw [mergeK_snoc]
    · intro H4 he k4
      refine ⟨k1.trans k4, ?_⟩
      rw [k4 _ _ hDM e1, List.range_succ, List.filterMap_append]
      simp [he]
  · have e : i = n := by omega
    subst e
    exact .inl ⟨w.stops H1 (hG _ k1), hd D H1 hD k1 e1⟩
/-! ### a dict that is walked; any, sorted, insert -/
def rInsert : V → List V → Hp → VK → Prop := fun x vs H Q => ∃ (l : Addr) (xs : List V) (i : Int) (y : V), x = .ref l ∧ vs = [.int i, y] ∧ H l = some (.lst xs) ∧ xs.length < sizeLine ∧ 0 ≤ i ∧ i < 2 ^ 63 ∧ Q .non (upd H l (.lst (xs.take i.toNat ++ [y] ++ xs.drop i.toNat)))
theorem m_insert {X : Cx} : MtR X "list.insert" rInsert := mt_insert
theorem w_insert {l : Addr} {xs : List V} {k : Nat} {y : V} (h1 : H l = some (.lst xs)) (h2 : xs.length < sizeLine) (h3 : (k : Int) < 2 ^ 63) (h : ∀ H1, H1 l = some (.lst (xs.take k ++ [y] ++ xs.drop k)) → Off l H H1 → Q .non H1) : rInsert (.ref l) [.int k, y] H Q :=
  ⟨l, xs, k, y, rfl, rfl, h1, h2, by omega, h3, h _ upd_same fun x hx => upd_ne hx⟩
theorem w_any {p : Addr} {bs : List Bool} (h1 : SqL K H p (bs.map V.bl)) (h : Q (.bl (bs.any id)) H) : rAny K [.ref p] H Q := ⟨p, bs, rfl, h1, h⟩
theorem w_sorted {p : Addr} {ns : List Int} (h1 : SqL K H p (ns.map V.int)) (h2 : ns.length < 64) (h : ∀ (ys : List Int) l H1, ys.Perm ns → ys.Pairwise (· ≤ ·) → H l = none → H1 l = some (.lst (ys.map V.int)) → Same H H1 → Q (.ref l) H1) : rSorted K [.ref p] H Q :=
  ⟨p, ns, rfl, h1, h2, fun ys l a b c => h ys l _ a b c upd_same (Same.new c)⟩
section
variable {nx bk ct : L2.St → Hp → Prop} {rt : VK}
theorem w_lock {t : TS} {d : Addr} {kvs : List (Key × V)} (e : H d = some (.dK kvs)) (h : ∀ od H1, H1 d = some (.frz od (.dK kvs)) → Off d H H1 → t ⟨fun σ' H' => H' d = some (.frz od (.dK kvs)) ∧ nx σ' (upd H' d (.dK kvs)), fun v H' => H' d = some (.frz od (.dK kvs)) ∧ rt v (upd H' d (.dK kvs)), fun σ' H' => H' d = some (.frz od (.dK kvs)) ∧ bk σ' (upd H' d (.dK kvs)), fun σ' H' => H' d = some (.frz od (.dK kvs)) ∧ ct σ' (upd H' d (.dK kvs))⟩ σ H1) : tLock t ⟨nx, rt, bk, ct⟩ σ H :=
  ⟨d, _, e, trivial, fun od => h od _ upd_same fun x hx => upd_ne hx⟩
/-- behind the walk the dict is as it was -/
theorem unlock {d : Addr} {kvs : List (Key × V)} {H' : Hp} {R : Hp → Prop} {o : Obj} (e : H' d = some (.frz o (.dK kvs))) (h : ∀ H2, H2 d = some (.dK kvs) → Off d H' H2 → R H2) : H' d = some (.frz o (.dK kvs)) ∧ R (upd H' d (.dK kvs)) := ⟨e, h _ upd_same fun x hx => upd_ne hx⟩
def rKeys (x : V) (H1 : Hp) (R : It → Hp → Prop) : Prop := ∃ d o, x = .ref d ∧ ((∃ kvs, H1 d = some (.frz o (.dK kvs)) ∧ R (Itk d o kvs) H1) ∨ ∃ kvs, H1 d = some (.frz o (.dT kvs)) ∧ R (Itkt d o kvs) H1)
theorem w_keys {td : TE} {R : It → Hp → Prop} (h : td σ H fun x H1 => rKeys x H1 R) : iKeys td σ H R := h
theorem w_keys' {d : Addr} {o : Obj} {kvs : List (Key × V)} {R : It → Hp → Prop} (e : H d = some (.frz o (.dK kvs))) (h : R (Itk d o kvs) H) : rKeys (.ref d) H R := ⟨d, o, rfl, .inl ⟨kvs, e, h⟩⟩
theorem lp_keys {d : Addr} {o : Obj} {kvs : List (Key × V)} {ks : List Int} {g : TG} {tb : TS} (hk : kvs.map (·.1) = ks.map (Sum.inl : Int → Key)) (Pv : Nat → L2.St → Hp → Prop) (h0 : Pv 0 σ H) (hl : ∀ i σ H, i ≤ ks.length → Pv i σ H → H d = some (.frz o (.dK kvs)))
    (hs : ∀ i x σ H, ks[i]? = some x → Pv i σ H → g (.int x) σ H fun σ2 H2 => tb ⟨Pv (i + 1), rt, nx, Pv (i + 1)⟩ σ2 H2) (hd : ∀ σ H, Pv ks.length σ H → nx σ H) : Lp (Itk d o kvs) g tb ⟨nx, rt, bk, ct⟩ σ H := by
  have hn : kvs.length = ks.length := by
    have := congrArg List.length hk
    simpa using this
  refine lp_it walk_keys Pv h0 (fun i σ H hi => hl i σ H (by omega)) ?_ (by rw [hn]; exact hd)
  rintro i x σ H H' hi p ⟨rfl, k, v, e, rfl⟩
  have e2 : (kvs.map (·.1))[i]? = some k := by rw [List.getElem?_map, e]; rfl
  rw [hk, List.getElem?_map] at e2
  obtain ⟨z, e3, rfl⟩ := Option.map_eq_some_iff.mp e2
  exact hs i z σ H' e3 p
end
theorem w_tyes {R : Bool → Hp → Prop} (h : R true H) : tYes σ H R := h
theorem w_dinF {a : Addr} {o : Obj} {kvs : List (Key × V)} {n : Int} (e : H a = some (.frz o (.dK kvs))) (h : Q (.bl (valV kvs (Sum.inl n)).isSome) H) : rDIn (.ref a) (.int n) H Q := ⟨a, _, rfl, .inl ⟨kvs, Sum.inl n, .inr ⟨o, e⟩, rfl, rfl⟩, h⟩
theorem w_dgetF {a : Addr} {o : Obj} {kvs : List (Key × V)} {n : Int} {v : V} (e : H a = some (.frz o (.dK kvs))) (e2 : valV kvs (Sum.inl n) = some v) (h : Q v H) : rDGet (.ref a) (.int n) H Q := ⟨a, v, rfl, .inl ⟨kvs, Sum.inl n, .inr ⟨o, e⟩, rfl, e2.symm⟩, h⟩
/-! ### get, reversed, slices, pop -/
def rDGet1 (a : Addr) (y : V) (H : Hp) (Q : VK) : Prop := ∃ o, DGet H a y o ∧ Q (o.getD .non) H
theorem w_dget1 {td ty : TE} (h : td σ H fun x H1 => rIsD x H1 fun a H1 => ty σ H1 fun y H2 => rDGet1 a y H2 Q) : tDGet1 td ty σ H Q := h
theorem w_dget1I {a : Addr} {kvs : List (Key × V)} {n : Int} (e : H a = some (.dK kvs)) (h : Q ((valV kvs (Sum.inl n)).getD .non) H) : rDGet1 a (.int n) H Q := ⟨_, DGet.k (k := Sum.inl n) e, h⟩
def rRev (K : PySem.W.Frag) (vs : List V) (H : Hp) (R : It → Hp → Prop) : Prop := ∃ (a : Addr) (xs : List V), vs = [.ref a] ∧ SqL K H a xs ∧ R (Itv K a xs.length) H
theorem w_rev {ta : TA} {R : It → Hp → Prop} (h : ta σ H fun vs H1 => rRev K vs H1 R) : iRev K ta σ H R := h
theorem w_rev' {a : Addr} {xs : List V} {R : It → Hp → Prop} (h1 : SqL K H a xs) (h : R (Itv K a xs.length) H) : rRev K [.ref a] H R := ⟨a, xs, rfl, h1, h⟩
theorem lp_rev {nx bk ct : L2.St → Hp → Prop} {rt : VK} {a : Addr} {xs : List V} {g : TG} {tb : TS} (Pv : Nat → L2.St → Hp → Prop) (h0 : Pv 0 σ H) (hl : ∀ i σ H, i ≤ xs.length → Pv i σ H → SqL K H a xs)
    (hs : ∀ i x σ H, i < xs.length → xs[xs.length - 1 - i]? = some x → Pv i σ H → g x σ H fun σ2 H2 => tb ⟨Pv (i + 1), rt, nx, Pv (i + 1)⟩ σ2 H2) (hd : ∀ σ H, Pv xs.length σ H → nx σ H) : Lp (Itv K a xs.length) g tb ⟨nx, rt, bk, ct⟩ σ H := by
  refine lp_it walk_rev Pv h0 hl ?_ hd
  rintro i x σ H H' hi p ⟨rfl, e⟩
  exact hs i x σ H' hi e p
def rPart (x : V) (H : Hp) (R : Option Int → Hp → Prop) : Prop := ∃ i, x = .int i ∧ R (some i) H
theorem w_slice {r : V → Option Int → Option Int → Hp → VK → Prop} {te : TE} {tl th : TO} (h : te σ H fun x H1 => tl σ H1 fun l H2 => th σ H2 fun u H3 => r x l u H3 Q) : L2.tSl r te tl th σ H Q := h
theorem w_noPart {R : Option Int → Hp → Prop} (h : R none H) : tNoPart σ H R := h
theorem w_part {te : TE} {R : Option Int → Hp → Prop} (h : te σ H fun x H1 => rPart x H1 R) : tPart te σ H R := h
theorem w_part' {i : Int} {R : Option Int → Hp → Prop} (h : R (some i) H) : rPart (.int i) H R := ⟨i, rfl, h⟩
theorem w_slL {a : Addr} {xs : List V} {lo hi : Option Int} (h1 : SqL K H a xs) (h : ∀ p H1, H p = none → H1 p = some (.lst (cutV xs lo hi)) → Same H H1 → Q (.ref p) H1) : rSlL K (.ref a) lo hi H Q := ⟨a, xs, rfl, h1, w_new h⟩
theorem cut_last (xs : List V) : cutV xs none (some (-1)) = xs.dropLast := by
  show ((xs.drop 0).take ((if (-1 : Int) < 0 then ((-1 : Int) + (xs.length : Int)).toNat else min (-1 : Int).toNat xs.length) - 0)) = xs.dropLast
  rw [if_pos (by decide), List.drop_zero, List.dropLast_eq_take]
  congr 1
  omega
theorem w_bm0 {r : V → List V → Hp → VK → Prop} {to : TE} (h : to σ H fun x H1 => tyV K "list" x H1 ∧ r x [] H1 Q) : tBM0 K "list" r to σ H Q := h
theorem w_pop {l : Addr} {xs : List V} {y : V} (h1 : H l = some (.lst (xs ++ [y]))) (h : ∀ H1, H1 l = some (.lst xs) → Off l H H1 → Q y H1) : rPop (.ref l) [] H Q :=
  ⟨l, _, y, rfl, rfl, h1, by simp, by rw [List.dropLast_concat]; exact h _ upd_same fun x hx => upd_ne hx⟩
theorem w_retN {nx bk ct : L2.St → Hp → Prop} {rt : VK} (h : rt .non H) : tRetN ⟨nx, rt, bk, ct⟩ σ H := h
theorem range_fm {α β : Type} (f : α → Option β) : ∀ xs : List α, (List.range xs.length).filterMap (fun i => xs[i]?.bind f) = xs.filterMap f
  | [] => rfl
  | x :: r => by
    rw [List.length_cons, List.range_succ_eq_map, List.filterMap_cons, List.filterMap_map, List.filterMap_cons]
    have h := range_fm f r
    show (match f x with | none => List.filterMap (fun i => r[i]?.bind f) (List.range r.length) | some b => b :: List.filterMap (fun i => r[i]?.bind f) (List.range r.length)) = _
    rw [h]
    cases f x <;> rfl
end
end FW

set_option Elab.async false
set_option linter.all false
set_option maxRecDepth 100000
set_option maxHeartbeats 4000000
/-! Data of any kind: what isinstance says of them, and tuples of them to a depth. -/
namespace FW
open PySem PySem.Spec PyProof.Rows L2
inductive Ty (H : Hp) : V → String → Prop where
  | non : Ty H .non "NoneType"
  | bl (b : Bool) : Ty H (.bl b) "bool"
  | int (i : Int) : Ty H (.int i) "int"
  | str (z : Str) : Ty H (.str z) "str"
  | lst {a : Addr} {xs : List V} (e : H a = some (.lst xs)) : Ty H (.ref a) "list"
  | tup {a : Addr} {xs : List V} (e : H a = some (.tup xs)) : Ty H (.ref a) "tuple"
  | dK {a : Addr} {kvs : List (Key × V)} (e : H a = some (.dK kvs)) : Ty H (.ref a) "dict"
section
variable {K : PySem.W.Frag} {σ : L2.St} {H : Hp} {Q : VK} {x : V} {a : String}
theorem Ty.tx (t : Ty H x a) : TyX K H x (.type a) := by
  cases t with
  | non => exact .base .non
  | bl b => exact .base (.bl b)
  | int i => exact .base (.int i)
  | str z => exact .base (.str z)
  | lst e => exact .base (.lst e)
  | tup e => exact .base (.tup e)
  | dK e => exact .base (.dK e)
theorem Ty.kTup (t : Ty H x a) : kitB a "tuple" = some (decide (a = "tuple")) := by
  cases t with
  | non => exact kb_NoneType_tuple
  | bl b => exact kb_bool_tuple
  | int i => exact kb_int_tuple
  | str z => exact kb_str_tuple
  | lst e => exact kb_list_tuple
  | tup e => exact kb_tuple_tuple
  | dK e => exact kb_dict_tuple
theorem Ty.kInt (t : Ty H x a) : kitB a "int" = some (decide (a = "int") || decide (a = "bool")) := by
  cases t with
  | non => exact kb_NoneType_int
  | bl b => exact kb_bool_int
  | int i => exact kb_int_int
  | str z => exact kb_str_int
  | lst e => exact kb_list_int
  | tup e => exact kb_tuple_int
  | dK e => exact kb_dict_int
theorem Ty.kBool (t : Ty H x a) : kitB a "bool" = some (decide (a = "bool")) := by
  cases t with
  | non => exact kb_NoneType_bool
  | bl b => exact kb_bool_bool
  | int i => exact kb_int_bool
  | str z => exact kb_str_bool
  | lst e => exact kb_list_bool
  | tup e => exact kb_tuple_bool
  | dK e => exact kb_dict_bool
theorem w_isTup (t : Ty H x a) (h : Q (.bl (decide (a = "tuple"))) H) : rIsi K [x, .ty "tuple"] H Q := w_isi t.tx t.kTup h
theorem w_isInt (t : Ty H x a) (h : Q (.bl (decide (a = "int") || decide (a = "bool"))) H) : rIsi K [x, .ty "int"] H Q := w_isi t.tx t.kInt h
theorem w_isBool (t : Ty H x a) (h : Q (.bl (decide (a = "bool"))) H) : rIsi K [x, .ty "bool"] H Q := w_isi t.tx t.kBool h
theorem Ty.isTup (t : Ty H x a) (e : a = "tuple") : ∃ p xs, x = .ref p ∧ H p = some (.tup xs) := by
  cases t with
  | tup h => exact ⟨_, _, rfl, h⟩
  | non => exact absurd e (by decide)
  | bl _ => exact absurd e (by decide)
  | int _ => exact absurd e (by decide)
  | str _ => exact absurd e (by decide)
  | lst _ => exact absurd e (by decide)
  | dK _ => exact absurd e (by decide)
theorem Ty.isInt (t : Ty H x a) (e : a = "int") : ∃ i, x = .int i := by
  cases t with
  | int i => exact ⟨i, rfl⟩
  | non => exact absurd e (by decide)
  | bl _ => exact absurd e (by decide)
  | tup _ => exact absurd e (by decide)
  | str _ => exact absurd e (by decide)
  | lst _ => exact absurd e (by decide)
  | dK _ => exact absurd e (by decide)
theorem Ty.ofInt {i : Int} (t : Ty H (.int i) a) : a = "int" := by
  cases t with
  | int i => rfl
theorem Ty.ofTup {p : Addr} {xs : List V} (t : Ty H (.ref p) a) (e : H p = some (.tup xs)) : a = "tuple" := by
  cases t with
  | tup h => rfl
  | lst h => rw [e] at h; cases h
  | dK h => rw [e] at h; cases h
end
/-- data: a tuple of data, or another thing -/
inductive Dat (B : Nat) (H : Hp) : V → Prop where
  | leaf {x : V} {a : String} (t : Ty H x a) (h : a ≠ "tuple") : Dat B H x
  | tup {p : Addr} {xs : List V} (e : H p = some (.tup xs)) (l : xs.length ≤ B) (h : ∀ y ∈ xs, Dat B H y) : Dat B H (.ref p)
theorem Dat.int {B : Nat} {H : Hp} {i : Int} : Dat B H (.int i) := .leaf (.int i) (by decide)
theorem Dat.ty {B : Nat} {H : Hp} {x : V} (h : Dat B H x) : ∃ a, Ty H x a := by
  cases h with
  | leaf t _ => exact ⟨_, t⟩
  | tup e _ _ => exact ⟨_, .tup e⟩
/-- what keeps tuples, and of lists and dicts their kind -/
structure KD (H H' : Hp) : Prop where
  t : KT H H'
  l : ∀ b xs, H b = some (.lst xs) → ∃ ys, H' b = some (.lst ys)
  d : ∀ b kvs, H b = some (.dK kvs) → ∃ kws, H' b = some (.dK kws)
theorem KD.of {H H' : Hp} (k : Same H H') : KD H H' := ⟨KT.of k, fun b xs e => ⟨xs, k _ _ e⟩, fun b kvs e => ⟨kvs, k _ _ e⟩⟩
theorem KD.refl {H : Hp} : KD H H := ⟨KT.refl, fun b xs e => ⟨xs, e⟩, fun b kvs e => ⟨kvs, e⟩⟩
theorem KD.trans {H H1 H2 : Hp} (a : KD H H1) (b : KD H1 H2) : KD H H2 := ⟨a.t.trans b.t, fun c xs e => by
  obtain ⟨ys, e⟩ := a.l c xs e
  exact b.l c ys e, fun c xs e => by
  obtain ⟨ys, e⟩ := a.d c xs e
  exact b.d c ys e⟩
theorem KD.off {p : Addr} {H H' : Hp} {xs ys : List V} (k : Off p H H') (e : H p = some (.lst xs)) (e' : H' p = some (.lst ys)) : KD H H' := ⟨KT.off k e, fun b zs h => by
  by_cases q : b = p
  · subst q; exact ⟨ys, e'⟩
  · exact ⟨zs, k.get q h⟩, fun b kvs h => ⟨kvs, k.get (ne_of h e (fun z => nomatch z)) h⟩⟩
theorem KD.offK {p : Addr} {H H' : Hp} {xs ys : List (Key × V)} (k : Off p H H') (e : H p = some (.dK xs)) (e' : H' p = some (.dK ys)) : KD H H' := ⟨fun b zs h => k.get (ne_of h e (fun z => nomatch z)) h, fun b zs h => ⟨zs, k.get (ne_of h e (fun z => nomatch z)) h⟩, fun b kvs h => by
  by_cases q : b = p
  · subst q; exact ⟨ys, e'⟩
  · exact ⟨kvs, k.get q h⟩⟩
theorem Ty.kd {H H' : Hp} {x : V} {a : String} (t : Ty H x a) (k : KD H H') : Ty H' x a := by
  cases t with
  | non => exact .non
  | bl b => exact .bl b
  | int i => exact .int i
  | str z => exact .str z
  | lst e => obtain ⟨ys, e⟩ := k.l _ _ e; exact .lst e
  | tup e => exact .tup (k.t _ _ e)
  | dK e => obtain ⟨ys, e⟩ := k.d _ _ e; exact .dK e
theorem Dat.kd {B : Nat} {H H' : Hp} {x : V} (h : Dat B H x) (k : KD H H') : Dat B H' x := by
  induction h with
  | leaf t h => exact .leaf (t.kd k) h
  | tup e l _ ih => exact .tup (k.t _ _ e) l fun y hy => ih y hy
theorem Dat.mono {B C : Nat} (hB : B ≤ C) {H : Hp} {x : V} (h : Dat B H x) : Dat C H x := by
  induction h with
  | leaf t h => exact .leaf t h
  | tup e l _ ih => exact .tup e (Nat.le_trans l hB) fun y hy => ih y hy
theorem Dat.cases {B : Nat} {H : Hp} {x : V} (h : Dat B H x) : (∃ a, Ty H x a ∧ a ≠ "tuple") ∨ ∃ (p : Addr) (xs : List V), x = .ref p ∧ H p = some (.tup xs) ∧ xs.length ≤ B ∧ ∀ y ∈ xs, Dat B H y := by
  cases h with
  | leaf t h => exact .inl ⟨_, t, h⟩
  | tup e l h => exact .inr ⟨_, _, rfl, e, l, h⟩
theorem Deck.kd {H H' : Hp} {d c : Addr} {n m : Nat} (D : Deck H d c n) (D' : Deck H' d c m) (o : Off d H H') : KD H H' := by
  obtain ⟨⟨xs, e⟩, _⟩ := D.at
  obtain ⟨⟨ys, e'⟩, _⟩ := D'.at
  exact KD.off o e e'
section
variable {K : PySem.W.Frag} {H : Hp} {Q : VK}
theorem w_slA {a : Addr} {xs : List V} {lo hi : Option Int} (h1 : SqT K H a xs) (h2 : cutV xs lo hi = xs → Q (.ref a) H) (h : ∀ p H1, H p = none → H1 p = some (.tup (cutV xs lo hi)) → Same H H1 → Q (.ref p) H1) : rSlA K (.ref a) lo hi H Q := by
  refine ⟨a, xs, rfl, h1, fun ⟨z1, z2⟩ => h2 ?_, fun _ => w_new h⟩
  unfold cutV
  rw [z1, z2, List.drop_zero, Nat.sub_zero, List.take_length]
/-- new things in turn: the deck, those that were made, what stood at H0 -/
theorem w_newD {H0 : Hp} {d c : Addr} {n B : Nat} {L xs : List V} (D : Deck H d c n) (hL : ∀ y ∈ L, Dat B H y) (kk : Same H0 H) (hx : ∀ y ∈ xs, Dat B H y) (hl : xs.length ≤ B) (h : ∀ p H', Deck H' d c n → (∀ y ∈ V.ref p :: L, Dat B H' y) → Same H0 H' → Q (.ref p) H') : Nw (.tup xs) H Q := by
  refine w_new fun p H' hp e k => h p H' (D.kp (M := []) (Kp.of k) (by simp) (by simp)) (fun y hy => ?_) (Same.trans kk k)
  rcases List.mem_cons.mp hy with rfl | hy
  · exact .tup e hl fun y hy => (hx y hy).kd (KD.of k)
  · exact (hL y hy).kd (KD.of k)
theorem w_newLD {H0 : Hp} {d c : Addr} {n B : Nat} {L xs : List V} (D : Deck H d c n) (hL : ∀ y ∈ L, Dat B H y) (kk : Same H0 H) (hl : xs.length ≤ 1) (h : ∀ p H', Deck H' d c n → (∀ y ∈ V.ref p :: L, Dat B H' y) → Same H0 H' → Q (.ref p) H') : Nw (.lst xs) H Q := by
  refine w_new fun p H' hp e k => h p H' (D.kp (M := []) (Kp.of k) (by simp) (by simp)) (fun y hy => ?_) (Same.trans kk k)
  rcases List.mem_cons.mp hy with rfl | hy
  · exact .leaf (.lst e) (by decide)
  · exact (hL y hy).kd (KD.of k)
theorem w_newB {H0 : Hp} {d c : Addr} {n B : Nat} {L xs : List V} (D : Deck H d c n) (hL : ∀ y ∈ L, Dat B H y) (kk : Same H0 H) (hx : ∀ y ∈ xs, Dat B H y) (h : ∀ p H', Deck H' d c n → (∀ y ∈ xs, Dat B H' y) → H' p = some (.lst xs) → Same H0 H' → Q (.ref p) H') : Nw (.lst xs) H Q :=
  w_new fun p H' hp e k => h p H' (D.kp (M := []) (Kp.of k) (by simp) (by simp)) (fun y hy => (hx y hy).kd (KD.of k)) e (Same.trans kk k)
theorem w_newKD {H0 : Hp} {d c : Addr} {n B : Nat} {L : List V} {kvs : List (Key × V)} (D : Deck H d c n) (hL : ∀ y ∈ L, Dat B H y) (kk : Same H0 H) (h : ∀ p H', Deck H' d c n → (∀ y ∈ V.ref p :: L, Dat B H' y) → Same H0 H' → Q (.ref p) H') : Nw (.dK kvs) H Q := by
  refine w_new fun p H' hp e k => h p H' (D.kp (M := []) (Kp.of k) (by simp) (by simp)) (fun y hy => ?_) (Same.trans kk k)
  rcases List.mem_cons.mp hy with rfl | hy
  · exact .leaf (.dK e) (by decide)
  · exact (hL y hy).kd (KD.of k)
theorem w_dispD {σ : L2.St} {H0 : Hp} {d c : Addr} {n B : Nat} {L : List V} {k : Int} {v : V} (D : Deck H d c n) (hL : ∀ y ∈ L, Dat B H y) (kk : Same H0 H) (h : ∀ p H', Deck H' d c n → (∀ y ∈ V.ref p :: L, Dat B H' y) → Same H0 H' → Q (.ref p) H') : tDisp [(tC (.int k), tC v)] σ H Q := by
  refine w_disp fun p H1 hp e1 k1 => ?_
  refine w_pair (w_c (w_c (w_pnil ?_)))
  refine w_dispE [(Sum.inl k, v)] e1 rfl (show (1 : Nat) ≤ 15 by decide) fun H2 e2 o2 => ?_
  have k2 : Same H H2 := fun b o e => o2.get (ne_of_none e hp) (k1 _ _ e)
  refine h p H2 (D.kp (M := []) (Kp.of k2) (by simp) (by simp)) (fun y hy => ?_) (Same.trans kk k2)
  rcases List.mem_cons.mp hy with rfl | hy
  · exact .leaf (.dK e2) (by decide)
  · exact (hL y hy).kd (KD.of k2)
theorem w_cat {l b : Addr} {xs zs : List V} (h1 : H l = some (.lst xs)) (h2 : H b = some (.lst zs)) (hz : xs.length + zs.length ≤ sizeLine) (h : ∀ p H1, H p = none → H1 p = some (.lst (xs ++ zs)) → Same H H1 → Q (.ref p) H1) : rCat (.ref l) (.ref b) H Q := ⟨l, b, xs, zs, rfl, rfl, h1, h2, hz, w_new h⟩
/-- t[lo:hi]: where it stands, it is the cut -/
theorem w_slAt {a : Addr} {xs : List V} {lo hi : Option Int} (h1 : H a = some (.tup xs)) (h : ∀ p H1, H1 p = some (.tup (cutV xs lo hi)) → Same H H1 → Q (.ref p) H1) : rSlA K (.ref a) lo hi H Q :=
  w_slA (.of h1) (fun e => h a H (by rw [e]; exact h1) (fun _ _ z => z)) (fun p H1 _ e k => h p H1 e k)
theorem w_catAt {a b : Addr} {xs ys : List V} (h1 : H a = some (.tup xs)) (h2 : H b = some (.tup ys)) (hz : xs.length + ys.length ≤ sizeLine) (h : ∀ p H1, H1 p = some (.tup (xs ++ ys)) → Same H H1 → Q (.ref p) H1) : rCatA K (.ref a) (.ref b) H Q := by
  refine ⟨a, b, xs, ys, rfl, rfl, .of h1, .of h2, hz, fun e => ?_, fun _ e => ?_, fun _ _ p hp => h p _ upd_same (Same.new hp)⟩
  · subst e
    exact h b H h2 (fun _ _ z => z)
  · subst e
    exact h a H (by rw [List.append_nil]; exact h1) (fun _ _ z => z)
end
/-! ### except X as e -/
def tTryA (K : PySem.W.Frag) (c : Value) (i : Nat) (tb : WX → TS) (ts : Addr → Value → Option Addr → TS) : TS := fun D σ H => tb (wAs K c i ts (fun _ _ _ _ => False) D) D σ H
def tGuard (P : Prop) (t : TS) : TS := fun D σ H => P ∧ t D σ H
section
variable {X : Cx} {x n : Str} {c : Value} {i : Nat} {body suite : List Stmt} {b₀ : Stmt} {np pos pos' : Pos} {tb : WX → TS} {ts : Addr → Value → Option Addr → TS}
theorem p_tryAs (hs : X.stack = X.env :: X.outer) (hf : X.env.frame = some X.env.locals) (hN : X.N.Nodup) (hi : X.N[i]? = some n) (hln : X.env.kindOf n = some .local) (hc : Names X x c)
    (hb : ∀ (W : WX) (pn : List (Addr × Obj)) (xe : Value → Shared → Prop), Takes (X.tr pn xe) W → PassesOwn (model X.prog X.w) X.A X.env xe → PSs (X.tr pn xe) body (tb W))
    (hsu : ∀ (a : Addr) (oe : Obj) (cls : Value) (d : Option Addr) (pn : List (Addr × Obj)), Zc cls d oe → (∃ vs, oe.data = .fields vs) → PSs (X.suite a ((a, oe) :: pn)) (b₀ :: suite) (ts a cls d)) :
    PS X (.Try body [.ExceptHandler (some (.Name x np)) (some n) (b₀ :: suite) pos'] [] [] pos) (tTryA X.K c i tb ts) := ps_try_as hs hf hN hi hln hc takes0 hb hsu
theorem pss_guard {P : Prop} {ss : List Stmt} {t : TS} (h : P → PSs X ss t) : PSs X ss (tGuard P t) := ⟨fun pins s σ H D I hw => (h hw.1).run pins s σ H D I hw.2⟩
theorem zc_of {C : Addr} {cls : Value} {d : Option Addr} {oe : Obj} (hg : cls = .ref C ∧ d = none) (hz : Zc cls d oe) : Zc (.ref C) none oe := by
  obtain ⟨rfl, rfl⟩ := hg
  exact hz
end
section
variable {K : PySem.W.Frag} {σ : L2.St} {H : Hp} {Q : VK} {nx bk ct : L2.St → Hp → Prop} {rt : VK}
theorem w_tryA {c : Value} {i : Nat} {tb : WX → TS} {ts : Addr → Value → Option Addr → TS} (h : tb (wAs K c i ts (fun _ _ _ _ => False) ⟨nx, rt, bk, ct⟩) ⟨nx, rt, bk, ct⟩ σ H) : tTryA K c i tb ts ⟨nx, rt, bk, ct⟩ σ H := h
theorem w_guard {P : Prop} {t : TS} (p : P) (h : t ⟨nx, rt, bk, ct⟩ σ H) : tGuard P t ⟨nx, rt, bk, ct⟩ σ H := ⟨p, h⟩
theorem w_isE {a D C : Addr} {b : Bool} (e : PySem.W.kitOne K (.ref D) (.ref C) = some b) (h : Q (.bl b) H) : rIsE K D a [.ref a, .ref C] H Q := ⟨.ref C, .ref C, b, rfl, fun u r => r, e, h⟩
theorem w_isEt {a D : Addr} {n : String} {b : Bool} (e : PySem.W.kitOne K (.ref D) (.type n) = some b) (h : Q (.bl b) H) : rIsE K D a [.ref a, .ty n] H Q := ⟨.ty n, .type n, b, rfl, fun u r => r, e, h⟩
end
end FW

set_option Elab.async false
set_option linter.all false
set_option maxRecDepth 100000
set_option maxHeartbeats 4000000
namespace FW
open PySem L2
def top (i : Nat) : Stmt := PySem.Challenge.pw_fewasks_k12_no_shape.main.body.getD i (.Pass ⟨0, 0, 0, 0⟩)
abbrev s_is_whole : Stmt := top 7
abbrev N_is_whole : List Str := ["thing"]
theorem sc_is_whole : FnScope N_is_whole ["thing"] (defScope s_is_whole) := ⟨rfl, rfl, rfl, by decide +kernel, rfl, by decide +kernel, by decide +kernel⟩
abbrev s_is_rising : Stmt := top 8
abbrev N_is_rising : List Str := ["thing", "last", "one"]
theorem sc_is_rising : FnScope N_is_rising ["thing"] (defScope s_is_rising) := ⟨rfl, rfl, rfl, by decide +kernel, rfl, by decide +kernel, by decide +kernel⟩
abbrev s_are_links : Stmt := top 9
abbrev N_are_links : List Str := ["versions", "thing", "known", "last", "pair", "version"]
theorem sc_are_links : FnScope N_are_links ["versions", "thing"] (defScope s_are_links) := ⟨rfl, rfl, rfl, by decide +kernel, rfl, by decide +kernel, by decide +kernel⟩
abbrev s_check : Stmt := top 10
abbrev N_check : List Str := ["thing", "versions", "links"]
theorem sc_check : FnScope N_check ["thing"] (defScope s_check) := ⟨rfl, rfl, rfl, by decide +kernel, rfl, by decide +kernel, by decide +kernel⟩
abbrev s_law_deck : Stmt := top 12
abbrev N_law_deck : List Str := ["_law_script"]
theorem sc_law_deck : FnScope N_law_deck ["_law_script"] (defScope s_law_deck) := ⟨rfl, rfl, rfl, by decide +kernel, rfl, by decide +kernel, by decide +kernel⟩
abbrev s_law_mixed : Stmt := top 13
abbrev N_law_mixed : List Str := ["_law_cell", "_law_turn"]
theorem sc_law_mixed : FnScope N_law_mixed ["_law_cell", "_law_turn"] (defScope s_law_mixed) := ⟨rfl, rfl, rfl, by decide +kernel, rfl, by decide +kernel, by decide +kernel⟩
abbrev s_law_draw : Stmt := top 14
abbrev N_law_draw : List Str := ["_law_deck_here", "_law_many", "_law_cells", "_law_found", "_law_number"]
theorem sc_law_draw : FnScope N_law_draw ["_law_deck_here", "_law_many"] (defScope s_law_draw) := ⟨rfl, rfl, rfl, by decide +kernel, rfl, by decide +kernel, by decide +kernel⟩
abbrev s_law_int : Stmt := top 15
abbrev N_law_int : List Str := ["_law_thing"]
theorem sc_law_int : FnScope N_law_int ["_law_thing"] (defScope s_law_int) := ⟨rfl, rfl, rfl, by decide +kernel, rfl, by decide +kernel, by decide +kernel⟩
abbrev s_law_shape : Stmt := top 16
abbrev N_law_shape : List Str := ["_law_deck_here", "_law_most", "_law_versions", "_law_last", "_law_far", "_law_road", "_law_links", "_law_k", "_law_j", "_law_hit"]
theorem sc_law_shape : FnScope N_law_shape ["_law_deck_here", "_law_most"] (defScope s_law_shape) := ⟨rfl, rfl, rfl, by decide +kernel, rfl, by decide +kernel, by decide +kernel⟩
abbrev s_law_odd : Stmt := top 17
abbrev N_law_odd : List Str := ["_law_deck_here", "_law_some"]
theorem sc_law_odd : FnScope N_law_odd ["_law_deck_here"] (defScope s_law_odd) := ⟨rfl, rfl, rfl, by decide +kernel, rfl, by decide +kernel, by decide +kernel⟩
abbrev s_law_bent : Stmt := top 18
abbrev N_law_bent : List Str := ["_law_deck_here", "_law_thing", "_law_depth", "_law_road", "_law_at"]
theorem sc_law_bent : FnScope N_law_bent ["_law_deck_here", "_law_thing", "_law_depth"] (defScope s_law_bent) := ⟨rfl, rfl, rfl, by decide +kernel, rfl, by decide +kernel, by decide +kernel⟩
abbrev s_law_rising : Stmt := top 19
abbrev N_law_rising : List Str := ["_law_thing", "_law_last", "_law_one"]
theorem sc_law_rising : FnScope N_law_rising ["_law_thing"] (defScope s_law_rising) := ⟨rfl, rfl, rfl, by decide +kernel, rfl, by decide +kernel, by decide +kernel⟩
abbrev s_law_is_shape : Stmt := top 20
abbrev N_law_is_shape : List Str := ["_law_thing", "_law_stands", "_law_one", "_law_last", "_law_two"]
theorem sc_law_is_shape : FnScope N_law_is_shape ["_law_thing"] (defScope s_law_is_shape) := ⟨rfl, rfl, rfl, by decide +kernel, rfl, by decide +kernel, by decide +kernel⟩
abbrev s_law : Stmt := top 21
abbrev N_law : List Str := ["_law_script", "_law_deck_here", "_law_road", "_law_thing", "_law_links", "_law_k", "_law_due", "_law_found", "_law_kind", "e"]
theorem sc_law : FnScope N_law ["_law_script"] (defScope s_law) := ⟨rfl, rfl, rfl, by decide +kernel, rfl, by decide +kernel, by decide +kernel⟩
structure Df (K : PySem.W.Frag) (mg : Str → Option Value) (x : Str) (st : Stmt) (ps : List Str) (f : Addr) (fd : FuncData) : Prop where
  fn : Fun K x x st f fd
  b : Binds K fd ps []
  g : mg x = some (.ref f)
structure Txt (K : PySem.W.Frag) (mg : Str → Option Value) : Prop where
  n_len : mg "len" = none
  n_list : mg "list" = none
  n_isinstance : mg "isinstance" = none
  n_int : mg "int" = none
  n_bool : mg "bool" = none
  n_str : mg "str" = none
  n_tuple : mg "tuple" = none
  n_range : mg "range" = none
  n_ValueError : mg "ValueError" = none
  g_VERSIONS : ∃ t, mg "VERSIONS" = some (.int 400 t)
  g_LINKS : ∃ t, mg "LINKS" = some (.int 2000 t)
local macro_rules | `(tactic| walk_at "sq") => `(tactic| first | assumption | exact SqL.of (by assumption) | exact SqT.of (by assumption))
local macro_rules | `(tactic| walk_at "c") => `(tactic| first | ((with_reducible refine cdivw ?_ ?_) <;> first | decide | omega | assumption) | ((with_reducible refine cmul_r ?_ ?_) <;> first | decide | omega) | ((with_reducible refine cmul_l ?_ ?_) <;> first | decide | omega) | with_reducible assumption | decide | omega | exact ⟨by decide, by decide, by first | decide | omega⟩)
local macro_rules | `(tactic| walk_at "at") => `(tactic| first | assumption | exact rfl)
local macro_rules | `(tactic| walk_at "ty") => `(tactic| first | exact .base (.int _) | exact .base (.bl _) | exact .base (.str _) | exact .base .non | exact .base (.tup (by assumption)) | exact .base (.lst (by assumption)) | exact .base (.dK (by assumption)))
local macro_rules | `(tactic| walk_at "kb") => `(tactic| first | exact kb_int_int | exact kb_int_bool | exact kb_int_str | exact kb_int_tuple | exact kb_int_list | exact kb_int_dict | exact kb_bool_int | exact kb_bool_bool | exact kb_bool_str | exact kb_bool_tuple | exact kb_bool_list | exact kb_bool_dict | exact kb_str_int | exact kb_str_bool | exact kb_str_str | exact kb_str_tuple | exact kb_str_list | exact kb_str_dict | exact kb_tuple_int | exact kb_tuple_bool | exact kb_tuple_str | exact kb_tuple_tuple | exact kb_tuple_list | exact kb_tuple_dict | exact kb_list_int | exact kb_list_bool | exact kb_list_str | exact kb_list_tuple | exact kb_list_list | exact kb_list_dict | exact kb_dict_int | exact kb_dict_bool | exact kb_dict_str | exact kb_dict_tuple | exact kb_dict_list | exact kb_dict_dict | exact kb_NoneType_int | exact kb_NoneType_bool | exact kb_NoneType_str | exact kb_NoneType_tuple | exact kb_NoneType_list | exact kb_NoneType_dict)
local macro_rules | `(tactic| walk_at "s") => `(tactic| first
  | with_reducible refine w_seqA ?_
  | with_reducible refine w_seqD ?_
  | with_reducible refine w_seqF ?_
  | with_reducible refine w_seqW ?_
  | with_reducible refine w_seqG ?_
  | with_reducible refine w_seqP ?_
  | with_reducible refine w_asg ?_
  | ((with_reducible refine' w_var ?hv ?_); (case hv => exact rfl))
  | with_reducible refine w_c ?_
  | ((with_reducible refine w_name ?_); dsimp only [List.set_cons_zero, List.set_cons_succ])
  | with_reducible refine w_name ?_
  | with_reducible refine w_op ?_
  | with_reducible refine w_un ?_
  | with_reducible refine w_neg ?_
  | with_reducible refine w_i0 ?_
  | ((with_reducible refine w_i ?hc ?_); (case hc => walk_at "c"))
  | with_reducible refine w_eqI ?_
  | with_reducible refine w_neI ?_
  | ((with_reducible refine' w_ixL ?h1 ?h2 ?_); (case h1 => walk_at "sq"); (case h2 => walk_at "at"))
  | ((with_reducible refine' w_ixT ?h1 ?h2 ?_); (case h1 => walk_at "sq"); (case h2 => walk_at "at"))
  | ((with_reducible refine' w_ixSL ?h1 ?h2 ?_); (case h1 => walk_at "sq"); (case h2 => walk_at "at"))
  | ((with_reducible refine' w_ixST ?h1 ?h2 ?_); (case h1 => walk_at "sq"); (case h2 => walk_at "at"))
  | with_reducible refine w_neB ?_
  | with_reducible refine w_eqN ?_
  | with_reducible refine w_sub ?_
  | with_reducible refine w_if ?_
  | with_reducible refine w_test ?_
  | with_reducible refine w_tb ?_
  | with_reducible refine w_bl ?_
  | with_reducible refine w_and ?_
  | with_reducible refine w_or ?_
  | with_reducible refine w_not ?_
  | with_reducible refine w_andV ?_
  | with_reducible refine w_orV ?_
  | with_reducible refine w_notV ?_
  | with_reducible refine w_ret ?_
  | with_reducible refine w_drop ?_
  | with_reducible refine w_next ?_
  | with_reducible refine w_cb ?_
  | with_reducible refine w_nil ?_
  | with_reducible refine w_cons ?_
  | with_reducible refine w_call ?_
  | with_reducible refine w_lst ?_
  | with_reducible refine w_tup ?_
  | with_reducible refine w_bm ?_
  | ((with_reducible refine' w_tyL ?h1 ?_); (case h1 => assumption))
  | ((with_reducible refine' w_lenL ?h1 ?_); (case h1 => walk_at "sq"))
  | ((with_reducible refine' w_lenT ?h1 ?_); (case h1 => walk_at "sq"))
  | ((with_reducible refine w_sz ?h1 ?_); (case h1 => first | decide | (simp only [List.length_cons, List.length_nil]; decide)))
  | with_reducible refine w_min2 ?_
  | with_reducible refine w_max2 ?_
  | with_reducible refine w_tupRg ?_
  | with_reducible refine w_rg2 ?_
  | with_reducible refine w_rg2' ?_
  | with_reducible refine w_bits ?_
  | with_reducible refine w_bits' ?_
  | with_reducible refine w_for ?_
  | with_reducible refine w_rng1 ?_
  | ((with_reducible refine w_rng1' ?h1 ?h2 ?_); (case h1 => omega); (case h2 => omega))
  | with_reducible refine w_rng2 ?_
  | ((with_reducible refine w_rng2' ?h1 ?_); (case h1 => omega))
  | with_reducible refine w_itL ?_
  | ((with_reducible refine' w_itL' ?h1 ?_); (case h1 => walk_at "sq"))
  | with_reducible refine w_itT ?_
  | ((with_reducible refine' w_itT' ?h1 ?_); (case h1 => walk_at "sq"))
  | with_reducible refine w_lc ?_
  | ((with_reducible refine' w_isi ?ty ?hk ?_); (case ty => walk_at "ty"); (case hk => walk_at "kb"))
  | with_reducible refine iteT ?_
  | with_reducible refine iteF ?_
  | with_reducible refine w_nT ?_
  | with_reducible refine w_nF ?_
  | with_reducible refine w_eqS ?_
  | with_reducible refine w_eqB ?_
  | ((with_reducible refine' w_sum ?h1 ?_); (case h1 => walk_at "sq"))
  | ((with_reducible refine' w_gtup ?h1 ?h2 ?_); (case h1 => walk_at "sq"); (case h2 => exact rfl))
  | with_reducible refine w_gcons ?_
  | with_reducible refine w_gnil ?_
  | with_reducible refine w_din ?_
  | with_reducible refine w_dnotin ?_
  | with_reducible refine w_dget ?_
  | ((with_reducible refine' w_dinI ?h1 ?_); (case h1 => assumption))
  | ((with_reducible refine' w_dnotinI ?h1 ?_); (case h1 => assumption))
  | ((with_reducible refine' w_dgetI ?h1 ?h2 ?_); (case h1 => assumption); (case h2 => assumption))
  | with_reducible refine w_dnewK ?_
  | with_reducible refine w_dput ?_
  | with_reducible refine w_dget2 ?_
  | ((with_reducible refine' w_isD ?h1 ?_); (case h1 => assumption))
  | ((with_reducible refine' w_dget2I ?h1 ?_); (case h1 => assumption))
  | with_reducible refine w_dsetd ?_
  | ((with_reducible refine' w_leT2 ?h1 ?h2 ?_); (case h1 => walk_at "sq"); (case h2 => walk_at "sq"))
  | ((with_reducible refine' w_inT ?h1 ?_); (case h1 => walk_at "sq"))
  | ((with_reducible refine' w_ninT ?h1 ?_); (case h1 => walk_at "sq"))
  | ((with_reducible refine' w_inL ?h1 ?_); (case h1 => walk_at "sq"))
  | ((with_reducible refine' w_ninL ?h1 ?_); (case h1 => walk_at "sq"))
  | with_reducible refine w_pair ?_
  | with_reducible refine w_pnil ?_
  | with_reducible refine w_callS ?_
  | with_reducible refine w_try ?_
  | with_reducible refine w_isB ?_
  | with_reducible refine w_isN ?_
  | with_reducible refine w_notN ?_
  | with_reducible refine w_chain ?_
  | with_reducible refine w_tru ?_
  | ((with_reducible refine' w_trL ?h1 ?_); (case h1 => walk_at "sq"))
  | ((with_reducible refine' w_trT ?h1 ?_); (case h1 => walk_at "sq"))
  | with_reducible refine w_dc ?_
  | with_reducible refine w_dc2 ?_
  | with_reducible refine w_dget1 ?_
  | ((with_reducible refine' w_dget1I ?h1 ?_); (case h1 => assumption))
  | with_reducible refine w_rev ?_
  | ((with_reducible refine' w_rev' ?h1 ?_); (case h1 => walk_at "sq"))
  | with_reducible refine w_slice ?_
  | with_reducible refine w_noPart ?_
  | with_reducible refine w_part ?_
  | with_reducible refine w_part' ?_
  | with_reducible refine w_bm0 ?_
  | with_reducible refine w_retN ?_
  | with_reducible refine w_tyes ?_
  | with_reducible refine w_keys ?_
  | ((with_reducible refine' w_keys' ?h1 ?_); (case h1 => assumption))
  | ((with_reducible refine' w_dinF ?h1 ?_); (case h1 => assumption))
  | ((with_reducible refine' w_dgetF ?h1 ?h2 ?_); (case h1 => assumption); (case h2 => assumption))
  | ((with_reducible refine' w_any ?h1 ?_); (case h1 => walk_at "sq"))
  | dsimp only [Bool.not_true, Bool.not_false]
  )
local macro_rules | `(tactic| walk_at "p") => `(tactic| first | assumption | omega | (simp only [List.length_cons, List.length_nil, List.length_map]; omega) | exact rfl | decide)
local macro_rules | `(tactic| walk_at "d") => `(tactic| first
  | ((with_reducible refine w_yes ?hp ?_); (case hp => walk_at "p"))
  | ((with_reducible refine w_no ?hp ?_); (case hp => walk_at "p"))
  | ((with_reducible refine w_nyes ?hp ?_); (case hp => walk_at "p"))
  | ((with_reducible refine w_nno ?hp ?_); (case hp => walk_at "p")))
local macro_rules | `(tactic| walk_at "g") => `(tactic| repeat walk_at "s")
local macro_rules | `(tactic| walk_at "dg") => `(tactic| (walk_at "d"; repeat walk_at "s"))
local macro_rules | `(tactic| walk_at "x") => `(tactic| ((try dsimp only [cxOf, Cx.nox, Cx.wish]); repeat walk_at "s"))
def spDeck (K : PySem.W.Frag) : Sp := fun vs H Q _ => ∃ (a : Addr) (ns : List Int), vs = [.ref a] ∧ SqL K H a (ns.map V.int) ∧
  ∀ H' d c, Same H H' → H d = none → H c = none → Deck H' d c 0 → Q (.ref d) H'
def spMixed : Sp := fun vs H Q _ => ∃ (x t : Int), vs = [.int x, .int t] ∧ 0 ≤ t ∧ t ≤ 2 ^ 41 ∧ ∀ i, Q (.int i) H
def spDraw : Sp := fun vs H Q _ => ∃ (d c : Addr) (n : Nat) (m : Int), vs = [.ref d, .int m] ∧ Deck H d c n ∧ n < MOSTD ∧ 0 < m ∧ m < 2 ^ 64 ∧
  ∀ (i : Nat) H', (i : Int) < m → Deck H' d c (n + 1) → Off d H H' → Q (.int i) H'
theorem w_deck {K : PySem.W.Frag} {H : Hp} {Q : VK} {E : XK} {a : Addr} {ns : List Int} (h1 : SqL K H a (ns.map V.int)) (h : ∀ H' d c, Same H H' → H d = none → H c = none → Deck H' d c 0 → Q (.ref d) H') : spDeck K ([V.ref a] ++ []) H Q E := ⟨a, ns, rfl, h1, h⟩
theorem w_draw {H : Hp} {Q : VK} {E : XK} {d c : Addr} {n : Nat} {m : Int} (D : Deck H d c n) (hn : n < MOSTD) (h0 : 0 < m) (h1 : m < 2 ^ 64) (h : ∀ (i : Nat) H', (i : Int) < m → Deck H' d c (n + 1) → Off d H H' → Q (.int i) H') : spDraw ([V.ref d, V.int m] ++ []) H Q E := ⟨d, c, n, m, rfl, D, hn, h0, h1, h⟩
theorem dk0 {c : Addr} {a b t : V} : atI [V.ref c, a, b, t] 0 = some (.ref c) := rfl
theorem dk1 {c a b t : V} : atI [c, a, b, t] 1 = some a := rfl
theorem dk2 {c a b t : V} : atI [c, a, b, t] 2 = some b := rfl
theorem dk3 {c a b t : V} : atI [c, a, b, t] 3 = some t := rfl
section
variable {P : Program} {w : World} {K : PySem.W.Frag} {mg : Str → Option Value} {base : Heap}
theorem ok_deck {f : Addr} {fd : FuncData} (T : Txt K mg) (F : Fun K "_law_deck" "_law_deck" s_law_deck f fd) : FnOk P w K mg base CX0 1 f fd ["_law_script"] (spDeck K) := by
  refine F.ok sc_law_deck (fun vs H Q E h => ?_) (fun cdv A outer s H vs Q E hr h => ?_)
  · obtain ⟨a, ns, rfl, _⟩ := h
    rfl
  · obtain ⟨a, ns, rfl, hS, q⟩ := h
    refine ⟨_,
      (pss_one
        (ps_ret (pe_lst (pa_cons (pe_callTy (r := rListOf K) c_listOf (by rfl) T.n_list (by decide +kernel) (pa_cons (pv 0) pa_nil)) (pa_cons pe_int (pa_cons pe_int (pa_cons pe_int pa_nil)))))))
      , ?_⟩
    walk_at "x"
    refine w_listL hS fun c H1 hc e1 k1 => ?_
    walk_at "g"
    refine w_new fun d H2 hd e2 k2 => ?_
    refine q _ d c (Same.trans k1 k2) (k1.free hd) hc ⟨⟨ns, 0, 0, 0, e2, k2 _ _ e1, Nat.le_refl _⟩, ne_of_none e1 hd⟩
theorem ok_mixed {f : Addr} {fd : FuncData} (T : Txt K mg) (F : Fun K "_law_mixed" "_law_mixed" s_law_mixed f fd) : FnOk P w K mg base CX0 1 f fd ["_law_cell", "_law_turn"] spMixed := by
  refine F.ok sc_law_mixed (fun vs H Q E h => ?_) (fun cdv A outer s H vs Q E hr h => ?_)
  · obtain ⟨x, t, rfl, _⟩ := h
    rfl
  · obtain ⟨x, t, rfl, h0, h1, q⟩ := h
    refine ⟨_,
      (pss_one
        (ps_ret (pe_op op_mod (pe_op op_pow (pe_op op_add (pe_op op_add (pe_op op_mod (pv 0) pe_int) (pe_op op_mul (pv 1) pe_int)) pe_int) pe_int) pe_int)))
      , ?_⟩
    have e := Int.emod_lt_of_pos x (show (0 : Int) < 2147483629 by decide)
    have e2 := Int.emod_nonneg x (show (2147483629 : Int) ≠ 0 by decide)
    walk_at "x"
    exact q _
theorem ok_draw {f fM : Addr} {fd fdM : FuncData} (T : Txt K mg) (F : Fun K "_law_draw" "_law_draw" s_law_draw f fd) (D_law_mixed : Df K mg "_law_mixed" s_law_mixed ["_law_cell", "_law_turn"] fM fdM) : FnOk P w K mg base CX0 2 f fd ["_law_deck_here", "_law_many"] spDraw := by
  have G_law_mixed : FnOk P w K mg base CX0 1 fM fdM ["_law_cell", "_law_turn"] spMixed := ok_mixed T D_law_mixed.fn
  refine F.ok sc_law_draw (fun vs H Q E h => ?_) (fun cdv A outer s H vs Q E hr h => ?_)
  · obtain ⟨d, c, n, m, rfl, _⟩ := h
    rfl
  · obtain ⟨d, c, n, m, rfl, ⟨⟨cs, a, b, t, e1, e2, e3⟩, ne⟩, hn, hm, hm2, q⟩ := h
    have hn' : t < 1099511627776 := Nat.lt_of_le_of_lt e3 hn
    refine ⟨_,
      (pss_cons
        (ps_set (i := 2) sc_law_draw.nd rfl (.inl rfl) (pe_ix (r := rIxL K) ix_list (pv 0) pe_int (fun _ _ => rfl)))
      (pss_cons
        (ps_asg (pe_op op_add (pe_ix (r := rIxL K) ix_list (pv 0) pe_int (fun _ _ => rfl)) pe_int) (pg_sub (pv 0) pe_int set_list))
      (pss_cons
        (ps_if (PW.pt (pw_and (pt_cmpR op_eq (pe_ix (r := rIxL K) ix_list (pv 0) pe_int (fun _ _ => rfl)) pe_int (nomark _)) (pw_and1 (pt_cmpR op_lt (pe_ix (r := rIxL K) ix_list (pv 0) pe_int (fun _ _ => rfl)) (pe_callB (r := rLen K) c_len (by rfl) T.n_len (by decide +kernel) (pa_cons (pv 2) pa_nil)) (nomark _)))))
          (pss_cons
            (ps_asg (pe_op op_add (pe_ix (r := rIxL K) ix_list (pv 0) pe_int (fun _ _ => rfl)) pe_int) (pg_sub (pv 0) pe_int set_list))
          (pss_cons
            (ps_if (pt_cmpR op_lt (pe_ix (r := rIxL K) ix_list (pv 2) (pe_op op_sub (pe_ix (r := rIxL K) ix_list (pv 0) pe_int (fun _ _ => rfl)) pe_int) (fun _ _ => rfl)) (pe_op op_pow pe_int pe_int) (nomark _))
              (pss_one
                (ps_ret (pe_op op_mod (pe_call G_law_mixed (hr.mono (by omega)) (by rfl) D_law_mixed.g D_law_mixed.fn.kp D_law_mixed.b .nil pass0 (pa_cons (pe_ix (r := rIxL K) ix_list (pv 2) (pe_op op_sub (pe_ix (r := rIxL K) ix_list (pv 0) pe_int (fun _ _ => rfl)) pe_int) (fun _ _ => rfl)) (pa_cons (pe_ix (r := rIxL K) ix_list (pv 0) pe_int (fun _ _ => rfl)) pa_nil))) (pv 1))))
              pss_nil)
          (pss_one
            (ps_asg (pe_ix (r := rIxL K) ix_list (pv 2) (pe_op op_sub (pe_ix (r := rIxL K) ix_list (pv 0) pe_int (fun _ _ => rfl)) pe_int) (fun _ _ => rfl)) (pg_sub (pv 0) pe_int set_list)))))
          pss_nil)
      (pss_cons
        (ps_if (pt_cmpR op_gt (pe_ix (r := rIxL K) ix_list (pv 0) pe_int (fun _ _ => rfl)) pe_int (nomark _))
          (pss_cons
            (ps_set (i := 3) sc_law_draw.nd rfl (.inl rfl) (pe_op op_mod (pe_ix (r := rIxL K) ix_list (pv 0) pe_int (fun _ _ => rfl)) (pv 1)))
          (pss_cons
            (ps_asg (pe_op op_fdivW (pe_ix (r := rIxL K) ix_list (pv 0) pe_int (fun _ _ => rfl)) (pv 1)) (pg_sub (pv 0) pe_int set_list))
          (pss_one
            (ps_ret (pv 3)))))
          pss_nil)
      (pss_cons
        (ps_set (i := 4) sc_law_draw.nd rfl (.inl rfl) (pe_op op_mul (pe_ix (r := rIxL K) ix_list (pv 0) pe_int (fun _ _ => rfl)) pe_int))
      (pss_cons
        (ps_if (pt_cmpR op_gt (pe_callB (r := rLen K) c_len (by rfl) T.n_len (by decide +kernel) (pa_cons (pv 2) pa_nil)) pe_int (nomark _))
          (pss_one
            (ps_set (i := 4) sc_law_draw.nd rfl (.inl rfl) (pe_op op_add (pv 4) (pe_op op_mod (pe_ix (r := rIxL K) ix_list (pv 2) (pe_op op_mod (pe_op op_mul (pe_ix (r := rIxL K) ix_list (pv 0) pe_int (fun _ _ => rfl)) pe_int) (pe_callB (r := rLen K) c_len (by rfl) T.n_len (by decide +kernel) (pa_cons (pv 2) pa_nil))) (fun _ _ => rfl)) pe_int))))
          pss_nil)
      (pss_one
        (ps_ret (pe_op op_mod (pe_call G_law_mixed (hr.mono (by omega)) (by rfl) D_law_mixed.g D_law_mixed.fn.kp D_law_mixed.b .nil pass0 (pa_cons (pv 4) (pa_cons (pe_ix (r := rIxL K) ix_list (pv 0) pe_int (fun _ _ => rfl)) pa_nil))) (pv 1))))))))))
      , ?_⟩
    rw [show L2.start N_law_draw [V.ref d, V.int m] = [some (.ref d), some (.int m), none, none, none] from rfl]
    -- cells = deck[0]; deck[3] = deck[3] + 1
    walk_at "x"
    refine w_setL e1 rfl rfl fun H1 g0 o0 => ?_
    have fin : ∀ (H' : Hp) (a' : Nat) (b' i : Int), 0 ≤ i → i < m → H' d = some (.lst [.ref c, .int a', .int b', .int (t + 1)]) → Off d H H' → Q (.int i) H' := fun H' a' b' i i0 i1 g1 g2 => by
      have z := q i.toNat H' (by omega) ⟨⟨cs, a', b', t + 1, g1, (g2 c ne).trans e2, by omega⟩, ne⟩ g2
      rw [Int.toNat_of_nonneg i0] at z
      exact z
    have md : ∀ x : Int, 0 ≤ x % m ∧ x % m < m := fun x => ⟨Int.emod_nonneg x (by omega), Int.emod_lt_of_pos x hm⟩
    have g0 : H1 d = some (.lst [.ref c, .int a, .int b, .int ((t : Int) + 1)]) := g0
    have c1 : H1 c = some (.lst (cs.map V.int)) := (o0 c ne).trans e2
    -- if deck[2] == 0 and deck[1] < len(cells): ..
    refine w_seqJ (fun σ' H2 => σ' = [some (.ref d), some (.int m), some (.ref c), none, none] ∧ ∃ (a' : Nat) (b' : Int), H2 d = some (.lst [.ref c, .int a', .int b', .int ((t : Int) + 1)]) ∧ Off d H H2) ?_ ?_
    · rintro σ' H2 ⟨rfl, a', b', g2, o2⟩
      have c2 : H2 c = some (.lst (cs.map V.int)) := (o2 c ne).trans e2
      refine w_seqJ (fun σ' H3 => σ' = [some (.ref d), some (.int m), some (.ref c), none, none] ∧ H3 = H2) ?_ ?_
      · rintro σ' H3 ⟨rfl, rfl⟩
        -- number = deck[3] * 48271; if len(cells) > 0: ..
        walk_at "g"
        refine w_seqJ (fun σ' H4 => (∃ z : Int, σ' = [some (.ref d), some (.int m), some (.ref c), none, some (.int z)]) ∧ H4 = H3) ?_ ?_
        · rintro σ' H4 ⟨⟨z, rfl⟩, rfl⟩
          walk_at "g"
          refine ⟨_, _, rfl, by omega, by omega, fun y => ?_⟩
          walk_at "g"
          exact fin _ a' b' _ (md y).1 (md y).2 g2 o2
        · intro U hU
          walk_at "g"
          refine w_ite (fun hl => ?_) (fun hl => ?_)
          · obtain ⟨v, hv1, hv2⟩ := at_lt (xs := cs.map V.int) (i := ((t : Int) + 1) * 7 % ((cs.map V.int).length : Int)) (Int.emod_nonneg _ (by omega)) (Int.emod_lt_of_pos _ hl)
            rw [List.getElem?_map] at hv1
            obtain ⟨y, _, rfl⟩ := Option.map_eq_some_iff.mp hv1
            walk_at "g"
            exact hU _ _ ⟨⟨_, rfl⟩, rfl⟩
          · exact hU _ _ ⟨⟨_, rfl⟩, rfl⟩
      · intro U hU
        walk_at "g"
        refine w_ite (fun hl => ?_) (fun hl => ?_)
        · walk_at "g"
          refine w_setL g2 rfl rfl fun H9 g9 o9 => ?_
          walk_at "g"
          exact fin _ a' (b' / m) _ (md b').1 (md b').2 g9 (o2.trans o9)
        · exact hU _ _ ⟨rfl, rfl⟩
    · intro U hU
      have no : U [some (.ref d), some (.int m), some (.ref c), none, none] H1 := hU _ _ ⟨rfl, a, b, g0, o0⟩
      walk_at "g"
      refine w_ite (fun hl => ?_) (fun _ => no)
      walk_at "g"
      refine w_ite (fun hl2 => ?_) (fun _ => no)
      obtain ⟨v, hv1, hv2⟩ := at_lt (xs := cs.map V.int) (i := ((a + 1 : Nat) : Int) - 1) (by omega) (by omega)
      rw [List.getElem?_map] at hv1
      obtain ⟨y, _, rfl⟩ := Option.map_eq_some_iff.mp hv1
      walk_at "g"
      refine w_setL g0 rfl rfl fun H2 g2 o2 => ?_
      have g2 : H2 d = some (.lst [.ref c, .int ((a + 1 : Nat) : Int), .int b, .int ((t : Int) + 1)]) := g2
      have o2 : Off d H H2 := o0.trans o2
      have c2 : H2 c = some (.lst (cs.map V.int)) := (o2 c ne).trans e2
      refine w_seq ?_
      walk_at "g"
      refine w_ite (fun hl => ?_) (fun hl => ?_)
      · walk_at "g"
        refine ⟨_, _, rfl, by omega, by omega, fun y => ?_⟩
        walk_at "g"
        exact fin _ (a + 1) b _ (md y).1 (md y).2 g2 o2
      · walk_at "g"
        refine w_setL g2 rfl rfl fun H9 g9 o9 => ?_
        exact hU _ _ ⟨rfl, a + 1, y, g9, o2.trans o9⟩
end
/-! ### shapes on the heap -/
def VL (H : Hp) (a : Addr) (vs : List Int) : Prop := H a = some (.tup (vs.map V.int))
def PL (H : Hp) (b : Addr) (ps : List (Addr × Int × Int)) : Prop := H b = some (.tup (ps.map fun q => .ref q.1)) ∧ ∀ q ∈ ps, H q.1 = some (.tup [.int q.2.1, .int q.2.2])
def ShAt (H : Hp) (t : Addr) (vs : List Int) (ps : List (Addr × Int × Int)) : Prop := ∃ a b, H t = some (.tup [.ref a, .ref b]) ∧ VL H a vs ∧ PL H b ps
theorem VL.kt {H H' : Hp} {a : Addr} {vs : List Int} (h : VL H a vs) (k : KT H H') : VL H' a vs := k _ _ h
theorem PL.kt {H H' : Hp} {a : Addr} {ps : List (Addr × Int × Int)} (h : PL H a ps) (k : KT H H') : PL H' a ps := ⟨k _ _ h.1, fun q hq => k _ _ (h.2 q hq)⟩
theorem ShAt.kt {H H' : Hp} {t : Addr} {vs : List Int} {ps : List (Addr × Int × Int)} (h : ShAt H t vs ps) (k : KT H H') : ShAt H' t vs ps := by
  obtain ⟨a, b, e, v, p⟩ := h
  exact ⟨a, b, k _ _ e, v.kt k, p.kt k⟩
def LexL (x y : Int × Int) : Prop := x.1 < y.1 ∨ x.1 = y.1 ∧ x.2 < y.2
structure ShOk (vs : List Int) (ls : List (Int × Int)) : Prop where
  vr : vs.Pairwise (· < ·)
  v0 : ∀ v ∈ vs, 0 ≤ v
  lr : ls.Pairwise LexL
  lm : ∀ q ∈ ls, q.1 ∈ vs ∧ q.2 ∈ vs ∧ q.2 < q.1
theorem drop_of {α : Type} {xs : List α} {i : Nat} {x : α} (h : xs[i]? = some x) : xs.drop i = x :: xs.drop (i + 1) := by
  obtain ⟨h1, h2⟩ := List.getElem?_eq_some_iff.mp h
  rw [List.drop_eq_getElem_cons h1, h2]
theorem map_at {α : Type} {f : α → V} {xs : List α} {i : Nat} {v : V} (h : (xs.map f)[i]? = some v) : ∃ x, xs[i]? = some x ∧ v = f x := by
  rw [List.getElem?_map] at h
  obtain ⟨y, h1, h2⟩ := Option.map_eq_some_iff.mp h
  exact ⟨y, h1, h2.symm⟩
/-! ### shapes as they are drawn: the lists while they grow -/
structure LInv (vs : List Int) (z : Int) (j : Nat) (ls : List (Int × Int)) : Prop where
  pw : ls.Pairwise LexL
  mem : ∀ q ∈ ls, (q.1 ∈ vs ∧ q.2 ∈ vs ∧ q.2 < q.1) ∨ (q.1 = z ∧ q.2 ∈ vs.take j)
theorem LInv.skip {vs : List Int} {z : Int} {j : Nat} {ls : List (Int × Int)} (h : LInv vs z j ls) : LInv vs z (j + 1) ls := by
  refine ⟨h.pw, fun q hq => ?_⟩
  rcases h.mem q hq with a | ⟨a, b⟩
  · exact .inl a
  · exact .inr ⟨a, List.mem_of_mem_take (by rw [List.take_take, Nat.min_eq_left (Nat.le_succ j)]; exact b)⟩
theorem take_lt {vs : List Int} (h : vs.Pairwise (· < ·)) {j : Nat} {t x : Int} (ht : vs[j]? = some t) (hx : x ∈ vs.take j) : x < t := by
  have e : vs = vs.take j ++ vs.drop j := (List.take_append_drop j vs).symm
  rw [e, List.pairwise_append] at h
  refine h.2.2 x hx t ?_
  rw [drop_of ht]
  simp
theorem LInv.snoc {vs : List Int} {z t : Int} {j : Nat} {ls : List (Int × Int)} (h : LInv vs z j ls) (hv : vs.Pairwise (· < ·)) (hz : ∀ v ∈ vs, v < z) (ht : vs[j]? = some t) : LInv vs z (j + 1) (ls ++ [(z, t)]) := by
  constructor
  · rw [List.pairwise_append]
    refine ⟨h.pw, List.pairwise_singleton _ _, fun q hq y hy => ?_⟩
    have e : y = (z, t) := by simpa using hy
    subst e
    rcases h.mem q hq with a | ⟨a, b⟩
    · exact .inl (hz _ a.1)
    · exact .inr ⟨a, take_lt hv ht b⟩
  · intro q hq
    rcases List.mem_append.mp hq with a | a
    · exact h.skip.mem q a
    · have e : q = (z, t) := by simpa using a
      subst e
      refine .inr ⟨rfl, ?_⟩
      rw [List.take_add_one, ht]
      simp
theorem LInv.start {vs : List Int} {ls : List (Int × Int)} (h : ShOk vs ls) (z : Int) : LInv vs z 0 ls := ⟨h.lr, fun q hq => .inl (h.lm q hq)⟩
theorem LInv.done {vs : List Int} {z : Int} {j : Nat} {ls : List (Int × Int)} (h : LInv vs z j ls) (hv : vs.Pairwise (· < ·)) (h0 : ∀ v ∈ vs, 0 ≤ v) (hz : ∀ v ∈ vs, v < z) (z0 : 0 ≤ z) : ShOk (vs ++ [z]) ls := by
  refine ⟨?_, fun v hv' => ?_, h.pw, fun q hq => ?_⟩
  · rw [List.pairwise_append]
    exact ⟨hv, List.pairwise_singleton _ _, fun x hx y hy => by
      have e : y = z := by simpa using hy
      subst e
      exact hz x hx⟩
  · rcases List.mem_append.mp hv' with a | a
    · exact h0 v a
    · have e : v = z := by simpa using a
      subst e
      exact z0
  · rcases h.mem q hq with ⟨a, b, c⟩ | ⟨a, b⟩
    · exact ⟨List.mem_append_left _ a, List.mem_append_left _ b, c⟩
    · have m := List.mem_of_mem_take b
      exact ⟨by rw [a]; simp, List.mem_append_left _ m, by rw [a]; exact hz _ m⟩
theorem pick4 {j : Nat} (h : (j : Int) < 4) : ∃ m : Int, atI [V.int 3, V.int 2, V.int 6, V.int 9] (j : Int) = some (.int m) ∧ 0 < m ∧ m < 2 ^ 64 := by
  match j, h with
  | 0, _ => exact ⟨3, rfl, by decide, by decide⟩
  | 1, _ => exact ⟨2, rfl, by decide, by decide⟩
  | 2, _ => exact ⟨6, rfl, by decide, by decide⟩
  | 3, _ => exact ⟨9, rfl, by decide, by decide⟩
  | j + 4, h => omega
theorem mostd {n m : Nat} (h : n + 10000 ≤ MOSTD) (e : m < 10000) : n + m < MOSTD := by omega
theorem at_map {vs : List Int} {j : Nat} {t : Int} (h : vs[j]? = some t) : atI (vs.map V.int) (j : Int) = some (.int t) := atI_nat (by rw [List.getElem?_map, h]; rfl)
def spShape : Sp := fun vs H Q _ => ∃ (d c : Addr) (n m : Nat), vs = [.ref d, .int m] ∧ Deck H d c n ∧ n + 10000 ≤ MOSTD ∧ m ≤ 60 ∧
  ∀ H' t ns ps, Deck H' d c (n + 10000) → Kp [d] H H' → ShAt H' t ns ps → ShOk ns (ps.map (·.2)) → ns.length ≤ m → ps.length ≤ 100 * m → Q (.ref t) H'
section
variable {P : Program} {w : World} {K : PySem.W.Frag} {mg : Str → Option Value} {base : Heap}
theorem ok_shape {f fM fD : Addr} {fd fdM fdD : FuncData} (T : Txt K mg) (F : Fun K "_law_shape" "_law_shape" s_law_shape f fd) (D_law_mixed : Df K mg "_law_mixed" s_law_mixed ["_law_cell", "_law_turn"] fM fdM)
    (D_law_draw : Df K mg "_law_draw" s_law_draw ["_law_deck_here", "_law_many"] fD fdD) : FnOk P w K mg base CX0 3 f fd ["_law_deck_here", "_law_most"] spShape := by
  have G_law_draw : FnOk P w K mg base CX0 2 fD fdD ["_law_deck_here", "_law_many"] spDraw := ok_draw T D_law_draw.fn D_law_mixed
  refine F.ok sc_law_shape (fun vs H Q E h => ?_) (fun cdv A outer s H vs Q E hr h => ?_)
  · obtain ⟨d, c, n, m, rfl, _⟩ := h
    rfl
  · obtain ⟨d, c, n, m, rfl, D0, hn, hm, q⟩ := h
    refine ⟨_,
      (pss_cons
        (ps_set (i := 2) sc_law_shape.nd rfl (.inl rfl) (pe_lst pa_nil))
      (pss_cons
        (ps_set (i := 3) sc_law_shape.nd rfl (.inl rfl) (pe_un un_neg pe_int))
      (pss_cons
        (ps_set (i := 4) sc_law_shape.nd rfl (.inl rfl) (pe_call G_law_draw (hr.mono (by omega)) (by rfl) D_law_draw.g D_law_draw.fn.kp D_law_draw.b .nil pass0 (pa_cons (pv 0) (pa_cons pe_int pa_nil))))
      (pss_cons
        (ps_set (i := 5) sc_law_shape.nd rfl (.inl rfl) (pe_call G_law_draw (hr.mono (by omega)) (by rfl) D_law_draw.g D_law_draw.fn.kp D_law_draw.b .nil pass0 (pa_cons (pv 0) (pa_cons pe_int pa_nil))))
      (pss_cons
        (ps_set (i := 6) sc_law_shape.nd rfl (.inl rfl) (pe_lst pa_nil))
      (pss_cons
        (ps_for PassesOwn.never rfl (pi_range1 (by rfl) T.n_range (pa_cons (pe_call G_law_draw (hr.mono (by omega)) (by rfl) D_law_draw.g D_law_draw.fn.kp D_law_draw.b .nil pass0 (pa_cons (pv 0) (pa_cons (pe_op op_add (pv 1) pe_int) pa_nil))) pa_nil)) (pg_name (i := 7) sc_law_shape.nd rfl (.inl rfl))
          (pss_cons
            (ps_set (i := 3) sc_law_shape.nd rfl (.inl rfl) (pe_op op_add (pe_op op_add (pv 3) pe_int) (pe_call G_law_draw (hr.mono (by omega)) (by rfl) D_law_draw.g D_law_draw.fn.kp D_law_draw.b .nil pass0 (pa_cons (pv 0) (pa_cons pe_int pa_nil)))))
          (pss_cons
            (ps_if (PW.pt (pw_and (pt_cmpR op_eq (pv 4) pe_int (nomark _)) (pw_and1 (pt_cmpR op_eq (pe_call G_law_draw (hr.mono (by omega)) (by rfl) D_law_draw.g D_law_draw.fn.kp D_law_draw.b .nil pass0 (pa_cons (pv 0) (pa_cons pe_int pa_nil))) pe_int (nomark _)))))
              (pss_one
                (ps_set (i := 3) sc_law_shape.nd rfl (.inl rfl) (pe_op op_add (pv 3) (pe_call G_law_draw (hr.mono (by omega)) (by rfl) D_law_draw.g D_law_draw.fn.kp D_law_draw.b .nil pass0 (pa_cons (pv 0) (pa_cons (pe_op op_pow pe_int pe_int) pa_nil))))))
              pss_nil)
          (pss_cons
            (ps_for PassesOwn.never rfl (pi_range1 (by rfl) T.n_range (pa_cons (pv 7) pa_nil)) (pg_name (i := 8) sc_law_shape.nd rfl (.inl rfl))
              (pss_cons
                (ps_set (i := 9) sc_law_shape.nd rfl (.inl rfl) (pe_cmpR op_eq (pe_call G_law_draw (hr.mono (by omega)) (by rfl) D_law_draw.g D_law_draw.fn.kp D_law_draw.b .nil pass0 (pa_cons (pv 0) (pa_cons (pe_ix (r := rIxL K) ix_list (pe_lst (pa_cons pe_int (pa_cons pe_int (pa_cons pe_int (pa_cons pe_int pa_nil))))) (pv 5) (fun _ _ => rfl)) pa_nil))) pe_int (nomark _)))
              (pss_cons
                (ps_if (PW.pt (pw_and (pt_cmpR op_eq (pv 5) pe_int (nomark _)) (pw_and1 (pt_cmpR op_gt (pe_op op_sub (pv 7) (pv 8)) pe_int (nomark _)))))
                  (pss_one
                    (ps_set (i := 9) sc_law_shape.nd rfl (.inl rfl) pe_bl))
                  pss_nil)
              (pss_cons
                (ps_if (PW.pt (pw_and (pt_cmpR op_eq (pv 5) pe_int (nomark _)) (pw_and1 (pt_cmpR op_eq (pv 8) (pe_op op_sub (pv 7) pe_int) (nomark _)))))
                  (pss_one
                    (ps_set (i := 9) sc_law_shape.nd rfl (.inl rfl) pe_bl))
                  pss_nil)
              (pss_one
                (ps_if (pt_val (pv 9))
                  (pss_one
                    (ps_expr (pe_bm PySem.F.plainAttrs_list PySem.F.slot_list_append PySem.F.type_list_append mt_append (pv 6) (pa_cons (pe_tup (pa_cons (pv 3) (pa_cons (pe_ix (r := rIxL K) ix_list (pv 2) (pv 8) (fun _ _ => rfl)) pa_nil))) pa_nil))))
                  pss_nil))))))
          (pss_one
            (ps_expr (pe_bm PySem.F.plainAttrs_list PySem.F.slot_list_append PySem.F.type_list_append mt_append (pv 2) (pa_cons (pv 3) pa_nil))))))))
      (pss_one
        (ps_ret (pe_tup (pa_cons (pe_callTy (r := rTupOf K) c_tupOf (by rfl) T.n_tuple (by decide +kernel) (pa_cons (pv 2) pa_nil)) (pa_cons (pe_callTy (r := rTupOf K) c_tupOf (by rfl) T.n_tuple (by decide +kernel) (pa_cons (pv 6) pa_nil)) pa_nil)))))))))))
      , ?_⟩
    rw [show L2.start N_law_shape [V.ref d, V.int m] = [some (.ref d), some (.int m), none, none, none, none, none, none, none, none] from rfl]
    walk_at "x"
    refine w_new fun l1 H1 hl1 e1 k1 => ?_
    have D1 := D0.kp (M := []) (Kp.of k1) (by simp) (by simp)
    obtain ⟨n1d, n1c⟩ := D0.ne1 hl1
    walk_at "g"
    refine w_draw D1 (mostd (m := 0) hn (by omega)) (by decide) (by decide) fun far H2 hfar D2 o2 => ?_
    walk_at "g"
    refine w_draw D2 (mostd (m := 1) hn (by omega)) (by decide) (by decide) fun road H3 hroad D3 o3 => ?_
    walk_at "g"
    have e3 := o3.get n1d (o2.get n1d e1)
    refine w_new fun l2 H4 hl2 e4 k4 => ?_
    have D4 := D3.kp (M := []) (Kp.of k4) (by simp) (by simp)
    obtain ⟨n2d, n2c⟩ := D3.ne1 hl2
    have n21 : l1 ≠ l2 := ne_of_none e3 hl2
    have e1' := k4 _ _ e3
    have kk : Kp [d] H H4 := (Kp.of k1).trans ((o2.kp (by simp)).trans ((o3.kp (by simp)).trans (Kp.of k4)))
    have hl2H : H l2 = none := nofree (((Kp.of k1).trans ((o2.kp (by simp)).trans (o3.kp (by simp)))) : Kp [d] H H3) (by simpa using n2d) hl2
    walk_at "g"
    refine w_draw D4 (mostd (m := 2) hn (by omega)) (by omega) (by omega) fun many H5 hmany D5 o5 => ?_
    walk_at "g"
    refine lp_range (fun k σ H' => ∃ (ns : List Int) (ps : List (Addr × Int × Int)) (last : Int) (y7 y8 y9 : Option V), σ = [some (.ref d), some (.int m), some (.ref l1), some (.int last), some (.int far), some (.int road), some (.ref l2), y7, y8, y9] ∧
      Deck H' d c (n + 3 + 100 * k) ∧ H' l1 = some (.lst (ns.map V.int)) ∧ H' l2 = some (.lst (ps.map fun q => .ref q.1)) ∧ (∀ q ∈ ps, H' q.1 = some (.tup [.int q.2.1, .int q.2.2])) ∧
      ns.length = k ∧ ShOk ns (ps.map (·.2)) ∧ (∀ v ∈ ns, v ≤ last) ∧ -1 ≤ last ∧ ps.length ≤ 100 * k ∧ Kp [d] H H') ?_ ?_ ?_
    · exact ⟨[], [], -1, none, none, none, rfl, D5, o5.get n1d e1', o5.get n2d e4, by simp, rfl, ⟨List.Pairwise.nil, by simp, List.Pairwise.nil, by simp⟩, by simp, by omega, Nat.zero_le _, kk.trans (o5.kp (by simp))⟩
    · rintro k σ H6 hk ⟨ns, ps, last, y7, y8, y9, rfl, D6, el1, el2, hps, hlen, S, hlast, hl1', hpl, k6⟩
      have hk60 : k < 60 := by omega
      walk_at "g"
      refine w_draw D6 (by have : 3 + 100 * k < 10000 := by omega
                           omega) (by decide) (by decide) fun r1 H7 hr1 D7 o7 => ?_
      walk_at "g"
      -- last is raised
      refine w_seqJ (fun σ' H' => ∃ (z : Int), σ' = [some (.ref d), some (.int m), some (.ref l1), some (.int z), some (.int far), some (.int road), some (.ref l2), some (.int (0 + k)), y8, y9] ∧ last < z ∧ Deck H' d c (n + 3 + 100 * k + 3) ∧ Off d H6 H') ?_ ?_
      · rintro σ' H8 ⟨z, rfl, hz, D8, o8⟩
        have hzv : ∀ v ∈ ns, v < z := fun v hv => by have := hlast v hv; omega
        have hps8 : ∀ q ∈ ps, H8 q.1 = some (.tup [.int q.2.1, .int q.2.2]) := fun q hq => by
          obtain ⟨⟨xs, e⟩, _⟩ := D6.at
          exact o8.tup e (hps q hq)
        walk_at "g"
        refine lp_range (fun j σ H' => ∃ (ps' : List (Addr × Int × Int)) (y8 y9 : Option V), σ = [some (.ref d), some (.int m), some (.ref l1), some (.int z), some (.int far), some (.int road), some (.ref l2), some (.int (0 + k)), y8, y9] ∧
          Deck H' d c (n + 3 + 100 * k + 3 + j) ∧ H' l1 = some (.lst (ns.map V.int)) ∧ H' l2 = some (.lst (ps'.map fun q => .ref q.1)) ∧ (∀ q ∈ ps', H' q.1 = some (.tup [.int q.2.1, .int q.2.2])) ∧
          LInv ns z j (ps'.map (·.2)) ∧ ps'.length ≤ 100 * k + j ∧ Kp [d] H H') ?_ ?_ ?_
        · exact ⟨ps, _, _, rfl, D8, o8.get n1d el1, o8.get n2d el2, hps8, LInv.start S z, hpl, k6.trans (o8.kp (by simp))⟩
        · rintro j σ H9 hj ⟨ps', w8, w9, rfl, D9, g1, g2, gp, L, hpl', k9⟩
          have hjk : j < k := by omega
          have hjn : j < ns.length := by omega
          obtain ⟨t, ht⟩ : ∃ t, ns[j]? = some t := ⟨ns[j], List.getElem?_eq_getElem hjn⟩
          walk_at "g"
          refine w_new fun pp H10 hpp e10 k10 => ?_
          have D10 := D9.kp (M := []) (Kp.of k10) (by simp) (by simp)
          obtain ⟨npd, npc⟩ := D9.ne1 hpp
          obtain ⟨mm, emm, hmm0, hmm1⟩ := pick4 hroad
          walk_at "g"
          refine w_draw D10 (by have : 3 + 100 * k + 3 + j < 10000 := by omega
                                omega) hmm0 hmm1 fun r2 H11 hr2 D11 o11 => ?_
          walk_at "g"
          have g1' := o11.get n1d (k10 _ _ g1)
          have g2' := o11.get n2d (k10 _ _ g2)
          have gp' : ∀ q ∈ ps', H11 q.1 = some (.tup [.int q.2.1, .int q.2.2]) := fun q hq => by
            obtain ⟨⟨xs, e⟩, _⟩ := D10.at
            exact o11.tup e (k10 _ _ (gp q hq))
          have k11 : Kp [d] H H11 := k9.trans ((Kp.of k10).trans (o11.kp (by simp)))
          refine w_seqJ (fun σ' H' => (∃ b : Bool, σ' = [some (.ref d), some (.int m), some (.ref l1), some (.int z), some (.int far), some (.int road), some (.ref l2), some (.int (0 + k)), some (.int (0 + j)), some (.bl b)]) ∧ H' = H11) ?_ ?_
          · rintro σ' H' ⟨⟨b1, rfl⟩, rfl⟩
            refine w_seqJ (fun σ' H'' => (∃ b : Bool, σ' = [some (.ref d), some (.int m), some (.ref l1), some (.int z), some (.int far), some (.int road), some (.ref l2), some (.int (0 + k)), some (.int (0 + j)), some (.bl b)]) ∧ H'' = H') ?_ ?_
            · rintro σ' H'' ⟨⟨b2, rfl⟩, rfl⟩
              walk_at "g"
              refine w_itB (fun _ => ?_) (fun _ => ?_)
              · have hat := at_map ht
                rw [show (j : Int) = 0 + (j : Int) by omega] at hat
                walk_at "g"
                refine w_new fun pr H12 hpr e12 k12 => ?_
                have g2'' := k12 _ _ g2'
                walk_at "g"
                refine w_app g2'' (by rw [List.length_map]; exact Nat.lt_of_le_of_lt (show ps'.length ≤ 10000 by omega) (by decide)) fun H13 e13 o13 => ?_
                have D12 := D11.kp (M := []) (Kp.of k12) (by simp) (by simp)
                refine ⟨ps' ++ [(pr, z, t)], _, _, rfl, D12.kp (M := [l2]) (o13.kp (by simp)) (by simpa using Ne.symm n2d) (by simpa using Ne.symm n2c), o13.get n21 (k12 _ _ g1'), by rw [e13, List.map_append]; rfl, ?_, ?_, by rw [List.length_append]; simp; omega, Off.keep (k11.trans (Kp.of k12)) o13 hl2H⟩
                · intro q hq
                  rcases List.mem_append.mp hq with a | a
                  · exact o13.tup g2'' (k12 _ _ (gp' q a))
                  · have e : q = (pr, z, t) := by simpa using a
                    subst e
                    exact o13.tup g2'' e12
                · rw [List.map_append]
                  exact L.snoc S.vr hzv ht
              · walk_at "g"
                exact ⟨ps', _, _, rfl, D11, g1', g2', gp', L.skip, by omega, k11⟩
            · intro U hU
              walk_at "g"
              refine w_ite (fun _ => ?_) (fun _ => hU _ _ ⟨⟨_, rfl⟩, rfl⟩)
              walk_at "g"
              refine w_ite (fun _ => ?_) (fun _ => hU _ _ ⟨⟨_, rfl⟩, rfl⟩)
              walk_at "g"
              exact hU _ _ ⟨⟨_, rfl⟩, rfl⟩
          · intro U hU
            walk_at "g"
            refine w_ite (fun _ => ?_) (fun _ => hU _ _ ⟨⟨_, rfl⟩, rfl⟩)
            walk_at "g"
            refine w_ite (fun _ => ?_) (fun _ => hU _ _ ⟨⟨_, rfl⟩, rfl⟩)
            walk_at "g"
            exact hU _ _ ⟨⟨_, rfl⟩, rfl⟩
        · rintro σ H9 ⟨ps', w8, w9, rfl, D9, g1, g2, gp, L, hpl', k9⟩
          walk_at "g"
          refine w_app g1 (by rw [List.length_map]; exact small1000 (by omega)) fun H10 e10 o10 => ?_
          have hkk : (0 + (k : Int)).toNat = k := by omega
          rw [hkk] at L D9
          have kz : Kp [d] H H10 := Off.keep k9 o10 hl1
          refine ⟨ns ++ [z], ps', z, _, _, _, rfl, (D9.kp (M := [l1]) (o10.kp (by simp)) (by simpa using Ne.symm n1d) (by simpa using Ne.symm n1c)).mono (by omega), by rw [e10, List.map_append]; rfl, o10.get (Ne.symm n21) g2, fun q hq => o10.tup g1 (gp q hq), by rw [List.length_append]; simp; omega, L.done S.vr S.v0 hzv (by omega), ?_, by omega, by omega, kz⟩
          intro v hv
          rcases List.mem_append.mp hv with a | a
          · have := hzv v a
            omega
          · have e : v = z := by simpa using a
            omega
      · intro U hU
        walk_at "g"
        refine w_ite (fun _ => ?_) (fun _ => hU _ _ ⟨_, rfl, by omega, D7.mono (by omega), o7⟩)
        walk_at "g"
        refine w_draw D7 (by have : 3 + 100 * k + 1 < 10000 := by omega
                             omega) (by decide) (by decide) fun r2 H8 hr2 D8 o8 => ?_
        walk_at "g"
        refine w_ite (fun _ => ?_) (fun _ => hU _ _ ⟨_, rfl, by omega, D8.mono (by omega), o7.trans o8⟩)
        walk_at "g"
        refine w_draw D8 (by have : 3 + 100 * k + 2 < 10000 := by omega
                             omega) (by decide) (by decide) fun r3 H9 hr3 D9 o9 => ?_
        walk_at "g"
        exact hU _ _ ⟨_, rfl, by omega, D9, o7.trans (o8.trans o9)⟩
    · rintro σ H6 ⟨ns, ps, last, y7, y8, y9, rfl, D6, el1, el2, hps, hlen, S, hlast, hl1', hpl, k6⟩
      walk_at "g"
      refine w_tupL (.of el1) fun t1 H7 ht1 e7 k7 => ?_
      have el2' := k7 _ _ el2
      walk_at "g"
      refine w_tupL (.of el2') fun t2 H8 ht2 e8 k8 => ?_
      walk_at "g"
      refine w_new fun t3 H9 ht3 e9 k9 => ?_
      have ks := Same.trans k7 (Same.trans k8 k9)
      refine q H9 t3 ns ps ((D6.kp (M := []) (Kp.of ks) (by simp) (by simp)).mono (by omega)) (k6.trans (Kp.of ks)) ⟨t1, t2, e9, k9 _ _ (k8 _ _ e7), k9 _ _ e8, fun q hq => ks _ _ (hps q hq)⟩ S (by omega) (by omega)
end
def addK (ks : List Int) (x : Int) : List Int := if x ∈ ks then ks else ks ++ [x]
theorem mem_addK {ks : List Int} {x y : Int} : y ∈ addK ks x ↔ y ∈ ks ∨ y = x := by
  unfold addK
  by_cases h : x ∈ ks
  · rw [if_pos h]
    constructor
    · exact .inl
    · rintro (a | rfl)
      · exact a
      · exact h
  · rw [if_neg h]
    simp
theorem nd_addK {ks : List Int} {x : Int} (h : ks.Nodup) : (addK ks x).Nodup := by
  unfold addK
  by_cases e : x ∈ ks
  · rw [if_pos e]; exact h
  · rw [if_neg e]
    exact List.nodup_append.mpr ⟨h, by simp, fun a ha b hb => by
      have : b = x := by simpa using hb
      subst this
      exact fun z => e (z ▸ ha)⟩
theorem putK_keys {fk : List (Key × V)} {ks : List Int} {x : Int} {v : V} (h : fk.map (·.1) = ks.map (Sum.inl : Int → Key)) : (putK fk (Sum.inl x) v).map (·.1) = (addK ks x).map (Sum.inl : Int → Key) := by
  have he : (fk.any fun kv => decide (kv.1 = (Sum.inl x : Key))) = true ↔ x ∈ ks := by
    rw [List.any_eq_true]
    constructor
    · rintro ⟨kv, hk, e⟩
      have m : (Sum.inl x : Key) ∈ ks.map Sum.inl := by
        rw [← h, ← of_decide_eq_true e]
        exact List.mem_map_of_mem hk
      obtain ⟨y, hy, e2⟩ := List.mem_map.mp m
      exact Sum.inl.inj e2 ▸ hy
    · intro hx
      have m : (Sum.inl x : Key) ∈ fk.map (·.1) := by
        rw [h]
        exact List.mem_map_of_mem hx
      obtain ⟨kv, hk, e⟩ := List.mem_map.mp m
      exact ⟨kv, hk, decide_eq_true e⟩
  unfold putK addK
  by_cases e : x ∈ ks
  · rw [if_pos (he.mpr e), if_pos e, ← h, List.map_map]
    apply List.map_congr_left
    intro kv _
    show (if kv.1 = Sum.inl x then (kv.1, v) else kv).1 = kv.1
    by_cases q : kv.1 = (Sum.inl x : Key)
    · rw [if_pos q]
    · rw [if_neg q]
  · rw [if_neg (fun z => e (he.mp z)), if_neg e, List.map_append, List.map_append, h]
    rfl
theorem nodup_le : ∀ (ks vs : List Int), ks.Nodup → (∀ x ∈ ks, x ∈ vs) → ks.length ≤ vs.length
  | [], _, _, _ => Nat.zero_le _
  | k :: ks, vs, h, hs => by
    rw [List.nodup_cons] at h
    have hk := hs k (by simp)
    have ih := nodup_le ks (vs.erase k) h.2 fun x hx => (List.mem_erase_of_ne (fun z => h.1 (by rw [← z]; exact hx))).mpr (hs x (by simp [hx]))
    rw [List.length_erase_of_mem hk] at ih
    have : 0 < vs.length := List.length_pos_of_mem hk
    rw [List.length_cons]
    omega
structure FoundAt (H : Hp) (f : Addr) (ks : List Int) : Prop where
  at' : ∃ fk, H f = some (.dK fk) ∧ fk.map (·.1) = ks.map (Sum.inl : Int → Key)
  nd : ks.Nodup
theorem FoundAt.put {H1 : Hp} {f : Addr} {ks : List Int} {fk : List (Key × V)} {x : Int} {v : V} (hk : fk.map (·.1) = ks.map (Sum.inl : Int → Key)) (nd : ks.Nodup) (e : H1 f = some (.dK (putK fk (Sum.inl x) v))) : FoundAt H1 f (addK ks x) := ⟨⟨_, e, putK_keys hk⟩, nd_addK nd⟩
theorem val_keys {kvs : List (Key × V)} {ks : List Int} (h : kvs.map (·.1) = ks.map (Sum.inl : Int → Key)) (x : Int) : (valV kvs (Sum.inl x)).isSome = decide (x ∈ ks) := by
  rw [Bool.eq_iff_iff, decide_eq_true_iff]
  constructor
  · intro z
    obtain ⟨v, e⟩ := Option.isSome_iff_exists.mp z
    have m := valV_in e
    rw [h] at m
    obtain ⟨y, hy, e2⟩ := List.mem_map.mp m
    exact Sum.inl.inj e2 ▸ hy
  · intro z
    cases e : valV kvs (Sum.inl x) with
    | some v => rfl
    | none => exact absurd (by rw [h]; exact List.mem_map_of_mem z) (valV_not e)
def spWholeG : Sp := fun vs H Q _ => ∃ (x : V) (a : String), vs = [x] ∧ Ty H x a ∧ Q (.bl (decide (a = "int"))) H
def RiseV (H : Hp) (x : V) : Prop := ∃ a ns, x = .ref a ∧ VL H a ns ∧ ns.Pairwise (· < ·) ∧ ∀ v ∈ ns, 0 ≤ v
def spRiseG : Sp := fun vs H Q _ => ∃ (x : V) (B : Nat), vs = [x] ∧ Dat B H x ∧ (RiseV H x → Q (.bl true) H) ∧ (¬ RiseV H x → Q (.bl false) H)
theorem int_inj : ∀ {xs ys : List Int}, xs.map V.int = ys.map V.int → xs = ys
  | [], [], _ => rfl
  | [], _ :: _, h => by simp at h
  | _ :: _, [], h => by simp at h
  | x :: xs, y :: ys, h => by
    rw [List.map_cons, List.map_cons, List.cons.injEq] at h
    rw [V.int.inj h.1, int_inj h.2]
/-- links of the versions ns, as a thing of any kind -/
def LinkV (H : Hp) (ns : List Int) (y : V) : Prop := ∃ b ps, y = .ref b ∧ PL H b ps ∧ ps.length ≤ 2000 ∧ (ps.map (·.2)).Pairwise LexL ∧ ∀ q ∈ ps.map (·.2), q.1 ∈ ns ∧ q.2 ∈ ns ∧ q.2 < q.1
def spLinksG : Sp := fun vs H Q _ => ∃ (a : Addr) (ns : List Int) (y : V) (B : Nat), vs = [.ref a, y] ∧ VL H a ns ∧ (∀ v ∈ ns, 0 ≤ v) ∧ ns.length ≤ 400 ∧ Dat B H y ∧ (LinkV H ns y → ∀ H', Same H H' → Q (.bl true) H') ∧ (¬ LinkV H ns y → ∀ H', Same H H' → Q (.bl false) H')
/-- a shape, as a thing of any kind -/
def ShV (H : Hp) (x : V) : Prop := ∃ t a b ns, x = .ref t ∧ H t = some (.tup [.ref a, b]) ∧ VL H a ns ∧ ns.Pairwise (· < ·) ∧ (∀ v ∈ ns, 0 ≤ v) ∧ ns.length ≤ 400 ∧ LinkV H ns b
/-- the pairs that were gone through: i of xs; the last of them is (l1, l2) -/
structure Lnk (H : Hp) (ns : List Int) (xs : List V) (i : Nat) (pre : List (Addr × Int × Int)) (l : Int × Int) : Prop where
  tk : xs.take i = pre.map fun q => .ref q.1
  at' : ∀ q ∈ pre, H q.1 = some (.tup [.int q.2.1, .int q.2.2])
  lex : (pre.map (·.2)).Pairwise LexL
  ok : ∀ q ∈ pre.map (·.2), q.1 ∈ ns ∧ q.2 ∈ ns ∧ q.2 < q.1
  le : ∀ q ∈ pre.map (·.2), q = l ∨ LexL q l
  last : l = (-1, -1) ∨ ∃ (j : Nat) (p : Addr), j < i ∧ xs[j]? = some (.ref p) ∧ H p = some (.tup [.int l.1, .int l.2])
theorem Lnk.zero {H : Hp} {ns : List Int} {xs : List V} : Lnk H ns xs 0 [] (-1, -1) := ⟨rfl, by simp, by simp, by simp, by simp, .inl rfl⟩
theorem LexL.trans {a b c : Int × Int} (h : LexL a b) (g : LexL b c) : LexL a c := by
  unfold LexL at *
  omega
theorem Lnk.add {H : Hp} {ns : List Int} {xs : List V} {i : Nat} {pre : List (Addr × Int × Int)} {l : Int × Int} (h : Lnk H ns xs i pre l) {p : Addr} {x y : Int} (hx : xs[i]? = some (.ref p)) (hp : H p = some (.tup [.int x, .int y])) (h1 : x ∈ ns) (h2 : y ∈ ns) (h3 : y < x) (hl : LexL l (x, y)) : Lnk H ns xs (i + 1) (pre ++ [(p, x, y)]) (x, y) := by
  refine ⟨by rw [List.take_add_one, hx, h.tk, List.map_append]; rfl, fun q hq => ?_, ?_, fun q hq => ?_, fun q hq => ?_, .inr ⟨i, p, by omega, hx, hp⟩⟩
  · rcases List.mem_append.mp hq with a | a
    · exact h.at' q a
    · have e : q = (p, x, y) := by simpa using a
      subst e
      exact hp
  · rw [List.map_append, List.pairwise_append]
    refine ⟨h.lex, by simp, fun a ha b hb => ?_⟩
    have e : b = (x, y) := by simpa using hb
    subst e
    rcases h.le a ha with e | e
    · rw [e]; exact hl
    · exact e.trans hl
  · rw [List.map_append] at hq
    rcases List.mem_append.mp hq with a | a
    · exact h.ok q a
    · have e : q = (x, y) := by simpa using a
      subst e
      exact ⟨h1, h2, h3⟩
  · rw [List.map_append] at hq
    rcases List.mem_append.mp hq with a | a
    · rcases h.le q a with e | e
      · exact .inr (by rw [e]; exact hl)
      · exact .inr (e.trans hl)
    · exact .inl (by simpa using a)
theorem Lnk.full {H : Hp} {ns : List Int} {b : Addr} {xs : List V} {pre : List (Addr × Int × Int)} {l : Int × Int} (hb : H b = some (.tup xs)) (hn : xs.length ≤ 2000) (h : Lnk H ns xs xs.length pre l) : LinkV H ns (.ref b) := by
  have e := h.tk
  rw [List.take_length] at e
  refine ⟨b, pre, rfl, ⟨by rw [hb, e], h.at'⟩, ?_, h.lex, h.ok⟩
  have := congrArg List.length e
  rw [List.length_map] at this
  omega
/-- the i-th thing of links is a pair, and stands where it may stand -/
theorem LinkV.at {H : Hp} {ns : List Int} {b : Addr} {xs : List V} {i : Nat} {z : V} (h : LinkV H ns (.ref b)) (hb : H b = some (.tup xs)) (hz : xs[i]? = some z) : ∃ p x y, z = .ref p ∧ H p = some (.tup [.int x, .int y]) ∧ x ∈ ns ∧ y ∈ ns ∧ y < x ∧ ∀ pre l, Lnk H ns xs i pre l → (∀ v ∈ ns, 0 ≤ v) → LexL l (x, y) := by
  obtain ⟨b', ps, e, ⟨h1, h2⟩, _, h3, h4⟩ := h
  cases e
  rw [hb] at h1
  cases h1
  obtain ⟨q, hq, rfl⟩ := map_at hz
  have hqm := List.mem_of_getElem? hq
  obtain ⟨m1, m2, m3⟩ := h4 q.2 (List.mem_map_of_mem hqm)
  refine ⟨q.1, q.2.1, q.2.2, rfl, h2 q hqm, m1, m2, m3, fun pre l L h0 => ?_⟩
  rcases L.last with e | ⟨j, p, hj, e1, e2⟩
  · subst e
    have := h0 _ m1
    exact .inl (by show (-1 : Int) < _; omega)
  · obtain ⟨r, hr, e3⟩ := map_at e1
    cases e3
    have e4 := h2 r (List.mem_of_getElem? hr)
    rw [e2] at e4
    have e5 : l = r.2 := by
      simp only [Option.some.injEq, HO.tup.injEq, List.cons.injEq, V.int.injEq, and_true] at e4
      obtain ⟨l1, l2⟩ := l
      obtain ⟨_, r1, r2⟩ := r
      simp only at e4
      rw [e4.1, e4.2]
    rw [e5]
    rw [List.pairwise_iff_getElem] at h3
    obtain ⟨jl, je⟩ := List.getElem?_eq_some_iff.mp hr
    obtain ⟨il, ie⟩ := List.getElem?_eq_some_iff.mp hq
    have := h3 j i (by simpa using jl) (by simpa using il) hj
    simpa [je, ie] using this
/-! is it an int, is it a tuple of rising ints: of a thing of any kind (is_rising) -/
section
variable {P : Program} {w : World} {K : PySem.W.Frag} {mg : Str → Option Value} {base : Heap}
theorem ok_is_wholeG {f : Addr} {fd : FuncData} (T : Txt K mg) (F : Fun K "is_whole" "is_whole" s_is_whole f fd) : FnOk P w K mg base CX0 1 f fd ["thing"] spWholeG := by
  refine F.ok sc_is_whole (fun vs H Q E h => ?_) (fun cdv A outer s H vs Q E hr h => ?_)
  · obtain ⟨x, a, rfl, _⟩ := h
    rfl
  · obtain ⟨x, a, rfl, t, q⟩ := h
    refine ⟨_,
      (pss_one
        (ps_ret (pe_and (pe_callB (r := rIsi K) call_isi (by rfl) T.n_isinstance (by decide +kernel) (pa_cons (pv 0) (pa_cons (pe_bltn (v := .ty "int") (u := .type "int") (by rfl) T.n_int (by decide +kernel) rfl) pa_nil))) (pe_one (pe_not (pe_callB (r := rIsi K) call_isi (by rfl) T.n_isinstance (by decide +kernel) (pa_cons (pv 0) (pa_cons (pe_bltn (v := .ty "bool") (u := .type "bool") (by rfl) T.n_bool (by decide +kernel) rfl) pa_nil))))))))
      , ?_⟩
    rw [show L2.start N_is_whole [x] = [some x] from rfl]
    walk_at "x"
    refine w_isInt t ?_
    walk_at "g"
    refine w_itB (fun hb => ?_) (fun hb => ?_)
    · walk_at "g"
      refine w_isBool t ?_
      walk_at "g"
      by_cases e : a = "bool"
      · rw [decide_eq_true e]
        rw [decide_eq_false (fun z : a = "int" => by rw [z] at e; exact absurd e (by decide))] at q
        exact q
      · rw [decide_eq_false e]
        rw [decide_eq_false e, Bool.or_false] at hb
        rw [hb] at q
        exact q
    · walk_at "g"
      rw [decide_eq_false (fun z : a = "int" => by rw [decide_eq_true z] at hb; cases hb)] at q
      exact q
theorem ok_is_risingG {f fW : Addr} {fd fdW : FuncData} (T : Txt K mg) (F : Fun K "is_rising" "is_rising" s_is_rising f fd) (D_is_whole : Df K mg "is_whole" s_is_whole ["thing"] fW fdW) : FnOk P w K mg base CX0 2 f fd ["thing"] spRiseG := by
  have G_is_whole : FnOk P w K mg base CX0 1 fW fdW ["thing"] spWholeG := ok_is_wholeG T D_is_whole.fn
  refine F.ok sc_is_rising (fun vs H Q E h => ?_) (fun cdv A outer s H vs Q E hr h => ?_)
  · obtain ⟨x, B, rfl, _⟩ := h
    rfl
  · obtain ⟨x, B, rfl, hd, q1, q2⟩ := h
    refine ⟨_,
      (pss_cons
        (ps_if (pt_not (pt_val (pe_callB (r := rIsi K) call_isi (by rfl) T.n_isinstance (by decide +kernel) (pa_cons (pv 0) (pa_cons (pe_bltn (v := .ty "tuple") (u := .type "tuple") (by rfl) T.n_tuple (by decide +kernel) rfl) pa_nil)))))
          (pss_one
            (ps_ret pe_bl))
          pss_nil)
      (pss_cons
        (ps_set (i := 1) sc_is_rising.nd rfl (.inl rfl) (pe_un un_neg pe_int))
      (pss_cons
        (ps_for PassesOwn.never rfl (pi_tup (pv 0)) (pg_name (i := 2) sc_is_rising.nd rfl (.inl rfl))
          (pss_cons
            (ps_if (PW.pt (pw_or (pt_not (pt_val (pe_call G_is_whole (hr.mono (by omega)) (by rfl) D_is_whole.g D_is_whole.fn.kp D_is_whole.b .nil pass0 (pa_cons (pv 2) pa_nil)))) (pw_or1 (pt_cmpR op_le (pv 2) (pv 1) (nomark _)))))
              (pss_one
                (ps_ret pe_bl))
              pss_nil)
          (pss_one
            (ps_set (i := 1) sc_is_rising.nd rfl (.inl rfl) (pv 2)))))
      (pss_one
        (ps_ret pe_bl)))))
      , ?_⟩
    rw [show L2.start N_is_rising [x] = [some x, none, none] from rfl]
    refine w_seq ?_
    walk_at "x"
    rcases hd.cases with ⟨a, ta, hne⟩ | ⟨p, xs, rfl, ep, hB, hxs⟩
    · refine w_isTup ta ?_
      rw [decide_eq_false hne]
      walk_at "g"
      refine q2 ?_
      rintro ⟨b, ns, rfl, h, _⟩
      exact hne (ta.ofTup h)
    · walk_at "g"
      refine lp_tup (xs := xs) (fun i σ H' => H' = H ∧ ∃ (pre : List Int) (l : Int) (y : Option V), σ = [some (.ref p), some (.int l), y] ∧ xs.take i = pre.map V.int ∧ pre.Pairwise (· < ·) ∧ (∀ v ∈ pre, 0 ≤ v ∧ v ≤ l) ∧ (l = -1 ∨ l ∈ pre) ∧ -1 ≤ l) ?_ ?_ ?_ ?_
      · exact ⟨rfl, [], -1, none, rfl, rfl, by simp, by simp, .inl rfl, by omega⟩
      · rintro i σ H' _ ⟨rfl, _⟩
        exact .of ep
      · rintro i y σ H' hy ⟨rfl, pre, l, y0, rfl, hpre, hp1, hp2, hp3, hp4⟩
        have hym := List.mem_of_getElem? hy
        obtain ⟨ay, ty⟩ := (hxs y hym).ty
        have tk : xs.take (i + 1) = xs.take i ++ [y] := by rw [List.take_add_one, hy]; rfl
        refine w_seq ?_
        walk_at "g"
        refine ⟨y, ay, rfl, ty, ?_⟩
        walk_at "g"
        have no : (∀ v : Int, y = .int v → v ≤ l) → ¬ RiseV H' (.ref p) := fun hv => by
          rintro ⟨b, ns, e, h, hr1, hr0⟩
          cases e
          have h' : H' p = some (.tup (ns.map V.int)) := h
          rw [ep] at h'
          cases h'
          obtain ⟨v, hv1, rfl⟩ := map_at hy
          have hle := hv v rfl
          have hp5 : pre = ns.take i := int_inj (by rw [← hpre, List.map_take])
          rcases hp3 with h3 | h3
          · have := hr0 v (List.mem_of_getElem? hv1)
            omega
          · rw [hp5] at h3
            have := take_lt hr1 hv1 h3
            omega
        refine w_itN (fun hni => ?_) (fun hi => ?_)
        · walk_at "g"
          exact q2 (no fun v e => by rw [e] at ty; exact absurd ty.ofInt hni)
        · obtain ⟨v, rfl⟩ := ty.isInt hi
          walk_at "g"
          refine w_ite (fun hle => ?_) (fun hgt => ?_)
          · walk_at "g"
            exact q2 (no fun v' e => by cases e; exact hle)
          · walk_at "g"
            refine ⟨rfl, pre ++ [v], v, _, rfl, by rw [tk, hpre, List.map_append]; rfl, List.pairwise_append.mpr ⟨hp1, by simp, fun a ha b hb => ?_⟩, fun z hz => ?_, .inr (by simp), by omega⟩
            · have e : b = v := by simpa using hb
              have := (hp2 a ha).2
              omega
            · rcases List.mem_append.mp hz with h | h
              · have := hp2 z h
                omega
              · have e : z = v := by simpa using h
                omega
      · rintro σ H' ⟨rfl, pre, l, y0, rfl, hpre, hp1, hp2, _⟩
        rw [List.take_length] at hpre
        walk_at "g"
        exact q1 ⟨p, pre, rfl, by rw [hpre] at ep; exact ep, hp1, fun v hv => (hp2 v hv).1⟩
end
/-! is it an int, is it a tuple of rising ints: of a thing of any kind (_law_rising) -/
section
variable {P : Program} {w : World} {K : PySem.W.Frag} {mg : Str → Option Value} {base : Heap}
theorem ok_law_intG {f : Addr} {fd : FuncData} (T : Txt K mg) (F : Fun K "_law_int" "_law_int" s_law_int f fd) : FnOk P w K mg base CX0 1 f fd ["_law_thing"] spWholeG := by
  refine F.ok sc_law_int (fun vs H Q E h => ?_) (fun cdv A outer s H vs Q E hr h => ?_)
  · obtain ⟨x, a, rfl, _⟩ := h
    rfl
  · obtain ⟨x, a, rfl, t, q⟩ := h
    refine ⟨_,
      (pss_one
        (ps_ret (pe_and (pe_callB (r := rIsi K) call_isi (by rfl) T.n_isinstance (by decide +kernel) (pa_cons (pv 0) (pa_cons (pe_bltn (v := .ty "int") (u := .type "int") (by rfl) T.n_int (by decide +kernel) rfl) pa_nil))) (pe_one (pe_not (pe_callB (r := rIsi K) call_isi (by rfl) T.n_isinstance (by decide +kernel) (pa_cons (pv 0) (pa_cons (pe_bltn (v := .ty "bool") (u := .type "bool") (by rfl) T.n_bool (by decide +kernel) rfl) pa_nil))))))))
      , ?_⟩
    rw [show L2.start N_law_int [x] = [some x] from rfl]
    walk_at "x"
    refine w_isInt t ?_
    walk_at "g"
    refine w_itB (fun hb => ?_) (fun hb => ?_)
    · walk_at "g"
      refine w_isBool t ?_
      walk_at "g"
      by_cases e : a = "bool"
      · rw [decide_eq_true e]
        rw [decide_eq_false (fun z : a = "int" => by rw [z] at e; exact absurd e (by decide))] at q
        exact q
      · rw [decide_eq_false e]
        rw [decide_eq_false e, Bool.or_false] at hb
        rw [hb] at q
        exact q
    · walk_at "g"
      rw [decide_eq_false (fun z : a = "int" => by rw [decide_eq_true z] at hb; cases hb)] at q
      exact q
theorem ok_law_risingG {f fW : Addr} {fd fdW : FuncData} (T : Txt K mg) (F : Fun K "_law_rising" "_law_rising" s_law_rising f fd) (D_law_int : Df K mg "_law_int" s_law_int ["_law_thing"] fW fdW) : FnOk P w K mg base CX0 2 f fd ["_law_thing"] spRiseG := by
  have G_law_int : FnOk P w K mg base CX0 1 fW fdW ["_law_thing"] spWholeG := ok_law_intG T D_law_int.fn
  refine F.ok sc_law_rising (fun vs H Q E h => ?_) (fun cdv A outer s H vs Q E hr h => ?_)
  · obtain ⟨x, B, rfl, _⟩ := h
    rfl
  · obtain ⟨x, B, rfl, hd, q1, q2⟩ := h
    refine ⟨_,
      (pss_cons
        (ps_if (pt_not (pt_val (pe_callB (r := rIsi K) call_isi (by rfl) T.n_isinstance (by decide +kernel) (pa_cons (pv 0) (pa_cons (pe_bltn (v := .ty "tuple") (u := .type "tuple") (by rfl) T.n_tuple (by decide +kernel) rfl) pa_nil)))))
          (pss_one
            (ps_ret pe_bl))
          pss_nil)
      (pss_cons
        (ps_set (i := 1) sc_law_rising.nd rfl (.inl rfl) (pe_un un_neg pe_int))
      (pss_cons
        (ps_for PassesOwn.never rfl (pi_tup (pv 0)) (pg_name (i := 2) sc_law_rising.nd rfl (.inl rfl))
          (pss_cons
            (ps_if (PW.pt (pw_or (pt_not (pt_val (pe_call G_law_int (hr.mono (by omega)) (by rfl) D_law_int.g D_law_int.fn.kp D_law_int.b .nil pass0 (pa_cons (pv 2) pa_nil)))) (pw_or1 (pt_cmpR op_le (pv 2) (pv 1) (nomark _)))))
              (pss_one
                (ps_ret pe_bl))
              pss_nil)
          (pss_one
            (ps_set (i := 1) sc_law_rising.nd rfl (.inl rfl) (pv 2)))))
      (pss_one
        (ps_ret pe_bl)))))
      , ?_⟩
    rw [show L2.start N_law_rising [x] = [some x, none, none] from rfl]
    refine w_seq ?_
    walk_at "x"
    rcases hd.cases with ⟨a, ta, hne⟩ | ⟨p, xs, rfl, ep, hB, hxs⟩
    · refine w_isTup ta ?_
      rw [decide_eq_false hne]
      walk_at "g"
      refine q2 ?_
      rintro ⟨b, ns, rfl, h, _⟩
      exact hne (ta.ofTup h)
    · walk_at "g"
      refine lp_tup (xs := xs) (fun i σ H' => H' = H ∧ ∃ (pre : List Int) (l : Int) (y : Option V), σ = [some (.ref p), some (.int l), y] ∧ xs.take i = pre.map V.int ∧ pre.Pairwise (· < ·) ∧ (∀ v ∈ pre, 0 ≤ v ∧ v ≤ l) ∧ (l = -1 ∨ l ∈ pre) ∧ -1 ≤ l) ?_ ?_ ?_ ?_
      · exact ⟨rfl, [], -1, none, rfl, rfl, by simp, by simp, .inl rfl, by omega⟩
      · rintro i σ H' _ ⟨rfl, _⟩
        exact .of ep
      · rintro i y σ H' hy ⟨rfl, pre, l, y0, rfl, hpre, hp1, hp2, hp3, hp4⟩
        have hym := List.mem_of_getElem? hy
        obtain ⟨ay, ty⟩ := (hxs y hym).ty
        have tk : xs.take (i + 1) = xs.take i ++ [y] := by rw [List.take_add_one, hy]; rfl
        refine w_seq ?_
        walk_at "g"
        refine ⟨y, ay, rfl, ty, ?_⟩
        walk_at "g"
        have no : (∀ v : Int, y = .int v → v ≤ l) → ¬ RiseV H' (.ref p) := fun hv => by
          rintro ⟨b, ns, e, h, hr1, hr0⟩
          cases e
          have h' : H' p = some (.tup (ns.map V.int)) := h
          rw [ep] at h'
          cases h'
          obtain ⟨v, hv1, rfl⟩ := map_at hy
          have hle := hv v rfl
          have hp5 : pre = ns.take i := int_inj (by rw [← hpre, List.map_take])
          rcases hp3 with h3 | h3
          · have := hr0 v (List.mem_of_getElem? hv1)
            omega
          · rw [hp5] at h3
            have := take_lt hr1 hv1 h3
            omega
        refine w_itN (fun hni => ?_) (fun hi => ?_)
        · walk_at "g"
          exact q2 (no fun v e => by rw [e] at ty; exact absurd ty.ofInt hni)
        · obtain ⟨v, rfl⟩ := ty.isInt hi
          walk_at "g"
          refine w_ite (fun hle => ?_) (fun hgt => ?_)
          · walk_at "g"
            exact q2 (no fun v' e => by cases e; exact hle)
          · walk_at "g"
            refine ⟨rfl, pre ++ [v], v, _, rfl, by rw [tk, hpre, List.map_append]; rfl, List.pairwise_append.mpr ⟨hp1, by simp, fun a ha b hb => ?_⟩, fun z hz => ?_, .inr (by simp), by omega⟩
            · have e : b = v := by simpa using hb
              have := (hp2 a ha).2
              omega
            · rcases List.mem_append.mp hz with h | h
              · have := hp2 z h
                omega
              · have e : z = v := by simpa using h
                omega
      · rintro σ H' ⟨rfl, pre, l, y0, rfl, hpre, hp1, hp2, _⟩
        rw [List.take_length] at hpre
        walk_at "g"
        exact q1 ⟨p, pre, rfl, by rw [hpre] at ep; exact ep, hp1, fun v hv => (hp2 v hv).1⟩
end
section
variable {P : Program} {w : World} {K : PySem.W.Frag} {mg : Str → Option Value} {base : Heap}
theorem ok_linksG {f fW : Addr} {fd fdW : FuncData} (T : Txt K mg) (F : Fun K "are_links" "are_links" s_are_links f fd) (D_is_whole : Df K mg "is_whole" s_is_whole ["thing"] fW fdW) : FnOk P w K mg base CX0 2 f fd ["versions", "thing"] spLinksG := by
  have G_is_whole : FnOk P w K mg base CX0 1 fW fdW ["thing"] spWholeG := ok_is_wholeG T D_is_whole.fn
  obtain ⟨t_LINKS, g_LINKS⟩ := T.g_LINKS
  refine F.ok sc_are_links (fun vs H Q E h => ?_) (fun cdv A outer s H vs Q E hr h => ?_)
  · obtain ⟨a, ns, y, B, rfl, _⟩ := h
    rfl
  · obtain ⟨a, ns, y, B, rfl, ha, h0, hl1, hd, q1, q2⟩ := h
    have hu := hu_of hr
    have ha' : H a = some (.tup (ns.map V.int)) := ha
    refine ⟨_,
      (pss_cons
        (ps_if (PW.pt (pw_or (pt_not (pt_val (pe_callB (r := rIsi K) call_isi (by rfl) T.n_isinstance (by decide +kernel) (pa_cons (pv 1) (pa_cons (pe_bltn (v := .ty "tuple") (u := .type "tuple") (by rfl) T.n_tuple (by decide +kernel) rfl) pa_nil))))) (pw_or1 (pt_cmpR op_gt (pe_callB (r := rLen K) c_len (by rfl) T.n_len (by decide +kernel) (pa_cons (pv 1) pa_nil)) (pe_glob (v := .int 2000) rfl g_LINKS ⟨_, rfl⟩) (nomark _)))))
          (pss_one
            (ps_ret pe_bl))
          pss_nil)
      (pss_cons
        (ps_setDc (i := 2) (own := [("version", 5)]) (g := (gName 5)) rfl sc_are_links.nd rfl rfl (sw_trueD rfl rfl rfl (by decide +kernel)) (pi_tup (pv 0)) (blkOk_by (own := [("version", 5)]) (N := N_are_links) (sc := defScope s_are_links) (by decide +kernel)) (fun _ _ _ _ _ => (pg_name (i := 5) sc_are_links.nd rfl (.inl rfl))) (fun _ _ _ _ _ => pts_nil) (fun _ _ _ _ _ => (pv 5)) (fun _ _ _ _ _ => pe_bl))
      (pss_cons
        (ps_set (i := 3) sc_are_links.nd rfl (.inl rfl) (pe_tup (pa_cons (pe_un un_neg pe_int) (pa_cons (pe_un un_neg pe_int) pa_nil))))
      (pss_cons
        (ps_for PassesOwn.never rfl (pi_tup (pv 1)) (pg_name (i := 4) sc_are_links.nd rfl (.inl rfl))
          (pss_cons
            (ps_if (PW.pt (pw_or (pt_not (pt_val (pe_callB (r := rIsi K) call_isi (by rfl) T.n_isinstance (by decide +kernel) (pa_cons (pv 4) (pa_cons (pe_bltn (v := .ty "tuple") (u := .type "tuple") (by rfl) T.n_tuple (by decide +kernel) rfl) pa_nil))))) (pw_or (pt_cmpR op_ne (pe_callB (r := rLen K) c_len (by rfl) T.n_len (by decide +kernel) (pa_cons (pv 4) pa_nil)) pe_int (nomark _)) (pw_or (pt_not (pt_val (pe_call G_is_whole (hr.mono (by omega)) (by rfl) D_is_whole.g D_is_whole.fn.kp D_is_whole.b .nil pass0 (pa_cons (pe_ix (r := rIxT K) ix_tup (pv 4) pe_int (fun _ _ => rfl)) pa_nil)))) (pw_or1 (pt_not (pt_val (pe_call G_is_whole (hr.mono (by omega)) (by rfl) D_is_whole.g D_is_whole.fn.kp D_is_whole.b .nil pass0 (pa_cons (pe_ix (r := rIxT K) ix_tup (pv 4) pe_int (fun _ _ => rfl)) pa_nil)))))))))
              (pss_one
                (ps_ret pe_bl))
              pss_nil)
          (pss_cons
            (ps_if (PW.pt (pw_or (pt_cmp (pc_dnotin hu (pe_ix (r := rIxT K) ix_tup (pv 4) pe_int (fun _ _ => rfl)) (pv 2))) (pw_or (pt_cmp (pc_dnotin hu (pe_ix (r := rIxT K) ix_tup (pv 4) pe_int (fun _ _ => rfl)) (pv 2))) (pw_or (pt_cmpR op_ge (pe_ix (r := rIxT K) ix_tup (pv 4) pe_int (fun _ _ => rfl)) (pe_ix (r := rIxT K) ix_tup (pv 4) pe_int (fun _ _ => rfl)) (nomark _)) (pw_or1 (pt_cmpR (op_leT hr.units0) (pv 4) (pv 3) (nomark _)))))))
              (pss_one
                (ps_ret pe_bl))
              pss_nil)
          (pss_one
            (ps_set (i := 3) sc_are_links.nd rfl (.inl rfl) (pv 4))))))
      (pss_one
        (ps_ret pe_bl))))))
      , ?_⟩
    rw [show L2.start N_are_links [V.ref a, y] = [some (.ref a), some y, none, none, none, none] from rfl]
    refine w_seq ?_
    walk_at "x"
    rcases hd.cases with ⟨ay, ty, hne⟩ | ⟨b, xs, rfl, eb, hB, hxs⟩
    · refine w_isTup ty ?_
      rw [decide_eq_false hne]
      walk_at "g"
      refine q2 ?_ H (fun _ _ z => z)
      rintro ⟨b, ps, rfl, h, _⟩
      exact hne (ty.ofTup h.1)
    walk_at "g"
    refine w_ite (fun h9 => ?_) (fun h9 => ?_)
    · walk_at "g"
      refine q2 ?_ H (fun _ _ z => z)
      rintro ⟨b', ps, e, ⟨h1, _⟩, h2, _⟩
      cases e
      rw [eb] at h1
      cases h1
      rw [List.length_map] at h9
      omega
    walk_at "g"
    refine dcp_map (walk_tup (xs := ns.map V.int)) [] (ns.map fun i => ((Sum.inl i : Key), V.bl true)) (by simp) (by simp; omega) (fun H' k => .of (k _ _ (by simp) ha')) ?_ (by simp) ?_
    · rintro i y H1 H2 R hi k ⟨rfl, hy⟩ hR
      obtain ⟨x, hx, rfl⟩ := map_at hy
      refine w_name ⟨rfl, ?_⟩
      walk_at "g"
      exact hR (Sum.inl x, V.bl true) _ (by rw [List.getElem?_map, hx]; rfl) Kp.refl
    · intro D H1 hD k1 e1
      have k1 := k1.same
      have kn : ∀ n : Int, (valV (mergeK [] (ns.map fun i => ((Sum.inl i : Key), V.bl true))) (Sum.inl n)).isSome = decide (n ∈ ns) := fun n => known_in ns (fun _ => V.bl true) n
      generalize mergeK [] (ns.map fun i => ((Sum.inl i : Key), V.bl true)) = kvs at e1 kn
      walk_at "g"
      refine w_new fun p0 H2 hp0 e2 k2 => ?_
      have k02 : Same H H2 := Same.trans k1 k2
      have eb2 := k02 _ _ eb
      have eD := k2 _ _ e1
      walk_at "g"
      refine lp_tup (xs := xs) (fun i σ H' => H' = H2 ∧ ∃ (p : Addr) (pre : List (Addr × Int × Int)) (l : Int × Int) (y z : Option V), σ = [some (.ref a), some (.ref b), some (.ref D), some (.ref p), y, z] ∧ H2 p = some (.tup [.int l.1, .int l.2]) ∧ Lnk H ns xs i pre l) ?_ ?_ ?_ ?_
      · exact ⟨rfl, p0, [], (-1, -1), none, none, rfl, e2, .zero⟩
      · rintro i σ H' _ ⟨rfl, _⟩
        exact .of eb2
      · rintro i y σ H' hy ⟨rfl, p, pre, l, y1, y2, rfl, ep, L⟩
        have hym := List.mem_of_getElem? hy
        have no : (∀ r x z, y = .ref r → H r = some (.tup [.int x, .int z]) → x ∈ ns → z ∈ ns → z < x → LexL l (x, z) → False) → Q (.bl false) H' := fun h => q2 (fun hL => by
          obtain ⟨r, x, z, g1, g2, g3, g4, g5, g6⟩ := hL.at eb hy
          exact h r x z g1 g2 g3 g4 g5 (g6 pre l L h0)) H' k02
        refine w_seq ?_
        walk_at "g"
        rcases (hxs y hym).cases with ⟨ay, ty, hne⟩ | ⟨r, ys, rfl, er, hB', hys⟩
        · refine w_isTup (ty.kd (KD.of k02)) ?_
          rw [decide_eq_false hne]
          walk_at "g"
          exact no fun r x z e g _ _ _ _ => hne (by rw [e] at ty; exact ty.ofTup g)
        · have er2 := k02 _ _ er
          walk_at "g"
          by_cases hlen : ys.length = 2
          · refine w_nyes (by omega) ?_
            match ys, hlen with
            | [u0, u1], _ =>
              obtain ⟨a0, t0⟩ := (hys u0 (by simp)).ty
              obtain ⟨a1, t1⟩ := (hys u1 (by simp)).ty
              walk_at "g"
              refine ⟨u0, a0, rfl, t0.kd (KD.of k02), ?_⟩
              walk_at "g"
              refine w_itN (fun hni => ?_) (fun hi0 => ?_)
              · walk_at "g"
                refine no fun r' x z e g _ _ _ _ => ?_
                cases e
                rw [er] at g
                cases g
                exact hni t0.ofInt
              · obtain ⟨x, rfl⟩ := t0.isInt hi0
                walk_at "g"
                refine ⟨u1, a1, rfl, t1.kd (KD.of k02), ?_⟩
                walk_at "g"
                refine w_itN (fun hni => ?_) (fun hi1 => ?_)
                · walk_at "g"
                  refine no fun r' x' z e g _ _ _ _ => ?_
                  cases e
                  rw [er] at g
                  cases g
                  exact hni t1.ofInt
                · obtain ⟨z, rfl⟩ := t1.isInt hi1
                  have bad : ¬ (x ∈ ns ∧ z ∈ ns ∧ z < x ∧ LexL l (x, z)) → Q (.bl false) H' := fun h => no fun r' x' z' e g g1 g2 g3 g4 => by
                    cases e
                    rw [er] at g
                    cases g
                    exact h ⟨g1, g2, g3, g4⟩
                  walk_at "g"
                  refine w_seq ?_
                  walk_at "g"
                  rw [kn]
                  refine w_itN (fun c1 => ?_) (fun c1 => ?_)
                  · walk_at "g"
                    exact bad fun h => c1 h.1
                  walk_at "g"
                  rw [kn]
                  refine w_itN (fun c2 => ?_) (fun c2 => ?_)
                  · walk_at "g"
                    exact bad fun h => c2 h.2.1
                  walk_at "g"
                  refine w_ite (fun c3 => ?_) (fun c3 => ?_)
                  · walk_at "g"
                    exact bad fun h => by have := h.2.2.1; omega
                  walk_at "g"
                  refine w_ite (fun c4 => ?_) (fun c4 => ?_)
                  · walk_at "g"
                    exact bad fun h => by
                      have := h.2.2.2
                      unfold LexL at this
                      omega
                  walk_at "g"
                  refine ⟨rfl, r, _, (x, z), _, _, rfl, er2, L.add hy er c1 c2 (by omega) ?_⟩
                  unfold LexL
                  omega
          · refine w_nno (by omega) ?_
            walk_at "g"
            refine no fun r' x z e g _ _ _ _ => ?_
            cases e
            rw [er] at g
            cases g
            exact hlen rfl
      · rintro σ H' ⟨rfl, p, pre, l, y1, y2, rfl, ep, L⟩
        walk_at "g"
        exact q1 (L.full eb (by omega)) _ k02
end
def spCheckG (C : Addr) : Sp := fun vs H Q E => ∃ (x : V) (B : Nat), vs = [x] ∧ Dat B H x ∧ (ShV H x → ∀ H', Same H H' → Q (.bl true) H') ∧ (¬ ShV H x → ∀ H', Same H H' → E (.ref C) none H')
def spIsShape : Sp := fun vs H Q _ => ∃ (x : V) (B : Nat), vs = [x] ∧ Dat B H x ∧ (ShV H x → ∀ H', Same H H' → Q (.bl true) H') ∧ (¬ ShV H x → ∀ H', Same H H' → Q (.bl false) H')
section
variable {P : Program} {w : World} {K : PySem.W.Frag} {mg : Str → Option Value} {base : Heap}
theorem ok_checkG {f fW fR fL C_NoShape : Addr} {fd fdW fdR fdL : FuncData} (T : Txt K mg) (F : Fun K "check" "check" s_check f fd) (D_is_whole : Df K mg "is_whole" s_is_whole ["thing"] fW fdW) (D_is_rising : Df K mg "is_rising" s_is_rising ["thing"] fR fdR) (D_are_links : Df K mg "are_links" s_are_links ["versions", "thing"] fL fdL) (X_NoShape : Exn K mg "NoShape" C_NoShape) : FnOk P w K mg base (L2.CX P w) 3 f fd ["thing"] (spCheckG C_NoShape) := by
  have G_is_rising : FnOk P w K mg base CX0 2 fR fdR ["thing"] spRiseG := ok_is_risingG T D_is_rising.fn D_is_whole
  have G_are_links : FnOk P w K mg base CX0 2 fL fdL ["versions", "thing"] spLinksG := ok_linksG T D_are_links.fn D_is_whole
  obtain ⟨t_VERSIONS, g_VERSIONS⟩ := T.g_VERSIONS
  refine F.okX sc_check (fun vs H Q E h => ?_) (fun cdv A outer s H vs Q E hr h => ?_)
  · obtain ⟨x, B, rfl, _⟩ := h
    rfl
  · obtain ⟨x, B, rfl, hd, q1, q2⟩ := h
    refine ⟨_,
      (pss_cons
        (ps_if (PW.pt (pw_or (pt_not (pt_val (pe_callB (r := rIsi K) call_isi (by rfl) T.n_isinstance (by decide +kernel) (pa_cons (pv 0) (pa_cons (pe_bltn (v := .ty "tuple") (u := .type "tuple") (by rfl) T.n_tuple (by decide +kernel) rfl) pa_nil))))) (pw_or1 (pt_cmpR op_ne (pe_callB (r := rLen K) c_len (by rfl) T.n_len (by decide +kernel) (pa_cons (pv 0) pa_nil)) pe_int (nomark _)))))
          (pss_one
            (ps_raise rfl (takes_of rfl rfl rfl rfl) (pmk_own PySem.F.excBase_ValueError X_NoShape.x X_NoShape.g X_NoShape.k (raises_own X_NoShape.b X_NoShape.t) rfl)))
          pss_nil)
      (pss_cons
        (ps_asg (pv 0) (pg_tup rfl (pgs_cons (pg_name (i := 1) sc_check.nd rfl (.inl rfl)) (pgs_cons (pg_name (i := 2) sc_check.nd rfl (.inl rfl)) pgs_nil))))
      (pss_cons
        (ps_if (PW.pt (pw_or (pt_not (pt_val (pe_call G_is_rising (hr.mono (by omega)) (by rfl) D_is_rising.g D_is_rising.fn.kp D_is_rising.b .nil pass0 (pa_cons (pv 1) pa_nil)))) (pw_or1 (pt_cmpR op_gt (pe_callB (r := rLen K) c_len (by rfl) T.n_len (by decide +kernel) (pa_cons (pv 1) pa_nil)) (pe_glob (v := .int 400) rfl g_VERSIONS ⟨_, rfl⟩) (nomark _)))))
          (pss_one
            (ps_raise rfl (takes_of rfl rfl rfl rfl) (pmk_own PySem.F.excBase_ValueError X_NoShape.x X_NoShape.g X_NoShape.k (raises_own X_NoShape.b X_NoShape.t) rfl)))
          pss_nil)
      (pss_cons
        (ps_if (pt_not (pt_val (pe_call G_are_links (hr.mono (by omega)) (by rfl) D_are_links.g D_are_links.fn.kp D_are_links.b .nil pass0 (pa_cons (pv 1) (pa_cons (pv 2) pa_nil)))))
          (pss_one
            (ps_raise rfl (takes_of rfl rfl rfl rfl) (pmk_own PySem.F.excBase_ValueError X_NoShape.x X_NoShape.g X_NoShape.k (raises_own X_NoShape.b X_NoShape.t) rfl)))
          pss_nil)
      (pss_one
        (ps_ret pe_bl))))))
      , ?_⟩
    rw [show L2.start N_check [x] = [some x, none, none] from rfl]
    refine w_seq ?_
    walk_at "x"
    rcases hd.cases with ⟨ay, ty, hne⟩ | ⟨t, xs, rfl, et, hB, hxs⟩
    · refine w_isTup ty ?_
      rw [decide_eq_false hne]
      walk_at "g"
      refine q2 ?_ H (fun _ _ z => z)
      rintro ⟨t, a, b, ns, rfl, h, _⟩
      exact hne (ty.ofTup h)
    walk_at "g"
    by_cases hlen : xs.length = 2
    · refine w_nyes (by omega) ?_
      match xs, hlen with
      | [u0, u1], _ =>
        walk_at "g"
        refine w_seq ?_
        walk_at "g"
        refine ⟨u0, B, rfl, hxs u0 (by simp), fun hR => ?_, fun hR => ?_⟩
        · obtain ⟨a, ns, rfl, ha, h1, h0⟩ := hR
          have ha' : H a = some (.tup (ns.map V.int)) := ha
          walk_at "g"
          refine w_ite (fun h4 => ?_) (fun h4 => ?_)
          · walk_at "g"
            refine q2 ?_ H (fun _ _ z => z)
            rintro ⟨t', a', b', ns', e, h, h5, _, _, h6, _⟩
            cases e
            rw [et] at h
            cases h
            have h5' : H a = some (.tup (ns'.map V.int)) := h5
            rw [ha'] at h5'
            have e2 : ns = ns' := int_inj (by simpa using h5')
            subst e2
            rw [List.length_map] at h4
            omega
          · walk_at "g"
            refine w_seq ?_
            walk_at "g"
            rw [List.length_map] at h4
            refine ⟨a, ns, u1, B, rfl, ha, h0, by omega, hxs u1 (by simp), fun hL H' k => ?_, fun hL H' k => ?_⟩
            · walk_at "g"
              exact q1 ⟨t, a, u1, ns, rfl, et, ha, h1, h0, by omega, hL⟩ H' k
            · walk_at "g"
              refine q2 ?_ H' k
              rintro ⟨t', a', b', ns', e, h, h5, _, _, h6, h7⟩
              cases e
              rw [et] at h
              cases h
              have h5' : H a = some (.tup (ns'.map V.int)) := h5
              rw [ha'] at h5'
              have e2 : ns = ns' := int_inj (by simpa using h5')
              subst e2
              exact hL h7
        · walk_at "g"
          refine q2 ?_ H (fun _ _ z => z)
          rintro ⟨t', a', b', ns', e, h, h5, h8, h9, _⟩
          cases e
          rw [et] at h
          cases h
          exact hR ⟨a', ns', rfl, h5, h8, h9⟩
    · refine w_nno (by omega) ?_
      walk_at "g"
      refine q2 ?_ H (fun _ _ z => z)
      rintro ⟨t', a', b', ns', e, h, _⟩
      cases e
      rw [et] at h
      cases h
      exact hlen rfl
theorem ok_isshape {f fI fR : Addr} {fd fdI fdR : FuncData} (T : Txt K mg) (F : Fun K "_law_is_shape" "_law_is_shape" s_law_is_shape f fd) (D_law_int : Df K mg "_law_int" s_law_int ["_law_thing"] fI fdI) (D_law_rising : Df K mg "_law_rising" s_law_rising ["_law_thing"] fR fdR) : FnOk P w K mg base CX0 3 f fd ["_law_thing"] spIsShape := by
  have G_law_int : FnOk P w K mg base CX0 1 fI fdI ["_law_thing"] spWholeG := ok_law_intG T D_law_int.fn
  have G_law_rising : FnOk P w K mg base CX0 2 fR fdR ["_law_thing"] spRiseG := ok_law_risingG T D_law_rising.fn D_law_int
  refine F.ok sc_law_is_shape (fun vs H Q E h => ?_) (fun cdv A outer s H vs Q E hr h => ?_)
  · obtain ⟨x, B, rfl, _⟩ := h
    rfl
  · obtain ⟨x, B, rfl, hd, q1, q2⟩ := h
    have hu := hu_of hr
    refine ⟨_,
      (pss_cons
        (ps_if (PW.pt (pw_or (pt_not (pt_val (pe_callB (r := rIsi K) call_isi (by rfl) T.n_isinstance (by decide +kernel) (pa_cons (pv 0) (pa_cons (pe_bltn (v := .ty "tuple") (u := .type "tuple") (by rfl) T.n_tuple (by decide +kernel) rfl) pa_nil))))) (pw_or1 (pt_cmpR op_ne (pe_callB (r := rLen K) c_len (by rfl) T.n_len (by decide +kernel) (pa_cons (pv 0) pa_nil)) pe_int (nomark _)))))
          (pss_one
            (ps_ret pe_bl))
          pss_nil)
      (pss_cons
        (ps_if (PW.pt (pw_or (pt_not (pt_val (pe_call G_law_rising (hr.mono (by omega)) (by rfl) D_law_rising.g D_law_rising.fn.kp D_law_rising.b .nil pass0 (pa_cons (pe_ix (r := rIxT K) ix_tup (pv 0) pe_int (fun _ _ => rfl)) pa_nil)))) (pw_or (pt_cmpR op_gt (pe_callB (r := rLen K) c_len (by rfl) T.n_len (by decide +kernel) (pa_cons (pe_ix (r := rIxT K) ix_tup (pv 0) pe_int (fun _ _ => rfl)) pa_nil)) pe_int (nomark _)) (pw_or (pt_not (pt_val (pe_callB (r := rIsi K) call_isi (by rfl) T.n_isinstance (by decide +kernel) (pa_cons (pe_ix (r := rIxT K) ix_tup (pv 0) pe_int (fun _ _ => rfl)) (pa_cons (pe_bltn (v := .ty "tuple") (u := .type "tuple") (by rfl) T.n_tuple (by decide +kernel) rfl) pa_nil))))) (pw_or1 (pt_cmpR op_gt (pe_callB (r := rLen K) c_len (by rfl) T.n_len (by decide +kernel) (pa_cons (pe_ix (r := rIxT K) ix_tup (pv 0) pe_int (fun _ _ => rfl)) pa_nil)) pe_int (nomark _)))))))
          (pss_one
            (ps_ret pe_bl))
          pss_nil)
      (pss_cons
        (ps_set (i := 1) sc_law_is_shape.nd rfl (.inl rfl) pe_dnewK)
      (pss_cons
        (ps_for PassesOwn.never rfl (pi_tup (pe_ix (r := rIxT K) ix_tup (pv 0) pe_int (fun _ _ => rfl))) (pg_name (i := 2) sc_law_is_shape.nd rfl (.inl rfl))
          (pss_one
            (ps_dput hu (pv 1) (pv 2) pe_bl rfl)))
      (pss_cons
        (ps_set (i := 3) sc_law_is_shape.nd rfl (.inl rfl) (pe_tup (pa_cons (pe_un un_neg pe_int) (pa_cons (pe_un un_neg pe_int) pa_nil))))
      (pss_cons
        (ps_for PassesOwn.never rfl (pi_tup (pe_ix (r := rIxT K) ix_tup (pv 0) pe_int (fun _ _ => rfl))) (pg_name (i := 4) sc_law_is_shape.nd rfl (.inl rfl))
          (pss_cons
            (ps_if (PW.pt (pw_or (pt_not (pt_val (pe_callB (r := rIsi K) call_isi (by rfl) T.n_isinstance (by decide +kernel) (pa_cons (pv 4) (pa_cons (pe_bltn (v := .ty "tuple") (u := .type "tuple") (by rfl) T.n_tuple (by decide +kernel) rfl) pa_nil))))) (pw_or (pt_cmpR op_ne (pe_callB (r := rLen K) c_len (by rfl) T.n_len (by decide +kernel) (pa_cons (pv 4) pa_nil)) pe_int (nomark _)) (pw_or (pt_not (pt_val (pe_call G_law_int (hr.mono (by omega)) (by rfl) D_law_int.g D_law_int.fn.kp D_law_int.b .nil pass0 (pa_cons (pe_ix (r := rIxT K) ix_tup (pv 4) pe_int (fun _ _ => rfl)) pa_nil)))) (pw_or1 (pt_not (pt_val (pe_call G_law_int (hr.mono (by omega)) (by rfl) D_law_int.g D_law_int.fn.kp D_law_int.b .nil pass0 (pa_cons (pe_ix (r := rIxT K) ix_tup (pv 4) pe_int (fun _ _ => rfl)) pa_nil)))))))))
              (pss_one
                (ps_ret pe_bl))
              pss_nil)
          (pss_cons
            (ps_if (PW.pt (pw_or (pt_cmp (pc_dnotin hu (pe_ix (r := rIxT K) ix_tup (pv 4) pe_int (fun _ _ => rfl)) (pv 1))) (pw_or (pt_cmp (pc_dnotin hu (pe_ix (r := rIxT K) ix_tup (pv 4) pe_int (fun _ _ => rfl)) (pv 1))) (pw_or1 (pt_cmpR op_ge (pe_ix (r := rIxT K) ix_tup (pv 4) pe_int (fun _ _ => rfl)) (pe_ix (r := rIxT K) ix_tup (pv 4) pe_int (fun _ _ => rfl)) (nomark _))))))
              (pss_one
                (ps_ret pe_bl))
              pss_nil)
          (pss_cons
            (ps_if (PW.pt (pw_or (pt_cmpR op_lt (pe_ix (r := rIxT K) ix_tup (pv 4) pe_int (fun _ _ => rfl)) (pe_ix (r := rIxT K) ix_tup (pv 3) pe_int (fun _ _ => rfl)) (nomark _)) (pw_or1 (PW.pt (pw_and (pt_cmpR op_eq (pe_ix (r := rIxT K) ix_tup (pv 4) pe_int (fun _ _ => rfl)) (pe_ix (r := rIxT K) ix_tup (pv 3) pe_int (fun _ _ => rfl)) (nomark _)) (pw_and1 (pt_cmpR op_le (pe_ix (r := rIxT K) ix_tup (pv 4) pe_int (fun _ _ => rfl)) (pe_ix (r := rIxT K) ix_tup (pv 3) pe_int (fun _ _ => rfl)) (nomark _))))))))
              (pss_one
                (ps_ret pe_bl))
              pss_nil)
          (pss_one
            (ps_set (i := 3) sc_law_is_shape.nd rfl (.inl rfl) (pv 4)))))))
      (pss_one
        (ps_ret pe_bl))))))))
      , ?_⟩
    rw [show L2.start N_law_is_shape [x] = [some x, none, none, none, none] from rfl]
    refine w_seq ?_
    walk_at "x"
    rcases hd.cases with ⟨ay, ty, hne⟩ | ⟨t, xs, rfl, et, hB, hxs⟩
    · refine w_isTup ty ?_
      rw [decide_eq_false hne]
      walk_at "g"
      refine q2 ?_ H (fun _ _ z => z)
      rintro ⟨t, a, b, ns, rfl, h, _⟩
      exact hne (ty.ofTup h)
    walk_at "g"
    by_cases hlen : xs.length = 2
    · refine w_nyes (by omega) ?_
      match xs, hlen with
      | [u0, u1], _ =>
        walk_at "g"
        refine w_seq ?_
        walk_at "g"
        refine ⟨u0, B, rfl, hxs u0 (by simp), fun hR => ?_, fun hR => ?_⟩
        · obtain ⟨a, ns, rfl, ha, h1, h0⟩ := hR
          have ha' : H a = some (.tup (ns.map V.int)) := ha
          have same : ∀ {ns' : List Int}, VL H a ns' → ns = ns' := fun {ns'} h5 => by
            have h5' : H a = some (.tup (ns'.map V.int)) := h5
            rw [ha'] at h5'
            exact int_inj (by simpa using h5')
          have noV : ¬ (ns.length ≤ 400 ∧ LinkV H ns u1) → ∀ H', Same H H' → Q (.bl false) H' := fun hn H' k => q2 (by
            rintro ⟨t', a', b', ns', e, h, h5, _, _, h6, h7⟩
            cases e
            rw [et] at h
            cases h
            have e2 := same h5
            subst e2
            exact hn ⟨h6, h7⟩) H' k
          walk_at "g"
          refine w_ite (fun h4 => ?_) (fun h4 => ?_)
          · walk_at "g"
            rw [List.length_map] at h4
            exact noV (fun z => by omega) H (fun _ _ z => z)
          rw [List.length_map] at h4
          walk_at "g"
          rcases (hxs u1 (by simp)).cases with ⟨ay, ty, hne⟩ | ⟨b, ys, rfl, eb, hB', hys⟩
          · refine w_isTup ty ?_
            rw [decide_eq_false hne]
            walk_at "g"
            refine noV (fun z => ?_) H (fun _ _ z => z)
            obtain ⟨_, b, ps, rfl, h, _⟩ := z
            exact hne (ty.ofTup h.1)
          walk_at "g"
          refine w_ite (fun h9 => ?_) (fun h9 => ?_)
          · walk_at "g"
            refine noV (fun z => ?_) H (fun _ _ z => z)
            obtain ⟨_, b', ps, e, ⟨h1, _⟩, h2, _⟩ := z
            cases e
            rw [eb] at h1
            cases h1
            rw [List.length_map] at h9
            omega
          walk_at "g"
          refine w_new fun D H1 hD eD k1 => ?_
          have et1 := k1 _ _ et
          have ea1 := k1 _ _ ha'
          walk_at "g"
          refine lp_tup (xs := ns.map V.int) (fun i σ H' => ∃ (y2 : Option V) (ks : List Int), σ = [some (.ref t), some (.ref D), y2, none, none] ∧ Kp [D] H1 H' ∧ FoundAt H' D ks ∧ (∀ x, x ∈ ks ↔ x ∈ ns.take i)) ?_ ?_ ?_ ?_
          · exact ⟨_, [], rfl, Kp.refl, ⟨⟨[], eD, rfl⟩, List.nodup_nil⟩, by simp⟩
          · rintro i σ H' _ ⟨_, _, _, k, _⟩
            exact .of (k _ _ (by simpa using ne_of_none ha' hD) ea1)
          · rintro i y σ H2 hy ⟨y2, ks, rfl, k2, ⟨⟨fk, ef, hfk⟩, nd⟩, hks⟩
            obtain ⟨v, hv, rfl⟩ := map_at hy
            have hlen2 : fk.length < sizeLine := by
              have e1 : fk.length = ks.length := by
                have := congrArg List.length hfk
                simpa using this
              have e2 := nodup_le ks ns nd fun z hz => List.mem_of_mem_take ((hks z).mp hz)
              exact small1000 (by omega)
            walk_at "g"
            refine w_dputI ef hlen2 fun H3 e3 o3 => ?_
            refine ⟨_, addK ks v, rfl, k2.trans (o3.kp (by simp)), FoundAt.put hfk nd e3, fun z => ?_⟩
            rw [mem_addK, hks, List.take_add_one, hv]
            simp
          · rintro σ H2 ⟨y2, ks, rfl, k2, ⟨⟨fk, ef, hfk⟩, nd⟩, hks⟩
            rw [List.length_map, List.take_length] at hks
            have kn : ∀ x : Int, (valV fk (Sum.inl x)).isSome = decide (x ∈ ns) := fun x => by
              rw [val_keys hfk x, Bool.eq_iff_iff, decide_eq_true_iff, decide_eq_true_iff, hks]
            have k02 : Same H H2 := fun c o e => k2 _ _ (by simpa using ne_of_none e hD) (k1 _ _ e)
            walk_at "g"
            refine w_new fun p0 H3 hp0 e3 k3 => ?_
            have k03 : Same H H3 := Same.trans k02 k3
            have et3 := k03 _ _ et
            have eb3 := k03 _ _ eb
            have eD3 := k3 _ _ ef
            walk_at "g"
            refine lp_tup (xs := ys) (fun i σ H' => H' = H3 ∧ ∃ (p : Addr) (pre : List (Addr × Int × Int)) (l : Int × Int) (y z : Option V), σ = [some (.ref t), some (.ref D), y, some (.ref p), z] ∧ H3 p = some (.tup [.int l.1, .int l.2]) ∧ Lnk H ns ys i pre l) ?_ ?_ ?_ ?_
            · exact ⟨rfl, p0, [], (-1, -1), _, none, rfl, e3, .zero⟩
            · rintro i σ H' _ ⟨rfl, _⟩
              exact .of eb3
            · rintro i y σ H' hy ⟨rfl, p, pre, l, y1, y2, rfl, ep, L⟩
              have hym := List.mem_of_getElem? hy
              have no : (∀ r x z, y = .ref r → H r = some (.tup [.int x, .int z]) → x ∈ ns → z ∈ ns → z < x → LexL l (x, z) → False) → Q (.bl false) H' := fun h => noV (fun hL => by
                obtain ⟨r, x, z, g1, g2, g3, g4, g5, g6⟩ := hL.2.at eb hy
                exact h r x z g1 g2 g3 g4 g5 (g6 pre l L h0)) H' k03
              refine w_seq ?_
              walk_at "g"
              rcases (hys y hym).cases with ⟨ay, ty, hne⟩ | ⟨r, zs, rfl, er, hB'', hzs⟩
              · refine w_isTup (ty.kd (KD.of k03)) ?_
                rw [decide_eq_false hne]
                walk_at "g"
                exact no fun r x z e g _ _ _ _ => hne (by rw [e] at ty; exact ty.ofTup g)
              · have er3 := k03 _ _ er
                walk_at "g"
                by_cases hlen : zs.length = 2
                · refine w_nyes (by omega) ?_
                  match zs, hlen with
                  | [u0, u1], _ =>
                    obtain ⟨a0, t0⟩ := (hzs u0 (by simp)).ty
                    obtain ⟨a1, t1⟩ := (hzs u1 (by simp)).ty
                    walk_at "g"
                    refine ⟨u0, a0, rfl, t0.kd (KD.of k03), ?_⟩
                    walk_at "g"
                    refine w_itN (fun hni => ?_) (fun hi0 => ?_)
                    · walk_at "g"
                      refine no fun r' x z e g _ _ _ _ => ?_
                      cases e
                      rw [er] at g
                      cases g
                      exact hni t0.ofInt
                    · obtain ⟨x, rfl⟩ := t0.isInt hi0
                      walk_at "g"
                      refine ⟨u1, a1, rfl, t1.kd (KD.of k03), ?_⟩
                      walk_at "g"
                      refine w_itN (fun hni => ?_) (fun hi1 => ?_)
                      · walk_at "g"
                        refine no fun r' x' z e g _ _ _ _ => ?_
                        cases e
                        rw [er] at g
                        cases g
                        exact hni t1.ofInt
                      · obtain ⟨z, rfl⟩ := t1.isInt hi1
                        have bad : ¬ (x ∈ ns ∧ z ∈ ns ∧ z < x ∧ LexL l (x, z)) → Q (.bl false) H' := fun h => no fun r' x' z' e g g1 g2 g3 g4 => by
                          cases e
                          rw [er] at g
                          cases g
                          exact h ⟨g1, g2, g3, g4⟩
                        walk_at "g"
                        refine w_seq ?_
                        walk_at "g"
                        rw [kn]
                        refine w_itN (fun c1 => ?_) (fun c1 => ?_)
                        · walk_at "g"
                          exact bad fun h => c1 h.1
                        walk_at "g"
                        rw [kn]
                        refine w_itN (fun c2 => ?_) (fun c2 => ?_)
                        · walk_at "g"
                          exact bad fun h => c2 h.2.1
                        walk_at "g"
                        refine w_ite (fun c3 => ?_) (fun c3 => ?_)
                        · walk_at "g"
                          exact bad fun h => by have := h.2.2.1; omega
                        walk_at "g"
                        refine w_seq ?_
                        walk_at "g"
                        refine w_ite (fun c4 => ?_) (fun c4 => ?_)
                        · walk_at "g"
                          exact bad fun h => by
                            have := h.2.2.2
                            unfold LexL at this
                            dsimp only at this
                            omega
                        walk_at "g"
                        refine w_ite (fun c5 => ?_) (fun c5 => ?_)
                        · walk_at "g"
                          refine w_ite (fun c6 => ?_) (fun c6 => ?_)
                          · walk_at "g"
                            exact bad fun h => by
                              have := h.2.2.2
                              unfold LexL at this
                              dsimp only at this
                              omega
                          · walk_at "g"
                            refine ⟨rfl, r, _, (x, z), _, _, rfl, er3, L.add hy er c1 c2 (by omega) ?_⟩
                            unfold LexL
                            dsimp only
                            omega
                        · walk_at "g"
                          refine ⟨rfl, r, _, (x, z), _, _, rfl, er3, L.add hy er c1 c2 (by omega) ?_⟩
                          unfold LexL
                          dsimp only
                          omega
                · refine w_nno (by omega) ?_
                  walk_at "g"
                  refine no fun r' x z e g _ _ _ _ => ?_
                  cases e
                  rw [er] at g
                  cases g
                  exact hlen rfl
            · rintro σ H' ⟨rfl, p, pre, l, y1, y2, rfl, ep, L⟩
              walk_at "g"
              exact q1 ⟨t, a, .ref b, ns, rfl, et, ha, h1, h0, by omega, L.full eb (by omega)⟩ _ k03
        · walk_at "g"
          refine q2 ?_ H (fun _ _ z => z)
          rintro ⟨t', a', b', ns', e, h, h5, h8, h9, _⟩
          cases e
          rw [et] at h
          cases h
          exact hR ⟨a', ns', rfl, h5, h8, h9⟩
    · refine w_nno (by omega) ?_
      walk_at "g"
      refine q2 ?_ H (fun _ _ z => z)
      rintro ⟨t', a', b', ns', e, h, _⟩
      cases e
      rw [et] at h
      cases h
      exact hlen rfl
end
local macro_rules | `(tactic| walk_at "e1") => `(tactic| first | exact Dat.int | exact Dat.leaf .non (by decide) | exact Dat.leaf (.bl _) (by decide) | exact Dat.leaf (.str _) (by decide) | (refine (by assumption : ∀ y ∈ (_ : List V), Dat _ _ y) _ ?_; simp))
local macro_rules | `(tactic| walk_at "el") => `(tactic| repeat (first | exact List.forall_mem_nil _ | refine List.forall_mem_cons.mpr ⟨by walk_at "e1", ?_⟩))
local macro_rules | `(tactic| walk_at "od") => `(tactic| repeat (first | walk_at "s" | refine w_newLD (by assumption) (by assumption) (by assumption) (by simp only [List.length_cons, List.length_nil]; decide) (fun p H' D hL kk => ?_) | refine w_newKD (by assumption) (by assumption) (by assumption) (fun p H' D hL kk => ?_) | refine w_dispD (by assumption) (by assumption) (by assumption) (fun p H' D hL kk => ?_) | refine w_newD (by assumption) (by assumption) (by assumption) (by walk_at "el") (by simp only [List.length_cons, List.length_nil]; decide) (fun p H' D hL kk => ?_)))
def spOdd : Sp := fun vs H Q _ => ∃ (d c : Addr) (n : Nat), vs = [.ref d] ∧ Deck H d c n ∧ n + 1 ≤ MOSTD ∧ ∀ H' y, Deck H' d c (n + 1) → KD H H' → Dat 4 H' y → Q y H'
section
variable {P : Program} {w : World} {K : PySem.W.Frag} {mg : Str → Option Value} {base : Heap}
theorem ok_odd {f fM fD : Addr} {fd fdM fdD : FuncData} (T : Txt K mg) (F : Fun K "_law_odd" "_law_odd" s_law_odd f fd) (D_law_mixed : Df K mg "_law_mixed" s_law_mixed ["_law_cell", "_law_turn"] fM fdM)
    (D_law_draw : Df K mg "_law_draw" s_law_draw ["_law_deck_here", "_law_many"] fD fdD) : FnOk P w K mg base CX0 3 f fd ["_law_deck_here"] spOdd := by
  have G_law_draw : FnOk P w K mg base CX0 2 fD fdD ["_law_deck_here", "_law_many"] spDraw := ok_draw T D_law_draw.fn D_law_mixed
  refine F.ok sc_law_odd (fun vs H Q E h => ?_) (fun cdv A outer s H vs Q E hr h => ?_)
  · obtain ⟨d, c, n, rfl, _⟩ := h
    rfl
  · obtain ⟨d, c, n, rfl, D0, hn, q⟩ := h
    have hu := hu_of hr
    refine ⟨_,
      (pss_cons
        (ps_set (i := 1) sc_law_odd.nd rfl (.inl rfl) (pe_lst (pa_cons pe_non (pa_cons pe_bl (pa_cons pe_bl (pa_cons (pe_un un_neg pe_int) (pa_cons pe_int (pa_cons pe_int (pa_cons (pe_op op_pow pe_int pe_int) (pa_cons pe_str (pa_cons pe_str (pa_cons pe_str (pa_cons pe_str (pa_cons (pe_tup pa_nil) (pa_cons (pe_lst pa_nil) (pa_cons pe_dnewK (pa_cons (pe_tup (pa_cons pe_int pa_nil)) (pa_cons (pe_tup (pa_cons pe_int (pa_cons pe_int pa_nil))) (pa_cons (pe_lst (pa_cons pe_int pa_nil)) (pa_cons (pe_tup (pa_cons (pe_tup pa_nil) pa_nil)) pa_nil))))))))))))))))))))
      (pss_cons
        (ps_set (i := 1) sc_law_odd.nd rfl (.inl rfl) (pe_op op_cat (pv 1) (pe_lst (pa_cons (pe_tup (pa_cons (pe_tup pa_nil) (pa_cons (pe_tup pa_nil) pa_nil))) (pa_cons (pe_tup (pa_cons (pe_tup (pa_cons pe_int (pa_cons pe_int pa_nil))) (pa_cons (pe_tup (pa_cons (pe_tup (pa_cons pe_int (pa_cons pe_int pa_nil))) pa_nil)) pa_nil))) (pa_cons (pe_tup (pa_cons (pe_tup (pa_cons pe_int pa_nil)) (pa_cons (pe_tup (pa_cons pe_int pa_nil)) pa_nil))) (pa_cons (pe_disp (pps_cons pe_int pe_int pps_nil) (by rfl) (by rfl) (fun z => by cases z) (by decide)) (pa_cons (pe_tup (pa_cons (pe_tup (pa_cons pe_int (pa_cons (pe_tup (pa_cons pe_int pa_nil)) pa_nil))) pa_nil)) (pa_cons (pe_tup (pa_cons (pe_tup (pa_cons (pe_tup (pa_cons (pe_tup (pa_cons (pe_tup (pa_cons (pe_tup (pa_cons (pe_tup (pa_cons (pe_tup (pa_cons (pe_tup (pa_cons (pe_tup (pa_cons pe_int pa_nil)) pa_nil)) pa_nil)) pa_nil)) pa_nil)) pa_nil)) pa_nil)) pa_nil)) pa_nil)) pa_nil)) pa_nil)))))))))
      (pss_one
        (ps_ret (pe_ix (r := rIxL K) ix_list (pv 1) (pe_call G_law_draw (hr.mono (by omega)) (by rfl) D_law_draw.g D_law_draw.fn.kp D_law_draw.b .nil pass0 (pa_cons (pv 0) (pa_cons (pe_callB (r := rLen K) c_len (by rfl) T.n_len (by decide +kernel) (pa_cons (pv 1) pa_nil)) pa_nil))) (fun _ _ => rfl))))))
      , ?_⟩
    rw [show L2.start N_law_odd [V.ref d] = [some (.ref d), none] from rfl]
    have hL0 : ∀ y ∈ ([] : List V), Dat 4 H y := by simp
    have kk0 : Same H H := fun _ _ z => z
    walk_at "x"
    walk_at "od"
    refine w_newB (by assumption) (by assumption) (by assumption) (by walk_at "el") fun l1 H1 D1 hx1 e1 kA => ?_
    have hL1 : ∀ y ∈ ([] : List V), Dat 4 H1 y := by simp
    have kk1 : Same H1 H1 := fun _ _ z => z
    walk_at "od"
    refine w_newB (H0 := H1) (by assumption) (by assumption) (by assumption) (by walk_at "el") fun l2 H2 D2 hx2 e2 kB => ?_
    have e1' := kB _ _ e1
    have hx1' := fun y hy => (hx1 y hy).kd (KD.of kB)
    walk_at "g"
    refine w_cat e1' e2 (by simp only [List.length_cons, List.length_nil]; decide) fun l3 H3 h3 e3 k3 => ?_
    have hall : ∀ y ∈ _, Dat 4 H3 y := fun y hy => ((List.mem_append.mp hy).elim (hx1' y) (hx2 y)).kd (KD.of k3)
    have D3 := D2.kp (M := []) (Kp.of k3) (by simp) (by simp)
    obtain ⟨n3d, n3c⟩ := D2.ne1 h3
    have hbig := e3
    generalize hg : (_ ++ _ : List V) = big at e3 hall
    have hb24 : big.length = 24 := by rw [← hg]; rfl
    walk_at "g"
    refine w_draw D3 (by omega) (by omega) (by omega) fun r H4 hr4 D4 o4 => ?_
    have e4 := o4.get n3d e3
    obtain ⟨y, hy1, hy2⟩ := at_lt (xs := big) (i := (r : Int)) (by omega) hr4
    walk_at "g"
    exact q H4 y D4 (((KD.of kA).trans ((KD.of kB).trans (KD.of k3))).trans (D3.kd D4 o4)) ((hall y (List.mem_of_getElem? hy1)).kd (D3.kd D4 o4))
end
def spBent (k : Nat) : Sp := fun vs H Q _ => ∃ (d c : Addr) (n B : Nat) (x : V), vs = [.ref d, x, .int (k : Int)] ∧ Deck H d c n ∧ n + 4 * (k + 1) ≤ MOSTD ∧ Dat B H x ∧ 4 ≤ B ∧ B ≤ 1000 ∧ ∀ H' y, Deck H' d c (n + 4 * (k + 1)) → KD H H' → Dat (B + 1) H' y → Q y H'
theorem cut_mem {xs : List V} {lo hi : Option Int} {y : V} (h : y ∈ cutV xs lo hi) : y ∈ xs := by
  unfold cutV at h
  exact List.mem_of_mem_drop (List.mem_of_mem_take h)
theorem cut_to (xs : List V) {i : Int} (h : 0 ≤ i) : (cutV xs none (some i)).length ≤ i.toNat := by
  show ((xs.drop 0).take ((if i < 0 then (i + (xs.length : Int)).toNat else min i.toNat xs.length) - 0)).length ≤ i.toNat
  rw [if_neg (by omega), List.length_take]
  omega
theorem cut_from (xs : List V) {i : Int} (h : 0 ≤ i) : (cutV xs (some i) none).length ≤ xs.length - i.toNat := by
  show ((xs.drop (if i < 0 then (i + (xs.length : Int)).toNat else min i.toNat xs.length)).take (xs.length - (if i < 0 then (i + (xs.length : Int)).toNat else min i.toNat xs.length))).length ≤ _
  rw [if_neg (by omega), List.length_take, List.length_drop]
  omega
theorem cut_some (xs : List V) {i j : Int} (h : 0 ≤ i) (h2 : 0 ≤ j) : (cutV xs (some i) (some j)).length ≤ j.toNat - i.toNat := by
  show ((xs.drop (if i < 0 then (i + (xs.length : Int)).toNat else min i.toNat xs.length)).take ((if j < 0 then (j + (xs.length : Int)).toNat else min j.toNat xs.length) - (if i < 0 then (i + (xs.length : Int)).toNat else min i.toNat xs.length))).length ≤ _
  rw [if_neg (by omega), if_neg (by omega), List.length_take, List.length_drop]
  omega
section
variable {P : Program} {w : World} {K : PySem.W.Frag} {mg : Str → Option Value} {base : Heap}
theorem ok_bent {f fM fD fI fO : Addr} {fd fdM fdD fdI fdO : FuncData} (T : Txt K mg) (D_law_bent : Df K mg "_law_bent" s_law_bent ["_law_deck_here", "_law_thing", "_law_depth"] f fd) (D_law_mixed : Df K mg "_law_mixed" s_law_mixed ["_law_cell", "_law_turn"] fM fdM)
    (D_law_draw : Df K mg "_law_draw" s_law_draw ["_law_deck_here", "_law_many"] fD fdD) (D_law_int : Df K mg "_law_int" s_law_int ["_law_thing"] fI fdI) (D_law_odd : Df K mg "_law_odd" s_law_odd ["_law_deck_here"] fO fdO) : ∀ k : Nat, FnOk P w K mg base CX0 (k + 4) f fd ["_law_deck_here", "_law_thing", "_law_depth"] (spBent k) := by
  intro k
  have G_law_draw : FnOk P w K mg base CX0 2 fD fdD ["_law_deck_here", "_law_many"] spDraw := ok_draw T D_law_draw.fn D_law_mixed
  have G_law_int : FnOk P w K mg base CX0 1 fI fdI ["_law_thing"] spWholeG := ok_law_intG T D_law_int.fn
  have G_law_odd : FnOk P w K mg base CX0 3 fO fdO ["_law_deck_here"] spOdd := ok_odd T D_law_odd.fn D_law_mixed D_law_draw
  induction k with
  | zero =>
    refine D_law_bent.fn.ok sc_law_bent (fun vs H Q E h => ?_) (fun cdv A outer s H vs Q E hr h => ?_)
    · obtain ⟨d, c, n, B, x, rfl, _⟩ := h
      rfl
    · obtain ⟨d, c, n, B, x, rfl, D0, hn, hx, hB4, hB, q⟩ := h
      refine ⟨_,
      (pss_cons
        (ps_set (i := 3) sc_law_bent.nd rfl (.inl rfl) (pe_call G_law_draw (hr.mono (by omega)) (by rfl) D_law_draw.g D_law_draw.fn.kp D_law_draw.b .nil pass0 (pa_cons (pv 0) (pa_cons pe_int pa_nil))))
      (pss_cons
        (ps_if (PW.pt (pw_or (pt_cmpR op_eq (pv 2) pe_int (nomark _)) (pw_or (pt_cmpR op_eq (pv 3) pe_int (nomark _)) (pw_or1 (pt_not (pt_val (pe_callB (r := rIsi K) call_isi (by rfl) T.n_isinstance (by decide +kernel) (pa_cons (pv 1) (pa_cons (pe_bltn (v := .ty "tuple") (u := .type "tuple") (by rfl) T.n_tuple (by decide +kernel) rfl) pa_nil)))))))))
          (pss_cons
            (ps_if (PW.pt (pw_and (pt_val (pe_call G_law_int (hr.mono (by omega)) (by rfl) D_law_int.g D_law_int.fn.kp D_law_int.b .nil pass0 (pa_cons (pv 1) pa_nil))) (pw_and1 (pt_cmpR op_gt (pv 3) pe_int (nomark _)))))
              (pss_one
                (ps_ret (pe_op op_add (pv 1) (pe_ix (r := rIxL K) ix_list (pe_lst (pa_cons (pe_un un_neg pe_int) (pa_cons pe_int (pa_cons pe_int (pa_cons (pe_un un_neg pe_int) (pa_cons (pe_op op_sub (pe_un un_neg (pv 1)) pe_int) pa_nil)))))) (pe_call G_law_draw (hr.mono (by omega)) (by rfl) D_law_draw.g D_law_draw.fn.kp D_law_draw.b .nil pass0 (pa_cons (pv 0) (pa_cons pe_int pa_nil))) (fun _ _ => rfl)))))
              pss_nil)
          (pss_one
            (ps_ret (pe_call G_law_odd (hr.mono (by omega)) (by rfl) D_law_odd.g D_law_odd.fn.kp D_law_odd.b .nil pass0 (pa_cons (pv 0) pa_nil)))))
          pss_nil)
      pss_never))
        , ?_⟩
      rw [show L2.start N_law_bent [V.ref d, x, V.int ((0 : Nat) : Int)] = [some (.ref d), some x, some (.int ((0 : Nat) : Int)), none, none] from rfl]
      walk_at "x"
      refine w_draw D0 (by omega) (by decide) (by decide) fun r H1 hr1 D1 o1 => ?_
      have kd1 := D0.kd D1 o1
      have hx1 := hx.kd kd1
      obtain ⟨ax, tx⟩ := hx1.ty
      walk_at "g"
      refine w_seq ?_
      walk_at "g"
      refine w_yes rfl ?_
      walk_at "g"
      refine w_seq ?_
      walk_at "g"
      refine ⟨x, ax, rfl, tx, ?_⟩
      walk_at "g"
      refine w_ite (fun hi => ?_) (fun hi => ?_)
      · obtain ⟨i, rfl⟩ := tx.isInt hi
        walk_at "g"
        refine w_ite (fun hr2 => ?_) (fun hr2 => ?_)
        · walk_at "g"
          refine w_new fun l H2 hl2 e2 k2 => ?_
          have D2 := D1.kp (M := []) (Kp.of k2) (by simp) (by simp)
          obtain ⟨nld, _⟩ := D1.ne1 hl2
          walk_at "g"
          refine w_draw D2 (by omega) (by decide) (by decide) fun r2 H3 hr3 D3 o3 => ?_
          have e3 := o3.get nld e2
          have hall : ∀ y ∈ ([V.int (-1), V.int 1, V.int 2, V.int (-2), V.int (-i - 1)] : List V), ∃ z, y = .int z := by
            intro y hy
            simp only [List.mem_cons, List.not_mem_nil, or_false] at hy
            rcases hy with rfl | rfl | rfl | rfl | rfl <;> exact ⟨_, rfl⟩
          obtain ⟨y, hy1, hy2⟩ := at_lt (xs := ([V.int (-1), V.int 1, V.int 2, V.int (-2), V.int (-i - 1)] : List V)) (i := (r2 : Int)) (by omega) hr3
          obtain ⟨z, rfl⟩ := hall y (List.mem_of_getElem? hy1)
          walk_at "g"
          exact q H3 _ (D3.mono (by omega)) (kd1.trans ((KD.of k2).trans (D2.kd D3 o3))) Dat.int
        · walk_at "g"
          refine ⟨d, c, _, rfl, D1, by omega, fun H2 y D2 k2 hy => q H2 y (D2.mono (by omega)) (kd1.trans k2) (hy.mono (by omega))⟩
      · walk_at "g"
        refine ⟨d, c, _, rfl, D1, by omega, fun H2 y D2 k2 hy => q H2 y (D2.mono (by omega)) (kd1.trans k2) (hy.mono (by omega))⟩
  | succ k ih =>
    have G_law_bent := ih
    refine D_law_bent.fn.ok sc_law_bent (fun vs H Q E h => ?_) (fun cdv A outer s H vs Q E hr h => ?_)
    · obtain ⟨d, c, n, B, x, rfl, _⟩ := h
      rfl
    · obtain ⟨d, c, n, B, x, rfl, D0, hn, hx, hB4, hB, q⟩ := h
      refine ⟨_,
      (pss_cons
        (ps_set (i := 3) sc_law_bent.nd rfl (.inl rfl) (pe_call G_law_draw (hr.mono (by omega)) (by rfl) D_law_draw.g D_law_draw.fn.kp D_law_draw.b .nil pass0 (pa_cons (pv 0) (pa_cons pe_int pa_nil))))
      (pss_cons
        (ps_if (PW.pt (pw_or (pt_cmpR op_eq (pv 2) pe_int (nomark _)) (pw_or (pt_cmpR op_eq (pv 3) pe_int (nomark _)) (pw_or1 (pt_not (pt_val (pe_callB (r := rIsi K) call_isi (by rfl) T.n_isinstance (by decide +kernel) (pa_cons (pv 1) (pa_cons (pe_bltn (v := .ty "tuple") (u := .type "tuple") (by rfl) T.n_tuple (by decide +kernel) rfl) pa_nil)))))))))
          (pss_cons
            (ps_if (PW.pt (pw_and (pt_val (pe_call G_law_int (hr.mono (by omega)) (by rfl) D_law_int.g D_law_int.fn.kp D_law_int.b .nil pass0 (pa_cons (pv 1) pa_nil))) (pw_and1 (pt_cmpR op_gt (pv 3) pe_int (nomark _)))))
              (pss_one
                (ps_ret (pe_op op_add (pv 1) (pe_ix (r := rIxL K) ix_list (pe_lst (pa_cons (pe_un un_neg pe_int) (pa_cons pe_int (pa_cons pe_int (pa_cons (pe_un un_neg pe_int) (pa_cons (pe_op op_sub (pe_un un_neg (pv 1)) pe_int) pa_nil)))))) (pe_call G_law_draw (hr.mono (by omega)) (by rfl) D_law_draw.g D_law_draw.fn.kp D_law_draw.b .nil pass0 (pa_cons (pv 0) (pa_cons pe_int pa_nil))) (fun _ _ => rfl)))))
              pss_nil)
          (pss_one
            (ps_ret (pe_call G_law_odd (hr.mono (by omega)) (by rfl) D_law_odd.g D_law_odd.fn.kp D_law_odd.b .nil pass0 (pa_cons (pv 0) pa_nil)))))
          pss_nil)
      (pss_cons
        (ps_if (pt_cmpR op_eq (pv 3) pe_int (nomark _))
          (pss_one
            (ps_ret (pe_callTy (r := rListOf K) c_listOf (by rfl) T.n_list (by decide +kernel) (pa_cons (pv 1) pa_nil))))
          pss_nil)
      (pss_cons
        (ps_if (pt_cmpR op_eq (pe_callB (r := rLen K) c_len (by rfl) T.n_len (by decide +kernel) (pa_cons (pv 1) pa_nil)) pe_int (nomark _))
          (pss_one
            (ps_ret (pe_tup (pa_cons (pe_call G_law_odd (hr.mono (by omega)) (by rfl) D_law_odd.g D_law_odd.fn.kp D_law_odd.b .nil pass0 (pa_cons (pv 0) pa_nil)) pa_nil))))
          pss_nil)
      (pss_cons
        (ps_set (i := 4) sc_law_bent.nd rfl (.inl rfl) (pe_call G_law_draw (hr.mono (by omega)) (by rfl) D_law_draw.g D_law_draw.fn.kp D_law_draw.b .nil pass0 (pa_cons (pv 0) (pa_cons (pe_callB (r := rLen K) c_len (by rfl) T.n_len (by decide +kernel) (pa_cons (pv 1) pa_nil)) pa_nil))))
      (pss_cons
        (ps_if (pt_cmpR op_eq (pv 3) pe_int (nomark _))
          (pss_one
            (ps_ret (pe_op op_catA (pe_slice sl_tupA (pv 1) po_none (po_some (pv 4))) (pe_slice sl_tupA (pv 1) (po_some (pe_op op_add (pv 4) pe_int)) po_none))))
          pss_nil)
      (pss_cons
        (ps_if (pt_cmpR op_eq (pv 3) pe_int (nomark _))
          (pss_one
            (ps_ret (pe_op op_catA (pe_slice sl_tupA (pv 1) po_none (po_some (pe_op op_add (pv 4) pe_int))) (pe_slice sl_tupA (pv 1) (po_some (pv 4)) po_none))))
          pss_nil)
      (pss_cons
        (ps_if (pt_cmpR op_eq (pv 3) pe_int (nomark _))
          (pss_one
            (ps_ret (pe_op op_catA (pe_op op_catA (pe_op op_catA (pe_slice sl_tupA (pv 1) po_none (po_some (pv 4))) (pe_slice sl_tupA (pv 1) (po_some (pe_op op_add (pv 4) pe_int)) (po_some (pe_op op_add (pv 4) pe_int)))) (pe_tup (pa_cons (pe_ix (r := rIxT K) ix_tup (pv 1) (pv 4) (fun _ _ => rfl)) pa_nil))) (pe_slice sl_tupA (pv 1) (po_some (pe_op op_add (pv 4) pe_int)) po_none))))
          pss_nil)
      (pss_one
        (ps_ret (pe_op op_catA (pe_op op_catA (pe_slice sl_tupA (pv 1) po_none (po_some (pv 4))) (pe_tup (pa_cons (pe_call G_law_bent (hr.mono (by omega)) (by rfl) D_law_bent.g D_law_bent.fn.kp D_law_bent.b .nil pass0 (pa_cons (pv 0) (pa_cons (pe_ix (r := rIxT K) ix_tup (pv 1) (pv 4) (fun _ _ => rfl)) (pa_cons (pe_op op_sub (pv 2) pe_int) pa_nil)))) pa_nil))) (pe_slice sl_tupA (pv 1) (po_some (pe_op op_add (pv 4) pe_int)) po_none))))))))))))
        , ?_⟩
      rw [show L2.start N_law_bent [V.ref d, x, V.int ((k + 1 : Nat) : Int)] = [some (.ref d), some x, some (.int ((k + 1 : Nat) : Int)), none, none] from rfl]
      walk_at "x"
      refine w_draw D0 (by omega) (by decide) (by decide) fun r H1 hr1 D1 o1 => ?_
      have kd1 := D0.kd D1 o1
      have hx1 := hx.kd kd1
      obtain ⟨ax, tx⟩ := hx1.ty
      walk_at "g"
      refine w_seq ?_
      walk_at "g"
      refine w_no (by omega) ?_
      walk_at "g"
      refine w_ite (fun hr0 => ?_) (fun hr0 => ?_)
      · walk_at "g"
        refine w_seq ?_
        walk_at "g"
        refine ⟨x, ax, rfl, tx, ?_⟩
        walk_at "g"
        refine w_ite (fun hi => ?_) (fun hi => ?_)
        · obtain ⟨i, rfl⟩ := tx.isInt hi
          walk_at "g"
          refine w_ite (fun hr2 => ?_) (fun hr2 => ?_)
          · walk_at "g"
            refine w_new fun l H2 hl2 e2 k2 => ?_
            have D2 := D1.kp (M := []) (Kp.of k2) (by simp) (by simp)
            obtain ⟨nld, _⟩ := D1.ne1 hl2
            walk_at "g"
            refine w_draw D2 (by omega) (by decide) (by decide) fun r2 H3 hr3 D3 o3 => ?_
            have e3 := o3.get nld e2
            have hall : ∀ y ∈ ([V.int (-1), V.int 1, V.int 2, V.int (-2), V.int (-i - 1)] : List V), ∃ z, y = .int z := by
              intro y hy
              simp only [List.mem_cons, List.not_mem_nil, or_false] at hy
              rcases hy with rfl | rfl | rfl | rfl | rfl <;> exact ⟨_, rfl⟩
            obtain ⟨y, hy1, hy2⟩ := at_lt (xs := ([V.int (-1), V.int 1, V.int 2, V.int (-2), V.int (-i - 1)] : List V)) (i := (r2 : Int)) (by omega) hr3
            obtain ⟨z, rfl⟩ := hall y (List.mem_of_getElem? hy1)
            walk_at "g"
            exact q H3 _ (D3.mono (by omega)) (kd1.trans ((KD.of k2).trans (D2.kd D3 o3))) Dat.int
          · walk_at "g"
            refine ⟨d, c, _, rfl, D1, by omega, fun H2 y D2 k2 hy => q H2 y (D2.mono (by omega)) (kd1.trans k2) (hy.mono (by omega))⟩
        · walk_at "g"
          refine ⟨d, c, _, rfl, D1, by omega, fun H2 y D2 k2 hy => q H2 y (D2.mono (by omega)) (kd1.trans k2) (hy.mono (by omega))⟩
      walk_at "g"
      rcases hx1.cases with ⟨a', ta, hne⟩ | ⟨p, xs, rfl, ep, hxl, hxs⟩
      · refine w_isTup ta ?_
        rw [decide_eq_false hne]
        walk_at "g"
        refine w_seq ?_
        walk_at "g"
        refine ⟨x, ax, rfl, tx, ?_⟩
        walk_at "g"
        refine w_ite (fun hi => ?_) (fun hi => ?_)
        · obtain ⟨i, rfl⟩ := tx.isInt hi
          walk_at "g"
          refine w_ite (fun hr2 => ?_) (fun hr2 => ?_)
          · walk_at "g"
            refine w_new fun l H2 hl2 e2 k2 => ?_
            have D2 := D1.kp (M := []) (Kp.of k2) (by simp) (by simp)
            obtain ⟨nld, _⟩ := D1.ne1 hl2
            walk_at "g"
            refine w_draw D2 (by omega) (by decide) (by decide) fun r2 H3 hr3 D3 o3 => ?_
            have e3 := o3.get nld e2
            have hall : ∀ y ∈ ([V.int (-1), V.int 1, V.int 2, V.int (-2), V.int (-i - 1)] : List V), ∃ z, y = .int z := by
              intro y hy
              simp only [List.mem_cons, List.not_mem_nil, or_false] at hy
              rcases hy with rfl | rfl | rfl | rfl | rfl <;> exact ⟨_, rfl⟩
            obtain ⟨y, hy1, hy2⟩ := at_lt (xs := ([V.int (-1), V.int 1, V.int 2, V.int (-2), V.int (-i - 1)] : List V)) (i := (r2 : Int)) (by omega) hr3
            obtain ⟨z, rfl⟩ := hall y (List.mem_of_getElem? hy1)
            walk_at "g"
            exact q H3 _ (D3.mono (by omega)) (kd1.trans ((KD.of k2).trans (D2.kd D3 o3))) Dat.int
          · walk_at "g"
            refine ⟨d, c, _, rfl, D1, by omega, fun H2 y D2 k2 hy => q H2 y (D2.mono (by omega)) (kd1.trans k2) (hy.mono (by omega))⟩
        · walk_at "g"
          refine ⟨d, c, _, rfl, D1, by omega, fun H2 y D2 k2 hy => q H2 y (D2.mono (by omega)) (kd1.trans k2) (hy.mono (by omega))⟩
      walk_at "g"
      have lsz : ∀ m : Nat, m ≤ 3000 → m ≤ sizeLine := fun m hm => Nat.le_trans hm (by decide)
      refine w_seq ?_
      walk_at "g"
      refine w_ite (fun hr1' => ?_) (fun hr1' => ?_)
      · walk_at "g"
        refine w_listT (.of ep) fun l H2 hl2 e2 k2 => ?_
        exact q H2 _ ((D1.kp (M := []) (Kp.of k2) (by simp) (by simp)).mono (by omega)) (kd1.trans (KD.of k2)) (.leaf (.lst e2) (by decide))
      walk_at "g"
      refine w_seq ?_
      walk_at "g"
      refine w_ite (fun hl0 => ?_) (fun hl0 => ?_)
      · walk_at "g"
        refine ⟨d, c, _, rfl, D1, by omega, fun H2 y D2 k2 hy => ?_⟩
        walk_at "g"
        refine w_new fun o H3 ho e3 k3 => ?_
        refine q H3 _ ((D2.kp (M := []) (Kp.of k3) (by simp) (by simp)).mono (by omega)) (kd1.trans (k2.trans (KD.of k3))) (.tup e3 (by simp only [List.length_cons, List.length_nil]; omega) fun z hz => ?_)
        have e : z = y := by simpa using hz
        subst e
        exact (hy.kd (KD.of k3)).mono (by omega)
      walk_at "g"
      refine w_draw D1 (by omega) (by omega) (by omega) fun at' H2 hat D2 o2 => ?_
      have kd2 := D1.kd D2 o2
      have ep2 := kd2.t _ _ ep
      have hxs2 : ∀ y ∈ xs, Dat (B + 1) H2 y := fun y hy => ((hxs y hy).kd kd2).mono (by omega)
      have hat' : at' < xs.length := by omega
      walk_at "g"
      refine w_seq ?_
      walk_at "g"
      refine w_ite (fun hr2 => ?_) (fun hr2 => ?_)
      · walk_at "g"
        refine w_slAt ep2 fun a1 H3 e3 k3 => ?_
        have ep3 := k3 _ _ ep2
        walk_at "g"
        refine w_slAt ep3 fun a2 H4 e4 k4 => ?_
        have e3' := k4 _ _ e3
        have l1 := cut_to xs (i := (at' : Int)) (by omega)
        have l2 := cut_from xs (i := (at' : Int) + 1) (by omega)
        walk_at "g"
        refine w_catAt e3' e4 (lsz _ (by omega)) fun a3 H5 e5 k5 => ?_
        have k25 : Same H2 H5 := Same.trans k3 (Same.trans k4 k5)
        refine q H5 _ ((D2.kp (M := []) (Kp.of k25) (by simp) (by simp)).mono (by omega)) (kd1.trans (kd2.trans (KD.of k25))) (.tup e5 (by rw [List.length_append]; omega) fun z hz => ?_)
        rcases List.mem_append.mp hz with h | h
        · exact (hxs2 z (cut_mem h)).kd (KD.of k25)
        · exact (hxs2 z (cut_mem h)).kd (KD.of k25)
      walk_at "g"
      refine w_seq ?_
      walk_at "g"
      refine w_ite (fun hr3 => ?_) (fun hr3 => ?_)
      · walk_at "g"
        refine w_slAt ep2 fun a1 H3 e3 k3 => ?_
        have ep3 := k3 _ _ ep2
        walk_at "g"
        refine w_slAt ep3 fun a2 H4 e4 k4 => ?_
        have e3' := k4 _ _ e3
        have l1 := cut_to xs (i := (at' : Int) + 1) (by omega)
        have l2 := cut_from xs (i := (at' : Int)) (by omega)
        walk_at "g"
        refine w_catAt e3' e4 (lsz _ (by omega)) fun a3 H5 e5 k5 => ?_
        have k25 : Same H2 H5 := Same.trans k3 (Same.trans k4 k5)
        refine q H5 _ ((D2.kp (M := []) (Kp.of k25) (by simp) (by simp)).mono (by omega)) (kd1.trans (kd2.trans (KD.of k25))) (.tup e5 (by rw [List.length_append]; omega) fun z hz => ?_)
        rcases List.mem_append.mp hz with h | h
        · exact (hxs2 z (cut_mem h)).kd (KD.of k25)
        · exact (hxs2 z (cut_mem h)).kd (KD.of k25)
      walk_at "g"
      refine w_seq ?_
      walk_at "g"
      obtain ⟨u, hu1, hu2⟩ := at_lt (xs := xs) (i := (at' : Int)) (by omega) (by omega)
      have hum : u ∈ xs := List.mem_of_getElem? hu1
      refine w_ite (fun hr4 => ?_) (fun hr4 => ?_)
      · walk_at "g"
        refine w_slAt ep2 fun a1 H3 e3 k3 => ?_
        have ep3 := k3 _ _ ep2
        walk_at "g"
        refine w_slAt ep3 fun a2 H4 e4 k4 => ?_
        have e3' := k4 _ _ e3
        have l1 := cut_to xs (i := (at' : Int)) (by omega)
        have l2 := cut_some xs (i := (at' : Int) + 1) (j := (at' : Int) + 2) (by omega) (by omega)
        walk_at "g"
        refine w_catAt e3' e4 (lsz _ (by omega)) fun a3 H5 e5 k5 => ?_
        have k25 : Same H2 H5 := Same.trans k3 (Same.trans k4 k5)
        have ep5 := k25 _ _ ep2
        walk_at "g"
        refine w_new fun a4 H6 h6 e6 k6 => ?_
        have e5' := k6 _ _ e5
        walk_at "g"
        refine w_catAt e5' e6 (lsz _ (by rw [List.length_append]; simp only [List.length_cons, List.length_nil]; omega)) fun a5 H7 e7 k7 => ?_
        have k27 : Same H2 H7 := Same.trans k25 (Same.trans k6 k7)
        have ep7 := k27 _ _ ep2
        walk_at "g"
        refine w_slAt ep7 fun a6 H8 e8 k8 => ?_
        have e7' := k8 _ _ e7
        have l3 := cut_from xs (i := (at' : Int) + 2) (by omega)
        walk_at "g"
        refine w_catAt e7' e8 (lsz _ (by rw [List.length_append, List.length_append]; simp only [List.length_cons, List.length_nil]; omega)) fun a7 H9 e9 k9 => ?_
        have k29 : Same H2 H9 := Same.trans k27 (Same.trans k8 k9)
        refine q H9 _ ((D2.kp (M := []) (Kp.of k29) (by simp) (by simp)).mono (by omega)) (kd1.trans (kd2.trans (KD.of k29))) (.tup e9 (by rw [List.length_append, List.length_append, List.length_append]; simp only [List.length_cons, List.length_nil]; omega) fun z hz => ?_)
        have hz' : z ∈ xs := by
          rcases List.mem_append.mp hz with h | h
          · rcases List.mem_append.mp h with h | h
            · rcases List.mem_append.mp h with h | h
              · exact cut_mem h
              · exact cut_mem h
            · have e : z = u := by simpa using h
              subst e
              exact hum
          · exact cut_mem h
        exact (hxs2 z hz').kd (KD.of k29)
      walk_at "g"
      refine w_slAt ep2 fun a1 H3 e3 k3 => ?_
      have ep3 := k3 _ _ ep2
      have l1 := cut_to xs (i := (at' : Int)) (by omega)
      walk_at "g"
      refine ⟨d, c, _, B, u, by rw [show (((k + 1 : Nat) : Int) - 1) = (k : Int) by omega]; rfl, D2.kp (M := []) (Kp.of k3) (by simp) (by simp), by omega, ((hxs u hum).kd kd2).kd (KD.of k3), hB4, hB, fun H4 y D4 k4 hy => ?_⟩
      have e3' := k4.t _ _ e3
      walk_at "g"
      refine w_new fun a4 H6 h6 e6 k6 => ?_
      have e5' := k6 _ _ e3'
      walk_at "g"
      refine w_catAt e5' e6 (lsz _ (by simp only [List.length_cons, List.length_nil]; omega)) fun a5 H7 e7 k7 => ?_
      have k47 : Same H4 H7 := Same.trans k6 k7
      have ep7 := k47 _ _ (k4.t _ _ ep3)
      walk_at "g"
      refine w_slAt ep7 fun a6 H8 e8 k8 => ?_
      have e7' := k8 _ _ e7
      have l3 := cut_from xs (i := (at' : Int) + 1) (by omega)
      walk_at "g"
      refine w_catAt e7' e8 (lsz _ (by rw [List.length_append]; simp only [List.length_cons, List.length_nil]; omega)) fun a7 H9 e9 k9 => ?_
      have k49 : Same H4 H9 := Same.trans k47 (Same.trans k8 k9)
      refine q H9 _ ((D4.kp (M := []) (Kp.of k49) (by simp) (by simp)).mono (by omega)) (kd1.trans (kd2.trans ((KD.of k3).trans (k4.trans (KD.of k49))))) (.tup e9 (by rw [List.length_append, List.length_append]; simp only [List.length_cons, List.length_nil]; omega) fun z hz => ?_)
      have kk : KD H2 H9 := (KD.of k3).trans (k4.trans (KD.of k49))
      rcases List.mem_append.mp hz with h | h
      · rcases List.mem_append.mp h with h | h
        · exact (hxs2 z (cut_mem h)).kd kk
        · have e : z = y := by simpa using h
          subst e
          exact hy.kd (KD.of k49)
      · exact (hxs2 z (cut_mem h)).kd kk
end
def spLaw (K : PySem.W.Frag) : Sp := fun vs H Q _ => ∃ (a : Addr) (ns : List Int), vs = [.ref a] ∧ SqL K H a (ns.map V.int) ∧ ns.length ≤ 63 ∧ ∀ H', Q (.bl true) H'
theorem dat_back {B : Nat} {H H' : Hp} {p : Addr} {xs : List V} (h : Dat B H (.ref p)) (k : KD H H') (e : H' p = some (.tup xs)) : H p = some (.tup xs) ∧ ∀ y ∈ xs, Dat B H y := by
  rcases h.cases with ⟨a, t, hne⟩ | ⟨p', ys, e1, e2, _, h2⟩
  · exact absurd ((t.kd k).ofTup e) hne
  · cases e1
    have := k.t _ _ e2
    rw [e] at this
    cases this
    exact ⟨e2, h2⟩
theorem ShV.fwd {H H' : Hp} {x : V} (h : ShV H x) (k : KD H H') : ShV H' x := by
  obtain ⟨t, a, b, ns, rfl, h1, h2, h3, h4, h5, b', ps, rfl, ⟨p1, p2⟩, h6⟩ := h
  exact ⟨t, a, _, ns, rfl, k.t _ _ h1, k.t _ _ h2, h3, h4, h5, b', ps, rfl, ⟨k.t _ _ p1, fun q hq => k.t _ _ (p2 q hq)⟩, h6⟩
theorem ShV.back {B : Nat} {H H' : Hp} {x : V} (hd : Dat B H x) (k : KD H H') (h : ShV H' x) : ShV H x := by
  obtain ⟨t, a, b, ns, rfl, h1, h2, h3, h4, h5, b', ps, rfl, ⟨p1, p2⟩, h6⟩ := h
  obtain ⟨e1, d1⟩ := dat_back hd k h1
  obtain ⟨e2, _⟩ := dat_back (d1 (.ref a) (by simp)) k h2
  obtain ⟨e3, d3⟩ := dat_back (d1 (.ref b') (by simp)) k p1
  exact ⟨t, a, _, ns, rfl, e1, e2, h3, h4, h5, b', ps, rfl, ⟨e3, fun q hq => (dat_back (d3 (.ref q.1) (List.mem_map.mpr ⟨q, hq, rfl⟩)) k (p2 q hq)).1⟩, h6⟩
section
variable {P : Program} {w : World} {K : PySem.W.Frag} {mg : Str → Option Value} {base : Heap}
theorem ok_law {f_is_whole f_is_rising f_are_links f_check f_law_deck f_law_mixed f_law_draw f_law_int f_law_shape f_law_odd f_law_bent f_law_rising f_law_is_shape f C_NoShape C_HouseError C_TooMany : Addr} {fd_is_whole fd_is_rising fd_are_links fd_check fd_law_deck fd_law_mixed fd_law_draw fd_law_int fd_law_shape fd_law_odd fd_law_bent fd_law_rising fd_law_is_shape fd : FuncData} (T : Txt K mg)
    (D_is_whole : Df K mg "is_whole" s_is_whole ["thing"] f_is_whole fd_is_whole) (D_is_rising : Df K mg "is_rising" s_is_rising ["thing"] f_is_rising fd_is_rising) (D_are_links : Df K mg "are_links" s_are_links ["versions", "thing"] f_are_links fd_are_links) (D_check : Df K mg "check" s_check ["thing"] f_check fd_check)
    (D_law_deck : Df K mg "_law_deck" s_law_deck ["_law_script"] f_law_deck fd_law_deck) (D_law_mixed : Df K mg "_law_mixed" s_law_mixed ["_law_cell", "_law_turn"] f_law_mixed fd_law_mixed) (D_law_draw : Df K mg "_law_draw" s_law_draw ["_law_deck_here", "_law_many"] f_law_draw fd_law_draw)
    (D_law_int : Df K mg "_law_int" s_law_int ["_law_thing"] f_law_int fd_law_int) (D_law_shape : Df K mg "_law_shape" s_law_shape ["_law_deck_here", "_law_most"] f_law_shape fd_law_shape)
    (D_law_odd : Df K mg "_law_odd" s_law_odd ["_law_deck_here"] f_law_odd fd_law_odd) (D_law_bent : Df K mg "_law_bent" s_law_bent ["_law_deck_here", "_law_thing", "_law_depth"] f_law_bent fd_law_bent)
    (D_law_rising : Df K mg "_law_rising" s_law_rising ["_law_thing"] f_law_rising fd_law_rising) (D_law_is_shape : Df K mg "_law_is_shape" s_law_is_shape ["_law_thing"] f_law_is_shape fd_law_is_shape)
    (D_law : Df K mg "law" s_law ["_law_script"] f fd) (X_NoShape : Exn K mg "NoShape" C_NoShape) (g_HouseError : mg "HouseError" = some (.ref C_HouseError)) (g_TooMany : mg "TooMany" = some (.ref C_TooMany)) (EC_NoShape : ExcC K C_NoShape)
    (q_kn : PySem.W.kitOne K (.ref C_NoShape) (.ref C_NoShape) = some true) (q_kv : PySem.W.kitOne K (.ref C_NoShape) (.type "ValueError") = some true) (q_kt : PySem.W.kitOne K (.ref C_NoShape) (.ref C_TooMany) = some false) (xm : PySem.W.exmOne K (.ref C_NoShape) (.ref C_HouseError) = some true) : FnOk P w K mg base CX0 8 f fd ["_law_script"] (spLaw K) := by
  have g_NoShape := X_NoShape.g
  have G_law_deck : FnOk P w K mg base CX0 1 f_law_deck fd_law_deck ["_law_script"] (spDeck K) := ok_deck T D_law_deck.fn
  have G_law_draw : FnOk P w K mg base CX0 2 f_law_draw fd_law_draw ["_law_deck_here", "_law_many"] spDraw := ok_draw T D_law_draw.fn D_law_mixed
  have G_law_shape : FnOk P w K mg base CX0 3 f_law_shape fd_law_shape ["_law_deck_here", "_law_most"] spShape := ok_shape T D_law_shape.fn D_law_mixed D_law_draw
  have G_law_odd : FnOk P w K mg base CX0 3 f_law_odd fd_law_odd ["_law_deck_here"] spOdd := ok_odd T D_law_odd.fn D_law_mixed D_law_draw
  have G_law_bent : FnOk P w K mg base CX0 7 f_law_bent fd_law_bent ["_law_deck_here", "_law_thing", "_law_depth"] (spBent 3) := ok_bent T D_law_bent D_law_mixed D_law_draw D_law_int D_law_odd 3
  have G_law_is_shape : FnOk P w K mg base CX0 3 f_law_is_shape fd_law_is_shape ["_law_thing"] spIsShape := ok_isshape T D_law_is_shape.fn D_law_int D_law_rising
  have G_check : FnOk P w K mg base (L2.CX P w) 3 f_check fd_check ["thing"] (spCheckG C_NoShape) := ok_checkG T D_check.fn D_is_whole D_is_rising D_are_links X_NoShape
  refine D_law.fn.ok sc_law (fun vs H Q E h => ?_) (fun cdv A outer s H vs Q E hr h => ?_)
  · obtain ⟨a, ns, rfl, _⟩ := h
    rfl
  · obtain ⟨a0, ns0, rfl, hS0, hl0, q⟩ := h
    have hu := hu_of hr
    refine ⟨_,
      (pss_cons
        (ps_set (i := 1) sc_law.nd rfl (.inl rfl) (pe_call G_law_deck (hr.mono (by omega)) (by rfl) D_law_deck.g D_law_deck.fn.kp D_law_deck.b .nil pass0 (pa_cons (pv 0) pa_nil)))
      (pss_cons
        (ps_set (i := 2) sc_law.nd rfl (.inl rfl) (pe_call G_law_draw (hr.mono (by omega)) (by rfl) D_law_draw.g D_law_draw.fn.kp D_law_draw.b .nil pass0 (pa_cons (pv 1) (pa_cons pe_int pa_nil))))
      (pss_cons
        (ps_if (pt_cmpR op_eq (pv 2) pe_int (nomark _))
          (pss_one
            (ps_set (i := 3) sc_law.nd rfl (.inl rfl) (pe_call G_law_odd (hr.mono (by omega)) (by rfl) D_law_odd.g D_law_odd.fn.kp D_law_odd.b .nil pass0 (pa_cons (pv 1) pa_nil))))
          (pss_one
            (ps_if (pt_cmpR op_eq (pv 2) pe_int (nomark _))
              (pss_cons
                (ps_set (i := 3) sc_law.nd rfl (.inl rfl) (pe_tup (pa_cons (pe_tupRg rfl (by rfl) T.n_tuple (prg_1 (by rfl) T.n_range (pe_op op_add pe_int (pe_call G_law_draw (hr.mono (by omega)) (by rfl) D_law_draw.g D_law_draw.fn.kp D_law_draw.b .nil pass0 (pa_cons (pv 1) (pa_cons pe_int pa_nil)))))) (pa_cons (pe_tup pa_nil) pa_nil))))
              (pss_one
                (ps_if (pt_cmpR op_eq (pe_call G_law_draw (hr.mono (by omega)) (by rfl) D_law_draw.g D_law_draw.fn.kp D_law_draw.b .nil pass0 (pa_cons (pv 1) (pa_cons pe_int pa_nil))) pe_int (nomark _))
                  (pss_cons
                    (ps_setLc (i := 4) (own := [("_law_k", 5)]) (g := (gName 5)) rfl sc_law.nd rfl rfl (sw_true rfl rfl rfl (by decide +kernel)) (pi_range1 (by rfl) T.n_range (pa_cons (pe_op op_add pe_int (pe_call G_law_draw (hr.mono (by omega)) (by rfl) D_law_draw.g D_law_draw.fn.kp D_law_draw.b .nil pass0 (pa_cons (pv 1) (pa_cons pe_int pa_nil)))) pa_nil)) (blkOk_by (own := [("_law_k", 5)]) (N := N_law) (sc := defScope s_law) (by decide +kernel)) (fun _ _ _ _ _ => (pg_name (i := 5) sc_law.nd rfl (.inl rfl))) (fun _ _ _ _ _ => pts_nil) (fun _ _ _ _ _ => (pe_tup (pa_cons pe_int (pa_cons pe_int pa_nil)))))
                  (pss_cons
                    (ps_for PassesOwn.never rfl (pi_range1 (by rfl) T.n_range (pa_cons (pe_callB (r := rLen K) c_len (by rfl) T.n_len (by decide +kernel) (pa_cons (pv 4) pa_nil)) pa_nil)) (pg_name (i := 5) sc_law.nd rfl (.inl rfl))
                      (pss_one
                        (ps_asg (pe_tup (pa_cons (pe_op op_add pe_int (pe_op op_fdivW (pv 5) pe_int)) (pa_cons (pe_op op_mod (pv 5) pe_int) pa_nil))) (pg_sub (pv 4) (pv 5) set_list))))
                  (pss_one
                    (ps_set (i := 3) sc_law.nd rfl (.inl rfl) (pe_tup (pa_cons (pe_tupRg rfl (by rfl) T.n_tuple (prg_1 (by rfl) T.n_range pe_int)) (pa_cons (pe_callTy (r := rTupOf K) c_tupOf (by rfl) T.n_tuple (by decide +kernel) (pa_cons (pv 4) pa_nil)) pa_nil)))))))
                  pss_nil)))
              (pss_cons
                (ps_set (i := 3) sc_law.nd rfl (.inl rfl) (pe_call G_law_shape (hr.mono (by omega)) (by rfl) D_law_shape.g D_law_shape.fn.kp D_law_shape.b .nil pass0 (pa_cons (pv 1) (pa_cons pe_int pa_nil))))
              (pss_one
                (ps_for PassesOwn.never rfl (pi_range1 (by rfl) T.n_range (pa_cons (pe_op op_add pe_int (pe_call G_law_draw (hr.mono (by omega)) (by rfl) D_law_draw.g D_law_draw.fn.kp D_law_draw.b .nil pass0 (pa_cons (pv 1) (pa_cons pe_int pa_nil)))) pa_nil)) (pg_name (i := 5) sc_law.nd rfl (.inl rfl))
                  (pss_one
                    (ps_set (i := 3) sc_law.nd rfl (.inl rfl) (pe_call G_law_bent (hr.mono (by omega)) (by rfl) D_law_bent.g D_law_bent.fn.kp D_law_bent.b .nil pass0 (pa_cons (pv 1) (pa_cons (pv 3) (pa_cons pe_int pa_nil))))))))))))
      (pss_cons
        (ps_set (i := 6) sc_law.nd rfl (.inl rfl) (pe_call G_law_is_shape (hr.mono (by omega)) (by rfl) D_law_is_shape.g D_law_is_shape.fn.kp D_law_is_shape.b .nil pass0 (pa_cons (pv 3) pa_nil)))
      (pss_cons
        (ps_set (i := 7) sc_law.nd rfl (.inl rfl) pe_non)
      (pss_cons
        (ps_set (i := 8) sc_law.nd rfl (.inl rfl) pe_non)
      (pss_cons
        (p_tryAs (i := 9) rfl rfl sc_law.nd rfl rfl ⟨rfl, by decide, .inl g_HouseError⟩ (fun W pn xe tk po =>
          (pss_one
            (ps_set (i := 7) sc_law.nd rfl (.inl rfl) (pe_callS G_check (hr.mono (by omega)) (by rfl) D_check.g D_check.fn.kp D_check.b (fun σ => passAt tk σ) (pa_cons (pv 3) pa_nil)))))
        (fun a oe cls d pn hz hf => pss_guard (P := cls = .ref C_NoShape ∧ d = none) (fun hg =>
          (pss_one
            (ps_set (i := 8) sc_law.nd rfl (.inl rfl) (pe_and (pe_callB (r := rIsE K C_NoShape a) (call_isE EC_NoShape (zc_of hg hz) hf) (by rfl) T.n_isinstance (by decide +kernel) (pa_cons (pv 9) (pa_cons (pe_glob (v := .ref C_NoShape) rfl g_NoShape rfl) pa_nil))) (pe_and (pe_callB (r := rIsE K C_NoShape a) (call_isE EC_NoShape (zc_of hg hz) hf) (by rfl) T.n_isinstance (by decide +kernel) (pa_cons (pv 9) (pa_cons (pe_bltn (v := .ty "ValueError") (u := .type "ValueError") (by rfl) T.n_ValueError (by decide +kernel) rfl) pa_nil))) (pe_one (pe_not (pe_callB (r := rIsE K C_NoShape a) (call_isE EC_NoShape (zc_of hg hz) hf) (by rfl) T.n_isinstance (by decide +kernel) (pa_cons (pv 9) (pa_cons (pe_glob (v := .ref C_TooMany) rfl g_TooMany rfl) pa_nil))))))))))))
      (pss_cons
        (ps_if (pt_val (pv 6))
          (pss_one
            (ps_ret (pe_and (pe_cmpR o_isN (pv 8) pe_non (nomark _)) (pe_one (pe_cmpR o_isB (pv 7) pe_bl (nomark _))))))
          pss_nil)
      (pss_one
        (ps_ret (pe_cmpR o_isB (pv 8) pe_bl (nomark _))))))))))))
      , ?_⟩
    rw [show L2.start N_law [V.ref a0] = [some (.ref a0), none, none, none, none, none, none, none, none, none] from rfl]
    walk_at "x"
    refine w_deck hS0 fun H1 d c k1 hd hc D1 => ?_
    walk_at "g"
    refine w_draw D1 (by decide) (by decide) (by decide) fun road H2 hroad D2 o2 => ?_
    walk_at "g"
    refine w_seqJ (fun σ' H' => ∃ (x : V) (B : Nat) (y4 y5 : Option V), σ' = [some (.ref a0), some (.ref d), some (.int road), some x, y4, y5, none, none, none, none] ∧ Dat B H' x) ?_ ?_
    · rintro σ' H3 ⟨x, B, y4, y5, rfl, hx⟩
      walk_at "g"
      refine ⟨x, B, rfl, hx, fun hV H4 k4 => ?_, fun hV H4 k4 => ?_⟩
      · have hx4 := hx.kd (KD.of k4)
        have hV4 := hV.fwd (KD.of k4)
        walk_at "g"
        refine w_seq ?_
        refine w_tryA ?_
        walk_at "g"
        refine ⟨x, B, rfl, hx4, fun _ H5 k5 => ?_, fun hn => absurd hV4 hn⟩
        walk_at "g"
        refine w_seq ?_
        walk_at "g"
        refine w_yes rfl ?_
        walk_at "g"
        exact q _
      · have hx4 := hx.kd (KD.of k4)
        have hV4 : ¬ ShV H4 x := fun z => hV (z.back hx (KD.of k4))
        walk_at "g"
        refine w_seq ?_
        refine w_tryA ?_
        walk_at "g"
        refine ⟨x, B, rfl, hx4, fun z => absurd z hV4, fun _ H5 k5 => ?_⟩
        refine ⟨true, xm, fun _ ea hea => ?_, fun z => nomatch z⟩
        refine w_guard ⟨rfl, rfl⟩ ?_
        walk_at "g"
        refine w_isE q_kn ?_
        walk_at "g"
        refine w_isEt q_kv ?_
        walk_at "g"
        refine w_isE q_kt ?_
        walk_at "g"
        refine w_seq ?_
        walk_at "g"
        exact q _
    · intro U hU
      walk_at "g"
      refine w_ite (fun h0 => ?_) (fun h0 => ?_)
      · walk_at "g"
        refine ⟨d, c, _, rfl, D2, by decide, fun H3 y D3 k3 hy => ?_⟩
        walk_at "g"
        exact hU _ _ ⟨y, 4, _, _, rfl, hy⟩
      walk_at "g"
      refine w_ite (fun h1 => ?_) (fun h1 => ?_)
      · walk_at "g"
        show tOp _ _ _ _ _ fun x H1 => ∃ j, x = .int j ∧ _
        walk_at "g"
        refine w_draw D2 (by decide) (by decide) (by decide) fun r H3 hr3 D3 o3 => ?_
        walk_at "g"
        refine ⟨_, rfl, ⟨by omega, by omega, by omega, by omega, by omega⟩, w_new fun t1 H4 ht1 e4 k4 => ?_⟩
        walk_at "g"
        refine w_new fun t2 H5 ht2 e5 k5 => ?_
        walk_at "g"
        refine w_new fun t3 H6 ht3 e6 k6 => ?_
        have D6 := D3.kp (M := []) (Kp.of (Same.trans k4 (Same.trans k5 k6))) (by simp) (by simp)
        have allI : ∀ {B : Nat} {H' : Hp} (a b : Int), ∀ y ∈ rgV a b, Dat B H' y := fun a b y hy => by
          unfold rgV at hy
          obtain ⟨i, _, rfl⟩ := List.mem_map.mp hy
          exact Dat.int
        have hd6 : Dat 3000 H6 (.ref t3) := .tup e6 (by simp only [List.length_cons, List.length_nil]; omega) fun y hy => by
          have hy' : y = .ref t1 ∨ y = .ref t2 := by simpa using hy
          rcases hy' with rfl | rfl
          · exact .tup (k6 _ _ (k5 _ _ e4)) (by rw [rgV_length]; omega) (allI _ _)
          · exact .tup (k6 _ _ e5) (by simp) (by simp)
        walk_at "g"
        refine w_draw D6 (by decide) (by decide) (by decide) fun r2 H7 hr7 D7 o7 => ?_
        walk_at "g"
        refine w_ite (fun h2 => ?_) (fun h2 => ?_)
        · walk_at "g"
          refine w_draw D7 (by decide) (by decide) (by decide) fun r3 H8 hr8 D8 o8 => ?_
          walk_at "g"
          refine lcp_rel (walk_range (lo := 0) (n := ((1990 : Int) + r3).toNat)) [] (fun _ y H' => ∃ p a b, y = V.ref p ∧ H' p = some (.tup [.int a, .int b])) (by omega) (fun i y H1' H2' k ⟨p, a, b, e, h⟩ => ⟨p, a, b, e, k _ _ h⟩) (fun _ _ => trivial) ?_ (by simp) ?_
          · rintro i y H9 H10 R hi k9 t9 ⟨rfl, rfl⟩ hR
            refine w_name ⟨rfl, ?_⟩
            walk_at "g"
            refine w_new fun p H11 hp ep k11 => ?_
            exact hR _ _ ⟨p, 0, 0, rfl, ep⟩ (Kp.of k11) (KT.of k11)
          · intro L H9 ys hyl hyp hL k9 t9 eL
            walk_at "g"
            refine lp_range (fun i σ H' => ∃ (y5 : Option V) (zs : List V), σ = [some (.ref a0), some (.ref d), some (.int road), some (.ref t3), some (.ref L), y5, none, none, none, none] ∧ H' L = some (.lst zs) ∧ zs.length = ys.length ∧ ∀ z ∈ zs, ∃ p a b, z = V.ref p ∧ H' p = some (.tup [.int a, .int b])) ⟨_, ys, rfl, eL, rfl, fun z hz => by
              obtain ⟨i, hi, ei⟩ := List.getElem_of_mem hz
              exact hyp i z (by rw [List.getElem?_eq_getElem hi, ei])⟩ ?_ ?_
            · rintro i σ H10 hi ⟨y5, zs, rfl, e10, hzl, hzp⟩
              walk_at "g"
              refine w_new fun p H11 hp ep k11 => ?_
              have e11 := k11 _ _ e10
              walk_at "g"
              refine w_setL (j := i) e11 (by
                unfold ixN
                rw [if_pos (by omega), if_pos (by omega)]
                simp) rfl fun H12 e12 o12 => ?_
              refine ⟨_, _, rfl, e12, by rw [List.length_set]; exact hzl, fun z hz => ?_⟩
              rcases List.mem_or_eq_of_mem_set hz with h | rfl
              · obtain ⟨p', a, b, e, h⟩ := hzp z h
                exact ⟨p', a, b, e, o12.tup e11 (k11 _ _ h)⟩
              · exact ⟨p, _, _, rfl, o12.tup e11 ep⟩
            · rintro σ H10 ⟨y5, zs, rfl, e10, hzl, hzp⟩
              walk_at "g"
              refine ⟨_, rfl, ⟨by omega, by omega, by omega, by omega, by omega⟩, w_new fun u1 H11 hu1 e11 k11 => ?_⟩
              have e10' := k11 _ _ e10
              walk_at "g"
              refine w_tupL (.of e10') fun u2 H12 hu2 e12 k12 => ?_
              walk_at "g"
              refine w_new fun u3 H13 hu3 e13 k13 => ?_
              have kk : Same H10 H13 := Same.trans k11 (Same.trans k12 k13)
              walk_at "g"
              refine hU _ _ ⟨.ref u3, 3000, _, _, rfl, .tup e13 (by simp only [List.length_cons, List.length_nil]; omega) fun y hy => ?_⟩
              have hy' : y = .ref u1 ∨ y = .ref u2 := by simpa using hy
              rcases hy' with rfl | rfl
              · exact .tup (k13 _ _ (k12 _ _ e11)) (by rw [rgV_length]; omega) (allI _ _)
              · refine .tup (k13 _ _ e12) (by omega) fun z hz => ?_
                obtain ⟨p, a, b, rfl, h⟩ := hzp z hz
                refine .tup (kk _ _ h) (by simp only [List.length_cons, List.length_nil]; omega) fun v hv => ?_
                have hv' : v = .int a ∨ v = .int b := by simpa using hv
                rcases hv' with rfl | rfl
                · exact Dat.int
                · exact Dat.int
        · walk_at "g"
          exact hU _ _ ⟨.ref t3, 3000, _, _, rfl, hd6.kd (D6.kd D7 o7)⟩
      · walk_at "g"
        refine ⟨d, c, _, 6, rfl, D2, by decide, by decide, fun H3 t ns ps D3 k3 hS S hl hpl => ?_⟩
        have hd0 : Dat 600 H3 (.ref t) := by
          obtain ⟨a, b, e1, e2, e3⟩ := hS
          refine .tup e1 (by simp only [List.length_cons, List.length_nil]; omega) fun y hy => ?_
          have hy' : y = .ref a ∨ y = .ref b := by simpa using hy
          rcases hy' with rfl | rfl
          · refine .tup e2 (by rw [List.length_map]; omega) fun z hz => ?_
            obtain ⟨i, _, rfl⟩ := List.mem_map.mp hz
            exact Dat.int
          · refine .tup e3.1 (by rw [List.length_map]; omega) fun z hz => ?_
            obtain ⟨q', hq', rfl⟩ := List.mem_map.mp hz
            refine .tup (e3.2 q' hq') (by simp only [List.length_cons, List.length_nil]; omega) fun u hu' => ?_
            have hu2 : u = .int q'.2.1 ∨ u = .int q'.2.2 := by simpa using hu'
            rcases hu2 with rfl | rfl
            · exact Dat.int
            · exact Dat.int
        walk_at "g"
        refine w_draw D3 (by unfold MOSTD; omega) (by decide) (by decide) fun r H4 hr4 D4 o4 => ?_
        have hd4 := hd0.kd (D3.kd D4 o4)
        walk_at "g"
        refine lp_range (fun i σ H' => ∃ (x : V) (y5 : Option V), σ = [some (.ref a0), some (.ref d), some (.int road), some x, none, y5, none, none, none, none] ∧ Dat (600 + i) H' x ∧ Deck H' d c (20000 + 16 * i)) ⟨_, _, rfl, hd4, D4.mono (by omega)⟩ ?_ ?_
        · rintro i σ H5 hi ⟨x, y5, rfl, hx, D5⟩
          walk_at "g"
          refine ⟨d, c, _, 600 + i, x, rfl, D5, by unfold MOSTD; omega, hx, by omega, by omega, fun H6 y D6 k6 hy => ?_⟩
          walk_at "g"
          exact ⟨y, _, rfl, hy, D6.mono (by omega)⟩
        · rintro σ H5 ⟨x, y5, rfl, hx, D5⟩
          exact hU _ _ ⟨x, _, _, _, rfl, hx⟩
end
theorem all_mk {l : PySem.W.OpenLaw} {w : World} {K : PySem.W.Frag} {h : Heap} {mg : Str → Option Value} {fa f_is_whole f_is_rising f_are_links f_check f_law_deck f_law_mixed f_law_draw f_law_int f_law_shape f_law_odd f_law_bent f_law_rising f_law_is_shape f_law : Addr} (X : K.In h) (G : h.Ns mainGlobals mg) (hfa : mg "law" = some (.ref fa))
    {od_is_whole an_is_whole : Option Addr} {sl_is_whole : Array (Option Value)} {oc_is_whole kV_is_whole dc_is_whole pm_is_whole cd_is_whole ct_is_whole : Value}
    (a_is_whole : PySem.W.nsIn K mainGlobals "is_whole" = some (some (.ref f_is_whole))) (l_is_whole : K.lookup f_is_whole = some ⟨oc_is_whole, od_is_whole, .func (PySem.W.fnOf "is_whole" "is_whole" (defArgs s_is_whole) (defBody s_is_whole) (defScope s_is_whole) .none kV_is_whole dc_is_whole pm_is_whole an_is_whole cd_is_whole ct_is_whole), sl_is_whole⟩) (c_is_whole : PySem.W.codeIn K cd_is_whole "is_whole" = true) (k_is_whole : PySem.W.keepIn K (.ref f_is_whole) = true)
    {od_is_rising an_is_rising : Option Addr} {sl_is_rising : Array (Option Value)} {oc_is_rising kV_is_rising dc_is_rising pm_is_rising cd_is_rising ct_is_rising : Value}
    (a_is_rising : PySem.W.nsIn K mainGlobals "is_rising" = some (some (.ref f_is_rising))) (l_is_rising : K.lookup f_is_rising = some ⟨oc_is_rising, od_is_rising, .func (PySem.W.fnOf "is_rising" "is_rising" (defArgs s_is_rising) (defBody s_is_rising) (defScope s_is_rising) .none kV_is_rising dc_is_rising pm_is_rising an_is_rising cd_is_rising ct_is_rising), sl_is_rising⟩) (c_is_rising : PySem.W.codeIn K cd_is_rising "is_rising" = true) (k_is_rising : PySem.W.keepIn K (.ref f_is_rising) = true)
    {od_are_links an_are_links : Option Addr} {sl_are_links : Array (Option Value)} {oc_are_links kV_are_links dc_are_links pm_are_links cd_are_links ct_are_links : Value}
    (a_are_links : PySem.W.nsIn K mainGlobals "are_links" = some (some (.ref f_are_links))) (l_are_links : K.lookup f_are_links = some ⟨oc_are_links, od_are_links, .func (PySem.W.fnOf "are_links" "are_links" (defArgs s_are_links) (defBody s_are_links) (defScope s_are_links) .none kV_are_links dc_are_links pm_are_links an_are_links cd_are_links ct_are_links), sl_are_links⟩) (c_are_links : PySem.W.codeIn K cd_are_links "are_links" = true) (k_are_links : PySem.W.keepIn K (.ref f_are_links) = true)
    {od_check an_check : Option Addr} {sl_check : Array (Option Value)} {oc_check kV_check dc_check pm_check cd_check ct_check : Value}
    (a_check : PySem.W.nsIn K mainGlobals "check" = some (some (.ref f_check))) (l_check : K.lookup f_check = some ⟨oc_check, od_check, .func (PySem.W.fnOf "check" "check" (defArgs s_check) (defBody s_check) (defScope s_check) .none kV_check dc_check pm_check an_check cd_check ct_check), sl_check⟩) (c_check : PySem.W.codeIn K cd_check "check" = true) (k_check : PySem.W.keepIn K (.ref f_check) = true)
    {od_law_deck an_law_deck : Option Addr} {sl_law_deck : Array (Option Value)} {oc_law_deck kV_law_deck dc_law_deck pm_law_deck cd_law_deck ct_law_deck : Value}
    (a_law_deck : PySem.W.nsIn K mainGlobals "_law_deck" = some (some (.ref f_law_deck))) (l_law_deck : K.lookup f_law_deck = some ⟨oc_law_deck, od_law_deck, .func (PySem.W.fnOf "_law_deck" "_law_deck" (defArgs s_law_deck) (defBody s_law_deck) (defScope s_law_deck) .none kV_law_deck dc_law_deck pm_law_deck an_law_deck cd_law_deck ct_law_deck), sl_law_deck⟩) (c_law_deck : PySem.W.codeIn K cd_law_deck "_law_deck" = true) (k_law_deck : PySem.W.keepIn K (.ref f_law_deck) = true)
    {od_law_mixed an_law_mixed : Option Addr} {sl_law_mixed : Array (Option Value)} {oc_law_mixed kV_law_mixed dc_law_mixed pm_law_mixed cd_law_mixed ct_law_mixed : Value}
    (a_law_mixed : PySem.W.nsIn K mainGlobals "_law_mixed" = some (some (.ref f_law_mixed))) (l_law_mixed : K.lookup f_law_mixed = some ⟨oc_law_mixed, od_law_mixed, .func (PySem.W.fnOf "_law_mixed" "_law_mixed" (defArgs s_law_mixed) (defBody s_law_mixed) (defScope s_law_mixed) .none kV_law_mixed dc_law_mixed pm_law_mixed an_law_mixed cd_law_mixed ct_law_mixed), sl_law_mixed⟩) (c_law_mixed : PySem.W.codeIn K cd_law_mixed "_law_mixed" = true) (k_law_mixed : PySem.W.keepIn K (.ref f_law_mixed) = true)
    {od_law_draw an_law_draw : Option Addr} {sl_law_draw : Array (Option Value)} {oc_law_draw kV_law_draw dc_law_draw pm_law_draw cd_law_draw ct_law_draw : Value}
    (a_law_draw : PySem.W.nsIn K mainGlobals "_law_draw" = some (some (.ref f_law_draw))) (l_law_draw : K.lookup f_law_draw = some ⟨oc_law_draw, od_law_draw, .func (PySem.W.fnOf "_law_draw" "_law_draw" (defArgs s_law_draw) (defBody s_law_draw) (defScope s_law_draw) .none kV_law_draw dc_law_draw pm_law_draw an_law_draw cd_law_draw ct_law_draw), sl_law_draw⟩) (c_law_draw : PySem.W.codeIn K cd_law_draw "_law_draw" = true) (k_law_draw : PySem.W.keepIn K (.ref f_law_draw) = true)
    {od_law_int an_law_int : Option Addr} {sl_law_int : Array (Option Value)} {oc_law_int kV_law_int dc_law_int pm_law_int cd_law_int ct_law_int : Value}
    (a_law_int : PySem.W.nsIn K mainGlobals "_law_int" = some (some (.ref f_law_int))) (l_law_int : K.lookup f_law_int = some ⟨oc_law_int, od_law_int, .func (PySem.W.fnOf "_law_int" "_law_int" (defArgs s_law_int) (defBody s_law_int) (defScope s_law_int) .none kV_law_int dc_law_int pm_law_int an_law_int cd_law_int ct_law_int), sl_law_int⟩) (c_law_int : PySem.W.codeIn K cd_law_int "_law_int" = true) (k_law_int : PySem.W.keepIn K (.ref f_law_int) = true)
    {od_law_shape an_law_shape : Option Addr} {sl_law_shape : Array (Option Value)} {oc_law_shape kV_law_shape dc_law_shape pm_law_shape cd_law_shape ct_law_shape : Value}
    (a_law_shape : PySem.W.nsIn K mainGlobals "_law_shape" = some (some (.ref f_law_shape))) (l_law_shape : K.lookup f_law_shape = some ⟨oc_law_shape, od_law_shape, .func (PySem.W.fnOf "_law_shape" "_law_shape" (defArgs s_law_shape) (defBody s_law_shape) (defScope s_law_shape) .none kV_law_shape dc_law_shape pm_law_shape an_law_shape cd_law_shape ct_law_shape), sl_law_shape⟩) (c_law_shape : PySem.W.codeIn K cd_law_shape "_law_shape" = true) (k_law_shape : PySem.W.keepIn K (.ref f_law_shape) = true)
    {od_law_odd an_law_odd : Option Addr} {sl_law_odd : Array (Option Value)} {oc_law_odd kV_law_odd dc_law_odd pm_law_odd cd_law_odd ct_law_odd : Value}
    (a_law_odd : PySem.W.nsIn K mainGlobals "_law_odd" = some (some (.ref f_law_odd))) (l_law_odd : K.lookup f_law_odd = some ⟨oc_law_odd, od_law_odd, .func (PySem.W.fnOf "_law_odd" "_law_odd" (defArgs s_law_odd) (defBody s_law_odd) (defScope s_law_odd) .none kV_law_odd dc_law_odd pm_law_odd an_law_odd cd_law_odd ct_law_odd), sl_law_odd⟩) (c_law_odd : PySem.W.codeIn K cd_law_odd "_law_odd" = true) (k_law_odd : PySem.W.keepIn K (.ref f_law_odd) = true)
    {od_law_bent an_law_bent : Option Addr} {sl_law_bent : Array (Option Value)} {oc_law_bent kV_law_bent dc_law_bent pm_law_bent cd_law_bent ct_law_bent : Value}
    (a_law_bent : PySem.W.nsIn K mainGlobals "_law_bent" = some (some (.ref f_law_bent))) (l_law_bent : K.lookup f_law_bent = some ⟨oc_law_bent, od_law_bent, .func (PySem.W.fnOf "_law_bent" "_law_bent" (defArgs s_law_bent) (defBody s_law_bent) (defScope s_law_bent) .none kV_law_bent dc_law_bent pm_law_bent an_law_bent cd_law_bent ct_law_bent), sl_law_bent⟩) (c_law_bent : PySem.W.codeIn K cd_law_bent "_law_bent" = true) (k_law_bent : PySem.W.keepIn K (.ref f_law_bent) = true)
    {od_law_rising an_law_rising : Option Addr} {sl_law_rising : Array (Option Value)} {oc_law_rising kV_law_rising dc_law_rising pm_law_rising cd_law_rising ct_law_rising : Value}
    (a_law_rising : PySem.W.nsIn K mainGlobals "_law_rising" = some (some (.ref f_law_rising))) (l_law_rising : K.lookup f_law_rising = some ⟨oc_law_rising, od_law_rising, .func (PySem.W.fnOf "_law_rising" "_law_rising" (defArgs s_law_rising) (defBody s_law_rising) (defScope s_law_rising) .none kV_law_rising dc_law_rising pm_law_rising an_law_rising cd_law_rising ct_law_rising), sl_law_rising⟩) (c_law_rising : PySem.W.codeIn K cd_law_rising "_law_rising" = true) (k_law_rising : PySem.W.keepIn K (.ref f_law_rising) = true)
    {od_law_is_shape an_law_is_shape : Option Addr} {sl_law_is_shape : Array (Option Value)} {oc_law_is_shape kV_law_is_shape dc_law_is_shape pm_law_is_shape cd_law_is_shape ct_law_is_shape : Value}
    (a_law_is_shape : PySem.W.nsIn K mainGlobals "_law_is_shape" = some (some (.ref f_law_is_shape))) (l_law_is_shape : K.lookup f_law_is_shape = some ⟨oc_law_is_shape, od_law_is_shape, .func (PySem.W.fnOf "_law_is_shape" "_law_is_shape" (defArgs s_law_is_shape) (defBody s_law_is_shape) (defScope s_law_is_shape) .none kV_law_is_shape dc_law_is_shape pm_law_is_shape an_law_is_shape cd_law_is_shape ct_law_is_shape), sl_law_is_shape⟩) (c_law_is_shape : PySem.W.codeIn K cd_law_is_shape "_law_is_shape" = true) (k_law_is_shape : PySem.W.keepIn K (.ref f_law_is_shape) = true)
    {od_law an_law : Option Addr} {sl_law : Array (Option Value)} {oc_law kV_law dc_law pm_law cd_law ct_law : Value}
    (a_law : PySem.W.nsIn K mainGlobals "law" = some (some (.ref f_law))) (l_law : K.lookup f_law = some ⟨oc_law, od_law, .func (PySem.W.fnOf "law" "law" (defArgs s_law) (defBody s_law) (defScope s_law) .none kV_law dc_law pm_law an_law cd_law ct_law), sl_law⟩) (c_law : PySem.W.codeIn K cd_law "law" = true) (k_law : PySem.W.keepIn K (.ref f_law) = true)
    (z_len : PySem.W.nsIn K mainGlobals "len" = some none)
    (z_list : PySem.W.nsIn K mainGlobals "list" = some none)
    (z_isinstance : PySem.W.nsIn K mainGlobals "isinstance" = some none)
    (z_int : PySem.W.nsIn K mainGlobals "int" = some none)
    (z_bool : PySem.W.nsIn K mainGlobals "bool" = some none)
    (z_str : PySem.W.nsIn K mainGlobals "str" = some none)
    (z_tuple : PySem.W.nsIn K mainGlobals "tuple" = some none)
    (z_range : PySem.W.nsIn K mainGlobals "range" = some none)
    (z_ValueError : PySem.W.nsIn K mainGlobals "ValueError" = some none)
    {t_VERSIONS : Tok} (y_VERSIONS : PySem.W.nsIn K mainGlobals "VERSIONS" = some (some (.int 400 t_VERSIONS)))
    {t_LINKS : Tok} (y_LINKS : PySem.W.nsIn K mainGlobals "LINKS" = some (some (.int 2000 t_LINKS)))
    {C_NoShape : Addr} (xa_NoShape : PySem.W.nsIn K mainGlobals "NoShape" = some (some (.ref C_NoShape))) (xx_NoShape : PySem.W.excIn K C_NoShape [.type "ValueError", .type "Exception", .type "BaseException", .type "object"] "ValueError.__new__" = true) (xk_NoShape : PySem.W.keepIn K (.ref C_NoShape) = true) (xb_NoShape : PySem.W.subIn K (.ref C_NoShape) (.type "BaseException") = some true) (xt_NoShape : PySem.W.typeIn K (.ref C_NoShape) = some (.type "type")) (xi_NoShape : PySem.W.isClsIn K C_NoShape = true) (xs_NoShape : PySem.W.subIn K (.ref C_NoShape) (.ref C_NoShape) = some true)
    {C_HouseError : Addr} (gH : PySem.W.nsIn K mainGlobals "HouseError" = some (some (.ref C_HouseError)))
    {C_TooMany : Addr} (gT : PySem.W.nsIn K mainGlobals "TooMany" = some (some (.ref C_TooMany)))
     (e_hg : PySem.W.findIn K (.ref C_NoShape) "__getattribute__" = some (some (.builtin "BaseException.__getattribute__")))
     (e_hk : PySem.W.findIn K (.ref C_NoShape) "__getattr__" = some none)
     (e_hd : PySem.W.hasDictIn K C_NoShape = true)
     (e_ha : PySem.W.findIn K (.ref C_NoShape) "__class__" = some (some (.builtin "object.__class__")))
     (e_hn : PySem.W.specialIn K (.builtin "object.__class__") "__get__" = some (some (.builtin "getset_descriptor.__get__")))
     (e_ht : PySem.W.takesIn K (.builtin "object.__class__") = some true)
     (e_hm : PySem.W.mroIn K C_NoShape (.type "object") = some true)
     (q_kn : PySem.W.kitOne K (.ref C_NoShape) (.ref C_NoShape) = some true)
     (q_kv : PySem.W.kitOne K (.ref C_NoShape) (.type "ValueError") = some true)
     (q_kt : PySem.W.kitOne K (.ref C_NoShape) (.ref C_TooMany) = some false)
     (h_b : PySem.W.subIn K (.ref C_HouseError) (.type "BaseException") = some true)
     (h_i : PySem.W.isClsIn K C_HouseError = true)
     (h_t : PySem.W.typeIn K (.ref C_HouseError) = some (.type "type"))
     (h_s : PySem.W.subIn K (.ref C_NoShape) (.ref C_HouseError) = some true)
    : ∃ fd : FuncData, (∀ (s : Shared) (v : Value), BindsTo s fd ⟨[v], []⟩ [("_law_script", v)]) ∧ ∀ base : Heap, K.In base → base.Ns mainGlobals mg → FnOk l.prog w K mg base CX0 8 fa fd ["_law_script"] (spLaw K) := by
  have e := hfa.symm.trans (PySem.W.mg_of X G a_law)
  cases e
  have F_is_whole := fun_mk (st := s_is_whole) l_is_whole c_is_whole k_is_whole
  have D_is_whole : Df K mg "is_whole" s_is_whole ["thing"] _ _ := ⟨F_is_whole, F_is_whole.binds (ps := ["thing"]) fun _ _ _ _ _ _ us hl => match us, hl with | [_], _ => rfl, PySem.W.mg_of X G a_is_whole⟩
  have F_is_rising := fun_mk (st := s_is_rising) l_is_rising c_is_rising k_is_rising
  have D_is_rising : Df K mg "is_rising" s_is_rising ["thing"] _ _ := ⟨F_is_rising, F_is_rising.binds (ps := ["thing"]) fun _ _ _ _ _ _ us hl => match us, hl with | [_], _ => rfl, PySem.W.mg_of X G a_is_rising⟩
  have F_are_links := fun_mk (st := s_are_links) l_are_links c_are_links k_are_links
  have D_are_links : Df K mg "are_links" s_are_links ["versions", "thing"] _ _ := ⟨F_are_links, F_are_links.binds (ps := ["versions", "thing"]) fun _ _ _ _ _ _ us hl => match us, hl with | [_, _], _ => rfl, PySem.W.mg_of X G a_are_links⟩
  have F_check := fun_mk (st := s_check) l_check c_check k_check
  have D_check : Df K mg "check" s_check ["thing"] _ _ := ⟨F_check, F_check.binds (ps := ["thing"]) fun _ _ _ _ _ _ us hl => match us, hl with | [_], _ => rfl, PySem.W.mg_of X G a_check⟩
  have F_law_deck := fun_mk (st := s_law_deck) l_law_deck c_law_deck k_law_deck
  have D_law_deck : Df K mg "_law_deck" s_law_deck ["_law_script"] _ _ := ⟨F_law_deck, F_law_deck.binds (ps := ["_law_script"]) fun _ _ _ _ _ _ us hl => match us, hl with | [_], _ => rfl, PySem.W.mg_of X G a_law_deck⟩
  have F_law_mixed := fun_mk (st := s_law_mixed) l_law_mixed c_law_mixed k_law_mixed
  have D_law_mixed : Df K mg "_law_mixed" s_law_mixed ["_law_cell", "_law_turn"] _ _ := ⟨F_law_mixed, F_law_mixed.binds (ps := ["_law_cell", "_law_turn"]) fun _ _ _ _ _ _ us hl => match us, hl with | [_, _], _ => rfl, PySem.W.mg_of X G a_law_mixed⟩
  have F_law_draw := fun_mk (st := s_law_draw) l_law_draw c_law_draw k_law_draw
  have D_law_draw : Df K mg "_law_draw" s_law_draw ["_law_deck_here", "_law_many"] _ _ := ⟨F_law_draw, F_law_draw.binds (ps := ["_law_deck_here", "_law_many"]) fun _ _ _ _ _ _ us hl => match us, hl with | [_, _], _ => rfl, PySem.W.mg_of X G a_law_draw⟩
  have F_law_int := fun_mk (st := s_law_int) l_law_int c_law_int k_law_int
  have D_law_int : Df K mg "_law_int" s_law_int ["_law_thing"] _ _ := ⟨F_law_int, F_law_int.binds (ps := ["_law_thing"]) fun _ _ _ _ _ _ us hl => match us, hl with | [_], _ => rfl, PySem.W.mg_of X G a_law_int⟩
  have F_law_shape := fun_mk (st := s_law_shape) l_law_shape c_law_shape k_law_shape
  have D_law_shape : Df K mg "_law_shape" s_law_shape ["_law_deck_here", "_law_most"] _ _ := ⟨F_law_shape, F_law_shape.binds (ps := ["_law_deck_here", "_law_most"]) fun _ _ _ _ _ _ us hl => match us, hl with | [_, _], _ => rfl, PySem.W.mg_of X G a_law_shape⟩
  have F_law_odd := fun_mk (st := s_law_odd) l_law_odd c_law_odd k_law_odd
  have D_law_odd : Df K mg "_law_odd" s_law_odd ["_law_deck_here"] _ _ := ⟨F_law_odd, F_law_odd.binds (ps := ["_law_deck_here"]) fun _ _ _ _ _ _ us hl => match us, hl with | [_], _ => rfl, PySem.W.mg_of X G a_law_odd⟩
  have F_law_bent := fun_mk (st := s_law_bent) l_law_bent c_law_bent k_law_bent
  have D_law_bent : Df K mg "_law_bent" s_law_bent ["_law_deck_here", "_law_thing", "_law_depth"] _ _ := ⟨F_law_bent, F_law_bent.binds (ps := ["_law_deck_here", "_law_thing", "_law_depth"]) fun _ _ _ _ _ _ us hl => match us, hl with | [_, _, _], _ => rfl, PySem.W.mg_of X G a_law_bent⟩
  have F_law_rising := fun_mk (st := s_law_rising) l_law_rising c_law_rising k_law_rising
  have D_law_rising : Df K mg "_law_rising" s_law_rising ["_law_thing"] _ _ := ⟨F_law_rising, F_law_rising.binds (ps := ["_law_thing"]) fun _ _ _ _ _ _ us hl => match us, hl with | [_], _ => rfl, PySem.W.mg_of X G a_law_rising⟩
  have F_law_is_shape := fun_mk (st := s_law_is_shape) l_law_is_shape c_law_is_shape k_law_is_shape
  have D_law_is_shape : Df K mg "_law_is_shape" s_law_is_shape ["_law_thing"] _ _ := ⟨F_law_is_shape, F_law_is_shape.binds (ps := ["_law_thing"]) fun _ _ _ _ _ _ us hl => match us, hl with | [_], _ => rfl, PySem.W.mg_of X G a_law_is_shape⟩
  have F_law := fun_mk (st := s_law) l_law c_law k_law
  have D_law : Df K mg "law" s_law ["_law_script"] _ _ := ⟨F_law, F_law.binds (ps := ["_law_script"]) fun _ _ _ _ _ _ us hl => match us, hl with | [_], _ => rfl, PySem.W.mg_of X G a_law⟩
  have T : Txt K mg := ⟨PySem.W.mg_none_of X G z_len, PySem.W.mg_none_of X G z_list, PySem.W.mg_none_of X G z_isinstance, PySem.W.mg_none_of X G z_int, PySem.W.mg_none_of X G z_bool, PySem.W.mg_none_of X G z_str, PySem.W.mg_none_of X G z_tuple, PySem.W.mg_none_of X G z_range, PySem.W.mg_none_of X G z_ValueError, ⟨_, PySem.W.mg_of X G y_VERSIONS⟩, ⟨_, PySem.W.mg_of X G y_LINKS⟩⟩
  have X_NoShape : Exn K mg "NoShape" C_NoShape := ⟨PySem.W.mg_of X G xa_NoShape, xx_NoShape, xk_NoShape, xb_NoShape, xt_NoShape, exm_is xb_NoShape xi_NoShape xt_NoShape xs_NoShape⟩
  exact ⟨PySem.W.fnOf "law" "law" (defArgs s_law) (defBody s_law) (defScope s_law) .none kV_law dc_law pm_law an_law cd_law ct_law, fun s v => .of_eq rfl, fun base _ _ => ok_law T D_is_whole D_is_rising D_are_links D_check D_law_deck D_law_mixed D_law_draw D_law_int D_law_shape D_law_odd D_law_bent D_law_rising D_law_is_shape D_law X_NoShape (PySem.W.mg_of X G gH) (PySem.W.mg_of X G gT) ⟨e_hg, e_hk, xb_NoShape, e_hd, e_ha, e_hn, e_ht, e_hm⟩ q_kn q_kv q_kt (exm_is h_b h_i h_t h_s)⟩
end FW
open PySem PySem.W PyProof.Rows
set_option maxRecDepth 100000 in
set_option maxHeartbeats 0 in
theorem PySem.Challenge.cw_fewasks_k12_no_shape_holds : PySem.Challenge.rw_fewasks_k12_no_shape.Holds := by
  w_on; o_law; k_head; (case hw => w_witness2)
  k_fill
  refine L2.walk_of (l := PySem.Challenge.rw_fewasks_k12_no_shape) (n := 63) (k := 8) (x := "_law_script") (CX := fun _ => L2.CX0) (sp := fun w => FW.spLaw _) rfl (by decide) rfl ⟨rfl, by decide, by decide⟩ (fun w h Y => PySem.W.kIn_of Y) ?F (fun _ _ a ns hl _ hS => ⟨a, ns, rfl, hS, hl, fun _ => rfl⟩) (fun _ _ _ _ _ h => h)
  case F =>
    intro w mg fa h KX G hmg
    refine' FW.all_mk KX G hmg ?a_is_whole ?l_is_whole ?c_is_whole ?k_is_whole ?a_is_rising ?l_is_rising ?c_is_rising ?k_is_rising ?a_are_links ?l_are_links ?c_are_links ?k_are_links ?a_check ?l_check ?c_check ?k_check ?a_law_deck ?l_law_deck ?c_law_deck ?k_law_deck ?a_law_mixed ?l_law_mixed ?c_law_mixed ?k_law_mixed ?a_law_draw ?l_law_draw ?c_law_draw ?k_law_draw ?a_law_int ?l_law_int ?c_law_int ?k_law_int ?a_law_shape ?l_law_shape ?c_law_shape ?k_law_shape ?a_law_odd ?l_law_odd ?c_law_odd ?k_law_odd ?a_law_bent ?l_law_bent ?c_law_bent ?k_law_bent ?a_law_rising ?l_law_rising ?c_law_rising ?k_law_rising ?a_law_is_shape ?l_law_is_shape ?c_law_is_shape ?k_law_is_shape ?a_law ?l_law ?c_law ?k_law ?z_len ?z_list ?z_isinstance ?z_int ?z_bool ?z_str ?z_tuple ?z_range ?z_ValueError ?y_VERSIONS ?y_LINKS ?xa_NoShape ?xx_NoShape ?xk_NoShape ?xb_NoShape ?xt_NoShape ?xi_NoShape ?xs_NoShape ?gH ?gT ?e_hg ?e_hk ?e_hd ?e_ha ?e_hn ?e_ht ?e_hm ?q_kn ?q_kv ?q_kt ?h_b ?h_i ?h_t ?h_s
    (case a_is_whole => k_is); (case l_is_whole => k_is); (case c_is_whole => k_is); (case k_is_whole => k_is); (case a_is_rising => k_is); (case l_is_rising => k_is); (case c_is_rising => k_is); (case k_is_rising => k_is); (case a_are_links => k_is); (case l_are_links => k_is); (case c_are_links => k_is); (case k_are_links => k_is); (case a_check => k_is); (case l_check => k_is); (case c_check => k_is); (case k_check => k_is); (case a_law_deck => k_is); (case l_law_deck => k_is); (case c_law_deck => k_is); (case k_law_deck => k_is); (case a_law_mixed => k_is); (case l_law_mixed => k_is); (case c_law_mixed => k_is); (case k_law_mixed => k_is); (case a_law_draw => k_is); (case l_law_draw => k_is); (case c_law_draw => k_is); (case k_law_draw => k_is); (case a_law_int => k_is); (case l_law_int => k_is); (case c_law_int => k_is); (case k_law_int => k_is); (case a_law_shape => k_is); (case l_law_shape => k_is); (case c_law_shape => k_is); (case k_law_shape => k_is); (case a_law_odd => k_is); (case l_law_odd => k_is); (case c_law_odd => k_is); (case k_law_odd => k_is); (case a_law_bent => k_is); (case l_law_bent => k_is); (case c_law_bent => k_is); (case k_law_bent => k_is); (case a_law_rising => k_is); (case l_law_rising => k_is); (case c_law_rising => k_is); (case k_law_rising => k_is); (case a_law_is_shape => k_is); (case l_law_is_shape => k_is); (case c_law_is_shape => k_is); (case k_law_is_shape => k_is); (case a_law => k_is); (case l_law => k_is); (case c_law => k_is); (case k_law => k_is); (case z_len => k_is); (case z_list => k_is); (case z_isinstance => k_is); (case z_int => k_is); (case z_bool => k_is); (case z_str => k_is); (case z_tuple => k_is); (case z_range => k_is); (case z_ValueError => k_is); (case y_VERSIONS => k_is); (case y_LINKS => k_is); (case xa_NoShape => k_is); (case xx_NoShape => k_exc); (case xk_NoShape => k_is); (case xb_NoShape => k_is); (case xt_NoShape => k_is); (case xi_NoShape => k_is); (case xs_NoShape => k_is); (case gH => k_is); (case gT => k_is); (case e_hg => k_is); (case e_hk => k_is); (case e_hd => k_is); (case e_ha => k_is); (case e_hn => k_is); (case e_ht => k_is); (case e_hm => k_is); (case q_kn => kit_is); (case q_kv => kit_is); (case q_kt => kit_is); (case h_b => k_is); (case h_i => k_is); (case h_t => k_is); (case h_s => k_is)

