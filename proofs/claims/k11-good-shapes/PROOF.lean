import PyProof.Rows.All
import Wide.All
import OpenK.AllK
import Wide.FinOn
import HandS.ForMost
import HandS.Wide
import HandS.WideBits
import HandS.Conv
import HandS.IsInst
import HandS.Walk
import HandS.TupLe
import HandS.TupAny
import HandS.DictComp
import HandS.SetKeys
import PySem.Challenge.RW_fewasks_k11_good_shapes
set_option Elab.async false
set_option linter.all false
set_option maxRecDepth 100000
/-! My own small words over the layer: steps of readings as lemmas, heaps that keep. -/
namespace FW
open PySem L2
/-! ### heaps -/
/-- all that stood stands, but at the addresses M -/
def Kp (M : List Addr) (H H' : Hp) : Prop := ∀ b o, b ∉ M → H b = some o → H' b = some o
theorem Kp.refl {M : List Addr} {H : Hp} : Kp M H H := fun _ _ _ h => h
theorem Kp.trans {M : List Addr} {H H1 H2 : Hp} (a : Kp M H H1) (b : Kp M H1 H2) : Kp M H H2 := fun c o n h => b c o n (a c o n h)
theorem Kp.mono {M N : List Addr} {H H1 : Hp} (a : Kp M H H1) (s : ∀ x ∈ M, x ∈ N) : Kp N H H1 := fun c o n h => a c o (fun z => n (s c z)) h
theorem Kp.same {H H1 : Hp} (a : Kp [] H H1) : Same H H1 := fun c o h => a c o (by simp) h
theorem Kp.of {M : List Addr} {H H1 : Hp} (a : Same H H1) : Kp M H H1 := fun c o _ h => a c o h
theorem Kp.new {M : List Addr} {H : Hp} {p : Addr} {o : HO} (h : H p = none) : Kp M H (upd H p o) := fun b u _ e => by rw [upd_ne (ne_of_none e h)]; exact e
theorem Kp.mut {M : List Addr} {H : Hp} {p : Addr} {o : HO} (h : p ∈ M) : Kp M H (upd H p o) := fun b u n e => by
  rw [upd_ne (show b ≠ p from fun z => n (by rw [z]; exact h))]; exact e
/-- a new object that was mutated or laid since: it stood not at the start -/
theorem Kp.mutN {M : List Addr} {H H1 : Hp} {p : Addr} {o : HO} (k : Kp M H H1) (h : H p = none) : Kp M H (upd H1 p o) := fun b u n e => by
  rw [upd_ne (ne_of_none e h)]; exact k b u n e
theorem Same.new {H : Hp} {p : Addr} {o : HO} (h : H p = none) : Same H (upd H p o) := fun b u e => by rw [upd_ne (ne_of_none e h)]; exact e
theorem nofree {M : List Addr} {H H1 : Hp} {p : Addr} (k : Kp M H H1) (hM : p ∉ M) (h : H1 p = none) : H p = none := by
  cases e : H p with
  | none => rfl
  | some o => rw [k p o hM e] at h; cases h
theorem Kp.seqL {M : List Addr} {K : PySem.W.Frag} {H H' : Hp} {a : Addr} {xs : List V} (k : Kp M H H') (hM : a ∉ M) (h : SqL K H a xs) : SqL K H' a xs := by
  rcases h with (h | ⟨o, h⟩) | h
  · exact .inl (.inl (k _ _ hM h))
  · exact .inl (.inr ⟨o, k _ _ hM h⟩)
  · exact .inr h
theorem Kp.seqT {M : List Addr} {K : PySem.W.Frag} {H H' : Hp} {a : Addr} {xs : List V} (k : Kp M H H') (hM : a ∉ M) (h : SqT K H a xs) : SqT K H' a xs := by
  rcases h with (h | ⟨o, h⟩) | h
  · exact .inl (.inl (k _ _ hM h))
  · exact .inl (.inr ⟨o, k _ _ hM h⟩)
  · exact .inr h
theorem upd_get {H : Hp} {a b : Addr} {o u : HO} (h : b ≠ a) (e : H b = some u) : upd H a o b = some u := by rw [upd_ne h]; exact e
theorem upd_new {H : Hp} {a b : Addr} {o u : HO} (h : H a = none) (e : H b = some u) : upd H a o b = some u := upd_get (ne_of_none e h) e
theorem upd_none {H : Hp} {a b : Addr} {o : HO} (e : upd H a o b = none) : H b = none ∧ b ≠ a := by
  by_cases h : b = a
  · subst h; rw [upd_same] at e; cases e
  · rw [upd_ne h] at e; exact ⟨e, h⟩
/-- all but p is as it was -/
def Off (p : Addr) (H H' : Hp) : Prop := ∀ b, b ≠ p → H' b = H b
theorem Off.get {p b : Addr} {H H' : Hp} {o : HO} (k : Off p H H') (n : b ≠ p) (e : H b = some o) : H' b = some o := (k b n).trans e
theorem Off.kp {p : Addr} {M : List Addr} {H H' : Hp} (k : Off p H H') (m : p ∈ M) : Kp M H H' := fun b o n e => (k b (fun z => n (by rw [z]; exact m))).trans e
theorem Off.trans {p : Addr} {H H1 H2 : Hp} (a : Off p H H1) (b : Off p H1 H2) : Off p H H2 := fun x n => (b x n).trans (a x n)
theorem Off.keep {p : Addr} {M : List Addr} {H H1 H2 : Hp} (a : Kp M H H1) (b : Off p H1 H2) (n : H p = none) : Kp M H H2 := fun x o m e => (b x (ne_of_none e n)).trans (a x o m e)
/-- a list's change keeps the tuples -/
theorem Off.tup {p b : Addr} {H H' : Hp} {xs ys : List V} (k : Off p H H') (hp : H p = some (.lst xs)) (e : H b = some (.tup ys)) : H' b = some (.tup ys) := k.get (ne_of e hp (fun z => nomatch z)) e
/-- what keeps the tuples -/
def KT (H H' : Hp) : Prop := ∀ b xs, H b = some (.tup xs) → H' b = some (.tup xs)
theorem KT.refl {H : Hp} : KT H H := fun _ _ e => e
theorem KT.of {H H' : Hp} (k : Same H H') : KT H H' := fun b xs e => k _ _ e
theorem KT.off {p : Addr} {H H' : Hp} {xs : List V} (k : Off p H H') (e : H p = some (.lst xs)) : KT H H' := fun b ys e2 => k.tup e e2
theorem KT.trans {H H1 H2 : Hp} (a : KT H H1) (b : KT H1 H2) : KT H H2 := fun c xs e => b c xs (a c xs e)
theorem KT.kp {M : List Addr} {H H' : Hp} (k : Kp M H H') (h : ∀ b ∈ M, ∃ xs, H b = some (.lst xs)) : KT H H' := fun b ys e => k b _ (fun z => by
  obtain ⟨xs, e2⟩ := h b z
  rw [e] at e2; cases e2) e
theorem KT.upd {H H1 : Hp} {D : Addr} {o : HO} (k : KT H H1) (h : H D = none) : KT H (upd H1 D o) := fun b xs e => by rw [upd_ne (ne_of_none e h)]; exact k b xs e
theorem KT.updL {H : Hp} {D : Addr} {o : HO} {ys : List V} (h : H D = some (.lst ys)) : KT H (L2.upd H D o) := fun b xs e => upd_get (ne_of e h (fun z => nomatch z)) e
/-! ### rules by names -/
/-- a new object o -/
def Nw (o : HO) (H : Hp) (Q : VK) : Prop := ∀ p, H p = none → Q (.ref p) (upd H p o)
def rLen (K : PySem.W.Frag) : List V → Hp → VK → Prop := fun xs H Q => ∃ p ys, xs = [.ref p] ∧ (SqL K H p ys ∨ SqT K H p ys) ∧ Q (.int ys.length) H
def rMin2 : List V → Hp → VK → Prop := fun xs H Q => ∃ i j, xs = [.int i, .int j] ∧ Q (.int (if j < i then j else i)) H
def rMax2 : List V → Hp → VK → Prop := fun xs H Q => ∃ i j, xs = [.int i, .int j] ∧ Q (.int (if j > i then j else i)) H
def rListOf (K : PySem.W.Frag) : List V → Hp → VK → Prop := fun xs H Q => ∃ p ys, xs = [.ref p] ∧ (SqL K H p ys ∨ SqT K H p ys) ∧ ∀ l, H l = none → Q (.ref l) (upd H l (.lst ys))
def rTupOf (K : PySem.W.Frag) : List V → Hp → VK → Prop := fun xs H Q => ∃ p ys, xs = [.ref p] ∧ ((SqL K H p ys ∧ ∀ l, H l = none → Q (.ref l) (upd H l (.tup ys))) ∨ (SqT K H p ys ∧ Q (.ref p) H))
def rRg2 (x y : V) (H : Hp) (R : Int → Int → Hp → Prop) : Prop := ∃ i j, x = .int i ∧ y = .int j ∧ R i j H
def rBits (x : V) (H : Hp) (Q : VK) : Prop := ∃ i, x = .int i ∧ Q (.int (Builtin.Int.intBits i : Nat)) H
def rRng1 (vs : List V) (H : Hp) (R : It → Hp → Prop) : Prop := ∃ j : Int, vs = [.int j] ∧ -(2 ^ 62) ≤ j ∧ j < 2 ^ 62 ∧ R (Itr 0 j.toNat) H
def rRng2 (vs : List V) (H : Hp) (R : It → Hp → Prop) : Prop := ∃ i j : Int, vs = [.int i, .int j] ∧ (-(2 ^ 62) ≤ i ∧ i < 2 ^ 62 ∧ -(2 ^ 62) ≤ j ∧ j < 2 ^ 62) ∧ R (Itr i (j - i).toNat) H
def rItL (K : PySem.W.Frag) (x : V) (H : Hp) (R : It → Hp → Prop) : Prop := ∃ a, x = .ref a ∧ (∃ xs, SqL K H a xs) ∧ R (Itl K a) H
def rItT (K : PySem.W.Frag) (x : V) (H : Hp) (R : It → Hp → Prop) : Prop := ∃ a, x = .ref a ∧ (∃ xs, SqT K H a xs) ∧ R (Itt K a) H
def rDIn (x y : V) (H : Hp) (Q : VK) : Prop := ∃ a o, x = .ref a ∧ DGet H a y o ∧ Q (.bl o.isSome) H
def rDNotIn (x y : V) (H : Hp) (Q : VK) : Prop := ∃ a o, x = .ref a ∧ DGet H a y o ∧ Q (.bl (!o.isSome)) H
def rDGet (x y : V) (H : Hp) (Q : VK) : Prop := ∃ a v, x = .ref a ∧ DGet H a y (some v) ∧ Q v H
def rDGet2 (a : Addr) (y z : V) (H : Hp) (Q : VK) : Prop := ∃ o, DGet H a y o ∧ Q (o.getD z) H
def rDPut (x y v : V) (H : Hp) (R : Hp → Prop) : Prop := ∃ a H4, x = .ref a ∧ DPut H a y v H4 ∧ R H4
def rDSetd (a : Addr) (y z : V) (H : Hp) (Q : VK) : Prop := ∃ (kvs : List (Key × V)) (k : Key), H a = some (.dK kvs) ∧ y = kV k ∧ kvs.length < sizeLine ∧ (∀ v, valV kvs k = some v → Q v H) ∧ (valV kvs k = none → Q z (upd H a (.dK (putK kvs k z))))
def rIsD (x : V) (H : Hp) (R : Addr → Hp → Prop) : Prop := ∃ a, x = .ref a ∧ IsD H a ∧ R a H
def rIsBl : R2 := fun x y H Q => ∃ a b, x = .bl a ∧ y = .bl b ∧ Q (.bl (decide (a = b))) H
def rIsNon : R2 := fun x y H Q => y = .non ∧ Q (.bl (decide (x = .non))) H
def rNotNon : R2 := fun x y H Q => y = .non ∧ Q (.bl (!decide (x = .non))) H
def rTru (K : PySem.W.Frag) (x : V) (H : Hp) (R : Bool → Hp → Prop) : Prop := ∃ k, TruV K x H k ∧ R k H
def tTru (K : PySem.W.Frag) (ta : TE) : TT := fun σ H R => ta σ H fun x H' => ∃ k, TruV K x H' k ∧ R k H'
def rSortD (xs : List V) (H : Hp) (Q : VK) : Prop := ∃ (a : Addr) (kvs : List (Key × V)) (ks : List Int), xs = [.ref a] ∧ Rd H a (.dK kvs) ∧ kvs.map (·.1) = ks.map Sum.inl ∧ ks.length < 64 ∧
    ∀ (ys : List Int) (p : Addr), ys.Perm ks → ys.Pairwise (· ≤ ·) → H p = none → Q (.ref p) (upd H p (.lst (ys.map V.int)))
section
variable {X : Cx}
theorem o_isB : OpR X (compareOp .Is) rIsBl := op_is_bl
theorem o_isN : OpR X (compareOp .Is) rIsNon := op_isN
theorem o_notN : OpR X (compareOp .IsNot) rNotNon := op_notN
theorem p_truth {a : Expr} {ta : TE} (ha : PE X a ta) (he : ∀ whole, isTrue a X.env whole = (do let v ← whole; standAt a.pos; holding [v] (truthy v))) : PT X a (tTru X.K ta) := pt_truth ha he
theorem c_sortD (hc : X.calm = true) : CallR X (.builtin "sorted") rSortD := call_sortedDI hc
theorem c_len : CallR X (.builtin "len") (rLen X.K) := call_len_seq
theorem c_min2 (hc : X.calm = true) : CallR X (.builtin "min") rMin2 := call_min2 hc
theorem c_max2 (hc : X.calm = true) : CallR X (.builtin "max") rMax2 := call_max2 hc
theorem c_listOf : CallR X (.type "list") (rListOf X.K) := call_list_of
theorem c_tupOf : CallR X (.type "tuple") (rTupOf X.K) := call_tuple_of
end
theorem kb_int_int : kitB "int" "int" = some true := by decide +kernel
theorem kb_int_bool : kitB "int" "bool" = some false := by decide +kernel
theorem kb_int_str : kitB "int" "str" = some false := by decide +kernel
theorem kb_int_tuple : kitB "int" "tuple" = some false := by decide +kernel
theorem kb_int_list : kitB "int" "list" = some false := by decide +kernel
theorem kb_int_dict : kitB "int" "dict" = some false := by decide +kernel
theorem kb_bool_int : kitB "bool" "int" = some true := by decide +kernel
theorem kb_bool_bool : kitB "bool" "bool" = some true := by decide +kernel
theorem kb_bool_str : kitB "bool" "str" = some false := by decide +kernel
theorem kb_bool_tuple : kitB "bool" "tuple" = some false := by decide +kernel
theorem kb_bool_list : kitB "bool" "list" = some false := by decide +kernel
theorem kb_bool_dict : kitB "bool" "dict" = some false := by decide +kernel
theorem kb_str_int : kitB "str" "int" = some false := by decide +kernel
theorem kb_str_bool : kitB "str" "bool" = some false := by decide +kernel
theorem kb_str_str : kitB "str" "str" = some true := by decide +kernel
theorem kb_str_tuple : kitB "str" "tuple" = some false := by decide +kernel
theorem kb_str_list : kitB "str" "list" = some false := by decide +kernel
theorem kb_str_dict : kitB "str" "dict" = some false := by decide +kernel
theorem kb_tuple_int : kitB "tuple" "int" = some false := by decide +kernel
theorem kb_tuple_bool : kitB "tuple" "bool" = some false := by decide +kernel
theorem kb_tuple_str : kitB "tuple" "str" = some false := by decide +kernel
theorem kb_tuple_tuple : kitB "tuple" "tuple" = some true := by decide +kernel
theorem kb_tuple_list : kitB "tuple" "list" = some false := by decide +kernel
theorem kb_tuple_dict : kitB "tuple" "dict" = some false := by decide +kernel
theorem kb_list_int : kitB "list" "int" = some false := by decide +kernel
theorem kb_list_bool : kitB "list" "bool" = some false := by decide +kernel
theorem kb_list_str : kitB "list" "str" = some false := by decide +kernel
theorem kb_list_tuple : kitB "list" "tuple" = some false := by decide +kernel
theorem kb_list_list : kitB "list" "list" = some true := by decide +kernel
theorem kb_list_dict : kitB "list" "dict" = some false := by decide +kernel
theorem kb_dict_int : kitB "dict" "int" = some false := by decide +kernel
theorem kb_dict_bool : kitB "dict" "bool" = some false := by decide +kernel
theorem kb_dict_str : kitB "dict" "str" = some false := by decide +kernel
theorem kb_dict_tuple : kitB "dict" "tuple" = some false := by decide +kernel
theorem kb_dict_list : kitB "dict" "list" = some false := by decide +kernel
theorem kb_dict_dict : kitB "dict" "dict" = some true := by decide +kernel
theorem kb_NoneType_int : kitB "NoneType" "int" = some false := by decide +kernel
theorem kb_NoneType_bool : kitB "NoneType" "bool" = some false := by decide +kernel
theorem kb_NoneType_str : kitB "NoneType" "str" = some false := by decide +kernel
theorem kb_NoneType_tuple : kitB "NoneType" "tuple" = some false := by decide +kernel
theorem kb_NoneType_list : kitB "NoneType" "list" = some false := by decide +kernel
theorem kb_NoneType_dict : kitB "NoneType" "dict" = some false := by decide +kernel
/-! ### steps -/
section
variable {K : PySem.W.Frag} {σ : St} {H : Hp} {Q : VK} {nx bk ct : St → Hp → Prop} {rt : VK} {v : V}
theorem w_seq {t u : TS} (h : t ⟨u ⟨nx, rt, bk, ct⟩, rt, bk, ct⟩ σ H) : tSeq t u ⟨nx, rt, bk, ct⟩ σ H := h
theorem w_seqA {te : TE} {g : TG} {u : TS} (h : te σ H fun x H1 => g x σ H1 (u ⟨nx, rt, bk, ct⟩)) : tSeq (tAsg te g) u ⟨nx, rt, bk, ct⟩ σ H := h
theorem w_seqD {te : TE} {u : TS} (h : te σ H fun _ H1 => u ⟨nx, rt, bk, ct⟩ σ H1) : tSeq (tDrop te) u ⟨nx, rt, bk, ct⟩ σ H := h
theorem w_seqF {wi : TI} {g : TG} {tb u : TS} (h : tFor wi g tb ⟨u ⟨nx, rt, bk, ct⟩, rt, bk, ct⟩ σ H) : tSeq (tFor wi g tb) u ⟨nx, rt, bk, ct⟩ σ H := h
theorem w_seqW {c : TT} {tb u : TS} (h : tWhile c tb ⟨u ⟨nx, rt, bk, ct⟩, rt, bk, ct⟩ σ H) : tSeq (tWhile c tb) u ⟨nx, rt, bk, ct⟩ σ H := h
theorem w_seqG {i : Nat} {te : TE} {ti : TIp} {u : TS} (h : tAug i te ti ⟨u ⟨nx, rt, bk, ct⟩, rt, bk, ct⟩ σ H) : tSeq (tAug i te ti) u ⟨nx, rt, bk, ct⟩ σ H := h
/-- a statement whose ways meet: what follows is taken as U, of which R is enough -/
theorem w_seqJ {t u : TS} (R : St → Hp → Prop) (h2 : ∀ σ' H', R σ' H' → u ⟨nx, rt, bk, ct⟩ σ' H') (h1 : ∀ U : St → Hp → Prop, (∀ σ' H', R σ' H' → U σ' H') → t ⟨U, rt, bk, ct⟩ σ H) : tSeq t u ⟨nx, rt, bk, ct⟩ σ H := h1 _ h2
theorem w_var {i : Nat} (e : σ[i]? = some (some v)) (h : Q v H) : tVar i σ H Q := ⟨v, e, h⟩
theorem w_c (h : Q v H) : tC v σ H Q := h
theorem w_asg {te : TE} {g : TG} (h : te σ H fun x H1 => g x σ H1 nx) : tAsg te g ⟨nx, rt, bk, ct⟩ σ H := h
theorem w_name {i : Nat} {R : St → Hp → Prop} (h : R (σ.set i (some v)) H) : gName i v σ H R := h
theorem w_op {r : R2} {ta tb : TE} (h : ta σ H fun x H1 => tb σ H1 fun y H2 => r x y H2 Q) : tOp r ta tb σ H Q := h
theorem w_un {r : V → Hp → VK → Prop} {ta : TE} (h : ta σ H fun x H1 => r x H1 Q) : tUn r ta σ H Q := h
theorem w_neg {i : Int} (h : Q (.int (-i)) H) : rU (fun i => .int (-i)) (.int i) H Q := ⟨i, rfl, h⟩
theorem w_i {C : Int → Int → Prop} {g : Int → Int → V} {i j : Int} (c : C i j) (h : Q (g i j) H) : rI C g (.int i) (.int j) H Q := ⟨i, j, rfl, rfl, c, h⟩
theorem w_i0 {g : Int → Int → V} {i j : Int} (h : Q (g i j) H) : rI0 g (.int i) (.int j) H Q := ⟨i, j, rfl, rfl, h⟩
theorem w_eqI {i j : Int} (h : Q (.bl (decide (i = j))) H) : rEq (.int i) (.int j) H Q := ⟨rfl, by
  have e : decide (V.int i = V.int j) = decide (i = j) := by
    by_cases q : i = j
    · subst q; rw [decide_eq_true rfl, decide_eq_true rfl]
    · rw [decide_eq_false q, decide_eq_false (fun z => q (V.int.inj z))]
  rw [e]; exact h⟩
theorem w_neI {i j : Int} (h : Q (.bl (!decide (i = j))) H) : rNe (.int i) (.int j) H Q := ⟨rfl, by
  have e : decide (V.int i = V.int j) = decide (i = j) := by
    by_cases q : i = j
    · subst q; rw [decide_eq_true rfl, decide_eq_true rfl]
    · rw [decide_eq_false q, decide_eq_false (fun z => q (V.int.inj z))]
  rw [e]; exact h⟩
theorem w_ixL {p : Addr} {xs : List V} {i : Int} (h1 : SqL K H p xs) (h2 : atI xs i = some v) (h : Q v H) : rIxL K (.ref p) (.int i) H Q := ⟨p, xs, i, v, rfl, rfl, h1, h2, h⟩
theorem w_ixT {p : Addr} {xs : List V} {i : Int} (h1 : SqT K H p xs) (h2 : atI xs i = some v) (h : Q v H) : rIxT K (.ref p) (.int i) H Q := ⟨p, xs, i, v, rfl, rfl, h1, h2, h⟩
theorem w_sub {to ti : TE} {t : TSet} {R : St → Hp → Prop} (h : to σ H fun o H1 => ti σ H1 fun i H2 => t o i v H2 fun H3 => R σ H3) : gSub to ti t v σ H R := h
theorem w_setL {p : Addr} {xs ys : List V} {k : Int} {j : Nat} {R : Hp → Prop} (h1 : H p = some (.lst xs)) (h2 : ixN xs.length k = some j) (e : xs.set j v = ys) (h : ∀ H1, H1 p = some (.lst ys) → Off p H H1 → R H1) : rSetL (.ref p) (.int k) v H R :=
  ⟨p, xs, k, j, rfl, rfl, h1, h2, by rw [e]; exact h _ upd_same fun x hx => upd_ne hx⟩
theorem w_if {c : TT} {t u : TS} (h : c σ H fun b H1 => if b = true then t ⟨nx, rt, bk, ct⟩ σ H1 else u ⟨nx, rt, bk, ct⟩ σ H1) : tIfS c t u ⟨nx, rt, bk, ct⟩ σ H := h
theorem w_test {t : TE} {R : Bool → Hp → Prop} (h : t σ H fun x H' => ∃ k, x = .bl k ∧ R k H') : tTest t σ H R := h
theorem w_tb {t : TE} {R : Bool → Hp → Prop} (h : t σ H fun x H' => ∃ k, x = .bl k ∧ R k H') : tB t σ H R := h
theorem w_bl {b : Bool} {R : Bool → Prop} (h : R b) : ∃ k, V.bl b = .bl k ∧ R k := ⟨b, rfl, h⟩
theorem w_and {t u : TT} {R : Bool → Hp → Prop} (h : t σ H fun c H1 => if c = true then u σ H1 R else R false H1) : tAnd t u σ H R := h
theorem w_or {t u : TT} {R : Bool → Hp → Prop} (h : t σ H fun c H1 => if c = true then R true H1 else u σ H1 R) : tOr t u σ H R := h
theorem w_not {t : TT} {R : Bool → Hp → Prop} (h : t σ H fun c H1 => R (!c) H1) : tNot t σ H R := h
theorem w_andV {ta tb : TE} (h : ta σ H fun x H1 => ∃ c, x = .bl c ∧ if c = true then tb σ H1 Q else Q (.bl false) H1) : tAndV ta tb σ H Q := h
theorem w_orV {ta tb : TE} (h : ta σ H fun x H1 => ∃ c, x = .bl c ∧ if c = true then Q (.bl true) H1 else tb σ H1 Q) : tOrV ta tb σ H Q := h
theorem w_notV {ta : TE} (h : ta σ H fun x H1 => ∃ c, x = .bl c ∧ Q (.bl (!c)) H1) : tNotV ta σ H Q := h
theorem w_ite {p : Prop} {inst : Decidable p} {A B : Prop} (h1 : p → A) (h2 : ¬ p → B) : if decide p = true then A else B := by
  by_cases h : p
  · rw [if_pos (decide_eq_true h)]; exact h1 h
  · rw [if_neg (fun z => h (of_decide_eq_true z))]; exact h2 h
theorem w_itN {p : Prop} {inst : Decidable p} {A B : Prop} (h1 : ¬ p → A) (h2 : p → B) : if (!decide p) = true then A else B := by
  by_cases h : p
  · rw [decide_eq_true h]; exact h2 h
  · rw [decide_eq_false h]; exact h1 h
theorem w_yes {p : Prop} {inst : Decidable p} {A B : Prop} (h : p) (a : A) : if decide p = true then A else B := by rw [if_pos (decide_eq_true h)]; exact a
theorem w_no {p : Prop} {inst : Decidable p} {A B : Prop} (h : ¬ p) (b : B) : if decide p = true then A else B := by rw [if_neg (fun z => h (of_decide_eq_true z))]; exact b
theorem w_nyes {p : Prop} {inst : Decidable p} {A B : Prop} (h : p) (b : B) : if (!decide p) = true then A else B := by rw [decide_eq_true h]; exact b
theorem w_nno {p : Prop} {inst : Decidable p} {A B : Prop} (h : ¬ p) (a : A) : if (!decide p) = true then A else B := by rw [decide_eq_false h]; exact a
theorem w_itB {b : Bool} {A B : Prop} (h1 : b = true → A) (h2 : b = false → B) : if b = true then A else B := by
  cases b with
  | true => exact h1 rfl
  | false => exact h2 rfl
theorem w_itNB {b : Bool} {A B : Prop} (h1 : b = false → A) (h2 : b = true → B) : if (!b) = true then A else B := by
  cases b with
  | true => exact h2 rfl
  | false => exact h1 rfl
theorem w_nT {A B : Prop} (h : B) : if (!true) = true then A else B := h
theorem w_nF {A B : Prop} (h : A) : if (!false) = true then A else B := h
theorem w_nnT {A B : Prop} (h : A) : if (!(!true)) = true then A else B := h
theorem w_ret {te : TE} (h : te σ H rt) : tRet te ⟨nx, rt, bk, ct⟩ σ H := h
theorem w_drop {te : TE} (h : te σ H fun _ H1 => nx σ H1) : tDrop te ⟨nx, rt, bk, ct⟩ σ H := h
theorem w_next (h : nx σ H) : tNext ⟨nx, rt, bk, ct⟩ σ H := h
theorem w_cb {r : List V → Hp → VK → Prop} {t : TA} (h : t σ H fun vs H1 => r vs H1 Q) : tCB r t σ H Q := h
theorem w_nil {R : List V → Hp → Prop} (h : R [] H) : tNil σ H R := h
theorem w_cons {ta : TE} {tr : TA} {R : List V → Hp → Prop} (h : ta σ H fun x H1 => tr σ H1 fun xs H2 => R (x :: xs) H2) : tCons ta tr σ H R := h
theorem w_call {sp : Sp} {E : XK} {t : TA} (h : t σ H fun vs H1 => sp (vs ++ []) H1 Q E) : tCall sp [] E t σ H Q := h
theorem w_lst {t : TA} (h : t σ H fun xs H1 => xs.length ≤ sizeLine ∧ Nw (.lst xs) H1 Q) : tLst t σ H Q := h
theorem w_tup {t : TA} (h : t σ H fun xs H1 => xs.length ≤ sizeLine ∧ Nw (.tup xs) H1 Q) : tTup t σ H Q := h
theorem w_new {o : HO} (h : ∀ p H2, H p = none → H2 p = some o → Same H H2 → Q (.ref p) H2) : Nw o H Q := fun p hp => h p _ hp upd_same (Same.new hp)
theorem w_sz {n : Nat} {o : HO} (h1 : n ≤ sizeLine) (h : Nw o H Q) : n ≤ sizeLine ∧ Nw o H Q := ⟨h1, h⟩
theorem w_app {p : Addr} {xs : List V} (h1 : H p = some (.lst xs)) (h2 : xs.length < sizeLine) (h : ∀ H1, H1 p = some (.lst (xs ++ [v])) → Off p H H1 → Q .non H1) : rAppend (.ref p) [v] H Q :=
  ⟨p, xs, v, rfl, rfl, h1, h2, h _ upd_same fun x hx => upd_ne hx⟩
theorem w_bm {r : V → List V → Hp → VK → Prop} {to : TE} {t : TA} (h : to σ H fun x H1 => tyV K "list" x H1 ∧ t σ H1 fun xs H2 => r x xs H2 Q) : tBM K "list" r to t σ H Q := h
theorem w_tyL {p : Addr} {xs : List V} {A : Prop} (h1 : H p = some (.lst xs)) (h : A) : tyV K "list" (.ref p) H ∧ A := ⟨.inl ⟨rfl, _, .inl (.inl h1)⟩, h⟩
theorem w_lenL {p : Addr} {ys : List V} (h1 : SqL K H p ys) (h : Q (.int ys.length) H) : rLen K [V.ref p] H Q := ⟨p, ys, rfl, .inl h1, h⟩
theorem w_lenT {p : Addr} {ys : List V} (h1 : SqT K H p ys) (h : Q (.int ys.length) H) : rLen K [V.ref p] H Q := ⟨p, ys, rfl, .inr h1, h⟩
theorem w_min2 {i j : Int} (h : Q (.int (if j < i then j else i)) H) : rMin2 [V.int i, V.int j] H Q := ⟨i, j, rfl, h⟩
theorem w_max2 {i j : Int} (h : Q (.int (if j > i then j else i)) H) : rMax2 [V.int i, V.int j] H Q := ⟨i, j, rfl, h⟩
theorem w_listL {p : Addr} {ys : List V} (h1 : SqL K H p ys) (h : ∀ l H2, H l = none → H2 l = some (.lst ys) → Same H H2 → Q (.ref l) H2) : rListOf K [V.ref p] H Q := ⟨p, ys, rfl, .inl h1, w_new h⟩
theorem w_listT {p : Addr} {ys : List V} (h1 : SqT K H p ys) (h : ∀ l H2, H l = none → H2 l = some (.lst ys) → Same H H2 → Q (.ref l) H2) : rListOf K [V.ref p] H Q := ⟨p, ys, rfl, .inr h1, w_new h⟩
theorem w_tupL {p : Addr} {ys : List V} (h1 : SqL K H p ys) (h : ∀ l H2, H l = none → H2 l = some (.tup ys) → Same H H2 → Q (.ref l) H2) : rTupOf K [V.ref p] H Q := ⟨p, ys, rfl, .inl ⟨h1, w_new h⟩⟩
theorem w_sum {p : Addr} {ns : List Int} (h1 : SqL K H p (ns.map V.int)) (h : Q (.int ns.sum) H) : rSum K [V.ref p] H Q := ⟨p, ns, rfl, h1, h⟩
theorem w_tupRg {te : St → Hp → (Int → Int → Hp → Prop) → Prop} (h : te σ H fun a b H1 => RgOk a b ∧ Nw (.tup (rgV a b)) H1 Q) : tTupRg te σ H Q := h
theorem w_rg2 {ta tb : TE} {R : Int → Int → Hp → Prop} (h : ta σ H fun x H1 => tb σ H1 fun y H2 => rRg2 x y H2 R) : tRg2 ta tb σ H R := h
theorem w_rg2' {i j : Int} {R : Int → Int → Hp → Prop} (h : R i j H) : rRg2 (.int i) (.int j) H R := ⟨i, j, rfl, rfl, h⟩
theorem w_bits {to : TE} (h : to σ H fun x H1 => rBits x H1 Q) : tBits to σ H Q := h
theorem w_bits' {i : Int} (h : Q (.int (Builtin.Int.intBits i : Nat)) H) : rBits (.int i) H Q := ⟨i, rfl, h⟩
theorem w_isi {x : V} {a n : String} {b : Bool} (ty : TyX K H x (.type a)) (hk : kitB a n = some b) (h : Q (.bl b) H) : rIsi K [x, .ty n] H Q := ⟨x, .ty n, _, _, b, rfl, .ty n, ty, kit_ty hk, h⟩
theorem w_eqS {x y : Str} (h : Q (.bl (decide (x = y))) H) : rEq (.str x) (.str y) H Q := ⟨rfl, by
  have e : decide (V.str x = V.str y) = decide (x = y) := by
    by_cases q : x = y
    · subst q; rw [decide_eq_true rfl, decide_eq_true rfl]
    · rw [decide_eq_false q, decide_eq_false (fun z => q (V.str.inj z))]
  rw [e]; exact h⟩
theorem w_eqB {x y : Bool} (h : Q (.bl (decide (x = y))) H) : rEq (.bl x) (.bl y) H Q := ⟨rfl, by
  have e : decide (V.bl x = V.bl y) = decide (x = y) := by
    by_cases q : x = y
    · subst q; rw [decide_eq_true rfl, decide_eq_true rfl]
    · rw [decide_eq_false q, decide_eq_false (fun z => q (V.bl.inj z))]
  rw [e]; exact h⟩
theorem w_tupT {p : Addr} {ys : List V} (h1 : SqT K H p ys) (h : Q (.ref p) H) : rTupOf K [V.ref p] H Q := ⟨p, ys, rfl, .inr ⟨h1, h⟩⟩
/-! targets, dicts -/
theorem w_gtup {a : Addr} {xs : List V} {n : Nat} {t : TGs} {R : St → Hp → Prop} (h1 : SqT K H a xs) (h2 : xs.length = n) (h : t xs σ H R) : gTup K n t (.ref a) σ H R := ⟨a, xs, rfl, h1, h2, h⟩
theorem w_gcons {t : TG} {u : TGs} {r : List V} {R : St → Hp → Prop} (h : t v σ H fun σ' H' => u r σ' H' R) : gCons t u (v :: r) σ H R := ⟨v, r, rfl, h⟩
theorem w_gnil {R : St → Hp → Prop} (h : R σ H) : gNil [] σ H R := ⟨rfl, h⟩
theorem w_din {ty td : TE} (h : ty σ H fun y H1 => td σ H1 fun x H2 => rDIn x y H2 Q) : tDIn ty td σ H Q := h
theorem w_dnotin {ty td : TE} (h : ty σ H fun y H1 => td σ H1 fun x H2 => rDNotIn x y H2 Q) : tDNotIn ty td σ H Q := h
theorem w_dget {ty td : TE} (h : td σ H fun x H1 => ty σ H1 fun y H2 => rDGet x y H2 Q) : tDGet td ty σ H Q := h
theorem w_dinI {a : Addr} {kvs : List (Key × V)} {n : Int} (e : H a = some (.dK kvs)) (h : Q (.bl (valV kvs (Sum.inl n)).isSome) H) : rDIn (.ref a) (.int n) H Q := ⟨a, _, rfl, DGet.k (k := Sum.inl n) e, h⟩
theorem w_dnotinI {a : Addr} {kvs : List (Key × V)} {n : Int} (e : H a = some (.dK kvs)) (h : Q (.bl (!(valV kvs (Sum.inl n)).isSome)) H) : rDNotIn (.ref a) (.int n) H Q := ⟨a, _, rfl, DGet.k (k := Sum.inl n) e, h⟩
theorem w_dgetI {a : Addr} {kvs : List (Key × V)} {n : Int} (e : H a = some (.dK kvs)) (e2 : valV kvs (Sum.inl n) = some v) (h : Q v H) : rDGet (.ref a) (.int n) H Q := ⟨a, v, rfl, e2 ▸ DGet.k (k := Sum.inl n) e, h⟩
theorem w_dnewK (h : Nw (.dK []) H Q) : tDNewK σ H Q := h
theorem w_dput {td ty tv : TE} (h : tv σ H fun v H1 => td σ H1 fun x H2 => ty σ H2 fun y H3 => rDPut x y v H3 fun H4 => nx σ H4) : sDPut td ty tv ⟨nx, rt, bk, ct⟩ σ H := h
theorem w_seqP {td ty tv : TE} {u : TS} (h : tv σ H fun v H1 => td σ H1 fun x H2 => ty σ H2 fun y H3 => rDPut x y v H3 fun H4 => u ⟨nx, rt, bk, ct⟩ σ H4) : tSeq (sDPut td ty tv) u ⟨nx, rt, bk, ct⟩ σ H := h
theorem w_dputI {a : Addr} {kvs : List (Key × V)} {n : Int} {R : Hp → Prop} (e : H a = some (.dK kvs)) (hl : kvs.length < sizeLine) (h : ∀ H1, H1 a = some (.dK (putK kvs (Sum.inl n) v)) → Off a H H1 → R H1) : rDPut (.ref a) (.int n) v H R :=
  ⟨a, _, rfl, DPut.k (k := Sum.inl n) e hl, h _ upd_same fun x hx => upd_ne hx⟩
theorem w_dget2 {td ty tx : TE} (h : td σ H fun x H1 => rIsD x H1 fun a H1 => ty σ H1 fun y H2 => tx σ H2 fun z H3 => rDGet2 a y z H3 Q) : tDGet2 td ty tx σ H Q := h
theorem w_isD {a : Addr} {kvs : List (Key × V)} {R : Addr → Hp → Prop} (e : H a = some (.dK kvs)) (h : R a H) : rIsD (.ref a) H R := ⟨a, rfl, .inl ⟨kvs, .inl e⟩, h⟩
theorem w_dget2I {a : Addr} {kvs : List (Key × V)} {n : Int} {z : V} (e : H a = some (.dK kvs)) (h : Q ((valV kvs (Sum.inl n)).getD z) H) : rDGet2 a (.int n) z H Q := ⟨_, DGet.k (k := Sum.inl n) e, h⟩
theorem w_dsetd {td ty tx : TE} (h : td σ H fun x H1 => rIsD x H1 fun a H1 => ty σ H1 fun y H2 => tx σ H2 fun z H3 => rDSetd a y z H3 Q) : tDSetd td ty tx σ H Q := h
theorem w_dsetdI {a : Addr} {kvs : List (Key × V)} {n : Int} {z : V} (e : H a = some (.dK kvs)) (hl : kvs.length < sizeLine) (h1 : ∀ u, valV kvs (Sum.inl n) = some u → Q u H) (h2 : valV kvs (Sum.inl n) = none → ∀ H1, H1 a = some (.dK (putK kvs (Sum.inl n) z)) → Off a H H1 → Q z H1) : rDSetd a (.int n) z H Q :=
  ⟨kvs, Sum.inl n, e, rfl, hl, h1, fun z => h2 z _ upd_same fun x hx => upd_ne hx⟩
theorem w_sortD {a : Addr} {kvs : List (Key × V)} {ks : List Int} (e : H a = some (.dK kvs)) (hk : kvs.map (·.1) = ks.map Sum.inl) (hl : ks.length < 64) (h : ∀ (ys : List Int) p H1, ys.Perm ks → ys.Pairwise (· ≤ ·) → H p = none → H1 p = some (.lst (ys.map V.int)) → Same H H1 → Q (.ref p) H1) : rSortD [.ref a] H Q :=
  ⟨a, kvs, ks, rfl, .inl e, hk, hl, fun ys p hp hs hn => h ys p _ hp hs hn upd_same (Same.new hn)⟩
theorem w_leT2 {p q : Addr} {a b c d : Int} (h1 : SqT K H p [.int a, .int b]) (h2 : SqT K H q [.int c, .int d]) (h : Q (.bl (decide (a < c ∨ a = c ∧ b ≤ d))) H) : rLeT K (.ref p) (.ref q) H Q := by
  refine ⟨p, q, [a, b], [c, d], rfl, rfl, h1, h2, ?_⟩
  have e : Ob.lexAt (fun j => decide (([a, b] : List Int).getD j 0 = ([c, d] : List Int).getD j 0)) (fun j => decide (([a, b] : List Int).getD j 0 ≤ ([c, d] : List Int).getD j 0)) (decide (([a, b] : List Int).length ≤ ([c, d] : List Int).length)) 0 (min ([a, b] : List Int).length ([c, d] : List Int).length) = decide (a < c ∨ a = c ∧ b ≤ d) := by
    show (if decide (a = c) = true then (if decide (b = d) = true then true else decide (b ≤ d)) else decide (a ≤ c)) = _
    by_cases h1 : a = c
    · rw [if_pos (decide_eq_true h1)]
      by_cases h2 : b = d
      · rw [if_pos (decide_eq_true h2)]
        exact (decide_eq_true (by omega)).symm
      · rw [if_neg (fun z => h2 (of_decide_eq_true z))]
        rw [Bool.eq_iff_iff]; simp; omega
    · rw [if_neg (fun z => h1 (of_decide_eq_true z))]
      rw [Bool.eq_iff_iff]; simp; omega
  rw [e]
  exact h
theorem w_isB {x y : Bool} (h : Q (.bl (decide (x = y))) H) : rIsBl (.bl x) (.bl y) H Q := ⟨x, y, rfl, rfl, h⟩
theorem w_isN (h : Q (.bl (decide (v = .non))) H) : rIsNon v .non H Q := ⟨rfl, h⟩
theorem w_notN (h : Q (.bl (!decide (v = .non))) H) : rNotNon v .non H Q := ⟨rfl, h⟩
theorem w_chain {r r' : R2} {ta tb tc : TE} (h : ta σ H fun x H1 => tb σ H1 fun y H2 => r x y H2 fun z H3 => ∃ k, z = .bl k ∧ (if k = true then tc σ H3 fun w' H4 => r' y w' H4 Q else Q (.bl false) H3)) : tChain r r' ta tb tc σ H Q := h
theorem w_trL {p : Addr} {xs : List V} {R : Bool → Hp → Prop} (h1 : SqL K H p xs) (h : R (!xs.isEmpty) H) : rTru K (.ref p) H R := ⟨_, .inl ⟨xs, h1, rfl⟩, h⟩
theorem w_trT {p : Addr} {xs : List V} {R : Bool → Hp → Prop} (h1 : SqT K H p xs) (h : R (!xs.isEmpty) H) : rTru K (.ref p) H R := ⟨_, .inr (.inl ⟨xs, h1, rfl⟩), h⟩
theorem w_tru {ta : TE} {R : Bool → Hp → Prop} (h : ta σ H fun x H1 => rTru K x H1 R) : tTru K ta σ H R := h
theorem w_seqX {w : Stmt → Prop} {u : TS} {t : TS} (h : t ⟨u ⟨nx, rt, bk, ct⟩, rt, bk, ct⟩ σ H) : tSeq t u ⟨nx, rt, bk, ct⟩ σ H := h
/-! loops -/
def Lp (J : It) (g : TG) (tb : TS) (D : Ends) (σ : St) (H1 : Hp) : Prop := ∃ W : Nat → Nat → St → Hp → Prop, (∃ m, W 0 m σ H1) ∧ ∀ i m σ H, W i m σ H →
  (J.stop i H ∧ D.nx σ H) ∨ (J.go i H ∧ ∃ N : St → Hp → Prop, (∀ σ' H', N σ' H' → ∃ m', m' < m ∧ W (i + 1) m' σ' H') ∧ ∀ x H', J.yld i H x H' → g x σ H' fun σ2 H2 => tb { D with nx := N, ct := N, bk := D.nx } σ2 H2)
theorem w_for {wi : TI} {g : TG} {tb : TS} (h : wi σ H fun J H1 => Lp J g tb ⟨nx, rt, bk, ct⟩ σ H1) : tFor wi g tb ⟨nx, rt, bk, ct⟩ σ H := h
theorem lp_it {J : It} {n : Nat} {G : Hp → Prop} {Y : Nat → Hp → V → Hp → Prop} (w : Walk J n G Y) {g : TG} {tb : TS} (Pv : Nat → St → Hp → Prop) (h0 : Pv 0 σ H) (hG : ∀ i σ H, i ≤ n → Pv i σ H → G H)
    (hs : ∀ i x σ H H', i < n → Pv i σ H → Y i H x H' → g x σ H' fun σ2 H2 => tb ⟨Pv (i + 1), rt, nx, Pv (i + 1)⟩ σ2 H2) (hd : ∀ σ H, Pv n σ H → nx σ H) : Lp J g tb ⟨nx, rt, bk, ct⟩ σ H :=
  for_it w (D := ⟨nx, rt, bk, ct⟩) Pv h0 hG hs hd
theorem lp_list {a : Addr} {xs : List V} {g : TG} {tb : TS} (Pv : Nat → St → Hp → Prop) (h0 : Pv 0 σ H) (hl : ∀ i σ H, i ≤ xs.length → Pv i σ H → SqL K H a xs)
    (hs : ∀ i x σ H, xs[i]? = some x → Pv i σ H → g x σ H fun σ2 H2 => tb ⟨Pv (i + 1), rt, nx, Pv (i + 1)⟩ σ2 H2) (hd : ∀ σ H, Pv xs.length σ H → nx σ H) : Lp (Itl K a) g tb ⟨nx, rt, bk, ct⟩ σ H :=
  for_list (D := ⟨nx, rt, bk, ct⟩) Pv h0 hl hs hd
theorem lp_tup {a : Addr} {xs : List V} {g : TG} {tb : TS} (Pv : Nat → St → Hp → Prop) (h0 : Pv 0 σ H) (hl : ∀ i σ H, i ≤ xs.length → Pv i σ H → SqT K H a xs)
    (hs : ∀ i x σ H, xs[i]? = some x → Pv i σ H → g x σ H fun σ2 H2 => tb ⟨Pv (i + 1), rt, nx, Pv (i + 1)⟩ σ2 H2) (hd : ∀ σ H, Pv xs.length σ H → nx σ H) : Lp (Itt K a) g tb ⟨nx, rt, bk, ct⟩ σ H :=
  for_tup (D := ⟨nx, rt, bk, ct⟩) Pv h0 hl hs hd
theorem lp_range {lo : Int} {n : Nat} {g : TG} {tb : TS} (Pv : Nat → St → Hp → Prop) (h0 : Pv 0 σ H)
    (hs : ∀ i σ H, i < n → Pv i σ H → g (.int (lo + i)) σ H fun σ2 H2 => tb ⟨Pv (i + 1), rt, nx, Pv (i + 1)⟩ σ2 H2) (hd : ∀ σ H, Pv n σ H → nx σ H) : Lp (Itr lo n) g tb ⟨nx, rt, bk, ct⟩ σ H :=
  for_range (D := ⟨nx, rt, bk, ct⟩) Pv h0 hs hd
theorem w_rng1 {t : TA} {R : It → Hp → Prop} (h : t σ H fun vs H1 => rRng1 vs H1 R) : iRng1 t σ H R := h
theorem w_rng1' {j : Int} {R : It → Hp → Prop} (h1 : -(2 ^ 62) ≤ j) (h2 : j < 2 ^ 62) (h : R (Itr 0 j.toNat) H) : rRng1 [.int j] H R := ⟨j, rfl, h1, h2, h⟩
theorem w_rng2 {t : TA} {R : It → Hp → Prop} (h : t σ H fun vs H1 => rRng2 vs H1 R) : iRng2 t σ H R := h
theorem w_rng2' {i j : Int} {R : It → Hp → Prop} (h1 : -(2 ^ 62) ≤ i ∧ i < 2 ^ 62 ∧ -(2 ^ 62) ≤ j ∧ j < 2 ^ 62) (h : R (Itr i (j - i).toNat) H) : rRng2 [.int i, .int j] H R := ⟨i, j, rfl, h1, h⟩
theorem w_itL {tl : TE} {R : It → Hp → Prop} (h : tl σ H fun x H1 => rItL K x H1 R) : iList K tl σ H R := h
theorem w_itL' {a : Addr} {xs : List V} {R : It → Hp → Prop} (h1 : SqL K H a xs) (h : R (Itl K a) H) : rItL K (.ref a) H R := ⟨a, rfl, ⟨xs, h1⟩, h⟩
theorem w_itT {tl : TE} {R : It → Hp → Prop} (h : tl σ H fun x H1 => rItT K x H1 R) : iTup K tl σ H R := h
theorem w_itT' {a : Addr} {xs : List V} {R : It → Hp → Prop} (h1 : SqT K H a xs) (h : R (Itt K a) H) : rItT K (.ref a) H R := ⟨a, rfl, ⟨xs, h1⟩, h⟩
theorem w_while {c : TT} {tb : TS} (Pv : St → Hp → Prop) (μ : St → Hp → Nat) (h0 : Pv σ H)
    (hs : ∀ σ H, Pv σ H → c σ H fun b H1 => if b = true then ∃ N : St → Hp → Prop, (∀ σ' H', N σ' H' → Pv σ' H' ∧ μ σ' H' < μ σ H) ∧ tb ⟨N, rt, nx, N⟩ σ H1 else nx σ H1) (mono : ∀ σ H (R R' : Bool → Hp → Prop), (∀ b H1, R b H1 → R' b H1) → c σ H R → c σ H R') : tWhile c tb ⟨nx, rt, bk, ct⟩ σ H := by
  refine ⟨fun m σ H => m = μ σ H ∧ Pv σ H, ⟨_, rfl, h0⟩, ?_⟩
  rintro m σ H ⟨rfl, p⟩
  refine mono σ H _ _ (fun b H1 q => ?_) (hs σ H p)
  cases b with
  | true =>
    obtain ⟨N, h1, h2⟩ := q
    exact ⟨N, fun σ' H' z => ⟨_, (h1 σ' H' z).2, rfl, (h1 σ' H' z).1⟩, h2⟩
  | false => exact q
/-- one turn of a while: W (by a falling number) is reached again -/
def WhT (W : Nat → St → Hp → Prop) (m : Nat) (tb : TS) (rt : VK) (nx : St → Hp → Prop) (σ : St) (H : Hp) : Prop := ∃ N : St → Hp → Prop, (∀ σ' H', N σ' H' → ∃ m', m' < m ∧ W m' σ' H') ∧ tb ⟨N, rt, nx, N⟩ σ H
theorem w_turn {W : Nat → St → Hp → Prop} {m : Nat} {tb : TS} (h : tb ⟨fun σ' H' => ∃ m', m' < m ∧ W m' σ' H', rt, nx, fun σ' H' => ∃ m', m' < m ∧ W m' σ' H'⟩ σ H) : WhT W m tb rt nx σ H := ⟨_, fun _ _ z => z, h⟩
theorem w_whileN {c : TT} {tb : TS} (W : Nat → St → Hp → Prop) (m0 : Nat) (h0 : W m0 σ H) (hs : ∀ m σ H, W m σ H → c σ H fun b H1 => if b = true then WhT W m tb rt nx σ H1 else nx σ H1) : tWhile c tb ⟨nx, rt, bk, ct⟩ σ H := ⟨W, ⟨m0, h0⟩, hs⟩
/-! comprehensions -/
def LcP (J : It) (g : TG) (tt : TT) (te : TE) (vs : List Nat) (Q : VK) (σ : St) (H1 : Hp) : Prop := ∀ D, H1 D = none → ∃ W : Nat → Nat → Hp → Prop, (∃ m, W 0 m (upd H1 D (.lst []))) ∧ ∀ i m H, W i m H →
  (J.stop i H ∧ Q (.ref D) H) ∨ (J.go i H ∧ ∃ Nx : Hp → Prop, (∀ H', Nx H' → ∃ m', m' < m ∧ W (i + 1) m' H') ∧ ∀ x H', J.yld i H x H' → g x (wipe σ vs) H' fun σ2 H2 => wipe σ2 vs = wipe σ vs ∧ tt σ2 H2 fun b H3 =>
    if b = true then te σ2 H3 fun y H4 => ∃ acc, H4 D = some (.lst acc) ∧ acc.length < sizeLine ∧ Nx (upd H4 D (.lst (acc ++ [y]))) else Nx H3)
theorem w_lc {wi : TI} {g : TG} {tt : TT} {te : TE} {vs : List Nat} (h : wi σ H fun J H1 => LcP J g tt te vs Q σ H1) : tLc wi g tt te vs σ H Q := h
/-- each turn adds one: the k-th is ys[k]; what stood but M stands -/
theorem lcp_map {J : It} {n : Nat} {G : Hp → Prop} {Y : Nat → Hp → V → Hp → Prop} (w : Walk J n G Y) {g : TG} {te : TE} {vs : List Nat} (M : List Addr) (ys : List V) (hn : ys.length = n) (hz : n ≤ 1000000) (hG : ∀ H', Kp M H H' → G H')
    (hs : ∀ i x H1 H2 (R : V → Hp → Prop), i < n → Kp M H H1 → Y i H1 x H2 → (∀ y H4, ys[i]? = some y → Kp M H1 H4 → R y H4) → g x (wipe σ vs) H2 fun σ2 H3 => wipe σ2 vs = wipe σ vs ∧ te σ2 H3 R)
    (hM : ∀ b ∈ M, ∃ o, H b = some o)
    (hd : ∀ D H', H D = none → Kp M H H' → H' D = some (.lst ys) → Q (.ref D) H') : LcP J g tYes te vs Q σ H := by
  intro D hD
  have hDM : D ∉ M := fun z => by obtain ⟨o, e⟩ := hM D z; rw [hD] at e; cases e
  refine lc_it w (fun i H' => Kp M H H' ∧ H' D = some (.lst (ys.take i))) ⟨Kp.new hD, upd_same⟩ (fun i H' _ z => hG H' z.1) ?_ ?_
  · rintro i x H1 H2 hi ⟨k1, e1⟩ y
    refine (hs i x H1 H2 _ hi k1 y ?_)
    intro z H4 hz' k4
    refine ⟨ys.take i, k4 _ _ hDM e1, ?_, ?_, ?_⟩
    · rw [List.length_take]; exact Nat.lt_of_le_of_lt (Nat.min_le_left _ _) (Nat.lt_of_lt_of_le (Nat.lt_of_lt_of_le hi hz) (by decide))
    · exact (k1.trans k4).mutN hD
    · rw [upd_same, List.take_add_one, hz']; rfl
  · rintro H' ⟨k, e⟩
    rw [List.take_of_length_le (by omega)] at e
    exact hd D H' hD k e
/-- each turn adds one of which P holds (P leans on tuples alone); S: what else holds turn by turn -/
theorem lcp_gen {J : It} {n : Nat} {G : Hp → Prop} {Y : Nat → Hp → V → Hp → Prop} (w : Walk J n G Y) {g : TG} {te : TE} {vs : List Nat} (M : List Addr) (P : Nat → V → Hp → Prop) (S : Nat → Hp → Prop) (hz : n ≤ 1000000)
    (mono : ∀ i y H1 H2, KT H1 H2 → P i y H1 → P i y H2) (SD : ∀ D, H D = none → ∀ i H1 o, S i H1 → S i (upd H1 D o)) (hG : ∀ i H', Kp M H H' → S i H' → G H') (S0 : S 0 H)
    (hs : ∀ i x H1 H2 (R : V → Hp → Prop), i < n → Kp M H H1 → KT H H1 → S i H1 → Y i H1 x H2 → (∀ y H4, P i y H4 → Kp M H1 H4 → KT H1 H4 → S (i + 1) H4 → R y H4) → g x (wipe σ vs) H2 fun σ2 H3 => wipe σ2 vs = wipe σ vs ∧ te σ2 H3 R)
    (hM : ∀ b ∈ M, ∃ o, H b = some o)
    (hd : ∀ D H' ys, ys.length = n → (∀ i y, ys[i]? = some y → P i y H') → H D = none → Kp M H H' → KT H H' → S n H' → H' D = some (.lst ys) → Q (.ref D) H') : LcP J g tYes te vs Q σ H := by
  intro D hD
  have hDM : D ∉ M := fun z => by obtain ⟨o, e⟩ := hM D z; rw [hD] at e; cases e
  refine lc_it w (fun i H' => Kp M H H' ∧ KT H H' ∧ S i H' ∧ ∃ ys, ys.length = i ∧ H' D = some (.lst ys) ∧ ∀ k y, ys[k]? = some y → P k y H') ⟨Kp.new hD, KT.refl.upd hD, SD D hD _ _ _ S0, [], rfl, upd_same, by simp⟩ (fun i H' _ z => hG i H' z.1 z.2.2.1) ?_ ?_
  · rintro i x H1 H2 hi ⟨k1, t1, s1, ys, hl, e1, hp⟩ y
    refine hs i x H1 H2 _ hi k1 t1 s1 y ?_
    intro z H4 pz k4 t4 s4
    have e4 := k4 _ _ hDM e1
    refine ⟨ys, e4, ?_, (k1.trans k4).mutN hD, (t1.trans t4).upd hD, SD D hD _ _ _ s4, ys ++ [z], by rw [List.length_append, hl]; rfl, upd_same, ?_⟩
    · rw [hl]; exact Nat.lt_of_lt_of_le (Nat.lt_of_lt_of_le hi hz) (by decide)
    · intro k y' hy'
      by_cases hk : k < ys.length
      · rw [List.getElem?_append_left hk] at hy'
        exact mono _ _ _ _ (KT.updL e4) (mono _ _ _ _ t4 (hp k y' hy'))
      · rw [List.getElem?_append_right (by omega)] at hy'
        by_cases hk2 : k = ys.length
        · subst hk2
          have e : z = y' := by simpa using hy'
          subst e
          rw [hl]
          exact mono _ _ _ _ (KT.updL e4) pz
        · rw [List.getElem?_eq_none (by simp; omega)] at hy'
          cases hy'
  · rintro H' ⟨k, t, sn, ys, hl, e, hp⟩
    exact hd D H' ys hl hp hD k t sn e
theorem lcp_rel {J : It} {n : Nat} {G : Hp → Prop} {Y : Nat → Hp → V → Hp → Prop} (w : Walk J n G Y) {g : TG} {te : TE} {vs : List Nat} (M : List Addr) (P : Nat → V → Hp → Prop) (hz : n ≤ 1000000)
    (mono : ∀ i y H1 H2, KT H1 H2 → P i y H1 → P i y H2) (hG : ∀ H', Kp M H H' → G H')
    (hs : ∀ i x H1 H2 (R : V → Hp → Prop), i < n → Kp M H H1 → KT H H1 → Y i H1 x H2 → (∀ y H4, P i y H4 → Kp M H1 H4 → KT H1 H4 → R y H4) → g x (wipe σ vs) H2 fun σ2 H3 => wipe σ2 vs = wipe σ vs ∧ te σ2 H3 R)
    (hM : ∀ b ∈ M, ∃ o, H b = some o)
    (hd : ∀ D H' ys, ys.length = n → (∀ i y, ys[i]? = some y → P i y H') → H D = none → Kp M H H' → KT H H' → H' D = some (.lst ys) → Q (.ref D) H') : LcP J g tYes te vs Q σ H :=
  lcp_gen w M P (fun _ _ => True) hz mono (fun _ _ _ _ _ _ => trivial) (fun _ H' k _ => hG H' k) trivial (fun i x H1 H2 R hi k t _ y h => hs i x H1 H2 R hi k t y fun y' H4 p k4 t4 => h y' H4 p k4 t4 trivial) hM fun D H' ys h1 h2 h3 h4 h5 _ h6 => hd D H' ys h1 h2 h3 h4 h5 h6
theorem refs_of {α : Type} (C : Addr → α → Prop) : ∀ (ys : List V) (F : Nat → α), (∀ j y, ys[j]? = some y → ∃ p, y = .ref p ∧ C p (F j)) → ∃ ps : List (Addr × α), ys = ps.map (fun q => .ref q.1) ∧ ps.map (·.2) = (List.range ys.length).map F ∧ ∀ q ∈ ps, C q.1 q.2
  | [], _, _ => ⟨[], rfl, rfl, by simp⟩
  | y :: r, F, h => by
    obtain ⟨p, rfl, hp⟩ := h 0 y rfl
    obtain ⟨ps, e1, e2, e3⟩ := refs_of C r (F ∘ Nat.succ) fun j z hz => h (j + 1) z hz
    refine ⟨(p, F 0) :: ps, by rw [e1]; rfl, ?_, ?_⟩
    · rw [List.length_cons, List.range_succ_eq_map, List.map_cons, e2, List.map_cons, List.map_map]
    · intro q hq
      rcases List.mem_cons.mp hq with rfl | hq
      · exact hp
      · exact e3 q hq
end
/-! ### dict comprehensions -/
section
open PySem.Spec PyProof.Rows
variable {X : Cx}
/-- name = {k: v for ..}, the name a local: as the layer's rule for a list's comprehension -/
theorem ps_setDc {i : Nat} {y : Str} {py : Pos} {kx vx tg iter : Expr} {ifs : List Expr} {scope : Scope} {own : List (Str × Nat)} {pos spos : Pos} {wi : TI} {g : TG} {tt : TT} {tk tv : TE}
    (hc : X.calm = true) (hN : X.N.Nodup) (hy : X.N[i]? = some y) (hyl : X.env.scope.names.lookup y = some .local)
    (hsw : swapsWith (.DictComp kx vx [⟨tg, iter, ifs, 0⟩] scope pos) (some (.Name y py)) spos.line X.env = pure true)
    (hi : PI X tg iter wi) (ok : BlkOk X.N X.env.scope scope own)
    (hg : ∀ s0 H0 C0 cl fp, PG (X.blk s0 H0 scope (compEnvC scope cl C0 X.env) fp) tg g) (ht : ∀ s0 H0 C0 cl fp, PTs (X.blk s0 H0 scope (compEnvC scope cl C0 X.env) fp) ifs tt)
    (hk : ∀ s0 H0 C0 cl fp, PE (X.blk s0 H0 scope (compEnvC scope cl C0 X.env) fp) kx tk) (he : ∀ s0 H0 C0 cl fp, PE (X.blk s0 H0 scope (compEnvC scope cl C0 X.env) fp) vx tv)
    (hs : ∀ z, foldedSetIterable iter X.env z = pure z := by intro _; rfl) :
    PS X (.Assign [.Name y py] (.DictComp kx vx [⟨tg, iter, ifs, 0⟩] scope pos) spos) (tAsg (tDc wi g tt tk tv (own.map (·.2))) (gName i)) := by
  constructor
  intro pins s σ H Ed I h
  rw [exec_Assign_Name_used y py _ _ hsw]
  apply wpAny_bind
  apply wpAny_standAt
  apply wpAny_bind
  show wpAny _ X.A (comprehension (.DictComp kx vx [⟨tg, iter, ifs, 0⟩] scope pos) scope X.env (firstIterPos [⟨tg, iter, ifs, 0⟩] pos) newDict false (eval iter X.env) (some (assign (.Name y py) X.env)) >>= fun _ => pure ()) _ _ s
  apply wpAny_bind
  have h' : tDc wi g tt tk tv (own.map (·.2)) σ H (fun x H1 => gName i x σ H1 Ed.nx) := h
  refine thn (dc_core (Qf := fun _ s1 => SP X pins Ed .next s1) hc hN I hi ok hg ht hk he hs h' ?_) (fun _ _ z => wpAny_pure (wpAny_pure z))
  intro L C s1 m H1 I1 q hn ff
  obtain ⟨f0, f1, f2, f3, f4, f5⟩ := ff
  show wpAny _ _ (assign (.Name y py) X.env (.ref L)) _ _ _
  apply wpAny_assign_Name
  refine store_ok2 (v := V.ref L) I1 hN hy (.inl hyl) rfl ?_ (.inr hyl)
  rintro s2 I2 ⟨ad, sb, had⟩
  have hne : C ≠ ad := by
    rcases had with hz | hz
    · exact fun e => f1 (e.trans hz)
    · exact fun e => f4 y ad hz e.symm
  refine ⟨m, hn.sameBut sb hne, fun h3 sb3 => ⟨_, H1, ?_, q⟩⟩
  exact I2.turned (t' := s2.toks) (fun b o hb e => (sb3.2 b hb).trans e) f0 f1 f3 f4 f5
theorem sw_trueD {kx vx : Expr} {gs : List Comprehension} {scope : Scope} {pos py : Pos} {y : Str} {l : Nat} {env : Env} (hkd : env.scope.kind = .function) (hlk : env.scope.names.lookup y = some .local)
    (hln : (py.line == pos.line) = true) (hno : (scope.names.any fun (n, k) => n == y && (k == .local || k == .cell)) = false) : swapsWith (.DictComp kx vx gs scope pos) (some (.Name y py)) l env = pure true := by
  have e1 : env.kindOf y = some .local := hlk
  have e2 : env.blockKind = .function := by
    unfold Env.blockKind
    rw [hkd]
    rfl
  unfold swapsWith
  simp only [e2, e1, hno, Expr.pos, hln]
  rfl
end
section
variable {K : PySem.W.Frag} {σ : St} {H : Hp} {Q : VK}
def DcP (J : It) (g : TG) (tt : TT) (tk tv : TE) (vs : List Nat) (Q : VK) (σ : St) (H1 : Hp) : Prop := ∀ D, H1 D = none → ∃ W : Nat → Nat → Hp → Prop, (∃ m, W 0 m (upd H1 D (.dK []))) ∧ ∀ i m H, W i m H →
  (J.stop i H ∧ Q (.ref D) H) ∨ (J.go i H ∧ ∃ Nx : Hp → Prop, (∀ H', Nx H' → ∃ m', m' < m ∧ W (i + 1) m' H') ∧ ∀ x H', J.yld i H x H' → g x (wipe σ vs) H' fun σ2 H2 => wipe σ2 vs = wipe σ vs ∧ tt σ2 H2 fun b H3 =>
    if b = true then tk σ2 H3 fun y H4 => tv σ2 H4 fun z H5 => ∃ kvs k, y = kV k ∧ H5 D = some (.dK kvs) ∧ kvs.length < sizeLine ∧ Nx (upd H5 D (.dK (putK kvs k z))) else Nx H3)
theorem w_dc {wi : TI} {g : TG} {tt : TT} {tk tv : TE} {vs : List Nat} (h : wi σ H fun J H1 => DcP J g tt tk tv vs Q σ H1) : tDc wi g tt tk tv vs σ H Q := h
theorem putK_len' {κ : Type} [DecidableEq κ] (c : List (κ × V)) (k : κ) (x : V) : (putK c k x).length ≤ c.length + 1 := by
  unfold putK
  by_cases e : (c.any fun kv => decide (kv.1 = k)) = true
  · rw [if_pos e, List.length_map]; omega
  · rw [if_neg e, List.length_append]; simp
theorem mergeK_len (es : List (Key × V)) : ∀ acc, (mergeK acc es).length ≤ acc.length + es.length := by
  unfold mergeK
  induction es with
  | nil => intro acc; simp
  | cons e r ih =>
    intro acc
    have h1 := ih (putK acc e.1 e.2)
    have h2 := putK_len' acc e.1 e.2
    simp only [List.foldl_cons, List.length_cons] at *
    omega
theorem mergeK_snoc (acc es : List (Key × V)) (e : Key × V) : mergeK acc (es ++ [e]) = putK (mergeK acc es) e.1 e.2 := by
  unfold mergeK; rw [List.foldl_append]; rfl
/-- each turn adds a pair: the k-th is es[k]; what stood but M stands -/
theorem dcp_map {J : It} {n : Nat} {G : Hp → Prop} {Y : Nat → Hp → V → Hp → Prop} (w : Walk J n G Y) {g : TG} {tk tv : TE} {vs : List Nat} (M : List Addr) (es : List (Key × V)) (hn : es.length = n) (hz : n ≤ 1000000) (hG : ∀ H', Kp M H H' → G H')
    (hs : ∀ i x H1 H2 (R : V → V → Hp → Prop), i < n → Kp M H H1 → Y i H1 x H2 → (∀ e H4, es[i]? = some e → Kp M H1 H4 → R (kV e.1) e.2 H4) → g x (wipe σ vs) H2 fun σ2 H3 => wipe σ2 vs = wipe σ vs ∧ tk σ2 H3 fun y H4 => tv σ2 H4 fun z H5 => R y z H5)
    (hM : ∀ b ∈ M, ∃ o, H b = some o)
    (hd : ∀ D H', H D = none → Kp M H H' → H' D = some (.dK (mergeK [] es)) → Q (.ref D) H') : DcP J g tYes tk tv vs Q σ H := by
  intro D hD
  have hDM : D ∉ M := fun z => by obtain ⟨o, e⟩ := hM D z; rw [hD] at e; cases e
  refine ⟨fun i m H' => m = n - i ∧ i ≤ n ∧ Kp M H H' ∧ H' D = some (.dK (mergeK [] (es.take i))), ⟨n, by simp, Nat.zero_le _, Kp.new hD, upd_same⟩, ?_⟩
  rintro i m H1 ⟨rfl, hi, k1, e1⟩
  by_cases hlt : i < n
  · refine .inr ⟨w.goes i H1 hlt (hG _ k1), fun H' => Kp M H H' ∧ H' D = some (.dK (mergeK [] (es.take (i + 1)))), fun H' z => ⟨n - (i + 1), by omega, rfl, hlt, z.1, z.2⟩, fun x H2 y => ?_⟩
    refine hs i x H1 H2 (fun y z H5 => ∃ kvs k, y = kV k ∧ H5 D = some (.dK kvs) ∧ kvs.length < sizeLine ∧ (Kp M H (upd H5 D (.dK (putK kvs k z))) ∧ (upd H5 D (.dK (putK kvs k z))) D = some (.dK (mergeK [] (es.take (i + 1)))))) hlt k1 (w.yields i H1 x H2 hlt (hG _ k1) y) ?_
    intro e H4 he k4
    refine ⟨mergeK [] (es.take i), e.1, rfl, k4 _ _ hDM e1, ?_, (k1.trans k4).mutN hD, ?_⟩
    · have h1 := mergeK_len (es.take i) []
      have h2 : (es.take i).length ≤ 1000000 := by rw [List.length_take]; omega
      exact Nat.lt_of_le_of_lt (Nat.le_trans h1 (by simpa using h2)) (by decide)
    · rw [upd_same, List.take_add_one, he]
      show _ = some (HO.dK (mergeK [] (es.take i ++ [e])))
      rw [mergeK_snoc]
  · have e : i = n := by omega
    subst e
    rw [List.take_of_length_le (by omega)] at e1
    exact .inl ⟨w.stops H1 (hG _ k1), hd D H1 hD k1 e1⟩
theorem valV_merge (k : Key) : ∀ (es acc : List (Key × V)), (valV (mergeK acc es) k).isSome = ((valV acc k).isSome || es.any fun e => decide (e.1 = k)) := by
  intro es
  induction es with
  | nil => intro acc; show (valV acc k).isSome = _; simp
  | cons e r ih =>
    intro acc
    show (valV (mergeK (putK acc e.1 e.2) r) k).isSome = _
    rw [ih, valV_put, List.any_cons]
    by_cases h : k = e.1
    · rw [if_pos h, decide_eq_true h.symm]; simp
    · rw [if_neg h, decide_eq_false (fun z => h z.symm)]; simp
/-- {x: True for x in ns}: who is in it -/
theorem known_in (ns : List Int) (f : Int → V) (n : Int) : (valV (mergeK [] (ns.map fun i => ((Sum.inl i : Key), f i))) (Sum.inl n)).isSome = decide (n ∈ ns) := by
  rw [valV_merge, valV_nil]
  rw [Bool.eq_iff_iff]
  simp
end
/-! ### ints -/
theorem cmul_l {i j : Int} (h1 : -(2 ^ 64) < i) (h2 : i < 2 ^ 64) : CMul i j := .inl ⟨h1, h2⟩
theorem cmul_r {i j : Int} (h1 : -(2 ^ 64) < j) (h2 : j < 2 ^ 64) : CMul i j := .inr ⟨h1, h2⟩
theorem cdivw {i j : Int} (h1 : 0 < j) (h2 : j < 2 ^ 64) : CDivW i j := wide_div (b := 64) h1 (by omega) (by decide) (by decide)
theorem at_lt {α : Type} {xs : List α} {i : Int} (h0 : 0 ≤ i) (h1 : i < xs.length) : ∃ v, xs[i.toNat]? = some v ∧ atI xs i = some v := by
  have hl : i.toNat < xs.length := by omega
  refine ⟨xs[i.toNat], List.getElem?_eq_getElem hl, ?_⟩
  have e := atI_nat (xs := xs) (j := i.toNat) (List.getElem?_eq_getElem hl)
  rw [Int.toNat_of_nonneg h0] at e
  exact e
theorem at_neg1 {xs : List V} {d : V} (h : 0 < xs.length) : atI xs (-1) = some (xs.getLastD d) := by
  have hne : xs ≠ [] := by intro z; subst z; simp at h
  have z := atI_last xs.dropLast (xs.getLast hne)
  rw [List.dropLast_concat_getLast hne] at z
  rw [z, List.getLastD_eq_getLast?, List.getLast?_eq_some_getLast hne]
  rfl
/-! ### the deck -/
def MOSTD : Nat := 1099511627776
structure Deck (H : Hp) (d c : Addr) (n : Nat) : Prop where
  ex : ∃ (cs : List Int) (a : Nat) (b : Int) (t : Nat), H d = some (.lst [.ref c, .int a, .int b, .int t]) ∧ H c = some (.lst (cs.map V.int)) ∧ t ≤ n
  ne : c ≠ d
theorem Deck.kp {M : List Addr} {H H' : Hp} {d c : Addr} {n : Nat} (k : Kp M H H') (h1 : d ∉ M) (h2 : c ∉ M) (D : Deck H d c n) : Deck H' d c n := by
  obtain ⟨⟨cs, a, b, t, e1, e2, e3⟩, ne⟩ := D
  exact ⟨⟨cs, a, b, t, k _ _ h1 e1, k _ _ h2 e2, e3⟩, ne⟩
theorem Deck.new {H : Hp} {d c : Addr} {n : Nat} {p : Addr} {o : HO} (h : H p = none) (D : Deck H d c n) : Deck (upd H p o) d c n := D.kp (M := []) (Kp.new h) (by simp) (by simp)
theorem Deck.mut {H : Hp} {d c : Addr} {n : Nat} {p : Addr} {o : HO} (h1 : p ≠ d) (h2 : p ≠ c) (D : Deck H d c n) : Deck (upd H p o) d c n :=
  D.kp (M := [p]) (Kp.mut (by simp)) (by simpa using Ne.symm h1) (by simpa using Ne.symm h2)
theorem Deck.mono {H : Hp} {d c : Addr} {n m : Nat} (D : Deck H d c n) (h : n ≤ m) : Deck H d c m := by
  obtain ⟨⟨cs, a, b, t, e1, e2, e3⟩, ne⟩ := D
  exact ⟨⟨cs, a, b, t, e1, e2, Nat.le_trans e3 h⟩, ne⟩
theorem Deck.at {H : Hp} {d c : Addr} {n : Nat} (D : Deck H d c n) : (∃ xs, H d = some (.lst xs)) ∧ ∃ xs, H c = some (.lst xs) := by
  obtain ⟨⟨cs, a, b, t, e1, e2, e3⟩, ne⟩ := D
  exact ⟨⟨_, e1⟩, ⟨_, e2⟩⟩
theorem Deck.ne1 {H : Hp} {d c p : Addr} {n : Nat} (D : Deck H d c n) (h : H p = none) : p ≠ d ∧ p ≠ c := by
  obtain ⟨⟨xs, e1⟩, ys, e2⟩ := D.at
  exact ⟨(ne_of_none e1 h).symm, (ne_of_none e2 h).symm⟩
end FW

set_option Elab.async false
set_option linter.all false
set_option maxRecDepth 100000
set_option maxHeartbeats 4000000
namespace FW
open PySem L2
def top (i : Nat) : Stmt := PySem.Challenge.pw_fewasks_k11_good_shapes.main.body.getD i (.Pass ⟨0, 0, 0, 0⟩)
abbrev s_is_whole : Stmt := top 6
abbrev N_is_whole : List Str := ["thing"]
theorem sc_is_whole : FnScope N_is_whole ["thing"] (defScope s_is_whole) := ⟨rfl, rfl, rfl, by decide +kernel, rfl, by decide +kernel, by decide +kernel⟩
abbrev s_is_rising : Stmt := top 7
abbrev N_is_rising : List Str := ["thing", "last", "one"]
theorem sc_is_rising : FnScope N_is_rising ["thing"] (defScope s_is_rising) := ⟨rfl, rfl, rfl, by decide +kernel, rfl, by decide +kernel, by decide +kernel⟩
abbrev s_are_links : Stmt := top 8
abbrev N_are_links : List Str := ["versions", "thing", "known", "last", "pair", "version"]
theorem sc_are_links : FnScope N_are_links ["versions", "thing"] (defScope s_are_links) := ⟨rfl, rfl, rfl, by decide +kernel, rfl, by decide +kernel, by decide +kernel⟩
abbrev s_check : Stmt := top 9
abbrev N_check : List Str := ["thing", "versions", "links"]
theorem sc_check : FnScope N_check ["thing"] (defScope s_check) := ⟨rfl, rfl, rfl, by decide +kernel, rfl, by decide +kernel, by decide +kernel⟩
abbrev s_law_deck : Stmt := top 11
abbrev N_law_deck : List Str := ["_law_script"]
theorem sc_law_deck : FnScope N_law_deck ["_law_script"] (defScope s_law_deck) := ⟨rfl, rfl, rfl, by decide +kernel, rfl, by decide +kernel, by decide +kernel⟩
abbrev s_law_mixed : Stmt := top 12
abbrev N_law_mixed : List Str := ["_law_cell", "_law_turn"]
theorem sc_law_mixed : FnScope N_law_mixed ["_law_cell", "_law_turn"] (defScope s_law_mixed) := ⟨rfl, rfl, rfl, by decide +kernel, rfl, by decide +kernel, by decide +kernel⟩
abbrev s_law_draw : Stmt := top 13
abbrev N_law_draw : List Str := ["_law_deck_here", "_law_many", "_law_cells", "_law_found", "_law_number"]
theorem sc_law_draw : FnScope N_law_draw ["_law_deck_here", "_law_many"] (defScope s_law_draw) := ⟨rfl, rfl, rfl, by decide +kernel, rfl, by decide +kernel, by decide +kernel⟩
abbrev s_law_shape : Stmt := top 14
abbrev N_law_shape : List Str := ["_law_deck_here", "_law_most", "_law_versions", "_law_last", "_law_far", "_law_road", "_law_links", "_law_k", "_law_j", "_law_hit"]
theorem sc_law_shape : FnScope N_law_shape ["_law_deck_here", "_law_most"] (defScope s_law_shape) := ⟨rfl, rfl, rfl, by decide +kernel, rfl, by decide +kernel, by decide +kernel⟩
abbrev s_law_long_shape : Stmt := top 15
abbrev N_law_long_shape : List Str := ["_law_deck_here", "_law_most", "_law_first", "_law_gap", "_law_width", "_law_many", "_law_versions", "_law_links", "_law_k"]
theorem sc_law_long_shape : FnScope N_law_long_shape ["_law_deck_here", "_law_most"] (defScope s_law_long_shape) := ⟨rfl, rfl, rfl, by decide +kernel, rfl, by decide +kernel, by decide +kernel⟩
abbrev s_law : Stmt := top 16
abbrev N_law : List Str := ["_law_script", "_law_deck_here", "_law_row"]
theorem sc_law : FnScope N_law ["_law_script"] (defScope s_law) := ⟨rfl, rfl, rfl, by decide +kernel, rfl, by decide +kernel, by decide +kernel⟩
structure Df (K : PySem.W.Frag) (mg : Str → Option Value) (x : Str) (st : Stmt) (ps : List Str) (f : Addr) (fd : FuncData) : Prop where
  fn : Fun K x x st f fd
  b : Binds K fd ps []
  g : mg x = some (.ref f)
structure Txt (K : PySem.W.Frag) (mg : Str → Option Value) : Prop where
  n_len : mg "len" = none
  n_list : mg "list" = none
  n_isinstance : mg "isinstance" = none
  n_int : mg "int" = none
  n_bool : mg "bool" = none
  n_tuple : mg "tuple" = none
  n_range : mg "range" = none
  g_VERSIONS : ∃ t, mg "VERSIONS" = some (.int 400 t)
  g_LINKS : ∃ t, mg "LINKS" = some (.int 2000 t)
local macro_rules | `(tactic| walk_at "sq") => `(tactic| first | assumption | exact SqL.of (by assumption) | exact SqT.of (by assumption))
local macro_rules | `(tactic| walk_at "c") => `(tactic| first | assumption | decide | omega | exact cmul_r (by decide) (by decide) | exact cmul_l (by decide) (by decide) | exact cmul_r (by omega) (by omega) | exact cmul_l (by omega) (by omega) | exact cdivw (by first | assumption | decide | omega) (by first | assumption | decide | omega) | exact ⟨by decide, by decide, by first | decide | omega⟩)
local macro_rules | `(tactic| walk_at "at") => `(tactic| first | assumption | exact rfl)
local macro_rules | `(tactic| walk_at "ty") => `(tactic| first | exact .base (.int _) | exact .base (.bl _) | exact .base (.str _) | exact .base .non | exact .base (.tup (by assumption)) | exact .base (.lst (by assumption)) | exact .base (.dK (by assumption)))
local macro_rules | `(tactic| walk_at "kb") => `(tactic| first | exact kb_int_int | exact kb_int_bool | exact kb_int_str | exact kb_int_tuple | exact kb_int_list | exact kb_int_dict | exact kb_bool_int | exact kb_bool_bool | exact kb_bool_str | exact kb_bool_tuple | exact kb_bool_list | exact kb_bool_dict | exact kb_str_int | exact kb_str_bool | exact kb_str_str | exact kb_str_tuple | exact kb_str_list | exact kb_str_dict | exact kb_tuple_int | exact kb_tuple_bool | exact kb_tuple_str | exact kb_tuple_tuple | exact kb_tuple_list | exact kb_tuple_dict | exact kb_list_int | exact kb_list_bool | exact kb_list_str | exact kb_list_tuple | exact kb_list_list | exact kb_list_dict | exact kb_dict_int | exact kb_dict_bool | exact kb_dict_str | exact kb_dict_tuple | exact kb_dict_list | exact kb_dict_dict | exact kb_NoneType_int | exact kb_NoneType_bool | exact kb_NoneType_str | exact kb_NoneType_tuple | exact kb_NoneType_list | exact kb_NoneType_dict)
local macro_rules | `(tactic| walk_at "s") => `(tactic| first
  | with_reducible refine w_seqA ?_
  | with_reducible refine w_seqD ?_
  | with_reducible refine w_seqF ?_
  | with_reducible refine w_seqW ?_
  | with_reducible refine w_seqG ?_
  | with_reducible refine w_seqP ?_
  | with_reducible refine w_asg ?_
  | ((with_reducible refine' w_var ?hv ?_); (case hv => exact rfl))
  | with_reducible refine w_c ?_
  | ((with_reducible refine w_name ?_); dsimp only [List.set_cons_zero, List.set_cons_succ])
  | with_reducible refine w_op ?_
  | with_reducible refine w_un ?_
  | with_reducible refine w_neg ?_
  | with_reducible refine w_i0 ?_
  | ((with_reducible refine w_i ?hc ?_); (case hc => walk_at "c"))
  | with_reducible refine w_eqI ?_
  | with_reducible refine w_neI ?_
  | ((with_reducible refine' w_ixL ?h1 ?h2 ?_); (case h1 => walk_at "sq"); (case h2 => walk_at "at"))
  | ((with_reducible refine' w_ixT ?h1 ?h2 ?_); (case h1 => walk_at "sq"); (case h2 => walk_at "at"))
  | with_reducible refine w_sub ?_
  | with_reducible refine w_if ?_
  | with_reducible refine w_test ?_
  | with_reducible refine w_tb ?_
  | with_reducible refine w_bl ?_
  | with_reducible refine w_and ?_
  | with_reducible refine w_or ?_
  | with_reducible refine w_not ?_
  | with_reducible refine w_andV ?_
  | with_reducible refine w_orV ?_
  | with_reducible refine w_notV ?_
  | with_reducible refine w_ret ?_
  | with_reducible refine w_drop ?_
  | with_reducible refine w_next ?_
  | with_reducible refine w_cb ?_
  | with_reducible refine w_nil ?_
  | with_reducible refine w_cons ?_
  | with_reducible refine w_call ?_
  | with_reducible refine w_lst ?_
  | with_reducible refine w_tup ?_
  | with_reducible refine w_bm ?_
  | ((with_reducible refine' w_tyL ?h1 ?_); (case h1 => assumption))
  | ((with_reducible refine' w_lenL ?h1 ?_); (case h1 => walk_at "sq"))
  | ((with_reducible refine' w_lenT ?h1 ?_); (case h1 => walk_at "sq"))
  | ((with_reducible refine w_sz ?h1 ?_); (case h1 => first | decide | (simp only [List.length_cons, List.length_nil]; decide)))
  | with_reducible refine w_min2 ?_
  | with_reducible refine w_max2 ?_
  | with_reducible refine w_tupRg ?_
  | with_reducible refine w_rg2 ?_
  | with_reducible refine w_rg2' ?_
  | with_reducible refine w_bits ?_
  | with_reducible refine w_bits' ?_
  | with_reducible refine w_for ?_
  | with_reducible refine w_rng1 ?_
  | ((with_reducible refine w_rng1' ?h1 ?h2 ?_); (case h1 => omega); (case h2 => omega))
  | with_reducible refine w_rng2 ?_
  | ((with_reducible refine w_rng2' ?h1 ?_); (case h1 => omega))
  | with_reducible refine w_itL ?_
  | ((with_reducible refine' w_itL' ?h1 ?_); (case h1 => walk_at "sq"))
  | with_reducible refine w_itT ?_
  | ((with_reducible refine' w_itT' ?h1 ?_); (case h1 => walk_at "sq"))
  | with_reducible refine w_lc ?_
  | ((with_reducible refine' w_isi ?ty ?hk ?_); (case ty => walk_at "ty"); (case hk => walk_at "kb"))
  | with_reducible refine iteT ?_
  | with_reducible refine iteF ?_
  | with_reducible refine w_nT ?_
  | with_reducible refine w_nF ?_
  | with_reducible refine w_eqS ?_
  | with_reducible refine w_eqB ?_
  | ((with_reducible refine' w_sum ?h1 ?_); (case h1 => walk_at "sq"))
  | ((with_reducible refine' w_gtup ?h1 ?h2 ?_); (case h1 => walk_at "sq"); (case h2 => exact rfl))
  | with_reducible refine w_gcons ?_
  | with_reducible refine w_gnil ?_
  | with_reducible refine w_din ?_
  | with_reducible refine w_dnotin ?_
  | with_reducible refine w_dget ?_
  | ((with_reducible refine' w_dinI ?h1 ?_); (case h1 => assumption))
  | ((with_reducible refine' w_dnotinI ?h1 ?_); (case h1 => assumption))
  | ((with_reducible refine' w_dgetI ?h1 ?h2 ?_); (case h1 => assumption); (case h2 => assumption))
  | with_reducible refine w_dnewK ?_
  | with_reducible refine w_dput ?_
  | with_reducible refine w_dget2 ?_
  | ((with_reducible refine' w_isD ?h1 ?_); (case h1 => assumption))
  | ((with_reducible refine' w_dget2I ?h1 ?_); (case h1 => assumption))
  | with_reducible refine w_dsetd ?_
  | ((with_reducible refine' w_leT2 ?h1 ?h2 ?_); (case h1 => walk_at "sq"); (case h2 => walk_at "sq"))
  | with_reducible refine w_isB ?_
  | with_reducible refine w_isN ?_
  | with_reducible refine w_notN ?_
  | with_reducible refine w_chain ?_
  | with_reducible refine w_tru ?_
  | ((with_reducible refine' w_trL ?h1 ?_); (case h1 => walk_at "sq"))
  | ((with_reducible refine' w_trT ?h1 ?_); (case h1 => walk_at "sq"))
  | with_reducible refine w_dc ?_
  | dsimp only [Bool.not_true, Bool.not_false]
  )
local macro_rules | `(tactic| walk_at "p") => `(tactic| first | assumption | omega | (simp only [List.length_cons, List.length_nil, List.length_map]; omega) | exact rfl | decide)
local macro_rules | `(tactic| walk_at "d") => `(tactic| first
  | ((with_reducible refine w_yes ?hp ?_); (case hp => walk_at "p"))
  | ((with_reducible refine w_no ?hp ?_); (case hp => walk_at "p"))
  | ((with_reducible refine w_nyes ?hp ?_); (case hp => walk_at "p"))
  | ((with_reducible refine w_nno ?hp ?_); (case hp => walk_at "p")))
local macro_rules | `(tactic| walk_at "g") => `(tactic| repeat walk_at "s")
local macro_rules | `(tactic| walk_at "dg") => `(tactic| (walk_at "d"; repeat walk_at "s"))
local macro_rules | `(tactic| walk_at "x") => `(tactic| ((try dsimp only [cxOf, Cx.nox, Cx.wish]); repeat walk_at "s"))
def spDeck (K : PySem.W.Frag) : Sp := fun vs H Q _ => ∃ (a : Addr) (ns : List Int), vs = [.ref a] ∧ SqL K H a (ns.map V.int) ∧
  ∀ H' d c, Same H H' → H d = none → H c = none → Deck H' d c 0 → Q (.ref d) H'
def spMixed : Sp := fun vs H Q _ => ∃ (x t : Int), vs = [.int x, .int t] ∧ 0 ≤ t ∧ t ≤ 2 ^ 41 ∧ ∀ i, Q (.int i) H
def spDraw : Sp := fun vs H Q _ => ∃ (d c : Addr) (n : Nat) (m : Int), vs = [.ref d, .int m] ∧ Deck H d c n ∧ n < MOSTD ∧ 0 < m ∧ m < 2 ^ 64 ∧
  ∀ (i : Nat) H', (i : Int) < m → Deck H' d c (n + 1) → Off d H H' → Q (.int i) H'
theorem w_deck {K : PySem.W.Frag} {H : Hp} {Q : VK} {E : XK} {a : Addr} {ns : List Int} (h1 : SqL K H a (ns.map V.int)) (h : ∀ H' d c, Same H H' → H d = none → H c = none → Deck H' d c 0 → Q (.ref d) H') : spDeck K ([V.ref a] ++ []) H Q E := ⟨a, ns, rfl, h1, h⟩
theorem w_draw {H : Hp} {Q : VK} {E : XK} {d c : Addr} {n : Nat} {m : Int} (D : Deck H d c n) (hn : n < MOSTD) (h0 : 0 < m) (h1 : m < 2 ^ 64) (h : ∀ (i : Nat) H', (i : Int) < m → Deck H' d c (n + 1) → Off d H H' → Q (.int i) H') : spDraw ([V.ref d, V.int m] ++ []) H Q E := ⟨d, c, n, m, rfl, D, hn, h0, h1, h⟩
theorem dk0 {c : Addr} {a b t : V} : atI [V.ref c, a, b, t] 0 = some (.ref c) := rfl
theorem dk1 {c a b t : V} : atI [c, a, b, t] 1 = some a := rfl
theorem dk2 {c a b t : V} : atI [c, a, b, t] 2 = some b := rfl
theorem dk3 {c a b t : V} : atI [c, a, b, t] 3 = some t := rfl
section
variable {P : Program} {w : World} {K : PySem.W.Frag} {mg : Str → Option Value} {base : Heap}
theorem ok_deck {f : Addr} {fd : FuncData} (T : Txt K mg) (F : Fun K "_law_deck" "_law_deck" s_law_deck f fd) : FnOk P w K mg base CX0 1 f fd ["_law_script"] (spDeck K) := by
  refine F.ok sc_law_deck (fun vs H Q E h => ?_) (fun cdv A outer s H vs Q E hr h => ?_)
  · obtain ⟨a, ns, rfl, _⟩ := h
    rfl
  · obtain ⟨a, ns, rfl, hS, q⟩ := h
    refine ⟨_,
      (pss_one
        (ps_ret (pe_lst (pa_cons (pe_callTy (r := rListOf K) c_listOf (by rfl) T.n_list (by decide +kernel) (pa_cons (pv 0) pa_nil)) (pa_cons pe_int (pa_cons pe_int (pa_cons pe_int pa_nil)))))))
      , ?_⟩
    walk_at "x"
    refine w_listL hS fun c H1 hc e1 k1 => ?_
    walk_at "g"
    refine w_new fun d H2 hd e2 k2 => ?_
    refine q _ d c (Same.trans k1 k2) (k1.free hd) hc ⟨⟨ns, 0, 0, 0, e2, k2 _ _ e1, Nat.le_refl _⟩, ne_of_none e1 hd⟩
theorem ok_mixed {f : Addr} {fd : FuncData} (T : Txt K mg) (F : Fun K "_law_mixed" "_law_mixed" s_law_mixed f fd) : FnOk P w K mg base CX0 1 f fd ["_law_cell", "_law_turn"] spMixed := by
  refine F.ok sc_law_mixed (fun vs H Q E h => ?_) (fun cdv A outer s H vs Q E hr h => ?_)
  · obtain ⟨x, t, rfl, _⟩ := h
    rfl
  · obtain ⟨x, t, rfl, h0, h1, q⟩ := h
    refine ⟨_,
      (pss_one
        (ps_ret (pe_op op_mod (pe_op op_pow (pe_op op_add (pe_op op_add (pe_op op_mod (pv 0) pe_int) (pe_op op_mul (pv 1) pe_int)) pe_int) pe_int) pe_int)))
      , ?_⟩
    have e := Int.emod_lt_of_pos x (show (0 : Int) < 2147483629 by decide)
    have e2 := Int.emod_nonneg x (show (2147483629 : Int) ≠ 0 by decide)
    walk_at "x"
    exact q _
theorem ok_draw {f fM : Addr} {fd fdM : FuncData} (T : Txt K mg) (F : Fun K "_law_draw" "_law_draw" s_law_draw f fd) (D_law_mixed : Df K mg "_law_mixed" s_law_mixed ["_law_cell", "_law_turn"] fM fdM) : FnOk P w K mg base CX0 2 f fd ["_law_deck_here", "_law_many"] spDraw := by
  have G_law_mixed : FnOk P w K mg base CX0 1 fM fdM ["_law_cell", "_law_turn"] spMixed := ok_mixed T D_law_mixed.fn
  refine F.ok sc_law_draw (fun vs H Q E h => ?_) (fun cdv A outer s H vs Q E hr h => ?_)
  · obtain ⟨d, c, n, m, rfl, _⟩ := h
    rfl
  · obtain ⟨d, c, n, m, rfl, ⟨⟨cs, a, b, t, e1, e2, e3⟩, ne⟩, hn, hm, hm2, q⟩ := h
    have hn' : t < 1099511627776 := Nat.lt_of_le_of_lt e3 hn
    refine ⟨_,
      (pss_cons
        (ps_set (i := 2) sc_law_draw.nd rfl (.inl rfl) (pe_ix (r := rIxL K) ix_list (pv 0) pe_int (fun _ _ => rfl)))
      (pss_cons
        (ps_asg (pe_op op_add (pe_ix (r := rIxL K) ix_list (pv 0) pe_int (fun _ _ => rfl)) pe_int) (pg_sub (pv 0) pe_int set_list))
      (pss_cons
        (ps_if (PW.pt (pw_and (pt_cmpR op_eq (pe_ix (r := rIxL K) ix_list (pv 0) pe_int (fun _ _ => rfl)) pe_int (nomark _)) (pw_and1 (pt_cmpR op_lt (pe_ix (r := rIxL K) ix_list (pv 0) pe_int (fun _ _ => rfl)) (pe_callB (r := rLen K) c_len (by rfl) T.n_len (by decide +kernel) (pa_cons (pv 2) pa_nil)) (nomark _)))))
          (pss_cons
            (ps_asg (pe_op op_add (pe_ix (r := rIxL K) ix_list (pv 0) pe_int (fun _ _ => rfl)) pe_int) (pg_sub (pv 0) pe_int set_list))
          (pss_cons
            (ps_if (pt_cmpR op_lt (pe_ix (r := rIxL K) ix_list (pv 2) (pe_op op_sub (pe_ix (r := rIxL K) ix_list (pv 0) pe_int (fun _ _ => rfl)) pe_int) (fun _ _ => rfl)) (pe_op op_pow pe_int pe_int) (nomark _))
              (pss_one
                (ps_ret (pe_op op_mod (pe_call G_law_mixed (hr.mono (by decide)) (by rfl) D_law_mixed.g D_law_mixed.fn.kp D_law_mixed.b .nil pass0 (pa_cons (pe_ix (r := rIxL K) ix_list (pv 2) (pe_op op_sub (pe_ix (r := rIxL K) ix_list (pv 0) pe_int (fun _ _ => rfl)) pe_int) (fun _ _ => rfl)) (pa_cons (pe_ix (r := rIxL K) ix_list (pv 0) pe_int (fun _ _ => rfl)) pa_nil))) (pv 1))))
              pss_nil)
          (pss_one
            (ps_asg (pe_ix (r := rIxL K) ix_list (pv 2) (pe_op op_sub (pe_ix (r := rIxL K) ix_list (pv 0) pe_int (fun _ _ => rfl)) pe_int) (fun _ _ => rfl)) (pg_sub (pv 0) pe_int set_list)))))
          pss_nil)
      (pss_cons
        (ps_if (pt_cmpR op_gt (pe_ix (r := rIxL K) ix_list (pv 0) pe_int (fun _ _ => rfl)) pe_int (nomark _))
          (pss_cons
            (ps_set (i := 3) sc_law_draw.nd rfl (.inl rfl) (pe_op op_mod (pe_ix (r := rIxL K) ix_list (pv 0) pe_int (fun _ _ => rfl)) (pv 1)))
          (pss_cons
            (ps_asg (pe_op op_fdivW (pe_ix (r := rIxL K) ix_list (pv 0) pe_int (fun _ _ => rfl)) (pv 1)) (pg_sub (pv 0) pe_int set_list))
          (pss_one
            (ps_ret (pv 3)))))
          pss_nil)
      (pss_cons
        (ps_set (i := 4) sc_law_draw.nd rfl (.inl rfl) (pe_op op_mul (pe_ix (r := rIxL K) ix_list (pv 0) pe_int (fun _ _ => rfl)) pe_int))
      (pss_cons
        (ps_if (pt_cmpR op_gt (pe_callB (r := rLen K) c_len (by rfl) T.n_len (by decide +kernel) (pa_cons (pv 2) pa_nil)) pe_int (nomark _))
          (pss_one
            (ps_set (i := 4) sc_law_draw.nd rfl (.inl rfl) (pe_op op_add (pv 4) (pe_op op_mod (pe_ix (r := rIxL K) ix_list (pv 2) (pe_op op_mod (pe_op op_mul (pe_ix (r := rIxL K) ix_list (pv 0) pe_int (fun _ _ => rfl)) pe_int) (pe_callB (r := rLen K) c_len (by rfl) T.n_len (by decide +kernel) (pa_cons (pv 2) pa_nil))) (fun _ _ => rfl)) pe_int))))
          pss_nil)
      (pss_one
        (ps_ret (pe_op op_mod (pe_call G_law_mixed (hr.mono (by decide)) (by rfl) D_law_mixed.g D_law_mixed.fn.kp D_law_mixed.b .nil pass0 (pa_cons (pv 4) (pa_cons (pe_ix (r := rIxL K) ix_list (pv 0) pe_int (fun _ _ => rfl)) pa_nil))) (pv 1))))))))))
      , ?_⟩
    rw [show L2.start N_law_draw [V.ref d, V.int m] = [some (.ref d), some (.int m), none, none, none] from rfl]
    -- cells = deck[0]; deck[3] = deck[3] + 1
    walk_at "x"
    refine w_setL e1 rfl rfl fun H1 g0 o0 => ?_
    have fin : ∀ (H' : Hp) (a' : Nat) (b' i : Int), 0 ≤ i → i < m → H' d = some (.lst [.ref c, .int a', .int b', .int (t + 1)]) → Off d H H' → Q (.int i) H' := fun H' a' b' i i0 i1 g1 g2 => by
      have z := q i.toNat H' (by omega) ⟨⟨cs, a', b', t + 1, g1, (g2 c ne).trans e2, by omega⟩, ne⟩ g2
      rw [Int.toNat_of_nonneg i0] at z
      exact z
    have md : ∀ x : Int, 0 ≤ x % m ∧ x % m < m := fun x => ⟨Int.emod_nonneg x (by omega), Int.emod_lt_of_pos x hm⟩
    have g0 : H1 d = some (.lst [.ref c, .int a, .int b, .int ((t : Int) + 1)]) := g0
    have c1 : H1 c = some (.lst (cs.map V.int)) := (o0 c ne).trans e2
    -- if deck[2] == 0 and deck[1] < len(cells): ..
    refine w_seqJ (fun σ' H2 => σ' = [some (.ref d), some (.int m), some (.ref c), none, none] ∧ ∃ (a' : Nat) (b' : Int), H2 d = some (.lst [.ref c, .int a', .int b', .int ((t : Int) + 1)]) ∧ Off d H H2) ?_ ?_
    · rintro σ' H2 ⟨rfl, a', b', g2, o2⟩
      have c2 : H2 c = some (.lst (cs.map V.int)) := (o2 c ne).trans e2
      refine w_seqJ (fun σ' H3 => σ' = [some (.ref d), some (.int m), some (.ref c), none, none] ∧ H3 = H2) ?_ ?_
      · rintro σ' H3 ⟨rfl, rfl⟩
        -- number = deck[3] * 48271; if len(cells) > 0: ..
        walk_at "g"
        refine w_seqJ (fun σ' H4 => (∃ z : Int, σ' = [some (.ref d), some (.int m), some (.ref c), none, some (.int z)]) ∧ H4 = H3) ?_ ?_
        · rintro σ' H4 ⟨⟨z, rfl⟩, rfl⟩
          walk_at "g"
          refine ⟨_, _, rfl, by omega, by omega, fun y => ?_⟩
          walk_at "g"
          exact fin _ a' b' _ (md y).1 (md y).2 g2 o2
        · intro U hU
          walk_at "g"
          refine w_ite (fun hl => ?_) (fun hl => ?_)
          · obtain ⟨v, hv1, hv2⟩ := at_lt (xs := cs.map V.int) (i := ((t : Int) + 1) * 7 % ((cs.map V.int).length : Int)) (Int.emod_nonneg _ (by omega)) (Int.emod_lt_of_pos _ hl)
            rw [List.getElem?_map] at hv1
            obtain ⟨y, _, rfl⟩ := Option.map_eq_some_iff.mp hv1
            walk_at "g"
            exact hU _ _ ⟨⟨_, rfl⟩, rfl⟩
          · exact hU _ _ ⟨⟨_, rfl⟩, rfl⟩
      · intro U hU
        walk_at "g"
        refine w_ite (fun hl => ?_) (fun hl => ?_)
        · walk_at "g"
          refine w_setL g2 rfl rfl fun H9 g9 o9 => ?_
          walk_at "g"
          exact fin _ a' (b' / m) _ (md b').1 (md b').2 g9 (o2.trans o9)
        · exact hU _ _ ⟨rfl, rfl⟩
    · intro U hU
      have no : U [some (.ref d), some (.int m), some (.ref c), none, none] H1 := hU _ _ ⟨rfl, a, b, g0, o0⟩
      walk_at "g"
      refine w_ite (fun hl => ?_) (fun _ => no)
      walk_at "g"
      refine w_ite (fun hl2 => ?_) (fun _ => no)
      obtain ⟨v, hv1, hv2⟩ := at_lt (xs := cs.map V.int) (i := ((a + 1 : Nat) : Int) - 1) (by omega) (by omega)
      rw [List.getElem?_map] at hv1
      obtain ⟨y, _, rfl⟩ := Option.map_eq_some_iff.mp hv1
      walk_at "g"
      refine w_setL g0 rfl rfl fun H2 g2 o2 => ?_
      have g2 : H2 d = some (.lst [.ref c, .int ((a + 1 : Nat) : Int), .int b, .int ((t : Int) + 1)]) := g2
      have o2 : Off d H H2 := o0.trans o2
      have c2 : H2 c = some (.lst (cs.map V.int)) := (o2 c ne).trans e2
      refine w_seq ?_
      walk_at "g"
      refine w_ite (fun hl => ?_) (fun hl => ?_)
      · walk_at "g"
        refine ⟨_, _, rfl, by omega, by omega, fun y => ?_⟩
        walk_at "g"
        exact fin _ (a + 1) b _ (md y).1 (md y).2 g2 o2
      · walk_at "g"
        refine w_setL g2 rfl rfl fun H9 g9 o9 => ?_
        exact hU _ _ ⟨rfl, a + 1, y, g9, o2.trans o9⟩
end
/-! ### shapes on the heap -/
def VL (H : Hp) (a : Addr) (vs : List Int) : Prop := H a = some (.tup (vs.map V.int))
def PL (H : Hp) (b : Addr) (ps : List (Addr × Int × Int)) : Prop := H b = some (.tup (ps.map fun q => .ref q.1)) ∧ ∀ q ∈ ps, H q.1 = some (.tup [.int q.2.1, .int q.2.2])
def ShAt (H : Hp) (t : Addr) (vs : List Int) (ps : List (Addr × Int × Int)) : Prop := ∃ a b, H t = some (.tup [.ref a, .ref b]) ∧ VL H a vs ∧ PL H b ps
theorem VL.kt {H H' : Hp} {a : Addr} {vs : List Int} (h : VL H a vs) (k : KT H H') : VL H' a vs := k _ _ h
theorem PL.kt {H H' : Hp} {a : Addr} {ps : List (Addr × Int × Int)} (h : PL H a ps) (k : KT H H') : PL H' a ps := ⟨k _ _ h.1, fun q hq => k _ _ (h.2 q hq)⟩
theorem ShAt.kt {H H' : Hp} {t : Addr} {vs : List Int} {ps : List (Addr × Int × Int)} (h : ShAt H t vs ps) (k : KT H H') : ShAt H' t vs ps := by
  obtain ⟨a, b, e, v, p⟩ := h
  exact ⟨a, b, k _ _ e, v.kt k, p.kt k⟩
def LexL (x y : Int × Int) : Prop := x.1 < y.1 ∨ x.1 = y.1 ∧ x.2 < y.2
structure ShOk (vs : List Int) (ls : List (Int × Int)) : Prop where
  vr : vs.Pairwise (· < ·)
  v0 : ∀ v ∈ vs, 0 ≤ v
  lr : ls.Pairwise LexL
  lm : ∀ q ∈ ls, q.1 ∈ vs ∧ q.2 ∈ vs ∧ q.2 < q.1
theorem drop_of {α : Type} {xs : List α} {i : Nat} {x : α} (h : xs[i]? = some x) : xs.drop i = x :: xs.drop (i + 1) := by
  obtain ⟨h1, h2⟩ := List.getElem?_eq_some_iff.mp h
  rw [List.drop_eq_getElem_cons h1, h2]
theorem map_at {α : Type} {f : α → V} {xs : List α} {i : Nat} {v : V} (h : (xs.map f)[i]? = some v) : ∃ x, xs[i]? = some x ∧ v = f x := by
  rw [List.getElem?_map] at h
  obtain ⟨y, h1, h2⟩ := Option.map_eq_some_iff.mp h
  exact ⟨y, h1, h2.symm⟩
def spWhole : Sp := fun vs H Q _ => ∃ x : Int, vs = [.int x] ∧ Q (.bl true) H
def spRising : Sp := fun vs H Q _ => ∃ (a : Addr) (ns : List Int), vs = [.ref a] ∧ VL H a ns ∧ ns.Pairwise (· < ·) ∧ (∀ v ∈ ns, 0 ≤ v) ∧ Q (.bl true) H
def spLinks : Sp := fun vs H Q _ => ∃ (a b : Addr) (ns : List Int) (ps : List (Addr × Int × Int)), vs = [.ref a, .ref b] ∧ VL H a ns ∧ PL H b ps ∧ ShOk ns (ps.map (·.2)) ∧ ns.length ≤ 400 ∧ ps.length ≤ 2000 ∧ ∀ H', Same H H' → Q (.bl true) H'
def spCheck : Sp := fun vs H Q _ => ∃ (t : Addr) (ns : List Int) (ps : List (Addr × Int × Int)), vs = [.ref t] ∧ ShAt H t ns ps ∧ ShOk ns (ps.map (·.2)) ∧ ns.length ≤ 400 ∧ ps.length ≤ 2000 ∧ ∀ H', Same H H' → Q (.bl true) H'
section
variable {P : Program} {w : World} {K : PySem.W.Frag} {mg : Str → Option Value} {base : Heap}
theorem ok_whole {f : Addr} {fd : FuncData} (T : Txt K mg) (F : Fun K "is_whole" "is_whole" s_is_whole f fd) : FnOk P w K mg base CX0 1 f fd ["thing"] spWhole := by
  refine F.ok sc_is_whole (fun vs H Q E h => ?_) (fun cdv A outer s H vs Q E hr h => ?_)
  · obtain ⟨x, rfl, _⟩ := h
    rfl
  · obtain ⟨x, rfl, q⟩ := h
    refine ⟨_,
      (pss_one
        (ps_ret (pe_and (pe_callB (r := rIsi K) call_isi (by rfl) T.n_isinstance (by decide +kernel) (pa_cons (pv 0) (pa_cons (pe_bltn (v := .ty "int") (u := .type "int") (by rfl) T.n_int (by decide +kernel) rfl) pa_nil))) (pe_one (pe_not (pe_callB (r := rIsi K) call_isi (by rfl) T.n_isinstance (by decide +kernel) (pa_cons (pv 0) (pa_cons (pe_bltn (v := .ty "bool") (u := .type "bool") (by rfl) T.n_bool (by decide +kernel) rfl) pa_nil))))))))
      , ?_⟩
    walk_at "x"
    exact q
theorem ok_rising {f fW : Addr} {fd fdW : FuncData} (T : Txt K mg) (F : Fun K "is_rising" "is_rising" s_is_rising f fd) (D_is_whole : Df K mg "is_whole" s_is_whole ["thing"] fW fdW) : FnOk P w K mg base CX0 2 f fd ["thing"] spRising := by
  have G_is_whole : FnOk P w K mg base CX0 1 fW fdW ["thing"] spWhole := ok_whole T D_is_whole.fn
  refine F.ok sc_is_rising (fun vs H Q E h => ?_) (fun cdv A outer s H vs Q E hr h => ?_)
  · obtain ⟨a, ns, rfl, _⟩ := h
    rfl
  · obtain ⟨a, ns, rfl, ha, hs, h0, q⟩ := h
    have ha' : H a = some (.tup (ns.map V.int)) := ha
    refine ⟨_,
      (pss_cons
        (ps_if (pt_not (pt_val (pe_callB (r := rIsi K) call_isi (by rfl) T.n_isinstance (by decide +kernel) (pa_cons (pv 0) (pa_cons (pe_bltn (v := .ty "tuple") (u := .type "tuple") (by rfl) T.n_tuple (by decide +kernel) rfl) pa_nil)))))
          (pss_one
            (ps_ret pe_bl))
          pss_nil)
      (pss_cons
        (ps_set (i := 1) sc_is_rising.nd rfl (.inl rfl) (pe_un un_neg pe_int))
      (pss_cons
        (ps_for PassesOwn.never rfl (pi_tup (pv 0)) (pg_name (i := 2) sc_is_rising.nd rfl (.inl rfl))
          (pss_cons
            (ps_if (PW.pt (pw_or (pt_not (pt_val (pe_call G_is_whole (hr.mono (by decide)) (by rfl) D_is_whole.g D_is_whole.fn.kp D_is_whole.b .nil pass0 (pa_cons (pv 2) pa_nil)))) (pw_or1 (pt_cmpR op_le (pv 2) (pv 1) (nomark _)))))
              (pss_one
                (ps_ret pe_bl))
              pss_nil)
          (pss_one
            (ps_set (i := 1) sc_is_rising.nd rfl (.inl rfl) (pv 2)))))
      (pss_one
        (ps_ret pe_bl)))))
      , ?_⟩
    rw [show L2.start N_is_rising [V.ref a] = [some (.ref a), none, none] from rfl]
    refine w_seq ?_
    walk_at "x"
    refine lp_tup (xs := ns.map V.int) (fun i σ H' => H' = H ∧ ∃ (l : Int) (y : Option V), σ = [some (.ref a), some (.int l), y] ∧ -1 ≤ l ∧ ∀ x ∈ ns.drop i, l < x) ?_ ?_ ?_ ?_
    · exact ⟨rfl, -1, none, rfl, by omega, fun x hx => by have := h0 x (by simpa using hx); omega⟩
    · rintro i σ H' _ ⟨rfl, _⟩
      exact .of ha'
    · rintro i y σ H' hy ⟨rfl, l, z, rfl, hl, hlt⟩
      obtain ⟨x, hx, rfl⟩ := map_at hy
      rw [drop_of hx] at hlt
      have h1 : l < x := hlt x (by simp)
      have hd : (ns.drop i).Pairwise (· < ·) := hs.drop
      rw [drop_of hx, List.pairwise_cons] at hd
      walk_at "g"
      refine w_seq ?_
      walk_at "g"
      refine ⟨x, rfl, ?_⟩
      walk_at "g"
      refine w_ite (fun hle => ?_) (fun hle => ?_)
      · omega
      · walk_at "g"
        exact ⟨rfl, x, _, rfl, by omega, hd.1⟩
    · rintro σ H' ⟨rfl, l, z, rfl, hl, hlt⟩
      walk_at "g"
      exact q
end
section
variable {P : Program} {w : World} {K : PySem.W.Frag} {mg : Str → Option Value} {base : Heap}
theorem ok_links {f fW : Addr} {fd fdW : FuncData} (T : Txt K mg) (F : Fun K "are_links" "are_links" s_are_links f fd) (D_is_whole : Df K mg "is_whole" s_is_whole ["thing"] fW fdW) : FnOk P w K mg base CX0 2 f fd ["versions", "thing"] spLinks := by
  have G_is_whole : FnOk P w K mg base CX0 1 fW fdW ["thing"] spWhole := ok_whole T D_is_whole.fn
  obtain ⟨t_LINKS, g_LINKS⟩ := T.g_LINKS
  refine F.ok sc_are_links (fun vs H Q E h => ?_) (fun cdv A outer s H vs Q E hr h => ?_)
  · obtain ⟨a, b, ns, ps, rfl, _⟩ := h
    rfl
  · obtain ⟨a, b, ns, ps, rfl, ha, hb, S, hl1, hl2, q⟩ := h
    have hu := hu_of hr
    have ha' : H a = some (.tup (ns.map V.int)) := ha
    have hb' := hb.1
    refine ⟨_,
      (pss_cons
        (ps_if (PW.pt (pw_or (pt_not (pt_val (pe_callB (r := rIsi K) call_isi (by rfl) T.n_isinstance (by decide +kernel) (pa_cons (pv 1) (pa_cons (pe_bltn (v := .ty "tuple") (u := .type "tuple") (by rfl) T.n_tuple (by decide +kernel) rfl) pa_nil))))) (pw_or1 (pt_cmpR op_gt (pe_callB (r := rLen K) c_len (by rfl) T.n_len (by decide +kernel) (pa_cons (pv 1) pa_nil)) (pe_glob (v := .int 2000) rfl g_LINKS ⟨_, rfl⟩) (nomark _)))))
          (pss_one
            (ps_ret pe_bl))
          pss_nil)
      (pss_cons
        (ps_setDc (i := 2) (own := [("version", 5)]) rfl sc_are_links.nd rfl rfl (sw_trueD rfl rfl rfl (by decide +kernel)) (pi_tup (pv 0)) (blkOk_by (own := [("version", 5)]) (N := N_are_links) (sc := defScope s_are_links) (by decide +kernel)) (fun _ _ _ _ _ => (pg_name (i := 5) sc_are_links.nd rfl (.inl rfl))) (fun _ _ _ _ _ => pts_nil) (fun _ _ _ _ _ => (pv 5)) (fun _ _ _ _ _ => pe_bl))
      (pss_cons
        (ps_set (i := 3) sc_are_links.nd rfl (.inl rfl) (pe_tup (pa_cons (pe_un un_neg pe_int) (pa_cons (pe_un un_neg pe_int) pa_nil))))
      (pss_cons
        (ps_for PassesOwn.never rfl (pi_tup (pv 1)) (pg_name (i := 4) sc_are_links.nd rfl (.inl rfl))
          (pss_cons
            (ps_if (PW.pt (pw_or (pt_not (pt_val (pe_callB (r := rIsi K) call_isi (by rfl) T.n_isinstance (by decide +kernel) (pa_cons (pv 4) (pa_cons (pe_bltn (v := .ty "tuple") (u := .type "tuple") (by rfl) T.n_tuple (by decide +kernel) rfl) pa_nil))))) (pw_or (pt_cmpR op_ne (pe_callB (r := rLen K) c_len (by rfl) T.n_len (by decide +kernel) (pa_cons (pv 4) pa_nil)) pe_int (nomark _)) (pw_or (pt_not (pt_val (pe_call G_is_whole (hr.mono (by decide)) (by rfl) D_is_whole.g D_is_whole.fn.kp D_is_whole.b .nil pass0 (pa_cons (pe_ix (r := rIxT K) ix_tup (pv 4) pe_int (fun _ _ => rfl)) pa_nil)))) (pw_or1 (pt_not (pt_val (pe_call G_is_whole (hr.mono (by decide)) (by rfl) D_is_whole.g D_is_whole.fn.kp D_is_whole.b .nil pass0 (pa_cons (pe_ix (r := rIxT K) ix_tup (pv 4) pe_int (fun _ _ => rfl)) pa_nil)))))))))
              (pss_one
                (ps_ret pe_bl))
              pss_nil)
          (pss_cons
            (ps_if (PW.pt (pw_or (pt_cmp (pc_dnotin hu (pe_ix (r := rIxT K) ix_tup (pv 4) pe_int (fun _ _ => rfl)) (pv 2))) (pw_or (pt_cmp (pc_dnotin hu (pe_ix (r := rIxT K) ix_tup (pv 4) pe_int (fun _ _ => rfl)) (pv 2))) (pw_or (pt_cmpR op_ge (pe_ix (r := rIxT K) ix_tup (pv 4) pe_int (fun _ _ => rfl)) (pe_ix (r := rIxT K) ix_tup (pv 4) pe_int (fun _ _ => rfl)) (nomark _)) (pw_or1 (pt_cmpR (op_leT hr.units0) (pv 4) (pv 3) (nomark _)))))))
              (pss_one
                (ps_ret pe_bl))
              pss_nil)
          (pss_one
            (ps_set (i := 3) sc_are_links.nd rfl (.inl rfl) (pv 4))))))
      (pss_one
        (ps_ret pe_bl))))))
      , ?_⟩
    rw [show L2.start N_are_links [V.ref a, V.ref b] = [some (.ref a), some (.ref b), none, none, none, none] from rfl]
    refine w_seq ?_
    walk_at "x"
    refine w_ite (fun h9 => by rw [List.length_map] at h9; omega) (fun _ => ?_)
    walk_at "g"
    refine dcp_map (walk_tup (xs := ns.map V.int)) [] (ns.map fun i => ((Sum.inl i : Key), V.bl true)) (by simp) (by simp; omega) (fun H' k => .of (k _ _ (by simp) ha')) ?_ (by simp) ?_
    · rintro i y H1 H2 R hi k ⟨rfl, hy⟩ hR
      obtain ⟨x, hx, rfl⟩ := map_at hy
      refine w_name ⟨rfl, ?_⟩
      walk_at "g"
      exact hR (Sum.inl x, V.bl true) _ (by rw [List.getElem?_map, hx]; rfl) Kp.refl
    · intro D H1 hD k1 e1
      have k1 := k1.same
      have kn : ∀ n : Int, (valV (mergeK [] (ns.map fun i => ((Sum.inl i : Key), V.bl true))) (Sum.inl n)).isSome = decide (n ∈ ns) := fun n => known_in ns (fun _ => V.bl true) n
      generalize mergeK [] (ns.map fun i => ((Sum.inl i : Key), V.bl true)) = kvs at e1 kn
      walk_at "g"
      refine w_new fun p0 H2 hp0 e2 k2 => ?_
      have eb := k2 _ _ (k1 _ _ hb')
      walk_at "g"
      refine lp_tup (xs := ps.map fun q => .ref q.1) (fun i σ H' => H' = H2 ∧ ∃ (p : Addr) (l : Int × Int) (y z : Option V), σ = [some (.ref a), some (.ref b), some (.ref D), some (.ref p), y, z] ∧ H2 p = some (.tup [.int l.1, .int l.2]) ∧ ∀ x ∈ ps.drop i, LexL l x.2) ?_ ?_ ?_ ?_
      · refine ⟨rfl, p0, (-1, -1), none, none, rfl, e2, fun x hx => ?_⟩
        have hx' : x.2 ∈ ps.map (·.2) := List.mem_map_of_mem (by simpa using hx)
        have := S.v0 _ (S.lm _ hx').1
        exact .inl (by show (-1 : Int) < _; omega)
      · rintro i σ H' _ ⟨rfl, _⟩
        exact .of eb
      · rintro i y σ H' hy ⟨rfl, p, l, y1, y2, rfl, ep, hlt⟩
        obtain ⟨x, hx, rfl⟩ := map_at hy
        have hm : x ∈ ps := List.mem_of_getElem? hx
        have ex : H' x.1 = some (.tup [.int x.2.1, .int x.2.2]) := k2 _ _ (k1 _ _ (hb.2 x hm))
        obtain ⟨m1, m2, m3⟩ := S.lm x.2 (List.mem_map_of_mem hm)
        have eD := k2 _ _ e1
        rw [drop_of hx] at hlt
        have h1 : LexL l x.2 := hlt x (by simp)
        have hd : ((ps.map (·.2)).drop i).Pairwise LexL := S.lr.drop
        rw [← List.map_drop, drop_of hx, List.map_cons, List.pairwise_cons] at hd
        walk_at "g"
        refine w_seq ?_
        walk_at "g"
        walk_at "dg"
        refine ⟨_, rfl, ?_⟩
        walk_at "g"
        refine ⟨_, rfl, ?_⟩
        walk_at "g"
        refine w_seq ?_
        have n1 := kn x.2.1
        have n2 := kn x.2.2
        rw [decide_eq_true m1] at n1
        rw [decide_eq_true m2] at n2
        walk_at "g"
        rw [n1]
        walk_at "g"
        rw [n2]
        walk_at "g"
        walk_at "dg"
        refine w_no (fun z => by unfold LexL at h1; omega) ?_
        walk_at "g"
        refine ⟨rfl, x.1, x.2, _, _, rfl, ex, fun z hz => hd.1 z.2 (List.mem_map_of_mem hz)⟩
      · rintro σ H' ⟨rfl, p, l, y1, y2, rfl, ep, hlt⟩
        walk_at "g"
        exact q _ (Same.trans k1 k2)
end
section
variable {P : Program} {w : World} {K : PySem.W.Frag} {mg : Str → Option Value} {base : Heap}
theorem ok_check {f fW fR fL : Addr} {fd fdW fdR fdL : FuncData} (T : Txt K mg) (F : Fun K "check" "check" s_check f fd) (D_is_whole : Df K mg "is_whole" s_is_whole ["thing"] fW fdW) (D_is_rising : Df K mg "is_rising" s_is_rising ["thing"] fR fdR) (D_are_links : Df K mg "are_links" s_are_links ["versions", "thing"] fL fdL) : FnOk P w K mg base CX0 3 f fd ["thing"] spCheck := by
  have G_is_rising : FnOk P w K mg base CX0 2 fR fdR ["thing"] spRising := ok_rising T D_is_rising.fn D_is_whole
  have G_are_links : FnOk P w K mg base CX0 2 fL fdL ["versions", "thing"] spLinks := ok_links T D_are_links.fn D_is_whole
  obtain ⟨t_VERSIONS, g_VERSIONS⟩ := T.g_VERSIONS
  refine F.ok sc_check (fun vs H Q E h => ?_) (fun cdv A outer s H vs Q E hr h => ?_)
  · obtain ⟨t, ns, ps, rfl, _⟩ := h
    rfl
  · obtain ⟨t, ns, ps, rfl, ⟨a, b, e1, e2, e3⟩, S, hl1, hl2, q⟩ := h
    have e2' : H a = some (.tup (ns.map V.int)) := e2
    refine ⟨_,
      (pss_cons
        (ps_if (PW.pt (pw_or (pt_not (pt_val (pe_callB (r := rIsi K) call_isi (by rfl) T.n_isinstance (by decide +kernel) (pa_cons (pv 0) (pa_cons (pe_bltn (v := .ty "tuple") (u := .type "tuple") (by rfl) T.n_tuple (by decide +kernel) rfl) pa_nil))))) (pw_or1 (pt_cmpR op_ne (pe_callB (r := rLen K) c_len (by rfl) T.n_len (by decide +kernel) (pa_cons (pv 0) pa_nil)) pe_int (nomark _)))))
          pss_never
          pss_nil)
      (pss_cons
        (ps_asg (pv 0) (pg_tup rfl (pgs_cons (pg_name (i := 1) sc_check.nd rfl (.inl rfl)) (pgs_cons (pg_name (i := 2) sc_check.nd rfl (.inl rfl)) pgs_nil))))
      (pss_cons
        (ps_if (PW.pt (pw_or (pt_not (pt_val (pe_call G_is_rising (hr.mono (by decide)) (by rfl) D_is_rising.g D_is_rising.fn.kp D_is_rising.b .nil pass0 (pa_cons (pv 1) pa_nil)))) (pw_or1 (pt_cmpR op_gt (pe_callB (r := rLen K) c_len (by rfl) T.n_len (by decide +kernel) (pa_cons (pv 1) pa_nil)) (pe_glob (v := .int 400) rfl g_VERSIONS ⟨_, rfl⟩) (nomark _)))))
          pss_never
          pss_nil)
      (pss_cons
        (ps_if (pt_not (pt_val (pe_call G_are_links (hr.mono (by decide)) (by rfl) D_are_links.g D_are_links.fn.kp D_are_links.b .nil pass0 (pa_cons (pv 1) (pa_cons (pv 2) pa_nil)))))
          pss_never
          pss_nil)
      (pss_one
        (ps_ret pe_bl))))))
      , ?_⟩
    rw [show L2.start N_check [V.ref t] = [some (.ref t), none, none] from rfl]
    refine w_seq ?_
    walk_at "x"
    walk_at "dg"
    refine w_seq ?_
    walk_at "g"
    refine ⟨a, ns, rfl, e2, S.vr, S.v0, ?_⟩
    walk_at "g"
    walk_at "dg"
    refine w_seq ?_
    walk_at "g"
    refine ⟨a, b, ns, ps, rfl, e2, e3, S, hl1, hl2, fun H' k => ?_⟩
    walk_at "g"
    exact q H' k
end
/-! ### shapes as they are drawn: the lists while they grow -/
structure LInv (vs : List Int) (z : Int) (j : Nat) (ls : List (Int × Int)) : Prop where
  pw : ls.Pairwise LexL
  mem : ∀ q ∈ ls, (q.1 ∈ vs ∧ q.2 ∈ vs ∧ q.2 < q.1) ∨ (q.1 = z ∧ q.2 ∈ vs.take j)
theorem LInv.skip {vs : List Int} {z : Int} {j : Nat} {ls : List (Int × Int)} (h : LInv vs z j ls) : LInv vs z (j + 1) ls := by
  refine ⟨h.pw, fun q hq => ?_⟩
  rcases h.mem q hq with a | ⟨a, b⟩
  · exact .inl a
  · exact .inr ⟨a, List.mem_of_mem_take (by rw [List.take_take, Nat.min_eq_left (Nat.le_succ j)]; exact b)⟩
theorem take_lt {vs : List Int} (h : vs.Pairwise (· < ·)) {j : Nat} {t x : Int} (ht : vs[j]? = some t) (hx : x ∈ vs.take j) : x < t := by
  have e : vs = vs.take j ++ vs.drop j := (List.take_append_drop j vs).symm
  rw [e, List.pairwise_append] at h
  refine h.2.2 x hx t ?_
  rw [drop_of ht]
  simp
theorem LInv.snoc {vs : List Int} {z t : Int} {j : Nat} {ls : List (Int × Int)} (h : LInv vs z j ls) (hv : vs.Pairwise (· < ·)) (hz : ∀ v ∈ vs, v < z) (ht : vs[j]? = some t) : LInv vs z (j + 1) (ls ++ [(z, t)]) := by
  constructor
  · rw [List.pairwise_append]
    refine ⟨h.pw, List.pairwise_singleton _ _, fun q hq y hy => ?_⟩
    have e : y = (z, t) := by simpa using hy
    subst e
    rcases h.mem q hq with a | ⟨a, b⟩
    · exact .inl (hz _ a.1)
    · exact .inr ⟨a, take_lt hv ht b⟩
  · intro q hq
    rcases List.mem_append.mp hq with a | a
    · exact h.skip.mem q a
    · have e : q = (z, t) := by simpa using a
      subst e
      refine .inr ⟨rfl, ?_⟩
      rw [List.take_add_one, ht]
      simp
theorem LInv.start {vs : List Int} {ls : List (Int × Int)} (h : ShOk vs ls) (z : Int) : LInv vs z 0 ls := ⟨h.lr, fun q hq => .inl (h.lm q hq)⟩
theorem LInv.done {vs : List Int} {z : Int} {j : Nat} {ls : List (Int × Int)} (h : LInv vs z j ls) (hv : vs.Pairwise (· < ·)) (h0 : ∀ v ∈ vs, 0 ≤ v) (hz : ∀ v ∈ vs, v < z) (z0 : 0 ≤ z) : ShOk (vs ++ [z]) ls := by
  refine ⟨?_, fun v hv' => ?_, h.pw, fun q hq => ?_⟩
  · rw [List.pairwise_append]
    exact ⟨hv, List.pairwise_singleton _ _, fun x hx y hy => by
      have e : y = z := by simpa using hy
      subst e
      exact hz x hx⟩
  · rcases List.mem_append.mp hv' with a | a
    · exact h0 v a
    · have e : v = z := by simpa using a
      subst e
      exact z0
  · rcases h.mem q hq with ⟨a, b, c⟩ | ⟨a, b⟩
    · exact ⟨List.mem_append_left _ a, List.mem_append_left _ b, c⟩
    · have m := List.mem_of_mem_take b
      exact ⟨by rw [a]; simp, List.mem_append_left _ m, by rw [a]; exact hz _ m⟩
theorem pick4 {j : Nat} (h : (j : Int) < 4) : ∃ m : Int, atI [V.int 3, V.int 2, V.int 6, V.int 9] (j : Int) = some (.int m) ∧ 0 < m ∧ m < 2 ^ 64 := by
  match j, h with
  | 0, _ => exact ⟨3, rfl, by decide, by decide⟩
  | 1, _ => exact ⟨2, rfl, by decide, by decide⟩
  | 2, _ => exact ⟨6, rfl, by decide, by decide⟩
  | 3, _ => exact ⟨9, rfl, by decide, by decide⟩
  | j + 4, h => omega
theorem mostd {n m : Nat} (h : n + 10000 ≤ MOSTD) (e : m < 10000) : n + m < MOSTD := by omega
theorem at_map {vs : List Int} {j : Nat} {t : Int} (h : vs[j]? = some t) : atI (vs.map V.int) (j : Int) = some (.int t) := atI_nat (by rw [List.getElem?_map, h]; rfl)
def spShape : Sp := fun vs H Q _ => ∃ (d c : Addr) (n m : Nat), vs = [.ref d, .int m] ∧ Deck H d c n ∧ n + 10000 ≤ MOSTD ∧ m ≤ 60 ∧
  ∀ H' t ns ps, Deck H' d c (n + 10000) → Kp [d] H H' → ShAt H' t ns ps → ShOk ns (ps.map (·.2)) → ns.length ≤ m → ps.length ≤ 100 * m → Q (.ref t) H'
section
variable {P : Program} {w : World} {K : PySem.W.Frag} {mg : Str → Option Value} {base : Heap}
theorem ok_shape {f fM fD : Addr} {fd fdM fdD : FuncData} (T : Txt K mg) (F : Fun K "_law_shape" "_law_shape" s_law_shape f fd) (D_law_mixed : Df K mg "_law_mixed" s_law_mixed ["_law_cell", "_law_turn"] fM fdM)
    (D_law_draw : Df K mg "_law_draw" s_law_draw ["_law_deck_here", "_law_many"] fD fdD) : FnOk P w K mg base CX0 3 f fd ["_law_deck_here", "_law_most"] spShape := by
  have G_law_draw : FnOk P w K mg base CX0 2 fD fdD ["_law_deck_here", "_law_many"] spDraw := ok_draw T D_law_draw.fn D_law_mixed
  refine F.ok sc_law_shape (fun vs H Q E h => ?_) (fun cdv A outer s H vs Q E hr h => ?_)
  · obtain ⟨d, c, n, m, rfl, _⟩ := h
    rfl
  · obtain ⟨d, c, n, m, rfl, D0, hn, hm, q⟩ := h
    refine ⟨_,
      (pss_cons
        (ps_set (i := 2) sc_law_shape.nd rfl (.inl rfl) (pe_lst pa_nil))
      (pss_cons
        (ps_set (i := 3) sc_law_shape.nd rfl (.inl rfl) (pe_un un_neg pe_int))
      (pss_cons
        (ps_set (i := 4) sc_law_shape.nd rfl (.inl rfl) (pe_call G_law_draw (hr.mono (by decide)) (by rfl) D_law_draw.g D_law_draw.fn.kp D_law_draw.b .nil pass0 (pa_cons (pv 0) (pa_cons pe_int pa_nil))))
      (pss_cons
        (ps_set (i := 5) sc_law_shape.nd rfl (.inl rfl) (pe_call G_law_draw (hr.mono (by decide)) (by rfl) D_law_draw.g D_law_draw.fn.kp D_law_draw.b .nil pass0 (pa_cons (pv 0) (pa_cons pe_int pa_nil))))
      (pss_cons
        (ps_set (i := 6) sc_law_shape.nd rfl (.inl rfl) (pe_lst pa_nil))
      (pss_cons
        (ps_for PassesOwn.never rfl (pi_range1 (by rfl) T.n_range (pa_cons (pe_call G_law_draw (hr.mono (by decide)) (by rfl) D_law_draw.g D_law_draw.fn.kp D_law_draw.b .nil pass0 (pa_cons (pv 0) (pa_cons (pe_op op_add (pv 1) pe_int) pa_nil))) pa_nil)) (pg_name (i := 7) sc_law_shape.nd rfl (.inl rfl))
          (pss_cons
            (ps_set (i := 3) sc_law_shape.nd rfl (.inl rfl) (pe_op op_add (pe_op op_add (pv 3) pe_int) (pe_call G_law_draw (hr.mono (by decide)) (by rfl) D_law_draw.g D_law_draw.fn.kp D_law_draw.b .nil pass0 (pa_cons (pv 0) (pa_cons pe_int pa_nil)))))
          (pss_cons
            (ps_if (PW.pt (pw_and (pt_cmpR op_eq (pv 4) pe_int (nomark _)) (pw_and1 (pt_cmpR op_eq (pe_call G_law_draw (hr.mono (by decide)) (by rfl) D_law_draw.g D_law_draw.fn.kp D_law_draw.b .nil pass0 (pa_cons (pv 0) (pa_cons pe_int pa_nil))) pe_int (nomark _)))))
              (pss_one
                (ps_set (i := 3) sc_law_shape.nd rfl (.inl rfl) (pe_op op_add (pv 3) (pe_call G_law_draw (hr.mono (by decide)) (by rfl) D_law_draw.g D_law_draw.fn.kp D_law_draw.b .nil pass0 (pa_cons (pv 0) (pa_cons (pe_op op_pow pe_int pe_int) pa_nil))))))
              pss_nil)
          (pss_cons
            (ps_for PassesOwn.never rfl (pi_range1 (by rfl) T.n_range (pa_cons (pv 7) pa_nil)) (pg_name (i := 8) sc_law_shape.nd rfl (.inl rfl))
              (pss_cons
                (ps_set (i := 9) sc_law_shape.nd rfl (.inl rfl) (pe_cmpR op_eq (pe_call G_law_draw (hr.mono (by decide)) (by rfl) D_law_draw.g D_law_draw.fn.kp D_law_draw.b .nil pass0 (pa_cons (pv 0) (pa_cons (pe_ix (r := rIxL K) ix_list (pe_lst (pa_cons pe_int (pa_cons pe_int (pa_cons pe_int (pa_cons pe_int pa_nil))))) (pv 5) (fun _ _ => rfl)) pa_nil))) pe_int (nomark _)))
              (pss_cons
                (ps_if (PW.pt (pw_and (pt_cmpR op_eq (pv 5) pe_int (nomark _)) (pw_and1 (pt_cmpR op_gt (pe_op op_sub (pv 7) (pv 8)) pe_int (nomark _)))))
                  (pss_one
                    (ps_set (i := 9) sc_law_shape.nd rfl (.inl rfl) pe_bl))
                  pss_nil)
              (pss_cons
                (ps_if (PW.pt (pw_and (pt_cmpR op_eq (pv 5) pe_int (nomark _)) (pw_and1 (pt_cmpR op_eq (pv 8) (pe_op op_sub (pv 7) pe_int) (nomark _)))))
                  (pss_one
                    (ps_set (i := 9) sc_law_shape.nd rfl (.inl rfl) pe_bl))
                  pss_nil)
              (pss_one
                (ps_if (pt_val (pv 9))
                  (pss_one
                    (ps_expr (pe_bm PySem.F.plainAttrs_list PySem.F.slot_list_append PySem.F.type_list_append mt_append (pv 6) (pa_cons (pe_tup (pa_cons (pv 3) (pa_cons (pe_ix (r := rIxL K) ix_list (pv 2) (pv 8) (fun _ _ => rfl)) pa_nil))) pa_nil))))
                  pss_nil))))))
          (pss_one
            (ps_expr (pe_bm PySem.F.plainAttrs_list PySem.F.slot_list_append PySem.F.type_list_append mt_append (pv 2) (pa_cons (pv 3) pa_nil))))))))
      (pss_one
        (ps_ret (pe_tup (pa_cons (pe_callTy (r := rTupOf K) c_tupOf (by rfl) T.n_tuple (by decide +kernel) (pa_cons (pv 2) pa_nil)) (pa_cons (pe_callTy (r := rTupOf K) c_tupOf (by rfl) T.n_tuple (by decide +kernel) (pa_cons (pv 6) pa_nil)) pa_nil)))))))))))
      , ?_⟩
    rw [show L2.start N_law_shape [V.ref d, V.int m] = [some (.ref d), some (.int m), none, none, none, none, none, none, none, none] from rfl]
    walk_at "x"
    refine w_new fun l1 H1 hl1 e1 k1 => ?_
    have D1 := D0.kp (M := []) (Kp.of k1) (by simp) (by simp)
    obtain ⟨n1d, n1c⟩ := D0.ne1 hl1
    walk_at "g"
    refine w_draw D1 (mostd (m := 0) hn (by omega)) (by decide) (by decide) fun far H2 hfar D2 o2 => ?_
    walk_at "g"
    refine w_draw D2 (mostd (m := 1) hn (by omega)) (by decide) (by decide) fun road H3 hroad D3 o3 => ?_
    walk_at "g"
    have e3 := o3.get n1d (o2.get n1d e1)
    refine w_new fun l2 H4 hl2 e4 k4 => ?_
    have D4 := D3.kp (M := []) (Kp.of k4) (by simp) (by simp)
    obtain ⟨n2d, n2c⟩ := D3.ne1 hl2
    have n21 : l1 ≠ l2 := ne_of_none e3 hl2
    have e1' := k4 _ _ e3
    have kk : Kp [d] H H4 := (Kp.of k1).trans ((o2.kp (by simp)).trans ((o3.kp (by simp)).trans (Kp.of k4)))
    have hl2H : H l2 = none := nofree (((Kp.of k1).trans ((o2.kp (by simp)).trans (o3.kp (by simp)))) : Kp [d] H H3) (by simpa using n2d) hl2
    walk_at "g"
    refine w_draw D4 (mostd (m := 2) hn (by omega)) (by omega) (by omega) fun many H5 hmany D5 o5 => ?_
    walk_at "g"
    refine lp_range (fun k σ H' => ∃ (ns : List Int) (ps : List (Addr × Int × Int)) (last : Int) (y7 y8 y9 : Option V), σ = [some (.ref d), some (.int m), some (.ref l1), some (.int last), some (.int far), some (.int road), some (.ref l2), y7, y8, y9] ∧
      Deck H' d c (n + 3 + 100 * k) ∧ H' l1 = some (.lst (ns.map V.int)) ∧ H' l2 = some (.lst (ps.map fun q => .ref q.1)) ∧ (∀ q ∈ ps, H' q.1 = some (.tup [.int q.2.1, .int q.2.2])) ∧
      ns.length = k ∧ ShOk ns (ps.map (·.2)) ∧ (∀ v ∈ ns, v ≤ last) ∧ -1 ≤ last ∧ ps.length ≤ 100 * k ∧ Kp [d] H H') ?_ ?_ ?_
    · exact ⟨[], [], -1, none, none, none, rfl, D5, o5.get n1d e1', o5.get n2d e4, by simp, rfl, ⟨List.Pairwise.nil, by simp, List.Pairwise.nil, by simp⟩, by simp, by omega, Nat.zero_le _, kk.trans (o5.kp (by simp))⟩
    · rintro k σ H6 hk ⟨ns, ps, last, y7, y8, y9, rfl, D6, el1, el2, hps, hlen, S, hlast, hl1', hpl, k6⟩
      have hk60 : k < 60 := by omega
      walk_at "g"
      refine w_draw D6 (by have : 3 + 100 * k < 10000 := by omega
                           omega) (by decide) (by decide) fun r1 H7 hr1 D7 o7 => ?_
      walk_at "g"
      -- last is raised
      refine w_seqJ (fun σ' H' => ∃ (z : Int), σ' = [some (.ref d), some (.int m), some (.ref l1), some (.int z), some (.int far), some (.int road), some (.ref l2), some (.int (0 + k)), y8, y9] ∧ last < z ∧ Deck H' d c (n + 3 + 100 * k + 3) ∧ Off d H6 H') ?_ ?_
      · rintro σ' H8 ⟨z, rfl, hz, D8, o8⟩
        have hzv : ∀ v ∈ ns, v < z := fun v hv => by have := hlast v hv; omega
        have hps8 : ∀ q ∈ ps, H8 q.1 = some (.tup [.int q.2.1, .int q.2.2]) := fun q hq => by
          obtain ⟨⟨xs, e⟩, _⟩ := D6.at
          exact o8.tup e (hps q hq)
        walk_at "g"
        refine lp_range (fun j σ H' => ∃ (ps' : List (Addr × Int × Int)) (y8 y9 : Option V), σ = [some (.ref d), some (.int m), some (.ref l1), some (.int z), some (.int far), some (.int road), some (.ref l2), some (.int (0 + k)), y8, y9] ∧
          Deck H' d c (n + 3 + 100 * k + 3 + j) ∧ H' l1 = some (.lst (ns.map V.int)) ∧ H' l2 = some (.lst (ps'.map fun q => .ref q.1)) ∧ (∀ q ∈ ps', H' q.1 = some (.tup [.int q.2.1, .int q.2.2])) ∧
          LInv ns z j (ps'.map (·.2)) ∧ ps'.length ≤ 100 * k + j ∧ Kp [d] H H') ?_ ?_ ?_
        · exact ⟨ps, _, _, rfl, D8, o8.get n1d el1, o8.get n2d el2, hps8, LInv.start S z, hpl, k6.trans (o8.kp (by simp))⟩
        · rintro j σ H9 hj ⟨ps', w8, w9, rfl, D9, g1, g2, gp, L, hpl', k9⟩
          have hjk : j < k := by omega
          have hjn : j < ns.length := by omega
          obtain ⟨t, ht⟩ : ∃ t, ns[j]? = some t := ⟨ns[j], List.getElem?_eq_getElem hjn⟩
          walk_at "g"
          refine w_new fun pp H10 hpp e10 k10 => ?_
          have D10 := D9.kp (M := []) (Kp.of k10) (by simp) (by simp)
          obtain ⟨npd, npc⟩ := D9.ne1 hpp
          obtain ⟨mm, emm, hmm0, hmm1⟩ := pick4 hroad
          walk_at "g"
          refine w_draw D10 (by have : 3 + 100 * k + 3 + j < 10000 := by omega
                                omega) hmm0 hmm1 fun r2 H11 hr2 D11 o11 => ?_
          walk_at "g"
          have g1' := o11.get n1d (k10 _ _ g1)
          have g2' := o11.get n2d (k10 _ _ g2)
          have gp' : ∀ q ∈ ps', H11 q.1 = some (.tup [.int q.2.1, .int q.2.2]) := fun q hq => by
            obtain ⟨⟨xs, e⟩, _⟩ := D10.at
            exact o11.tup e (k10 _ _ (gp q hq))
          have k11 : Kp [d] H H11 := k9.trans ((Kp.of k10).trans (o11.kp (by simp)))
          refine w_seqJ (fun σ' H' => (∃ b : Bool, σ' = [some (.ref d), some (.int m), some (.ref l1), some (.int z), some (.int far), some (.int road), some (.ref l2), some (.int (0 + k)), some (.int (0 + j)), some (.bl b)]) ∧ H' = H11) ?_ ?_
          · rintro σ' H' ⟨⟨b1, rfl⟩, rfl⟩
            refine w_seqJ (fun σ' H'' => (∃ b : Bool, σ' = [some (.ref d), some (.int m), some (.ref l1), some (.int z), some (.int far), some (.int road), some (.ref l2), some (.int (0 + k)), some (.int (0 + j)), some (.bl b)]) ∧ H'' = H') ?_ ?_
            · rintro σ' H'' ⟨⟨b2, rfl⟩, rfl⟩
              walk_at "g"
              refine w_itB (fun _ => ?_) (fun _ => ?_)
              · have hat := at_map ht
                rw [show (j : Int) = 0 + (j : Int) by omega] at hat
                walk_at "g"
                refine w_new fun pr H12 hpr e12 k12 => ?_
                have g2'' := k12 _ _ g2'
                walk_at "g"
                refine w_app g2'' (by rw [List.length_map]; exact Nat.lt_of_le_of_lt (show ps'.length ≤ 10000 by omega) (by decide)) fun H13 e13 o13 => ?_
                have D12 := D11.kp (M := []) (Kp.of k12) (by simp) (by simp)
                refine ⟨ps' ++ [(pr, z, t)], _, _, rfl, D12.kp (M := [l2]) (o13.kp (by simp)) (by simpa using Ne.symm n2d) (by simpa using Ne.symm n2c), o13.get n21 (k12 _ _ g1'), by rw [e13, List.map_append]; rfl, ?_, ?_, by rw [List.length_append]; simp; omega, Off.keep (k11.trans (Kp.of k12)) o13 hl2H⟩
                · intro q hq
                  rcases List.mem_append.mp hq with a | a
                  · exact o13.tup g2'' (k12 _ _ (gp' q a))
                  · have e : q = (pr, z, t) := by simpa using a
                    subst e
                    exact o13.tup g2'' e12
                · rw [List.map_append]
                  exact L.snoc S.vr hzv ht
              · walk_at "g"
                exact ⟨ps', _, _, rfl, D11, g1', g2', gp', L.skip, by omega, k11⟩
            · intro U hU
              walk_at "g"
              refine w_ite (fun _ => ?_) (fun _ => hU _ _ ⟨⟨_, rfl⟩, rfl⟩)
              walk_at "g"
              refine w_ite (fun _ => ?_) (fun _ => hU _ _ ⟨⟨_, rfl⟩, rfl⟩)
              walk_at "g"
              exact hU _ _ ⟨⟨_, rfl⟩, rfl⟩
          · intro U hU
            walk_at "g"
            refine w_ite (fun _ => ?_) (fun _ => hU _ _ ⟨⟨_, rfl⟩, rfl⟩)
            walk_at "g"
            refine w_ite (fun _ => ?_) (fun _ => hU _ _ ⟨⟨_, rfl⟩, rfl⟩)
            walk_at "g"
            exact hU _ _ ⟨⟨_, rfl⟩, rfl⟩
        · rintro σ H9 ⟨ps', w8, w9, rfl, D9, g1, g2, gp, L, hpl', k9⟩
          walk_at "g"
          refine w_app g1 (by rw [List.length_map]; exact small1000 (by omega)) fun H10 e10 o10 => ?_
          have hkk : (0 + (k : Int)).toNat = k := by omega
          rw [hkk] at L D9
          have kz : Kp [d] H H10 := Off.keep k9 o10 hl1
          refine ⟨ns ++ [z], ps', z, _, _, _, rfl, (D9.kp (M := [l1]) (o10.kp (by simp)) (by simpa using Ne.symm n1d) (by simpa using Ne.symm n1c)).mono (by omega), by rw [e10, List.map_append]; rfl, o10.get (Ne.symm n21) g2, fun q hq => o10.tup g1 (gp q hq), by rw [List.length_append]; simp; omega, L.done S.vr S.v0 hzv (by omega), ?_, by omega, by omega, kz⟩
          intro v hv
          rcases List.mem_append.mp hv with a | a
          · have := hzv v a
            omega
          · have e : v = z := by simpa using a
            omega
      · intro U hU
        walk_at "g"
        refine w_ite (fun _ => ?_) (fun _ => hU _ _ ⟨_, rfl, by omega, D7.mono (by omega), o7⟩)
        walk_at "g"
        refine w_draw D7 (by have : 3 + 100 * k + 1 < 10000 := by omega
                             omega) (by decide) (by decide) fun r2 H8 hr2 D8 o8 => ?_
        walk_at "g"
        refine w_ite (fun _ => ?_) (fun _ => hU _ _ ⟨_, rfl, by omega, D8.mono (by omega), o7.trans o8⟩)
        walk_at "g"
        refine w_draw D8 (by have : 3 + 100 * k + 2 < 10000 := by omega
                             omega) (by decide) (by decide) fun r3 H9 hr3 D9 o9 => ?_
        walk_at "g"
        exact hU _ _ ⟨_, rfl, by omega, D9, o7.trans (o8.trans o9)⟩
    · rintro σ H6 ⟨ns, ps, last, y7, y8, y9, rfl, D6, el1, el2, hps, hlen, S, hlast, hl1', hpl, k6⟩
      walk_at "g"
      refine w_tupL (.of el1) fun t1 H7 ht1 e7 k7 => ?_
      have el2' := k7 _ _ el2
      walk_at "g"
      refine w_tupL (.of el2') fun t2 H8 ht2 e8 k8 => ?_
      walk_at "g"
      refine w_new fun t3 H9 ht3 e9 k9 => ?_
      have ks := Same.trans k7 (Same.trans k8 k9)
      refine q H9 t3 ns ps ((D6.kp (M := []) (Kp.of ks) (by simp) (by simp)).mono (by omega)) (k6.trans (Kp.of ks)) ⟨t1, t2, e9, k9 _ _ (k8 _ _ e7), k9 _ _ e8, fun q hq => ks _ _ (hps q hq)⟩ S (by omega) (by omega)
end
def LongAt (H : Hp) (t : Addr) (f g : Int) (w many : Nat) : Prop := ∃ a b ps, H t = some (.tup [.ref a, .ref b, .int w]) ∧ VL H a ((List.range many).map fun (k : Nat) => f + g * k) ∧ PL H b ps ∧ ps.map (·.2) = (List.range (many - w)).map fun (j : Nat) => (f + g * ((j + w : Nat) : Int), f + g * (j : Int))
def spLong : Sp := fun vs H Q _ => ∃ (d c : Addr) (n m : Nat), vs = [.ref d, .int m] ∧ Deck H d c n ∧ n + 10000 ≤ MOSTD ∧ m ≤ 400 ∧
  ∀ H' t (f g : Nat) (w many : Nat), Deck H' d c (n + 4) → Kp [d] H H' → LongAt H' t f g w many → 1 ≤ g → g ≤ 3 → 1 ≤ w → w ≤ 6 → many ≤ m → Q (.ref t) H'
section
variable {P : Program} {w : World} {K : PySem.W.Frag} {mg : Str → Option Value} {base : Heap}
theorem ok_long {f fM fD : Addr} {fd fdM fdD : FuncData} (T : Txt K mg) (F : Fun K "_law_long_shape" "_law_long_shape" s_law_long_shape f fd) (D_law_mixed : Df K mg "_law_mixed" s_law_mixed ["_law_cell", "_law_turn"] fM fdM)
    (D_law_draw : Df K mg "_law_draw" s_law_draw ["_law_deck_here", "_law_many"] fD fdD) : FnOk P w K mg base CX0 3 f fd ["_law_deck_here", "_law_most"] spLong := by
  have G_law_draw : FnOk P w K mg base CX0 2 fD fdD ["_law_deck_here", "_law_many"] spDraw := ok_draw T D_law_draw.fn D_law_mixed
  refine F.ok sc_law_long_shape (fun vs H Q E h => ?_) (fun cdv A outer s H vs Q E hr h => ?_)
  · obtain ⟨d, c, n, m, rfl, _⟩ := h
    rfl
  · obtain ⟨d, c, n, m, rfl, D0, hn, hm, q⟩ := h
    refine ⟨_,
      (pss_cons
        (ps_set (i := 2) sc_law_long_shape.nd rfl (.inr rfl) (pe_call G_law_draw (hr.mono (by decide)) (by rfl) D_law_draw.g D_law_draw.fn.kp D_law_draw.b .nil pass0 (pa_cons (pv 0) (pa_cons (pe_op op_pow pe_int pe_int) pa_nil))))
      (pss_cons
        (ps_set (i := 3) sc_law_long_shape.nd rfl (.inr rfl) (pe_op op_add pe_int (pe_call G_law_draw (hr.mono (by decide)) (by rfl) D_law_draw.g D_law_draw.fn.kp D_law_draw.b .nil pass0 (pa_cons (pv 0) (pa_cons pe_int pa_nil)))))
      (pss_cons
        (ps_set (i := 4) sc_law_long_shape.nd rfl (.inr rfl) (pe_op op_add pe_int (pe_call G_law_draw (hr.mono (by decide)) (by rfl) D_law_draw.g D_law_draw.fn.kp D_law_draw.b .nil pass0 (pa_cons (pv 0) (pa_cons pe_int pa_nil)))))
      (pss_cons
        (ps_set (i := 5) sc_law_long_shape.nd rfl (.inl rfl) (pe_call G_law_draw (hr.mono (by decide)) (by rfl) D_law_draw.g D_law_draw.fn.kp D_law_draw.b .nil pass0 (pa_cons (pv 0) (pa_cons (pe_op op_add (pv 1) pe_int) pa_nil))))
      (pss_cons
        (ps_set (i := 6) sc_law_long_shape.nd rfl (.inr rfl) (pe_lc (own := [("_law_k", 8)]) (g := (gName 8)) rfl sc_law_long_shape.nd (pi_range1 (by rfl) T.n_range (pa_cons (pv 5) pa_nil)) (blkOk_by (own := [("_law_k", 8)]) (N := N_law_long_shape) (sc := defScope s_law_long_shape) (by decide +kernel)) (fun _ _ _ _ _ => (pg_name (i := 8) sc_law_long_shape.nd rfl (.inl rfl))) (fun _ _ _ _ _ => pts_nil) (fun _ _ _ _ _ => (pe_op op_add (pv 2) (pe_op op_mul (pv 3) (pv 8))))))
      (pss_cons
        (ps_setLc (i := 7) (own := [("_law_k", 8)]) (g := (gName 8)) rfl sc_law_long_shape.nd rfl rfl (sw_true rfl rfl rfl (by decide +kernel)) (pi_range2 (by rfl) T.n_range (pa_cons (pv 4) (pa_cons (pv 5) pa_nil))) (blkOk_by (own := [("_law_k", 8)]) (N := N_law_long_shape) (sc := defScope s_law_long_shape) (by decide +kernel)) (fun _ _ _ _ _ => (pg_name (i := 8) sc_law_long_shape.nd rfl (.inl rfl))) (fun _ _ _ _ _ => pts_nil) (fun _ _ _ _ _ => (pe_tup (pa_cons (pe_ix (r := rIxL K) ix_list (pv 6) (pv 8) (fun _ _ => rfl)) (pa_cons (pe_ix (r := rIxL K) ix_list (pv 6) (pe_op op_sub (pv 8) (pv 4)) (fun _ _ => rfl)) pa_nil)))))
      (pss_one
        (ps_ret (pe_tup (pa_cons (pe_callTy (r := rTupOf K) c_tupOf (by rfl) T.n_tuple (by decide +kernel) (pa_cons (pv 6) pa_nil)) (pa_cons (pe_callTy (r := rTupOf K) c_tupOf (by rfl) T.n_tuple (by decide +kernel) (pa_cons (pv 7) pa_nil)) (pa_cons (pv 4) pa_nil))))))))))))
      , ?_⟩
    rw [show L2.start N_law_long_shape [V.ref d, V.int m] = [some (.ref d), some (.int m), none, none, none, none, none, none, none] from rfl]
    walk_at "x"
    refine w_draw D0 (by omega) (by decide) (by decide) fun fi H1 hfi D1 o1 => ?_
    walk_at "g"
    refine w_draw D1 (by omega) (by decide) (by decide) fun g0 H2 hg0 D2 o2 => ?_
    walk_at "g"
    refine w_draw D2 (by omega) (by decide) (by decide) fun w0 H3 hw0 D3 o3 => ?_
    walk_at "g"
    refine w_draw D3 (by omega) (by omega) (by omega) fun many H4 hmany D4 o4 => ?_
    walk_at "g"
    have en : ((many : Int)).toNat = many := by omega
    rw [en]
    refine lcp_map (walk_range (lo := 0) (n := many)) [] (((List.range many).map fun (k : Nat) => (fi : Int) + (1 + g0) * k).map V.int) (by simp) (by omega) (fun H' k => trivial) ?_ (by simp) ?_
    · rintro i y H5 H6 R hi k ⟨rfl, rfl⟩ hR
      refine w_name ⟨rfl, ?_⟩
      walk_at "g"
      refine hR _ _ ?_ Kp.refl
      rw [List.getElem?_map, List.getElem?_map, List.getElem?_range hi]
      show some (V.int ((fi : Int) + (1 + g0) * i)) = some (V.int ((fi : Int) + (1 + g0) * (0 + i)))
      rw [Int.zero_add]
    · intro L1 H5 hL1 k5 e5
      have k5 := k5.same
      have hvs : ∀ i : Nat, i < many → atI (((List.range many).map fun (k : Nat) => (fi : Int) + (1 + g0) * k).map V.int) (i : Int) = some (.int ((fi : Int) + (1 + g0) * i)) := fun i hi => atI_nat (by
        rw [List.getElem?_map, List.getElem?_map, List.getElem?_range hi]
        rfl)
      walk_at "g"
      rw [show ((many : Int) - (1 + (w0 : Int))).toNat = many - (1 + w0) by omega]
      refine lcp_rel (walk_range (lo := 1 + (w0 : Int)) (n := many - (1 + w0))) [] (fun j y H' => ∃ p, y = .ref p ∧ H' p = some (.tup [.int ((fi : Int) + (1 + g0) * ((j + (1 + w0) : Nat) : Int)), .int ((fi : Int) + (1 + g0) * (j : Int))])) (by omega) (fun i y H1 H2 k ⟨p, e1, e2⟩ => ⟨p, e1, k _ _ e2⟩) (fun H' k => trivial) ?_ (by simp) ?_
      · rintro i y H6 H7 R hi k6 t6 ⟨rfl, rfl⟩ hR
        have e6 := k6 _ _ (by simp) e5
        have a1 := hvs (i + (1 + w0)) (by omega)
        have a2 := hvs i (by omega)
        rw [show ((i + (1 + w0) : Nat) : Int) = 1 + (w0 : Int) + (i : Int) by omega] at a1
        rw [show (i : Int) = 1 + (w0 : Int) + (i : Int) - (1 + (w0 : Int)) by omega] at a2
        refine w_name ⟨rfl, ?_⟩
        walk_at "g"
        refine w_new fun p H8 hp e8 k8 => ?_
        refine hR _ _ ⟨p, rfl, ?_⟩ (Kp.of k8) (KT.of k8)
        rw [e8]
        rw [show ((i + (1 + w0) : Nat) : Int) = 1 + (w0 : Int) + (i : Int) by omega]
        rw [show 1 + (w0 : Int) + (i : Int) - (1 + (w0 : Int)) = (i : Int) by omega]
      · intro L2 H6 ys hys hp hL2 k6 t6 e6
        obtain ⟨ps, p1, p2, p3⟩ := refs_of (fun p (l : Int × Int) => H6 p = some (.tup [.int l.1, .int l.2])) ys (fun j => ((fi : Int) + (1 + g0) * ((j + (1 + w0) : Nat) : Int), (fi : Int) + (1 + g0) * (j : Int))) hp
        have k6 := k6.same
        have e5' := k6 _ _ e5
        walk_at "g"
        refine w_tupL (.of e5') fun t1 H7 ht1 e7 k7 => ?_
        have e6' := k7 _ _ e6
        walk_at "g"
        refine w_tupL (.of e6') fun t2 H8 ht2 e8 k8 => ?_
        walk_at "g"
        refine w_new fun t3 H9 ht3 e9 k9 => ?_
        have ks : Same H4 H9 := Same.trans k5 (Same.trans k6 (Same.trans k7 (Same.trans k8 k9)))
        have ko : Kp [d] H H4 := (o1.kp (by simp)).trans ((o2.kp (by simp)).trans ((o3.kp (by simp)).trans (o4.kp (by simp))))
        refine q H9 t3 fi (1 + g0) (1 + w0) many (D4.kp (M := []) (Kp.of ks) (by simp) (by simp)) (ko.trans (Kp.of ks)) ⟨t1, t2, ps, ?_, ?_, ⟨?_, fun q hq => ?_⟩, ?_⟩ (by omega) (by omega) (by omega) (by omega) (by omega)
        · rw [e9]
          simp
        · have z : H9 t1 = _ := k9 _ _ (k8 _ _ e7)
          unfold VL
          rw [z]
          simp
        · rw [k9 _ _ e8, p1]
        · exact k9 _ _ (k8 _ _ (k7 _ _ (p3 q hq)))
        · rw [p2, hys]
          simp
end
theorem rise_map {n : Nat} {F : Nat → Int} (h : ∀ i j, i < j → F i < F j) : ((List.range n).map F).Pairwise (· < ·) := by
  rw [List.pairwise_map]
  exact List.Pairwise.imp (fun {a b} hab => h a b hab) List.pairwise_lt_range
theorem gap_lt {f g : Int} (hg : 0 < g) {i j : Nat} (h : i < j) : f + g * (i : Int) < f + g * (j : Int) := by
  have h1 : (i : Int) < (j : Int) := by omega
  have := Int.mul_lt_mul_of_pos_left h1 hg
  omega
theorem long_ok {f g : Int} {w many : Nat} (hf : 0 ≤ f) (hg : 0 < g) (hw : 1 ≤ w) : ShOk ((List.range many).map fun (k : Nat) => f + g * k) ((List.range (many - w)).map fun (j : Nat) => (f + g * ((j + w : Nat) : Int), f + g * (j : Int))) := by
  refine ⟨rise_map fun i j h => gap_lt hg h, fun v hv => ?_, ?_, fun q hq => ?_⟩
  · obtain ⟨k, _, rfl⟩ := List.mem_map.mp hv
    have : 0 ≤ g * (k : Int) := Int.mul_nonneg (by omega) (by omega)
    omega
  · rw [List.pairwise_map]
    exact List.Pairwise.imp (fun {a b} hab => .inl (gap_lt hg (Nat.add_lt_add_right hab w))) List.pairwise_lt_range
  · obtain ⟨j, hj, rfl⟩ := List.mem_map.mp hq
    have hj' : j < many - w := List.mem_range.mp hj
    exact ⟨List.mem_map.mpr ⟨j + w, List.mem_range.mpr (by omega), rfl⟩, List.mem_map.mpr ⟨j, List.mem_range.mpr (by omega), rfl⟩, gap_lt hg (by omega)⟩
def spLaw (K : PySem.W.Frag) : Sp := fun vs H Q _ => ∃ (a : Addr) (ns : List Int), vs = [.ref a] ∧ SqL K H a (ns.map V.int) ∧ ns.length ≤ 63 ∧ ∀ H', Q (.bl true) H'
section
variable {P : Program} {w : World} {K : PySem.W.Frag} {mg : Str → Option Value} {base : Heap}
theorem ok_law {f_is_whole f_is_rising f_are_links f_check f_law_deck f_law_mixed f_law_draw f_law_shape f_law_long_shape f : Addr} {fd_is_whole fd_is_rising fd_are_links fd_check fd_law_deck fd_law_mixed fd_law_draw fd_law_shape fd_law_long_shape fd : FuncData} (T : Txt K mg)
    (D_is_whole : Df K mg "is_whole" s_is_whole ["thing"] f_is_whole fd_is_whole) (D_is_rising : Df K mg "is_rising" s_is_rising ["thing"] f_is_rising fd_is_rising) (D_are_links : Df K mg "are_links" s_are_links ["versions", "thing"] f_are_links fd_are_links) (D_check : Df K mg "check" s_check ["thing"] f_check fd_check)
    (D_law_deck : Df K mg "_law_deck" s_law_deck ["_law_script"] f_law_deck fd_law_deck) (D_law_mixed : Df K mg "_law_mixed" s_law_mixed ["_law_cell", "_law_turn"] f_law_mixed fd_law_mixed) (D_law_draw : Df K mg "_law_draw" s_law_draw ["_law_deck_here", "_law_many"] f_law_draw fd_law_draw)
    (D_law_shape : Df K mg "_law_shape" s_law_shape ["_law_deck_here", "_law_most"] f_law_shape fd_law_shape) (D_law_long_shape : Df K mg "_law_long_shape" s_law_long_shape ["_law_deck_here", "_law_most"] f_law_long_shape fd_law_long_shape)
    (D_law : Df K mg "law" s_law ["_law_script"] f fd) : FnOk P w K mg base CX0 4 f fd ["_law_script"] (spLaw K) := by
  have G_law_deck : FnOk P w K mg base CX0 1 f_law_deck fd_law_deck ["_law_script"] (spDeck K) := ok_deck T D_law_deck.fn
  have G_law_draw : FnOk P w K mg base CX0 2 f_law_draw fd_law_draw ["_law_deck_here", "_law_many"] spDraw := ok_draw T D_law_draw.fn D_law_mixed
  have G_law_shape : FnOk P w K mg base CX0 3 f_law_shape fd_law_shape ["_law_deck_here", "_law_most"] spShape := ok_shape T D_law_shape.fn D_law_mixed D_law_draw
  have G_law_long_shape : FnOk P w K mg base CX0 3 f_law_long_shape fd_law_long_shape ["_law_deck_here", "_law_most"] spLong := ok_long T D_law_long_shape.fn D_law_mixed D_law_draw
  have G_check : FnOk P w K mg base CX0 3 f_check fd_check ["thing"] spCheck := ok_check T D_check.fn D_is_whole D_is_rising D_are_links
  refine D_law.fn.ok sc_law (fun vs H Q E h => ?_) (fun cdv A outer s H vs Q E hr h => ?_)
  · obtain ⟨a, ns, rfl, _⟩ := h
    rfl
  · obtain ⟨a, ns, rfl, hS, hl, q⟩ := h
    refine ⟨_,
      (pss_cons
        (ps_set (i := 1) sc_law.nd rfl (.inl rfl) (pe_call G_law_deck (hr.mono (by decide)) (by rfl) D_law_deck.g D_law_deck.fn.kp D_law_deck.b .nil pass0 (pa_cons (pv 0) pa_nil)))
      (pss_cons
        (ps_if (pt_cmpR op_eq (pe_call G_law_draw (hr.mono (by decide)) (by rfl) D_law_draw.g D_law_draw.fn.kp D_law_draw.b .nil pass0 (pa_cons (pv 1) (pa_cons pe_int pa_nil))) pe_int (nomark _))
          (pss_cons
            (ps_set (i := 2) sc_law.nd rfl (.inl rfl) (pe_call G_law_long_shape (hr.mono (by decide)) (by rfl) D_law_long_shape.g D_law_long_shape.fn.kp D_law_long_shape.b .nil pass0 (pa_cons (pv 1) (pa_cons pe_int pa_nil))))
          (pss_one
            (ps_ret (pe_cmpR o_isB (pe_call G_check (hr.mono (by decide)) (by rfl) D_check.g D_check.fn.kp D_check.b .nil pass0 (pa_cons (pe_tup (pa_cons (pe_ix (r := rIxT K) ix_tup (pv 2) pe_int (fun _ _ => rfl)) (pa_cons (pe_ix (r := rIxT K) ix_tup (pv 2) pe_int (fun _ _ => rfl)) pa_nil))) pa_nil)) pe_bl (nomark _)))))
          pss_nil)
      (pss_one
        (ps_ret (pe_cmpR o_isB (pe_call G_check (hr.mono (by decide)) (by rfl) D_check.g D_check.fn.kp D_check.b .nil pass0 (pa_cons (pe_call G_law_shape (hr.mono (by decide)) (by rfl) D_law_shape.g D_law_shape.fn.kp D_law_shape.b .nil pass0 (pa_cons (pv 1) (pa_cons pe_int pa_nil))) pa_nil)) pe_bl (nomark _))))))
      , ?_⟩
    rw [show L2.start N_law [V.ref a] = [some (.ref a), none, none] from rfl]
    walk_at "x"
    refine w_deck hS fun H1 d c k1 hd hc D1 => ?_
    walk_at "g"
    refine w_seq ?_
    walk_at "g"
    refine w_draw D1 (by decide) (by decide) (by decide) fun n H2 hn D2 o2 => ?_
    walk_at "g"
    refine w_ite (fun _ => ?_) (fun _ => ?_)
    · walk_at "g"
      refine ⟨d, c, _, 400, rfl, D2, by decide, by decide, fun H3 t fi g w many D3 k3 ⟨la, lb, ps, e1, e2, e3, e4⟩ hg1 hg2 hw1 hw2 hm => ?_⟩
      walk_at "g"
      refine w_new fun t2 H4 ht2 e5 k4 => ?_
      walk_at "g"
      refine ⟨t2, _, ps, rfl, ⟨la, lb, e5, e2.kt (KT.of k4), e3.kt (KT.of k4)⟩, by rw [e4]; exact long_ok (by omega) (by omega) hw1, by simp; omega, ?_, fun H5 k5 => ?_⟩
      · have z := congrArg List.length e4
        simp at z
        omega
      · walk_at "g"
        exact q _
    · walk_at "g"
      refine ⟨d, c, _, 12, rfl, D2, by decide, by decide, fun H3 t ns ps D3 k3 hS S h1 h2 => ?_⟩
      walk_at "g"
      refine ⟨t, ns, ps, rfl, hS, S, by omega, by omega, fun H5 k5 => ?_⟩
      walk_at "g"
      exact q _
end
theorem all_mk {l : PySem.W.OpenLaw} {w : World} {K : PySem.W.Frag} {h : Heap} {mg : Str → Option Value} {fa f_is_whole f_is_rising f_are_links f_check f_law_deck f_law_mixed f_law_draw f_law_shape f_law_long_shape f_law : Addr} (X : K.In h) (G : h.Ns mainGlobals mg) (hfa : mg "law" = some (.ref fa))
    {od_is_whole an_is_whole : Option Addr} {sl_is_whole : Array (Option Value)} {oc_is_whole kV_is_whole dc_is_whole pm_is_whole cd_is_whole ct_is_whole : Value}
    (a_is_whole : PySem.W.nsIn K mainGlobals "is_whole" = some (some (.ref f_is_whole))) (l_is_whole : K.lookup f_is_whole = some ⟨oc_is_whole, od_is_whole, .func (PySem.W.fnOf "is_whole" "is_whole" (defArgs s_is_whole) (defBody s_is_whole) (defScope s_is_whole) .none kV_is_whole dc_is_whole pm_is_whole an_is_whole cd_is_whole ct_is_whole), sl_is_whole⟩) (c_is_whole : PySem.W.codeIn K cd_is_whole "is_whole" = true) (k_is_whole : PySem.W.keepIn K (.ref f_is_whole) = true)
    {od_is_rising an_is_rising : Option Addr} {sl_is_rising : Array (Option Value)} {oc_is_rising kV_is_rising dc_is_rising pm_is_rising cd_is_rising ct_is_rising : Value}
    (a_is_rising : PySem.W.nsIn K mainGlobals "is_rising" = some (some (.ref f_is_rising))) (l_is_rising : K.lookup f_is_rising = some ⟨oc_is_rising, od_is_rising, .func (PySem.W.fnOf "is_rising" "is_rising" (defArgs s_is_rising) (defBody s_is_rising) (defScope s_is_rising) .none kV_is_rising dc_is_rising pm_is_rising an_is_rising cd_is_rising ct_is_rising), sl_is_rising⟩) (c_is_rising : PySem.W.codeIn K cd_is_rising "is_rising" = true) (k_is_rising : PySem.W.keepIn K (.ref f_is_rising) = true)
    {od_are_links an_are_links : Option Addr} {sl_are_links : Array (Option Value)} {oc_are_links kV_are_links dc_are_links pm_are_links cd_are_links ct_are_links : Value}
    (a_are_links : PySem.W.nsIn K mainGlobals "are_links" = some (some (.ref f_are_links))) (l_are_links : K.lookup f_are_links = some ⟨oc_are_links, od_are_links, .func (PySem.W.fnOf "are_links" "are_links" (defArgs s_are_links) (defBody s_are_links) (defScope s_are_links) .none kV_are_links dc_are_links pm_are_links an_are_links cd_are_links ct_are_links), sl_are_links⟩) (c_are_links : PySem.W.codeIn K cd_are_links "are_links" = true) (k_are_links : PySem.W.keepIn K (.ref f_are_links) = true)
    {od_check an_check : Option Addr} {sl_check : Array (Option Value)} {oc_check kV_check dc_check pm_check cd_check ct_check : Value}
    (a_check : PySem.W.nsIn K mainGlobals "check" = some (some (.ref f_check))) (l_check : K.lookup f_check = some ⟨oc_check, od_check, .func (PySem.W.fnOf "check" "check" (defArgs s_check) (defBody s_check) (defScope s_check) .none kV_check dc_check pm_check an_check cd_check ct_check), sl_check⟩) (c_check : PySem.W.codeIn K cd_check "check" = true) (k_check : PySem.W.keepIn K (.ref f_check) = true)
    {od_law_deck an_law_deck : Option Addr} {sl_law_deck : Array (Option Value)} {oc_law_deck kV_law_deck dc_law_deck pm_law_deck cd_law_deck ct_law_deck : Value}
    (a_law_deck : PySem.W.nsIn K mainGlobals "_law_deck" = some (some (.ref f_law_deck))) (l_law_deck : K.lookup f_law_deck = some ⟨oc_law_deck, od_law_deck, .func (PySem.W.fnOf "_law_deck" "_law_deck" (defArgs s_law_deck) (defBody s_law_deck) (defScope s_law_deck) .none kV_law_deck dc_law_deck pm_law_deck an_law_deck cd_law_deck ct_law_deck), sl_law_deck⟩) (c_law_deck : PySem.W.codeIn K cd_law_deck "_law_deck" = true) (k_law_deck : PySem.W.keepIn K (.ref f_law_deck) = true)
    {od_law_mixed an_law_mixed : Option Addr} {sl_law_mixed : Array (Option Value)} {oc_law_mixed kV_law_mixed dc_law_mixed pm_law_mixed cd_law_mixed ct_law_mixed : Value}
    (a_law_mixed : PySem.W.nsIn K mainGlobals "_law_mixed" = some (some (.ref f_law_mixed))) (l_law_mixed : K.lookup f_law_mixed = some ⟨oc_law_mixed, od_law_mixed, .func (PySem.W.fnOf "_law_mixed" "_law_mixed" (defArgs s_law_mixed) (defBody s_law_mixed) (defScope s_law_mixed) .none kV_law_mixed dc_law_mixed pm_law_mixed an_law_mixed cd_law_mixed ct_law_mixed), sl_law_mixed⟩) (c_law_mixed : PySem.W.codeIn K cd_law_mixed "_law_mixed" = true) (k_law_mixed : PySem.W.keepIn K (.ref f_law_mixed) = true)
    {od_law_draw an_law_draw : Option Addr} {sl_law_draw : Array (Option Value)} {oc_law_draw kV_law_draw dc_law_draw pm_law_draw cd_law_draw ct_law_draw : Value}
    (a_law_draw : PySem.W.nsIn K mainGlobals "_law_draw" = some (some (.ref f_law_draw))) (l_law_draw : K.lookup f_law_draw = some ⟨oc_law_draw, od_law_draw, .func (PySem.W.fnOf "_law_draw" "_law_draw" (defArgs s_law_draw) (defBody s_law_draw) (defScope s_law_draw) .none kV_law_draw dc_law_draw pm_law_draw an_law_draw cd_law_draw ct_law_draw), sl_law_draw⟩) (c_law_draw : PySem.W.codeIn K cd_law_draw "_law_draw" = true) (k_law_draw : PySem.W.keepIn K (.ref f_law_draw) = true)
    {od_law_shape an_law_shape : Option Addr} {sl_law_shape : Array (Option Value)} {oc_law_shape kV_law_shape dc_law_shape pm_law_shape cd_law_shape ct_law_shape : Value}
    (a_law_shape : PySem.W.nsIn K mainGlobals "_law_shape" = some (some (.ref f_law_shape))) (l_law_shape : K.lookup f_law_shape = some ⟨oc_law_shape, od_law_shape, .func (PySem.W.fnOf "_law_shape" "_law_shape" (defArgs s_law_shape) (defBody s_law_shape) (defScope s_law_shape) .none kV_law_shape dc_law_shape pm_law_shape an_law_shape cd_law_shape ct_law_shape), sl_law_shape⟩) (c_law_shape : PySem.W.codeIn K cd_law_shape "_law_shape" = true) (k_law_shape : PySem.W.keepIn K (.ref f_law_shape) = true)
    {od_law_long_shape an_law_long_shape : Option Addr} {sl_law_long_shape : Array (Option Value)} {oc_law_long_shape kV_law_long_shape dc_law_long_shape pm_law_long_shape cd_law_long_shape ct_law_long_shape : Value}
    (a_law_long_shape : PySem.W.nsIn K mainGlobals "_law_long_shape" = some (some (.ref f_law_long_shape))) (l_law_long_shape : K.lookup f_law_long_shape = some ⟨oc_law_long_shape, od_law_long_shape, .func (PySem.W.fnOf "_law_long_shape" "_law_long_shape" (defArgs s_law_long_shape) (defBody s_law_long_shape) (defScope s_law_long_shape) .none kV_law_long_shape dc_law_long_shape pm_law_long_shape an_law_long_shape cd_law_long_shape ct_law_long_shape), sl_law_long_shape⟩) (c_law_long_shape : PySem.W.codeIn K cd_law_long_shape "_law_long_shape" = true) (k_law_long_shape : PySem.W.keepIn K (.ref f_law_long_shape) = true)
    {od_law an_law : Option Addr} {sl_law : Array (Option Value)} {oc_law kV_law dc_law pm_law cd_law ct_law : Value}
    (a_law : PySem.W.nsIn K mainGlobals "law" = some (some (.ref f_law))) (l_law : K.lookup f_law = some ⟨oc_law, od_law, .func (PySem.W.fnOf "law" "law" (defArgs s_law) (defBody s_law) (defScope s_law) .none kV_law dc_law pm_law an_law cd_law ct_law), sl_law⟩) (c_law : PySem.W.codeIn K cd_law "law" = true) (k_law : PySem.W.keepIn K (.ref f_law) = true)
    (z_len : PySem.W.nsIn K mainGlobals "len" = some none)
    (z_list : PySem.W.nsIn K mainGlobals "list" = some none)
    (z_isinstance : PySem.W.nsIn K mainGlobals "isinstance" = some none)
    (z_int : PySem.W.nsIn K mainGlobals "int" = some none)
    (z_bool : PySem.W.nsIn K mainGlobals "bool" = some none)
    (z_tuple : PySem.W.nsIn K mainGlobals "tuple" = some none)
    (z_range : PySem.W.nsIn K mainGlobals "range" = some none)
    {t_VERSIONS : Tok} (y_VERSIONS : PySem.W.nsIn K mainGlobals "VERSIONS" = some (some (.int 400 t_VERSIONS)))
    {t_LINKS : Tok} (y_LINKS : PySem.W.nsIn K mainGlobals "LINKS" = some (some (.int 2000 t_LINKS)))
    : ∃ fd : FuncData, (∀ (s : Shared) (v : Value), BindsTo s fd ⟨[v], []⟩ [("_law_script", v)]) ∧ ∀ base : Heap, K.In base → base.Ns mainGlobals mg → FnOk l.prog w K mg base CX0 4 fa fd ["_law_script"] (spLaw K) := by
  have e := hfa.symm.trans (PySem.W.mg_of X G a_law)
  cases e
  have F_is_whole := fun_mk (st := s_is_whole) l_is_whole c_is_whole k_is_whole
  have D_is_whole : Df K mg "is_whole" s_is_whole ["thing"] _ _ := ⟨F_is_whole, F_is_whole.binds (ps := ["thing"]) fun _ _ _ _ _ _ us hl => match us, hl with | [_], _ => rfl, PySem.W.mg_of X G a_is_whole⟩
  have F_is_rising := fun_mk (st := s_is_rising) l_is_rising c_is_rising k_is_rising
  have D_is_rising : Df K mg "is_rising" s_is_rising ["thing"] _ _ := ⟨F_is_rising, F_is_rising.binds (ps := ["thing"]) fun _ _ _ _ _ _ us hl => match us, hl with | [_], _ => rfl, PySem.W.mg_of X G a_is_rising⟩
  have F_are_links := fun_mk (st := s_are_links) l_are_links c_are_links k_are_links
  have D_are_links : Df K mg "are_links" s_are_links ["versions", "thing"] _ _ := ⟨F_are_links, F_are_links.binds (ps := ["versions", "thing"]) fun _ _ _ _ _ _ us hl => match us, hl with | [_, _], _ => rfl, PySem.W.mg_of X G a_are_links⟩
  have F_check := fun_mk (st := s_check) l_check c_check k_check
  have D_check : Df K mg "check" s_check ["thing"] _ _ := ⟨F_check, F_check.binds (ps := ["thing"]) fun _ _ _ _ _ _ us hl => match us, hl with | [_], _ => rfl, PySem.W.mg_of X G a_check⟩
  have F_law_deck := fun_mk (st := s_law_deck) l_law_deck c_law_deck k_law_deck
  have D_law_deck : Df K mg "_law_deck" s_law_deck ["_law_script"] _ _ := ⟨F_law_deck, F_law_deck.binds (ps := ["_law_script"]) fun _ _ _ _ _ _ us hl => match us, hl with | [_], _ => rfl, PySem.W.mg_of X G a_law_deck⟩
  have F_law_mixed := fun_mk (st := s_law_mixed) l_law_mixed c_law_mixed k_law_mixed
  have D_law_mixed : Df K mg "_law_mixed" s_law_mixed ["_law_cell", "_law_turn"] _ _ := ⟨F_law_mixed, F_law_mixed.binds (ps := ["_law_cell", "_law_turn"]) fun _ _ _ _ _ _ us hl => match us, hl with | [_, _], _ => rfl, PySem.W.mg_of X G a_law_mixed⟩
  have F_law_draw := fun_mk (st := s_law_draw) l_law_draw c_law_draw k_law_draw
  have D_law_draw : Df K mg "_law_draw" s_law_draw ["_law_deck_here", "_law_many"] _ _ := ⟨F_law_draw, F_law_draw.binds (ps := ["_law_deck_here", "_law_many"]) fun _ _ _ _ _ _ us hl => match us, hl with | [_, _], _ => rfl, PySem.W.mg_of X G a_law_draw⟩
  have F_law_shape := fun_mk (st := s_law_shape) l_law_shape c_law_shape k_law_shape
  have D_law_shape : Df K mg "_law_shape" s_law_shape ["_law_deck_here", "_law_most"] _ _ := ⟨F_law_shape, F_law_shape.binds (ps := ["_law_deck_here", "_law_most"]) fun _ _ _ _ _ _ us hl => match us, hl with | [_, _], _ => rfl, PySem.W.mg_of X G a_law_shape⟩
  have F_law_long_shape := fun_mk (st := s_law_long_shape) l_law_long_shape c_law_long_shape k_law_long_shape
  have D_law_long_shape : Df K mg "_law_long_shape" s_law_long_shape ["_law_deck_here", "_law_most"] _ _ := ⟨F_law_long_shape, F_law_long_shape.binds (ps := ["_law_deck_here", "_law_most"]) fun _ _ _ _ _ _ us hl => match us, hl with | [_, _], _ => rfl, PySem.W.mg_of X G a_law_long_shape⟩
  have F_law := fun_mk (st := s_law) l_law c_law k_law
  have D_law : Df K mg "law" s_law ["_law_script"] _ _ := ⟨F_law, F_law.binds (ps := ["_law_script"]) fun _ _ _ _ _ _ us hl => match us, hl with | [_], _ => rfl, PySem.W.mg_of X G a_law⟩
  have T : Txt K mg := ⟨PySem.W.mg_none_of X G z_len, PySem.W.mg_none_of X G z_list, PySem.W.mg_none_of X G z_isinstance, PySem.W.mg_none_of X G z_int, PySem.W.mg_none_of X G z_bool, PySem.W.mg_none_of X G z_tuple, PySem.W.mg_none_of X G z_range, ⟨_, PySem.W.mg_of X G y_VERSIONS⟩, ⟨_, PySem.W.mg_of X G y_LINKS⟩⟩
  exact ⟨PySem.W.fnOf "law" "law" (defArgs s_law) (defBody s_law) (defScope s_law) .none kV_law dc_law pm_law an_law cd_law ct_law, fun s v => .of_eq rfl, fun base _ _ => ok_law T D_is_whole D_is_rising D_are_links D_check D_law_deck D_law_mixed D_law_draw D_law_shape D_law_long_shape D_law⟩
end FW
open PySem PySem.W PyProof.Rows
set_option maxRecDepth 100000 in
set_option maxHeartbeats 0 in
theorem PySem.Challenge.cw_fewasks_k11_good_shapes_holds : PySem.Challenge.rw_fewasks_k11_good_shapes.Holds := by
  w_on; o_law; k_head; (case hw => w_witness2)
  k_fill
  refine L2.walk_of (l := PySem.Challenge.rw_fewasks_k11_good_shapes) (n := 63) (k := 4) (x := "_law_script") (CX := fun _ => L2.CX0) (sp := fun w => FW.spLaw _) rfl (by decide) rfl ⟨rfl, by decide, by decide⟩ (fun w h Y => PySem.W.kIn_of Y) ?F (fun _ _ a ns hl _ hS => ⟨a, ns, rfl, hS, hl, fun _ => rfl⟩) (fun _ _ _ _ _ h => h)
  case F =>
    intro w mg fa h KX G hmg
    refine' FW.all_mk KX G hmg ?a_is_whole ?l_is_whole ?c_is_whole ?k_is_whole ?a_is_rising ?l_is_rising ?c_is_rising ?k_is_rising ?a_are_links ?l_are_links ?c_are_links ?k_are_links ?a_check ?l_check ?c_check ?k_check ?a_law_deck ?l_law_deck ?c_law_deck ?k_law_deck ?a_law_mixed ?l_law_mixed ?c_law_mixed ?k_law_mixed ?a_law_draw ?l_law_draw ?c_law_draw ?k_law_draw ?a_law_shape ?l_law_shape ?c_law_shape ?k_law_shape ?a_law_long_shape ?l_law_long_shape ?c_law_long_shape ?k_law_long_shape ?a_law ?l_law ?c_law ?k_law ?z_len ?z_list ?z_isinstance ?z_int ?z_bool ?z_tuple ?z_range ?y_VERSIONS ?y_LINKS
    (case a_is_whole => k_is); (case l_is_whole => k_is); (case c_is_whole => k_is); (case k_is_whole => k_is); (case a_is_rising => k_is); (case l_is_rising => k_is); (case c_is_rising => k_is); (case k_is_rising => k_is); (case a_are_links => k_is); (case l_are_links => k_is); (case c_are_links => k_is); (case k_are_links => k_is); (case a_check => k_is); (case l_check => k_is); (case c_check => k_is); (case k_check => k_is); (case a_law_deck => k_is); (case l_law_deck => k_is); (case c_law_deck => k_is); (case k_law_deck => k_is); (case a_law_mixed => k_is); (case l_law_mixed => k_is); (case c_law_mixed => k_is); (case k_law_mixed => k_is); (case a_law_draw => k_is); (case l_law_draw => k_is); (case c_law_draw => k_is); (case k_law_draw => k_is); (case a_law_shape => k_is); (case l_law_shape => k_is); (case c_law_shape => k_is); (case k_law_shape => k_is); (case a_law_long_shape => k_is); (case l_law_long_shape => k_is); (case c_law_long_shape => k_is); (case k_law_long_shape => k_is); (case a_law => k_is); (case l_law => k_is); (case c_law => k_is); (case k_law => k_is); (case z_len => k_is); (case z_list => k_is); (case z_isinstance => k_is); (case z_int => k_is); (case z_bool => k_is); (case z_tuple => k_is); (case z_range => k_is); (case y_VERSIONS => k_is); (case y_LINKS => k_is)

