import PyProof.Rows.All
import Wide.All
import OpenK.AllK
import Wide.FinOn
import HandS.ForMost
import HandS.Wide
import HandS.WideBits
import HandS.Conv
import HandS.IsInst
import HandS.Walk
import HandS.TupLe
import HandS.TupAny
import HandS.DictComp
import HandS.SetKeys
import HandS.ForExc
import HandS.ExcIs
import HandS.ExcInit
import HandS.ExcField
import HandS.Defaults
import HandS.CallSlots
import HandS.MakeKwOnly
import KE.DatumOrd
import PyProof.Claim2Refuses
import KE.GoesEnum
import HandS.WordsDict
import HandS.SortInts
import HandS.Zip
import PyProof.CollectIter
import PyProof.WalksMore
import HandS.TryMany
import KE.KTryMore
import HandS.TryOnly
import HandS.TupMul
import KE.KxIndex
import PySem.Challenge.RW_fewasks_k39_papers_looked_at
set_option Elab.async false
set_option linter.all false
set_option maxRecDepth 100000
/-! My own small words over the layer: steps of readings as lemmas, heaps that keep. -/
namespace FW
open PySem L2
/-! ### heaps -/
/-- all that stood stands, but at the addresses M -/
def Kp (M : List Addr) (H H' : Hp) : Prop := ∀ b o, b ∉ M → H b = some o → H' b = some o
theorem Kp.refl {M : List Addr} {H : Hp} : Kp M H H := fun _ _ _ h => h
theorem Kp.trans {M : List Addr} {H H1 H2 : Hp} (a : Kp M H H1) (b : Kp M H1 H2) : Kp M H H2 := fun c o n h => b c o n (a c o n h)
theorem Kp.mono {M N : List Addr} {H H1 : Hp} (a : Kp M H H1) (s : ∀ x ∈ M, x ∈ N) : Kp N H H1 := fun c o n h => a c o (fun z => n (s c z)) h
theorem Kp.same {H H1 : Hp} (a : Kp [] H H1) : Same H H1 := fun c o h => a c o (by simp) h
theorem Kp.of {M : List Addr} {H H1 : Hp} (a : Same H H1) : Kp M H H1 := fun c o _ h => a c o h
theorem Kp.new {M : List Addr} {H : Hp} {p : Addr} {o : HO} (h : H p = none) : Kp M H (upd H p o) := fun b u _ e => by rw [upd_ne (ne_of_none e h)]; exact e
theorem Kp.mut {M : List Addr} {H : Hp} {p : Addr} {o : HO} (h : p ∈ M) : Kp M H (upd H p o) := fun b u n e => by
  rw [upd_ne (show b ≠ p from fun z => n (by rw [z]; exact h))]; exact e
/-- a new object that was mutated or laid since: it stood not at the start -/
theorem Kp.mutN {M : List Addr} {H H1 : Hp} {p : Addr} {o : HO} (k : Kp M H H1) (h : H p = none) : Kp M H (upd H1 p o) := fun b u n e => by
  rw [upd_ne (ne_of_none e h)]; exact k b u n e
theorem Same.new {H : Hp} {p : Addr} {o : HO} (h : H p = none) : Same H (upd H p o) := fun b u e => by rw [upd_ne (ne_of_none e h)]; exact e
theorem nofree {M : List Addr} {H H1 : Hp} {p : Addr} (k : Kp M H H1) (hM : p ∉ M) (h : H1 p = none) : H p = none := by
  cases e : H p with
  | none => rfl
  | some o => rw [k p o hM e] at h; cases h
theorem Kp.seqL {M : List Addr} {K : PySem.W.Frag} {H H' : Hp} {a : Addr} {xs : List V} (k : Kp M H H') (hM : a ∉ M) (h : SqL K H a xs) : SqL K H' a xs := by
  rcases h with (h | ⟨o, h⟩) | h
  · exact .inl (.inl (k _ _ hM h))
  · exact .inl (.inr ⟨o, k _ _ hM h⟩)
  · exact .inr h
theorem Kp.seqT {M : List Addr} {K : PySem.W.Frag} {H H' : Hp} {a : Addr} {xs : List V} (k : Kp M H H') (hM : a ∉ M) (h : SqT K H a xs) : SqT K H' a xs := by
  rcases h with (h | ⟨o, h⟩) | h
  · exact .inl (.inl (k _ _ hM h))
  · exact .inl (.inr ⟨o, k _ _ hM h⟩)
  · exact .inr h
theorem upd_get {H : Hp} {a b : Addr} {o u : HO} (h : b ≠ a) (e : H b = some u) : upd H a o b = some u := by rw [upd_ne h]; exact e
theorem upd_new {H : Hp} {a b : Addr} {o u : HO} (h : H a = none) (e : H b = some u) : upd H a o b = some u := upd_get (ne_of_none e h) e
theorem upd_none {H : Hp} {a b : Addr} {o : HO} (e : upd H a o b = none) : H b = none ∧ b ≠ a := by
  by_cases h : b = a
  · subst h; rw [upd_same] at e; cases e
  · rw [upd_ne h] at e; exact ⟨e, h⟩
/-- all but p is as it was -/
def Off (p : Addr) (H H' : Hp) : Prop := ∀ b, b ≠ p → H' b = H b
theorem Off.get {p b : Addr} {H H' : Hp} {o : HO} (k : Off p H H') (n : b ≠ p) (e : H b = some o) : H' b = some o := (k b n).trans e
theorem Off.kp {p : Addr} {M : List Addr} {H H' : Hp} (k : Off p H H') (m : p ∈ M) : Kp M H H' := fun b o n e => (k b (fun z => n (by rw [z]; exact m))).trans e
theorem Off.trans {p : Addr} {H H1 H2 : Hp} (a : Off p H H1) (b : Off p H1 H2) : Off p H H2 := fun x n => (b x n).trans (a x n)
theorem Off.keep {p : Addr} {M : List Addr} {H H1 H2 : Hp} (a : Kp M H H1) (b : Off p H1 H2) (n : H p = none) : Kp M H H2 := fun x o m e => (b x (ne_of_none e n)).trans (a x o m e)
/-- a list's change keeps the tuples -/
theorem Off.tup {p b : Addr} {H H' : Hp} {xs ys : List V} (k : Off p H H') (hp : H p = some (.lst xs)) (e : H b = some (.tup ys)) : H' b = some (.tup ys) := k.get (ne_of e hp (fun z => nomatch z)) e
/-- what keeps the tuples -/
def KT (H H' : Hp) : Prop := ∀ b xs, H b = some (.tup xs) → H' b = some (.tup xs)
theorem KT.refl {H : Hp} : KT H H := fun _ _ e => e
theorem KT.of {H H' : Hp} (k : Same H H') : KT H H' := fun b xs e => k _ _ e
theorem KT.off {p : Addr} {H H' : Hp} {xs : List V} (k : Off p H H') (e : H p = some (.lst xs)) : KT H H' := fun b ys e2 => k.tup e e2
theorem KT.trans {H H1 H2 : Hp} (a : KT H H1) (b : KT H1 H2) : KT H H2 := fun c xs e => b c xs (a c xs e)
theorem KT.kp {M : List Addr} {H H' : Hp} (k : Kp M H H') (h : ∀ b ∈ M, ∃ xs, H b = some (.lst xs)) : KT H H' := fun b ys e => k b _ (fun z => by
  obtain ⟨xs, e2⟩ := h b z
  rw [e] at e2; cases e2) e
theorem KT.upd {H H1 : Hp} {D : Addr} {o : HO} (k : KT H H1) (h : H D = none) : KT H (upd H1 D o) := fun b xs e => by rw [upd_ne (ne_of_none e h)]; exact k b xs e
theorem KT.updL {H : Hp} {D : Addr} {o : HO} {ys : List V} (h : H D = some (.lst ys)) : KT H (L2.upd H D o) := fun b xs e => upd_get (ne_of e h (fun z => nomatch z)) e
/-! ### rules by names -/
/-- a new object o -/
def Nw (o : HO) (H : Hp) (Q : VK) : Prop := ∀ p, H p = none → Q (.ref p) (upd H p o)
def rLen (K : PySem.W.Frag) : List V → Hp → VK → Prop := fun xs H Q => ∃ p ys, xs = [.ref p] ∧ (SqL K H p ys ∨ SqT K H p ys) ∧ Q (.int ys.length) H
def rMin2 : List V → Hp → VK → Prop := fun xs H Q => ∃ i j, xs = [.int i, .int j] ∧ Q (.int (if j < i then j else i)) H
def rMax2 : List V → Hp → VK → Prop := fun xs H Q => ∃ i j, xs = [.int i, .int j] ∧ Q (.int (if j > i then j else i)) H
def rListOf (K : PySem.W.Frag) : List V → Hp → VK → Prop := fun xs H Q => ∃ p ys, xs = [.ref p] ∧ (SqL K H p ys ∨ SqT K H p ys) ∧ ∀ l, H l = none → Q (.ref l) (upd H l (.lst ys))
def rTupOf (K : PySem.W.Frag) : List V → Hp → VK → Prop := fun xs H Q => ∃ p ys, xs = [.ref p] ∧ ((SqL K H p ys ∧ ∀ l, H l = none → Q (.ref l) (upd H l (.tup ys))) ∨ (SqT K H p ys ∧ Q (.ref p) H))
def rRg2 (x y : V) (H : Hp) (R : Int → Int → Hp → Prop) : Prop := ∃ i j, x = .int i ∧ y = .int j ∧ R i j H
def rBits (x : V) (H : Hp) (Q : VK) : Prop := ∃ i, x = .int i ∧ Q (.int (Builtin.Int.intBits i : Nat)) H
def rRng1 (vs : List V) (H : Hp) (R : It → Hp → Prop) : Prop := ∃ j : Int, vs = [.int j] ∧ -(2 ^ 62) ≤ j ∧ j < 2 ^ 62 ∧ R (Itr 0 j.toNat) H
def rRng2 (vs : List V) (H : Hp) (R : It → Hp → Prop) : Prop := ∃ i j : Int, vs = [.int i, .int j] ∧ (-(2 ^ 62) ≤ i ∧ i < 2 ^ 62 ∧ -(2 ^ 62) ≤ j ∧ j < 2 ^ 62) ∧ R (Itr i (j - i).toNat) H
def rItL (K : PySem.W.Frag) (x : V) (H : Hp) (R : It → Hp → Prop) : Prop := ∃ a, x = .ref a ∧ (∃ xs, SqL K H a xs) ∧ R (Itl K a) H
def rItT (K : PySem.W.Frag) (x : V) (H : Hp) (R : It → Hp → Prop) : Prop := ∃ a, x = .ref a ∧ (∃ xs, SqT K H a xs) ∧ R (Itt K a) H
def rDIn (x y : V) (H : Hp) (Q : VK) : Prop := ∃ a o, x = .ref a ∧ DGet H a y o ∧ Q (.bl o.isSome) H
def rDNotIn (x y : V) (H : Hp) (Q : VK) : Prop := ∃ a o, x = .ref a ∧ DGet H a y o ∧ Q (.bl (!o.isSome)) H
def rDGet (x y : V) (H : Hp) (Q : VK) : Prop := ∃ a v, x = .ref a ∧ DGet H a y (some v) ∧ Q v H
def rDGet2 (a : Addr) (y z : V) (H : Hp) (Q : VK) : Prop := ∃ o, DGet H a y o ∧ Q (o.getD z) H
def rDPut (x y v : V) (H : Hp) (R : Hp → Prop) : Prop := ∃ a H4, x = .ref a ∧ DPut H a y v H4 ∧ R H4
def rDSetd (a : Addr) (y z : V) (H : Hp) (Q : VK) : Prop := ∃ (kvs : List (Key × V)) (k : Key), H a = some (.dK kvs) ∧ y = kV k ∧ kvs.length < sizeLine ∧ (∀ v, valV kvs k = some v → Q v H) ∧ (valV kvs k = none → Q z (upd H a (.dK (putK kvs k z))))
def rIsD (x : V) (H : Hp) (R : Addr → Hp → Prop) : Prop := ∃ a, x = .ref a ∧ IsD H a ∧ R a H
def rIsBl : R2 := fun x y H Q => ∃ a b, x = .bl a ∧ y = .bl b ∧ Q (.bl (decide (a = b))) H
def rIsNon : R2 := fun x y H Q => y = .non ∧ Q (.bl (decide (x = .non))) H
def rNotNon : R2 := fun x y H Q => y = .non ∧ Q (.bl (!decide (x = .non))) H
def rTru (K : PySem.W.Frag) (x : V) (H : Hp) (R : Bool → Hp → Prop) : Prop := ∃ k, TruV K x H k ∧ R k H
def tTru (K : PySem.W.Frag) (ta : TE) : TT := fun σ H R => ta σ H fun x H' => ∃ k, TruV K x H' k ∧ R k H'
def rSortD (xs : List V) (H : Hp) (Q : VK) : Prop := ∃ (a : Addr) (kvs : List (Key × V)) (ks : List Int), xs = [.ref a] ∧ Rd H a (.dK kvs) ∧ kvs.map (·.1) = ks.map Sum.inl ∧ ks.length < 64 ∧
    ∀ (ys : List Int) (p : Addr), ys.Perm ks → ys.Pairwise (· ≤ ·) → H p = none → Q (.ref p) (upd H p (.lst (ys.map V.int)))
section
variable {X : Cx}
theorem o_isB : OpR X (compareOp .Is) rIsBl := op_is_bl
theorem o_isN : OpR X (compareOp .Is) rIsNon := op_isN
theorem o_notN : OpR X (compareOp .IsNot) rNotNon := op_notN
theorem p_truth {a : Expr} {ta : TE} (ha : PE X a ta) (he : ∀ whole, isTrue a X.env whole = (do let v ← whole; standAt a.pos; holding [v] (truthy v))) : PT X a (tTru X.K ta) := pt_truth ha he
theorem c_sortD (hc : X.calm = true) : CallR X (.builtin "sorted") rSortD := call_sortedDI hc
theorem c_len : CallR X (.builtin "len") (rLen X.K) := call_len_seq
theorem c_min2 (hc : X.calm = true) : CallR X (.builtin "min") rMin2 := call_min2 hc
theorem c_max2 (hc : X.calm = true) : CallR X (.builtin "max") rMax2 := call_max2 hc
theorem c_listOf : CallR X (.type "list") (rListOf X.K) := call_list_of
theorem c_tupOf : CallR X (.type "tuple") (rTupOf X.K) := call_tuple_of
end
theorem kb_int_int : kitB "int" "int" = some true := by decide +kernel
theorem kb_int_bool : kitB "int" "bool" = some false := by decide +kernel
theorem kb_int_str : kitB "int" "str" = some false := by decide +kernel
theorem kb_int_tuple : kitB "int" "tuple" = some false := by decide +kernel
theorem kb_int_list : kitB "int" "list" = some false := by decide +kernel
theorem kb_int_dict : kitB "int" "dict" = some false := by decide +kernel
theorem kb_bool_int : kitB "bool" "int" = some true := by decide +kernel
theorem kb_bool_bool : kitB "bool" "bool" = some true := by decide +kernel
theorem kb_bool_str : kitB "bool" "str" = some false := by decide +kernel
theorem kb_bool_tuple : kitB "bool" "tuple" = some false := by decide +kernel
theorem kb_bool_list : kitB "bool" "list" = some false := by decide +kernel
theorem kb_bool_dict : kitB "bool" "dict" = some false := by decide +kernel
theorem kb_str_int : kitB "str" "int" = some false := by decide +kernel
theorem kb_str_bool : kitB "str" "bool" = some false := by decide +kernel
theorem kb_str_str : kitB "str" "str" = some true := by decide +kernel
theorem kb_str_tuple : kitB "str" "tuple" = some false := by decide +kernel
theorem kb_str_list : kitB "str" "list" = some false := by decide +kernel
theorem kb_str_dict : kitB "str" "dict" = some false := by decide +kernel
theorem kb_tuple_int : kitB "tuple" "int" = some false := by decide +kernel
theorem kb_tuple_bool : kitB "tuple" "bool" = some false := by decide +kernel
theorem kb_tuple_str : kitB "tuple" "str" = some false := by decide +kernel
theorem kb_tuple_tuple : kitB "tuple" "tuple" = some true := by decide +kernel
theorem kb_tuple_list : kitB "tuple" "list" = some false := by decide +kernel
theorem kb_tuple_dict : kitB "tuple" "dict" = some false := by decide +kernel
theorem kb_list_int : kitB "list" "int" = some false := by decide +kernel
theorem kb_list_bool : kitB "list" "bool" = some false := by decide +kernel
theorem kb_list_str : kitB "list" "str" = some false := by decide +kernel
theorem kb_list_tuple : kitB "list" "tuple" = some false := by decide +kernel
theorem kb_list_list : kitB "list" "list" = some true := by decide +kernel
theorem kb_list_dict : kitB "list" "dict" = some false := by decide +kernel
theorem kb_dict_int : kitB "dict" "int" = some false := by decide +kernel
theorem kb_dict_bool : kitB "dict" "bool" = some false := by decide +kernel
theorem kb_dict_str : kitB "dict" "str" = some false := by decide +kernel
theorem kb_dict_tuple : kitB "dict" "tuple" = some false := by decide +kernel
theorem kb_dict_list : kitB "dict" "list" = some false := by decide +kernel
theorem kb_dict_dict : kitB "dict" "dict" = some true := by decide +kernel
theorem kb_NoneType_int : kitB "NoneType" "int" = some false := by decide +kernel
theorem kb_NoneType_bool : kitB "NoneType" "bool" = some false := by decide +kernel
theorem kb_NoneType_str : kitB "NoneType" "str" = some false := by decide +kernel
theorem kb_NoneType_tuple : kitB "NoneType" "tuple" = some false := by decide +kernel
theorem kb_NoneType_list : kitB "NoneType" "list" = some false := by decide +kernel
theorem kb_NoneType_dict : kitB "NoneType" "dict" = some false := by decide +kernel
/-! ### steps -/
section
variable {K : PySem.W.Frag} {σ : St} {H : Hp} {Q : VK} {nx bk ct : St → Hp → Prop} {rt : VK} {v : V}
theorem w_seq {t u : TS} (h : t ⟨u ⟨nx, rt, bk, ct⟩, rt, bk, ct⟩ σ H) : tSeq t u ⟨nx, rt, bk, ct⟩ σ H := h
theorem w_seqA {te : TE} {g : TG} {u : TS} (h : te σ H fun x H1 => g x σ H1 (u ⟨nx, rt, bk, ct⟩)) : tSeq (tAsg te g) u ⟨nx, rt, bk, ct⟩ σ H := h
theorem w_seqD {te : TE} {u : TS} (h : te σ H fun _ H1 => u ⟨nx, rt, bk, ct⟩ σ H1) : tSeq (tDrop te) u ⟨nx, rt, bk, ct⟩ σ H := h
theorem w_seqF {wi : TI} {g : TG} {tb u : TS} (h : tFor wi g tb ⟨u ⟨nx, rt, bk, ct⟩, rt, bk, ct⟩ σ H) : tSeq (tFor wi g tb) u ⟨nx, rt, bk, ct⟩ σ H := h
theorem w_seqW {c : TT} {tb u : TS} (h : tWhile c tb ⟨u ⟨nx, rt, bk, ct⟩, rt, bk, ct⟩ σ H) : tSeq (tWhile c tb) u ⟨nx, rt, bk, ct⟩ σ H := h
theorem w_seqG {i : Nat} {te : TE} {ti : TIp} {u : TS} (h : tAug i te ti ⟨u ⟨nx, rt, bk, ct⟩, rt, bk, ct⟩ σ H) : tSeq (tAug i te ti) u ⟨nx, rt, bk, ct⟩ σ H := h
/-- a statement whose ways meet: what follows is taken as U, of which R is enough -/
theorem w_seqJ {t u : TS} (R : St → Hp → Prop) (h2 : ∀ σ' H', R σ' H' → u ⟨nx, rt, bk, ct⟩ σ' H') (h1 : ∀ U : St → Hp → Prop, (∀ σ' H', R σ' H' → U σ' H') → t ⟨U, rt, bk, ct⟩ σ H) : tSeq t u ⟨nx, rt, bk, ct⟩ σ H := h1 _ h2
theorem w_var {i : Nat} (e : σ[i]? = some (some v)) (h : Q v H) : tVar i σ H Q := ⟨v, e, h⟩
theorem w_c (h : Q v H) : tC v σ H Q := h
theorem w_asg {te : TE} {g : TG} (h : te σ H fun x H1 => g x σ H1 nx) : tAsg te g ⟨nx, rt, bk, ct⟩ σ H := h
theorem w_name {i : Nat} {R : St → Hp → Prop} (h : R (σ.set i (some v)) H) : gName i v σ H R := h
theorem w_op {r : R2} {ta tb : TE} (h : ta σ H fun x H1 => tb σ H1 fun y H2 => r x y H2 Q) : tOp r ta tb σ H Q := h
theorem w_un {r : V → Hp → VK → Prop} {ta : TE} (h : ta σ H fun x H1 => r x H1 Q) : tUn r ta σ H Q := h
theorem w_neg {i : Int} (h : Q (.int (-i)) H) : rU (fun i => .int (-i)) (.int i) H Q := ⟨i, rfl, h⟩
theorem w_i {C : Int → Int → Prop} {g : Int → Int → V} {i j : Int} (c : C i j) (h : Q (g i j) H) : rI C g (.int i) (.int j) H Q := ⟨i, j, rfl, rfl, c, h⟩
theorem w_i0 {g : Int → Int → V} {i j : Int} (h : Q (g i j) H) : rI0 g (.int i) (.int j) H Q := ⟨i, j, rfl, rfl, h⟩
theorem w_eqI {i j : Int} (h : Q (.bl (decide (i = j))) H) : rEq (.int i) (.int j) H Q := ⟨rfl, by
  have e : decide (V.int i = V.int j) = decide (i = j) := by
    by_cases q : i = j
    · subst q; rw [decide_eq_true rfl, decide_eq_true rfl]
    · rw [decide_eq_false q, decide_eq_false (fun z => q (V.int.inj z))]
  rw [e]; exact h⟩
theorem w_neI {i j : Int} (h : Q (.bl (!decide (i = j))) H) : rNe (.int i) (.int j) H Q := ⟨rfl, by
  have e : decide (V.int i = V.int j) = decide (i = j) := by
    by_cases q : i = j
    · subst q; rw [decide_eq_true rfl, decide_eq_true rfl]
    · rw [decide_eq_false q, decide_eq_false (fun z => q (V.int.inj z))]
  rw [e]; exact h⟩
theorem w_ixL {p : Addr} {xs : List V} {i : Int} (h1 : SqL K H p xs) (h2 : atI xs i = some v) (h : Q v H) : rIxL K (.ref p) (.int i) H Q := ⟨p, xs, i, v, rfl, rfl, h1, h2, h⟩
theorem w_ixT {p : Addr} {xs : List V} {i : Int} (h1 : SqT K H p xs) (h2 : atI xs i = some v) (h : Q v H) : rIxT K (.ref p) (.int i) H Q := ⟨p, xs, i, v, rfl, rfl, h1, h2, h⟩
theorem w_ixSL {p : Addr} {xs : List V} {i : Int} (h1 : SqL K H p xs) (h2 : atI xs i = some v) (h : Q v H) : rIx K (.ref p) (.int i) H Q := .inl ⟨p, xs, i, v, rfl, rfl, h1, h2, h⟩
theorem w_ixST {p : Addr} {xs : List V} {i : Int} (h1 : SqT K H p xs) (h2 : atI xs i = some v) (h : Q v H) : rIx K (.ref p) (.int i) H Q := .inr (.inl ⟨p, xs, i, v, rfl, rfl, h1, h2, h⟩)
theorem w_neB {x y : Bool} (h : Q (.bl (!decide (x = y))) H) : rNe (.bl x) (.bl y) H Q := ⟨rfl, by
  have e : decide (V.bl x = V.bl y) = decide (x = y) := by
    by_cases q : x = y
    · subst q; rw [decide_eq_true rfl, decide_eq_true rfl]
    · rw [decide_eq_false q, decide_eq_false (fun z => q (V.bl.inj z))]
  rw [e]; exact h⟩
theorem w_eqN (h : Q (.bl true) H) : rEq .non .non H Q := ⟨rfl, h⟩
theorem w_popAt {l : Addr} {xs : List V} {i : Int} {k : Nat} {y : V} (h1 : H l = some (.lst xs)) (h2 : -(2 ^ 63) ≤ i) (h3 : i < 2 ^ 63) (h4 : seqIndex? i xs.length = some k) (h5 : xs[k]? = some y) (h : ∀ H1, H1 l = some (.lst (xs.eraseIdx k)) → Off l H H1 → Q y H1) : rPopAt (.ref l) [.int i] H Q :=
  ⟨l, xs, i, k, y, rfl, rfl, h1, h2, h3, h4, h5, h _ upd_same fun x hx => upd_ne hx⟩
theorem w_sub {to ti : TE} {t : TSet} {R : St → Hp → Prop} (h : to σ H fun o H1 => ti σ H1 fun i H2 => t o i v H2 fun H3 => R σ H3) : gSub to ti t v σ H R := h
theorem w_setL {p : Addr} {xs ys : List V} {k : Int} {j : Nat} {R : Hp → Prop} (h1 : H p = some (.lst xs)) (h2 : ixN xs.length k = some j) (e : xs.set j v = ys) (h : ∀ H1, H1 p = some (.lst ys) → Off p H H1 → R H1) : rSetL (.ref p) (.int k) v H R :=
  ⟨p, xs, k, j, rfl, rfl, h1, h2, by rw [e]; exact h _ upd_same fun x hx => upd_ne hx⟩
theorem w_if {c : TT} {t u : TS} (h : c σ H fun b H1 => if b = true then t ⟨nx, rt, bk, ct⟩ σ H1 else u ⟨nx, rt, bk, ct⟩ σ H1) : tIfS c t u ⟨nx, rt, bk, ct⟩ σ H := h
theorem w_test {t : TE} {R : Bool → Hp → Prop} (h : t σ H fun x H' => ∃ k, x = .bl k ∧ R k H') : tTest t σ H R := h
theorem w_tb {t : TE} {R : Bool → Hp → Prop} (h : t σ H fun x H' => ∃ k, x = .bl k ∧ R k H') : tB t σ H R := h
theorem w_bl {b : Bool} {R : Bool → Prop} (h : R b) : ∃ k, V.bl b = .bl k ∧ R k := ⟨b, rfl, h⟩
theorem w_and {t u : TT} {R : Bool → Hp → Prop} (h : t σ H fun c H1 => if c = true then u σ H1 R else R false H1) : tAnd t u σ H R := h
theorem w_or {t u : TT} {R : Bool → Hp → Prop} (h : t σ H fun c H1 => if c = true then R true H1 else u σ H1 R) : tOr t u σ H R := h
theorem w_not {t : TT} {R : Bool → Hp → Prop} (h : t σ H fun c H1 => R (!c) H1) : tNot t σ H R := h
theorem w_andV {ta tb : TE} (h : ta σ H fun x H1 => ∃ c, x = .bl c ∧ if c = true then tb σ H1 Q else Q (.bl false) H1) : tAndV ta tb σ H Q := h
theorem w_orV {ta tb : TE} (h : ta σ H fun x H1 => ∃ c, x = .bl c ∧ if c = true then Q (.bl true) H1 else tb σ H1 Q) : tOrV ta tb σ H Q := h
theorem w_notV {ta : TE} (h : ta σ H fun x H1 => ∃ c, x = .bl c ∧ Q (.bl (!c)) H1) : tNotV ta σ H Q := h
theorem w_ite {p : Prop} {inst : Decidable p} {A B : Prop} (h1 : p → A) (h2 : ¬ p → B) : if decide p = true then A else B := by
  by_cases h : p
  · rw [if_pos (decide_eq_true h)]; exact h1 h
  · rw [if_neg (fun z => h (of_decide_eq_true z))]; exact h2 h
theorem w_itN {p : Prop} {inst : Decidable p} {A B : Prop} (h1 : ¬ p → A) (h2 : p → B) : if (!decide p) = true then A else B := by
  by_cases h : p
  · rw [decide_eq_true h]; exact h2 h
  · rw [decide_eq_false h]; exact h1 h
theorem w_yes {p : Prop} {inst : Decidable p} {A B : Prop} (h : p) (a : A) : if decide p = true then A else B := by rw [if_pos (decide_eq_true h)]; exact a
theorem w_no {p : Prop} {inst : Decidable p} {A B : Prop} (h : ¬ p) (b : B) : if decide p = true then A else B := by rw [if_neg (fun z => h (of_decide_eq_true z))]; exact b
theorem w_nyes {p : Prop} {inst : Decidable p} {A B : Prop} (h : p) (b : B) : if (!decide p) = true then A else B := by rw [decide_eq_true h]; exact b
theorem w_nno {p : Prop} {inst : Decidable p} {A B : Prop} (h : ¬ p) (a : A) : if (!decide p) = true then A else B := by rw [decide_eq_false h]; exact a
theorem w_itB {b : Bool} {A B : Prop} (h1 : b = true → A) (h2 : b = false → B) : if b = true then A else B := by
  cases b with
  | true => exact h1 rfl
  | false => exact h2 rfl
theorem w_itNB {b : Bool} {A B : Prop} (h1 : b = false → A) (h2 : b = true → B) : if (!b) = true then A else B := by
  cases b with
  | true => exact h2 rfl
  | false => exact h1 rfl
theorem w_nT {A B : Prop} (h : B) : if (!true) = true then A else B := h
theorem w_nF {A B : Prop} (h : A) : if (!false) = true then A else B := h
theorem w_nnT {A B : Prop} (h : A) : if (!(!true)) = true then A else B := h
theorem w_ret {te : TE} (h : te σ H rt) : tRet te ⟨nx, rt, bk, ct⟩ σ H := h
theorem w_drop {te : TE} (h : te σ H fun _ H1 => nx σ H1) : tDrop te ⟨nx, rt, bk, ct⟩ σ H := h
theorem w_next (h : nx σ H) : tNext ⟨nx, rt, bk, ct⟩ σ H := h
theorem w_cb {r : List V → Hp → VK → Prop} {t : TA} (h : t σ H fun vs H1 => r vs H1 Q) : tCB r t σ H Q := h
theorem w_nil {R : List V → Hp → Prop} (h : R [] H) : tNil σ H R := h
theorem w_cons {ta : TE} {tr : TA} {R : List V → Hp → Prop} (h : ta σ H fun x H1 => tr σ H1 fun xs H2 => R (x :: xs) H2) : tCons ta tr σ H R := h
theorem w_call {sp : Sp} {E : XK} {t : TA} (h : t σ H fun vs H1 => sp (vs ++ []) H1 Q E) : tCall sp [] E t σ H Q := h
theorem w_lst {t : TA} (h : t σ H fun xs H1 => xs.length ≤ sizeLine ∧ Nw (.lst xs) H1 Q) : tLst t σ H Q := h
theorem w_tup {t : TA} (h : t σ H fun xs H1 => xs.length ≤ sizeLine ∧ Nw (.tup xs) H1 Q) : tTup t σ H Q := h
theorem w_new {o : HO} (h : ∀ p H2, H p = none → H2 p = some o → Same H H2 → Q (.ref p) H2) : Nw o H Q := fun p hp => h p _ hp upd_same (Same.new hp)
theorem w_sz {n : Nat} {o : HO} (h1 : n ≤ sizeLine) (h : Nw o H Q) : n ≤ sizeLine ∧ Nw o H Q := ⟨h1, h⟩
theorem w_app {p : Addr} {xs : List V} (h1 : H p = some (.lst xs)) (h2 : xs.length < sizeLine) (h : ∀ H1, H1 p = some (.lst (xs ++ [v])) → Off p H H1 → Q .non H1) : rAppend (.ref p) [v] H Q :=
  ⟨p, xs, v, rfl, rfl, h1, h2, h _ upd_same fun x hx => upd_ne hx⟩
theorem w_bm {r : V → List V → Hp → VK → Prop} {to : TE} {t : TA} (h : to σ H fun x H1 => tyV K "list" x H1 ∧ t σ H1 fun xs H2 => r x xs H2 Q) : tBM K "list" r to t σ H Q := h
theorem w_tyL {p : Addr} {xs : List V} {A : Prop} (h1 : H p = some (.lst xs)) (h : A) : tyV K "list" (.ref p) H ∧ A := ⟨.inl ⟨rfl, _, .inl (.inl h1)⟩, h⟩
theorem w_lenL {p : Addr} {ys : List V} (h1 : SqL K H p ys) (h : Q (.int ys.length) H) : rLen K [V.ref p] H Q := ⟨p, ys, rfl, .inl h1, h⟩
theorem w_lenT {p : Addr} {ys : List V} (h1 : SqT K H p ys) (h : Q (.int ys.length) H) : rLen K [V.ref p] H Q := ⟨p, ys, rfl, .inr h1, h⟩
theorem w_min2 {i j : Int} (h : Q (.int (if j < i then j else i)) H) : rMin2 [V.int i, V.int j] H Q := ⟨i, j, rfl, h⟩
theorem w_max2 {i j : Int} (h : Q (.int (if j > i then j else i)) H) : rMax2 [V.int i, V.int j] H Q := ⟨i, j, rfl, h⟩
theorem w_listL {p : Addr} {ys : List V} (h1 : SqL K H p ys) (h : ∀ l H2, H l = none → H2 l = some (.lst ys) → Same H H2 → Q (.ref l) H2) : rListOf K [V.ref p] H Q := ⟨p, ys, rfl, .inl h1, w_new h⟩
theorem w_listT {p : Addr} {ys : List V} (h1 : SqT K H p ys) (h : ∀ l H2, H l = none → H2 l = some (.lst ys) → Same H H2 → Q (.ref l) H2) : rListOf K [V.ref p] H Q := ⟨p, ys, rfl, .inr h1, w_new h⟩
theorem w_tupL {p : Addr} {ys : List V} (h1 : SqL K H p ys) (h : ∀ l H2, H l = none → H2 l = some (.tup ys) → Same H H2 → Q (.ref l) H2) : rTupOf K [V.ref p] H Q := ⟨p, ys, rfl, .inl ⟨h1, w_new h⟩⟩
theorem w_sum {p : Addr} {ns : List Int} (h1 : SqL K H p (ns.map V.int)) (h : Q (.int ns.sum) H) : rSum K [V.ref p] H Q := ⟨p, ns, rfl, h1, h⟩
theorem w_tupRg {te : St → Hp → (Int → Int → Hp → Prop) → Prop} (h : te σ H fun a b H1 => RgOk a b ∧ Nw (.tup (rgV a b)) H1 Q) : tTupRg te σ H Q := h
theorem w_rg2 {ta tb : TE} {R : Int → Int → Hp → Prop} (h : ta σ H fun x H1 => tb σ H1 fun y H2 => rRg2 x y H2 R) : tRg2 ta tb σ H R := h
theorem w_rg2' {i j : Int} {R : Int → Int → Hp → Prop} (h : R i j H) : rRg2 (.int i) (.int j) H R := ⟨i, j, rfl, rfl, h⟩
theorem w_bits {to : TE} (h : to σ H fun x H1 => rBits x H1 Q) : tBits to σ H Q := h
theorem w_bits' {i : Int} (h : Q (.int (Builtin.Int.intBits i : Nat)) H) : rBits (.int i) H Q := ⟨i, rfl, h⟩
theorem w_isi {x : V} {a n : String} {b : Bool} (ty : TyX K H x (.type a)) (hk : kitB a n = some b) (h : Q (.bl b) H) : rIsi K [x, .ty n] H Q := ⟨x, .ty n, _, _, b, rfl, .ty n, ty, kit_ty hk, h⟩
theorem w_eqS {x y : Str} (h : Q (.bl (decide (x = y))) H) : rEq (.str x) (.str y) H Q := ⟨rfl, by
  have e : decide (V.str x = V.str y) = decide (x = y) := by
    by_cases q : x = y
    · subst q; rw [decide_eq_true rfl, decide_eq_true rfl]
    · rw [decide_eq_false q, decide_eq_false (fun z => q (V.str.inj z))]
  rw [e]; exact h⟩
theorem w_eqB {x y : Bool} (h : Q (.bl (decide (x = y))) H) : rEq (.bl x) (.bl y) H Q := ⟨rfl, by
  have e : decide (V.bl x = V.bl y) = decide (x = y) := by
    by_cases q : x = y
    · subst q; rw [decide_eq_true rfl, decide_eq_true rfl]
    · rw [decide_eq_false q, decide_eq_false (fun z => q (V.bl.inj z))]
  rw [e]; exact h⟩
theorem w_tupT {p : Addr} {ys : List V} (h1 : SqT K H p ys) (h : Q (.ref p) H) : rTupOf K [V.ref p] H Q := ⟨p, ys, rfl, .inr ⟨h1, h⟩⟩
/-! targets, dicts -/
theorem w_gtup {a : Addr} {xs : List V} {n : Nat} {t : TGs} {R : St → Hp → Prop} (h1 : SqT K H a xs) (h2 : xs.length = n) (h : t xs σ H R) : gTup K n t (.ref a) σ H R := ⟨a, xs, rfl, h1, h2, h⟩
theorem w_gcons {t : TG} {u : TGs} {r : List V} {R : St → Hp → Prop} (h : t v σ H fun σ' H' => u r σ' H' R) : gCons t u (v :: r) σ H R := ⟨v, r, rfl, h⟩
theorem w_gnil {R : St → Hp → Prop} (h : R σ H) : gNil [] σ H R := ⟨rfl, h⟩
theorem w_din {ty td : TE} (h : ty σ H fun y H1 => td σ H1 fun x H2 => rDIn x y H2 Q) : tDIn ty td σ H Q := h
theorem w_dnotin {ty td : TE} (h : ty σ H fun y H1 => td σ H1 fun x H2 => rDNotIn x y H2 Q) : tDNotIn ty td σ H Q := h
theorem w_dget {ty td : TE} (h : td σ H fun x H1 => ty σ H1 fun y H2 => rDGet x y H2 Q) : tDGet td ty σ H Q := h
theorem w_dinI {a : Addr} {kvs : List (Key × V)} {n : Int} (e : H a = some (.dK kvs)) (h : Q (.bl (valV kvs (Sum.inl n)).isSome) H) : rDIn (.ref a) (.int n) H Q := ⟨a, _, rfl, DGet.k (k := Sum.inl n) e, h⟩
theorem w_dnotinI {a : Addr} {kvs : List (Key × V)} {n : Int} (e : H a = some (.dK kvs)) (h : Q (.bl (!(valV kvs (Sum.inl n)).isSome)) H) : rDNotIn (.ref a) (.int n) H Q := ⟨a, _, rfl, DGet.k (k := Sum.inl n) e, h⟩
theorem w_dgetI {a : Addr} {kvs : List (Key × V)} {n : Int} (e : H a = some (.dK kvs)) (e2 : valV kvs (Sum.inl n) = some v) (h : Q v H) : rDGet (.ref a) (.int n) H Q := ⟨a, v, rfl, e2 ▸ DGet.k (k := Sum.inl n) e, h⟩
theorem w_dnewK (h : Nw (.dK []) H Q) : tDNewK σ H Q := h
theorem w_dput {td ty tv : TE} (h : tv σ H fun v H1 => td σ H1 fun x H2 => ty σ H2 fun y H3 => rDPut x y v H3 fun H4 => nx σ H4) : sDPut td ty tv ⟨nx, rt, bk, ct⟩ σ H := h
theorem w_seqP {td ty tv : TE} {u : TS} (h : tv σ H fun v H1 => td σ H1 fun x H2 => ty σ H2 fun y H3 => rDPut x y v H3 fun H4 => u ⟨nx, rt, bk, ct⟩ σ H4) : tSeq (sDPut td ty tv) u ⟨nx, rt, bk, ct⟩ σ H := h
theorem w_dputI {a : Addr} {kvs : List (Key × V)} {n : Int} {R : Hp → Prop} (e : H a = some (.dK kvs)) (hl : kvs.length < sizeLine) (h : ∀ H1, H1 a = some (.dK (putK kvs (Sum.inl n) v)) → Off a H H1 → R H1) : rDPut (.ref a) (.int n) v H R :=
  ⟨a, _, rfl, DPut.k (k := Sum.inl n) e hl, h _ upd_same fun x hx => upd_ne hx⟩
theorem w_dget2 {td ty tx : TE} (h : td σ H fun x H1 => rIsD x H1 fun a H1 => ty σ H1 fun y H2 => tx σ H2 fun z H3 => rDGet2 a y z H3 Q) : tDGet2 td ty tx σ H Q := h
theorem w_isD {a : Addr} {kvs : List (Key × V)} {R : Addr → Hp → Prop} (e : H a = some (.dK kvs)) (h : R a H) : rIsD (.ref a) H R := ⟨a, rfl, .inl ⟨kvs, .inl e⟩, h⟩
theorem w_dget2I {a : Addr} {kvs : List (Key × V)} {n : Int} {z : V} (e : H a = some (.dK kvs)) (h : Q ((valV kvs (Sum.inl n)).getD z) H) : rDGet2 a (.int n) z H Q := ⟨_, DGet.k (k := Sum.inl n) e, h⟩
theorem w_dsetd {td ty tx : TE} (h : td σ H fun x H1 => rIsD x H1 fun a H1 => ty σ H1 fun y H2 => tx σ H2 fun z H3 => rDSetd a y z H3 Q) : tDSetd td ty tx σ H Q := h
theorem w_dsetdI {a : Addr} {kvs : List (Key × V)} {n : Int} {z : V} (e : H a = some (.dK kvs)) (hl : kvs.length < sizeLine) (h1 : ∀ u, valV kvs (Sum.inl n) = some u → Q u H) (h2 : valV kvs (Sum.inl n) = none → ∀ H1, H1 a = some (.dK (putK kvs (Sum.inl n) z)) → Off a H H1 → Q z H1) : rDSetd a (.int n) z H Q :=
  ⟨kvs, Sum.inl n, e, rfl, hl, h1, fun z => h2 z _ upd_same fun x hx => upd_ne hx⟩
theorem w_sortD {a : Addr} {kvs : List (Key × V)} {ks : List Int} (e : H a = some (.dK kvs)) (hk : kvs.map (·.1) = ks.map Sum.inl) (hl : ks.length < 64) (h : ∀ (ys : List Int) p H1, ys.Perm ks → ys.Pairwise (· ≤ ·) → H p = none → H1 p = some (.lst (ys.map V.int)) → Same H H1 → Q (.ref p) H1) : rSortD [.ref a] H Q :=
  ⟨a, kvs, ks, rfl, .inl e, hk, hl, fun ys p hp hs hn => h ys p _ hp hs hn upd_same (Same.new hn)⟩
theorem w_leT2 {p q : Addr} {a b c d : Int} (h1 : SqT K H p [.int a, .int b]) (h2 : SqT K H q [.int c, .int d]) (h : Q (.bl (decide (a < c ∨ a = c ∧ b ≤ d))) H) : rLeT K (.ref p) (.ref q) H Q := by
  refine ⟨p, q, [a, b], [c, d], rfl, rfl, h1, h2, ?_⟩
  have e : Ob.lexAt (fun j => decide (([a, b] : List Int).getD j 0 = ([c, d] : List Int).getD j 0)) (fun j => decide (([a, b] : List Int).getD j 0 ≤ ([c, d] : List Int).getD j 0)) (decide (([a, b] : List Int).length ≤ ([c, d] : List Int).length)) 0 (min ([a, b] : List Int).length ([c, d] : List Int).length) = decide (a < c ∨ a = c ∧ b ≤ d) := by
    show (if decide (a = c) = true then (if decide (b = d) = true then true else decide (b ≤ d)) else decide (a ≤ c)) = _
    by_cases h1 : a = c
    · rw [if_pos (decide_eq_true h1)]
      by_cases h2 : b = d
      · rw [if_pos (decide_eq_true h2)]
        exact (decide_eq_true (by omega)).symm
      · rw [if_neg (fun z => h2 (of_decide_eq_true z))]
        rw [Bool.eq_iff_iff]; simp; omega
    · rw [if_neg (fun z => h1 (of_decide_eq_true z))]
      rw [Bool.eq_iff_iff]; simp; omega
  rw [e]
  exact h
theorem inV_ints (n : Int) (vs : List Int) : inV (.int n) (vs.map V.int) = decide (n ∈ vs) := by
  unfold inV
  rw [Bool.eq_iff_iff, List.any_eq_true]
  constructor
  · rintro ⟨y, hy, e⟩
    obtain ⟨z, hz, rfl⟩ := List.mem_map.mp hy
    have e' : z = n := by simpa [eqV] using e
    subst e'
    exact decide_eq_true hz
  · intro h
    exact ⟨.int n, List.mem_map_of_mem (of_decide_eq_true h), by simp [eqV]⟩
theorem flat_ints (vs : List Int) : (vs.map V.int).all flatV = true := by
  rw [List.all_eq_true]
  intro y hy
  obtain ⟨z, _, rfl⟩ := List.mem_map.mp hy
  rfl
theorem w_inT {p : Addr} {vs : List Int} {n : Int} (h1 : SqT K H p (vs.map V.int)) (h : Q (.bl (decide (n ∈ vs))) H) : rIn K false (.int n) (.ref p) H Q := ⟨p, _, rfl, .inr h1, rfl, flat_ints vs, by rw [inV_ints]; exact h⟩
theorem w_ninT {p : Addr} {vs : List Int} {n : Int} (h1 : SqT K H p (vs.map V.int)) (h : Q (.bl (!decide (n ∈ vs))) H) : rIn K true (.int n) (.ref p) H Q := ⟨p, _, rfl, .inr h1, rfl, flat_ints vs, by rw [inV_ints]; exact h⟩
theorem w_inL {p : Addr} {vs : List Int} {n : Int} (h1 : SqL K H p (vs.map V.int)) (h : Q (.bl (decide (n ∈ vs))) H) : rIn K false (.int n) (.ref p) H Q := ⟨p, _, rfl, .inl h1, rfl, flat_ints vs, by rw [inV_ints]; exact h⟩
theorem w_ninL {p : Addr} {vs : List Int} {n : Int} (h1 : SqL K H p (vs.map V.int)) (h : Q (.bl (!decide (n ∈ vs))) H) : rIn K true (.int n) (.ref p) H Q := ⟨p, _, rfl, .inl h1, rfl, flat_ints vs, by rw [inV_ints]; exact h⟩
def rDisp (p : Addr) (ps : List (V × V)) (H2 : Hp) (Q : VK) : Prop := H2 p = some (.dK []) ∧ ∃ kvs : List (Key × V), ps = kvs.map (fun kv => (kV kv.1, kv.2)) ∧ kvs.length ≤ 15 ∧ Q (.ref p) (upd H2 p (.dK (mergeK [] kvs)))
theorem w_disp {trs : List (TE × TE)} (h : ∀ p H1, H p = none → H1 p = some (.dK []) → Same H H1 → tPairs trs σ H1 (fun ps H2 => rDisp p ps H2 Q)) : tDisp trs σ H Q := fun p hp => h p _ hp upd_same (Same.new hp)
theorem w_pair {tk tv : TE} {r : List (TE × TE)} {R : List (V × V) → Hp → Prop} (h : tk σ H fun x H1 => tv σ H1 fun y H2 => tPairs r σ H2 fun ps H3 => R ((x, y) :: ps) H3) : tPairs ((tk, tv) :: r) σ H R := h
theorem w_pnil {R : List (V × V) → Hp → Prop} (h : R [] H) : tPairs [] σ H R := h
theorem w_dispE {p : Addr} {ps : List (V × V)} (kvs : List (Key × V)) (h1 : H p = some (.dK [])) (h2 : ps = kvs.map (fun kv => (kV kv.1, kv.2))) (h3 : kvs.length ≤ 15) (h : ∀ H1, H1 p = some (.dK (mergeK [] kvs)) → Off p H H1 → Q (.ref p) H1) : rDisp p ps H Q :=
  ⟨h1, kvs, h2, h3, h _ upd_same fun x hx => upd_ne hx⟩
theorem w_callS {sp : Sp} {E : St → XK} {t : TA} (h : t σ H fun vs H1 => sp vs H1 Q (E σ)) : tCallS sp E t σ H Q := h
theorem w_isB {x y : Bool} (h : Q (.bl (decide (x = y))) H) : rIsBl (.bl x) (.bl y) H Q := ⟨x, y, rfl, rfl, h⟩
theorem w_isN (h : Q (.bl (decide (v = .non))) H) : rIsNon v .non H Q := ⟨rfl, h⟩
theorem w_notN (h : Q (.bl (!decide (v = .non))) H) : rNotNon v .non H Q := ⟨rfl, h⟩
theorem w_chain {r r' : R2} {ta tb tc : TE} (h : ta σ H fun x H1 => tb σ H1 fun y H2 => r x y H2 fun z H3 => ∃ k, z = .bl k ∧ (if k = true then tc σ H3 fun w' H4 => r' y w' H4 Q else Q (.bl false) H3)) : tChain r r' ta tb tc σ H Q := h
theorem w_trL {p : Addr} {xs : List V} {R : Bool → Hp → Prop} (h1 : SqL K H p xs) (h : R (!xs.isEmpty) H) : rTru K (.ref p) H R := ⟨_, .inl ⟨xs, h1, rfl⟩, h⟩
theorem w_trT {p : Addr} {xs : List V} {R : Bool → Hp → Prop} (h1 : SqT K H p xs) (h : R (!xs.isEmpty) H) : rTru K (.ref p) H R := ⟨_, .inr (.inl ⟨xs, h1, rfl⟩), h⟩
theorem w_tru {ta : TE} {R : Bool → Hp → Prop} (h : ta σ H fun x H1 => rTru K x H1 R) : tTru K ta σ H R := h
theorem w_seqX {w : Stmt → Prop} {u : TS} {t : TS} (h : t ⟨u ⟨nx, rt, bk, ct⟩, rt, bk, ct⟩ σ H) : tSeq t u ⟨nx, rt, bk, ct⟩ σ H := h
/-! loops -/
def Lp (J : It) (g : TG) (tb : TS) (D : Ends) (σ : St) (H1 : Hp) : Prop := ∃ W : Nat → Nat → St → Hp → Prop, (∃ m, W 0 m σ H1) ∧ ∀ i m σ H, W i m σ H →
  (J.stop i H ∧ D.nx σ H) ∨ (J.go i H ∧ ∃ N : St → Hp → Prop, (∀ σ' H', N σ' H' → ∃ m', m' < m ∧ W (i + 1) m' σ' H') ∧ ∀ x H', J.yld i H x H' → g x σ H' fun σ2 H2 => tb { D with nx := N, ct := N, bk := D.nx } σ2 H2)
theorem w_for {wi : TI} {g : TG} {tb : TS} (h : wi σ H fun J H1 => Lp J g tb ⟨nx, rt, bk, ct⟩ σ H1) : tFor wi g tb ⟨nx, rt, bk, ct⟩ σ H := h
theorem lp_it {J : It} {n : Nat} {G : Hp → Prop} {Y : Nat → Hp → V → Hp → Prop} (w : Walk J n G Y) {g : TG} {tb : TS} (Pv : Nat → St → Hp → Prop) (h0 : Pv 0 σ H) (hG : ∀ i σ H, i ≤ n → Pv i σ H → G H)
    (hs : ∀ i x σ H H', i < n → Pv i σ H → Y i H x H' → g x σ H' fun σ2 H2 => tb ⟨Pv (i + 1), rt, nx, Pv (i + 1)⟩ σ2 H2) (hd : ∀ σ H, Pv n σ H → nx σ H) : Lp J g tb ⟨nx, rt, bk, ct⟩ σ H :=
  for_it w (D := ⟨nx, rt, bk, ct⟩) Pv h0 hG hs hd
theorem lp_list {a : Addr} {xs : List V} {g : TG} {tb : TS} (Pv : Nat → St → Hp → Prop) (h0 : Pv 0 σ H) (hl : ∀ i σ H, i ≤ xs.length → Pv i σ H → SqL K H a xs)
    (hs : ∀ i x σ H, xs[i]? = some x → Pv i σ H → g x σ H fun σ2 H2 => tb ⟨Pv (i + 1), rt, nx, Pv (i + 1)⟩ σ2 H2) (hd : ∀ σ H, Pv xs.length σ H → nx σ H) : Lp (Itl K a) g tb ⟨nx, rt, bk, ct⟩ σ H :=
  for_list (D := ⟨nx, rt, bk, ct⟩) Pv h0 hl hs hd
theorem lp_tup {a : Addr} {xs : List V} {g : TG} {tb : TS} (Pv : Nat → St → Hp → Prop) (h0 : Pv 0 σ H) (hl : ∀ i σ H, i ≤ xs.length → Pv i σ H → SqT K H a xs)
    (hs : ∀ i x σ H, xs[i]? = some x → Pv i σ H → g x σ H fun σ2 H2 => tb ⟨Pv (i + 1), rt, nx, Pv (i + 1)⟩ σ2 H2) (hd : ∀ σ H, Pv xs.length σ H → nx σ H) : Lp (Itt K a) g tb ⟨nx, rt, bk, ct⟩ σ H :=
  for_tup (D := ⟨nx, rt, bk, ct⟩) Pv h0 hl hs hd
theorem lp_range {lo : Int} {n : Nat} {g : TG} {tb : TS} (Pv : Nat → St → Hp → Prop) (h0 : Pv 0 σ H)
    (hs : ∀ i σ H, i < n → Pv i σ H → g (.int (lo + i)) σ H fun σ2 H2 => tb ⟨Pv (i + 1), rt, nx, Pv (i + 1)⟩ σ2 H2) (hd : ∀ σ H, Pv n σ H → nx σ H) : Lp (Itr lo n) g tb ⟨nx, rt, bk, ct⟩ σ H :=
  for_range (D := ⟨nx, rt, bk, ct⟩) Pv h0 hs hd
theorem w_rng1 {t : TA} {R : It → Hp → Prop} (h : t σ H fun vs H1 => rRng1 vs H1 R) : iRng1 t σ H R := h
theorem w_rng1' {j : Int} {R : It → Hp → Prop} (h1 : -(2 ^ 62) ≤ j) (h2 : j < 2 ^ 62) (h : R (Itr 0 j.toNat) H) : rRng1 [.int j] H R := ⟨j, rfl, h1, h2, h⟩
theorem w_rng2 {t : TA} {R : It → Hp → Prop} (h : t σ H fun vs H1 => rRng2 vs H1 R) : iRng2 t σ H R := h
theorem w_rng2' {i j : Int} {R : It → Hp → Prop} (h1 : -(2 ^ 62) ≤ i ∧ i < 2 ^ 62 ∧ -(2 ^ 62) ≤ j ∧ j < 2 ^ 62) (h : R (Itr i (j - i).toNat) H) : rRng2 [.int i, .int j] H R := ⟨i, j, rfl, h1, h⟩
theorem w_itL {tl : TE} {R : It → Hp → Prop} (h : tl σ H fun x H1 => rItL K x H1 R) : iList K tl σ H R := h
theorem w_itL' {a : Addr} {xs : List V} {R : It → Hp → Prop} (h1 : SqL K H a xs) (h : R (Itl K a) H) : rItL K (.ref a) H R := ⟨a, rfl, ⟨xs, h1⟩, h⟩
theorem w_itT {tl : TE} {R : It → Hp → Prop} (h : tl σ H fun x H1 => rItT K x H1 R) : iTup K tl σ H R := h
theorem w_itT' {a : Addr} {xs : List V} {R : It → Hp → Prop} (h1 : SqT K H a xs) (h : R (Itt K a) H) : rItT K (.ref a) H R := ⟨a, rfl, ⟨xs, h1⟩, h⟩
theorem w_while {c : TT} {tb : TS} (Pv : St → Hp → Prop) (μ : St → Hp → Nat) (h0 : Pv σ H)
    (hs : ∀ σ H, Pv σ H → c σ H fun b H1 => if b = true then ∃ N : St → Hp → Prop, (∀ σ' H', N σ' H' → Pv σ' H' ∧ μ σ' H' < μ σ H) ∧ tb ⟨N, rt, nx, N⟩ σ H1 else nx σ H1) (mono : ∀ σ H (R R' : Bool → Hp → Prop), (∀ b H1, R b H1 → R' b H1) → c σ H R → c σ H R') : tWhile c tb ⟨nx, rt, bk, ct⟩ σ H := by
  refine ⟨fun m σ H => m = μ σ H ∧ Pv σ H, ⟨_, rfl, h0⟩, ?_⟩
  rintro m σ H ⟨rfl, p⟩
  refine mono σ H _ _ (fun b H1 q => ?_) (hs σ H p)
  cases b with
  | true =>
    obtain ⟨N, h1, h2⟩ := q
    exact ⟨N, fun σ' H' z => ⟨_, (h1 σ' H' z).2, rfl, (h1 σ' H' z).1⟩, h2⟩
  | false => exact q
/-- one turn of a while: W (by a falling number) is reached again -/
def WhT (W : Nat → St → Hp → Prop) (m : Nat) (tb : TS) (rt : VK) (nx : St → Hp → Prop) (σ : St) (H : Hp) : Prop := ∃ N : St → Hp → Prop, (∀ σ' H', N σ' H' → ∃ m', m' < m ∧ W m' σ' H') ∧ tb ⟨N, rt, nx, N⟩ σ H
theorem w_turn {W : Nat → St → Hp → Prop} {m : Nat} {tb : TS} (h : tb ⟨fun σ' H' => ∃ m', m' < m ∧ W m' σ' H', rt, nx, fun σ' H' => ∃ m', m' < m ∧ W m' σ' H'⟩ σ H) : WhT W m tb rt nx σ H := ⟨_, fun _ _ z => z, h⟩
theorem w_whileN {c : TT} {tb : TS} (W : Nat → St → Hp → Prop) (m0 : Nat) (h0 : W m0 σ H) (hs : ∀ m σ H, W m σ H → c σ H fun b H1 => if b = true then WhT W m tb rt nx σ H1 else nx σ H1) : tWhile c tb ⟨nx, rt, bk, ct⟩ σ H := ⟨W, ⟨m0, h0⟩, hs⟩
/-! comprehensions -/
def LcP (J : It) (g : TG) (tt : TT) (te : TE) (vs : List Nat) (Q : VK) (σ : St) (H1 : Hp) : Prop := ∀ D, H1 D = none → ∃ W : Nat → Nat → Hp → Prop, (∃ m, W 0 m (upd H1 D (.lst []))) ∧ ∀ i m H, W i m H →
  (J.stop i H ∧ Q (.ref D) H) ∨ (J.go i H ∧ ∃ Nx : Hp → Prop, (∀ H', Nx H' → ∃ m', m' < m ∧ W (i + 1) m' H') ∧ ∀ x H', J.yld i H x H' → g x (wipe σ vs) H' fun σ2 H2 => wipe σ2 vs = wipe σ vs ∧ tt σ2 H2 fun b H3 =>
    if b = true then te σ2 H3 fun y H4 => ∃ acc, H4 D = some (.lst acc) ∧ acc.length < sizeLine ∧ Nx (upd H4 D (.lst (acc ++ [y]))) else Nx H3)
theorem w_lc {wi : TI} {g : TG} {tt : TT} {te : TE} {vs : List Nat} (h : wi σ H fun J H1 => LcP J g tt te vs Q σ H1) : tLc wi g tt te vs σ H Q := h
/-- each turn adds one: the k-th is ys[k]; what stood but M stands -/
theorem lcp_map {J : It} {n : Nat} {G : Hp → Prop} {Y : Nat → Hp → V → Hp → Prop} (w : Walk J n G Y) {g : TG} {te : TE} {vs : List Nat} (M : List Addr) (ys : List V) (hn : ys.length = n) (hz : n ≤ 1000000) (hG : ∀ H', Kp M H H' → G H')
    (hs : ∀ i x H1 H2 (R : V → Hp → Prop), i < n → Kp M H H1 → Y i H1 x H2 → (∀ y H4, ys[i]? = some y → Kp M H1 H4 → R y H4) → g x (wipe σ vs) H2 fun σ2 H3 => wipe σ2 vs = wipe σ vs ∧ te σ2 H3 R)
    (hM : ∀ b ∈ M, ∃ o, H b = some o)
    (hd : ∀ D H', H D = none → Kp M H H' → H' D = some (.lst ys) → Q (.ref D) H') : LcP J g tYes te vs Q σ H := by
  intro D hD
  have hDM : D ∉ M := fun z => by obtain ⟨o, e⟩ := hM D z; rw [hD] at e; cases e
  refine lc_it w (fun i H' => Kp M H H' ∧ H' D = some (.lst (ys.take i))) ⟨Kp.new hD, upd_same⟩ (fun i H' _ z => hG H' z.1) ?_ ?_
  · rintro i x H1 H2 hi ⟨k1, e1⟩ y
    refine (hs i x H1 H2 _ hi k1 y ?_)
    intro z H4 hz' k4
    refine ⟨ys.take i, k4 _ _ hDM e1, ?_, ?_, ?_⟩
    · rw [List.length_take]; exact Nat.lt_of_le_of_lt (Nat.min_le_left _ _) (Nat.lt_of_lt_of_le (Nat.lt_of_lt_of_le hi hz) (by decide))
    · exact (k1.trans k4).mutN hD
    · rw [upd_same, List.take_add_one, hz']; rfl
  · rintro H' ⟨k, e⟩
    rw [List.take_of_length_le (by omega)] at e
    exact hd D H' hD k e
/-- each turn adds one of which P holds (P leans on tuples alone); S: what else holds turn by turn -/
theorem lcp_gen {J : It} {n : Nat} {G : Hp → Prop} {Y : Nat → Hp → V → Hp → Prop} (w : Walk J n G Y) {g : TG} {te : TE} {vs : List Nat} (M : List Addr) (P : Nat → V → Hp → Prop) (S : Nat → Hp → Prop) (hz : n ≤ 1000000)
    (mono : ∀ i y H1 H2, KT H1 H2 → P i y H1 → P i y H2) (SD : ∀ D, H D = none → ∀ i H1 o, S i H1 → S i (upd H1 D o)) (hG : ∀ i H', Kp M H H' → S i H' → G H') (S0 : S 0 H)
    (hs : ∀ i x H1 H2 (R : V → Hp → Prop), i < n → Kp M H H1 → KT H H1 → S i H1 → Y i H1 x H2 → (∀ y H4, P i y H4 → Kp M H1 H4 → KT H1 H4 → S (i + 1) H4 → R y H4) → g x (wipe σ vs) H2 fun σ2 H3 => wipe σ2 vs = wipe σ vs ∧ te σ2 H3 R)
    (hM : ∀ b ∈ M, ∃ o, H b = some o)
    (hd : ∀ D H' ys, ys.length = n → (∀ i y, ys[i]? = some y → P i y H') → H D = none → Kp M H H' → KT H H' → S n H' → H' D = some (.lst ys) → Q (.ref D) H') : LcP J g tYes te vs Q σ H := by
  intro D hD
  have hDM : D ∉ M := fun z => by obtain ⟨o, e⟩ := hM D z; rw [hD] at e; cases e
  refine lc_it w (fun i H' => Kp M H H' ∧ KT H H' ∧ S i H' ∧ ∃ ys, ys.length = i ∧ H' D = some (.lst ys) ∧ ∀ k y, ys[k]? = some y → P k y H') ⟨Kp.new hD, KT.refl.upd hD, SD D hD _ _ _ S0, [], rfl, upd_same, by simp⟩ (fun i H' _ z => hG i H' z.1 z.2.2.1) ?_ ?_
  · rintro i x H1 H2 hi ⟨k1, t1, s1, ys, hl, e1, hp⟩ y
    refine hs i x H1 H2 _ hi k1 t1 s1 y ?_
    intro z H4 pz k4 t4 s4
    have e4 := k4 _ _ hDM e1
    refine ⟨ys, e4, ?_, (k1.trans k4).mutN hD, (t1.trans t4).upd hD, SD D hD _ _ _ s4, ys ++ [z], by rw [List.length_append, hl]; rfl, upd_same, ?_⟩
    · rw [hl]; exact Nat.lt_of_lt_of_le (Nat.lt_of_lt_of_le hi hz) (by decide)
    · intro k y' hy'
      by_cases hk : k < ys.length
      · rw [List.getElem?_append_left hk] at hy'
        exact mono _ _ _ _ (KT.updL e4) (mono _ _ _ _ t4 (hp k y' hy'))
      · rw [List.getElem?_append_right (by omega)] at hy'
        by_cases hk2 : k = ys.length
        · subst hk2
          have e : z = y' := by simpa using hy'
          subst e
          rw [hl]
          exact mono _ _ _ _ (KT.updL e4) pz
        · rw [List.getElem?_eq_none (by simp; omega)] at hy'
          cases hy'
  · rintro H' ⟨k, t, sn, ys, hl, e, hp⟩
    exact hd D H' ys hl hp hD k t sn e
theorem lcp_rel {J : It} {n : Nat} {G : Hp → Prop} {Y : Nat → Hp → V → Hp → Prop} (w : Walk J n G Y) {g : TG} {te : TE} {vs : List Nat} (M : List Addr) (P : Nat → V → Hp → Prop) (hz : n ≤ 1000000)
    (mono : ∀ i y H1 H2, KT H1 H2 → P i y H1 → P i y H2) (hG : ∀ H', Kp M H H' → G H')
    (hs : ∀ i x H1 H2 (R : V → Hp → Prop), i < n → Kp M H H1 → KT H H1 → Y i H1 x H2 → (∀ y H4, P i y H4 → Kp M H1 H4 → KT H1 H4 → R y H4) → g x (wipe σ vs) H2 fun σ2 H3 => wipe σ2 vs = wipe σ vs ∧ te σ2 H3 R)
    (hM : ∀ b ∈ M, ∃ o, H b = some o)
    (hd : ∀ D H' ys, ys.length = n → (∀ i y, ys[i]? = some y → P i y H') → H D = none → Kp M H H' → KT H H' → H' D = some (.lst ys) → Q (.ref D) H') : LcP J g tYes te vs Q σ H :=
  lcp_gen w M P (fun _ _ => True) hz mono (fun _ _ _ _ _ _ => trivial) (fun _ H' k _ => hG H' k) trivial (fun i x H1 H2 R hi k t _ y h => hs i x H1 H2 R hi k t y fun y' H4 p k4 t4 => h y' H4 p k4 t4 trivial) hM fun D H' ys h1 h2 h3 h4 h5 _ h6 => hd D H' ys h1 h2 h3 h4 h5 h6
theorem refs_of {α : Type} (C : Addr → α → Prop) : ∀ (ys : List V) (F : Nat → α), (∀ j y, ys[j]? = some y → ∃ p, y = .ref p ∧ C p (F j)) → ∃ ps : List (Addr × α), ys = ps.map (fun q => .ref q.1) ∧ ps.map (·.2) = (List.range ys.length).map F ∧ ∀ q ∈ ps, C q.1 q.2
  | [], _, _ => ⟨[], rfl, rfl, by simp⟩
  | y :: r, F, h => by
    obtain ⟨p, rfl, hp⟩ := h 0 y rfl
    obtain ⟨ps, e1, e2, e3⟩ := refs_of C r (F ∘ Nat.succ) fun j z hz => h (j + 1) z hz
    refine ⟨(p, F 0) :: ps, by rw [e1]; rfl, ?_, ?_⟩
    · rw [List.length_cons, List.range_succ_eq_map, List.map_cons, e2, List.map_cons, List.map_map]
    · intro q hq
      rcases List.mem_cons.mp hq with rfl | hq
      · exact hp
      · exact e3 q hq
end
/-! ### errors -/
/-- what the top has written of an own error class without __init__ -/
structure Exn (K : PySem.W.Frag) (mg : Str → Option Value) (x : Str) (C : Addr) : Prop where
  g : mg x = some (.ref C)
  x : PySem.W.excIn K C [.type "ValueError", .type "Exception", .type "BaseException", .type "object"] "ValueError.__new__" = true
  k : PySem.W.keepIn K (.ref C) = true
  b : PySem.W.subIn K (.ref C) (.type "BaseException") = some true
  t : PySem.W.typeIn K (.ref C) = some (.type "type")
  e : PySem.W.exmOne K (.ref C) (.ref C) = some true
theorem exm_is {K : PySem.W.Frag} {t : Value} {C : Addr} {r : Bool} (hb : PySem.W.subIn K (.ref C) (.type "BaseException") = some true) (hi : PySem.W.isClsIn K C = true) (ht : PySem.W.typeIn K (.ref C) = some (.type "type")) (hs : PySem.W.subIn K t (.ref C) = some r) : PySem.W.exmOne K t (.ref C) = some r := by
  have hi' : (PySem.W.clsIn K C).isSome = true := hi
  unfold PySem.W.exmOne
  rw [hb, if_pos (by rfl)]
  show (if ((PySem.W.clsIn K C).isSome && PySem.W.typeIn K (Value.ref C) == some (Value.type "type")) = true then PySem.W.subIn K t (Value.ref C) else none) = some r
  rw [hi', ht]
  exact hs
def tTryO (K : PySem.W.Frag) (c : Value) (tb : WX → TS) (ts : Addr → Value → Option Addr → TS) : TS := fun D σ H => tb (wOnly K c ts (fun _ _ _ _ => False) D) D σ H
section
variable {X : Cx} {x : Str} {c : Value} {body suite : List Stmt} {b₀ : Stmt} {np pos pos' : Pos} {tb : WX → TS} {ts : Addr → Value → Option Addr → TS}
theorem p_try (hs : X.stack = X.env :: X.outer) (hf : X.env.frame = some X.env.locals) (hc : Names X x c)
    (hb : ∀ (W : WX) (pn : List (Addr × Obj)) (xe : Value → Shared → Prop), Takes (X.tr pn xe) W → PassesOwn (model X.prog X.w) X.A X.env xe → PSs (X.tr pn xe) body (tb W))
    (hsu : ∀ (a : Addr) (oe : Obj) (cls : Value) (d : Option Addr) (pn : List (Addr × Obj)), Zc cls d oe → (∃ vs, oe.data = .fields vs) → PSs (X.suite a ((a, oe) :: pn)) (b₀ :: suite) (ts a cls d)) :
    PS X (.Try body [.ExceptHandler (some (.Name x np)) none (b₀ :: suite) pos'] [] [] pos) (tTryO X.K c tb ts) := ps_try_only hs hf hc takes0 hb hsu
end
section
variable {K : PySem.W.Frag} {σ : St} {H : Hp} {nx bk ct : St → Hp → Prop} {rt : VK}
theorem w_try {c : Value} {tb : WX → TS} {ts : Addr → Value → Option Addr → TS} (h : tb (wOnly K c ts (fun _ _ _ _ => False) ⟨nx, rt, bk, ct⟩) ⟨nx, rt, bk, ct⟩ σ H) : tTryO K c tb ts ⟨nx, rt, bk, ct⟩ σ H := h
theorem w_only {c cls : Value} {d : Option Addr} {ts : Addr → Value → Option Addr → TS} {Wo : WX} {D : Ends} (e : PySem.W.exmOne K cls c = some true) (h : ∀ a, H a = none → ts a cls d D σ H) : wOnly K c ts Wo D cls d σ H := ⟨true, e, fun _ => h, fun z => nomatch z⟩
end
/-! ### dict comprehensions -/
section
open PySem.Spec PyProof.Rows
variable {X : Cx}
/-- name = {k: v for ..}, the name a local: as the layer's rule for a list's comprehension -/
theorem ps_setDc {i : Nat} {y : Str} {py : Pos} {kx vx tg iter : Expr} {ifs : List Expr} {scope : Scope} {own : List (Str × Nat)} {pos spos : Pos} {wi : TI} {g : TG} {tt : TT} {tk tv : TE}
    (hc : X.calm = true) (hN : X.N.Nodup) (hy : X.N[i]? = some y) (hyl : X.env.scope.names.lookup y = some .local)
    (hsw : swapsWith (.DictComp kx vx [⟨tg, iter, ifs, 0⟩] scope pos) (some (.Name y py)) spos.line X.env = pure true)
    (hi : PI X tg iter wi) (ok : BlkOk X.N X.env.scope scope own)
    (hg : ∀ s0 H0 C0 cl fp, PG (X.blk s0 H0 scope (compEnvC scope cl C0 X.env) fp) tg g) (ht : ∀ s0 H0 C0 cl fp, PTs (X.blk s0 H0 scope (compEnvC scope cl C0 X.env) fp) ifs tt)
    (hk : ∀ s0 H0 C0 cl fp, PE (X.blk s0 H0 scope (compEnvC scope cl C0 X.env) fp) kx tk) (he : ∀ s0 H0 C0 cl fp, PE (X.blk s0 H0 scope (compEnvC scope cl C0 X.env) fp) vx tv)
    (hs : ∀ z, foldedSetIterable iter X.env z = pure z := by intro _; rfl) :
    PS X (.Assign [.Name y py] (.DictComp kx vx [⟨tg, iter, ifs, 0⟩] scope pos) spos) (tAsg (tDc wi g tt tk tv (own.map (·.2))) (gName i)) := by
  constructor
  intro pins s σ H Ed I h
  rw [exec_Assign_Name_used y py _ _ hsw]
  apply wpAny_bind
  apply wpAny_standAt
  apply wpAny_bind
  show wpAny _ X.A (comprehension (.DictComp kx vx [⟨tg, iter, ifs, 0⟩] scope pos) scope X.env (firstIterPos [⟨tg, iter, ifs, 0⟩] pos) newDict false (eval iter X.env) (some (assign (.Name y py) X.env)) >>= fun _ => pure ()) _ _ s
  apply wpAny_bind
  have h' : tDc wi g tt tk tv (own.map (·.2)) σ H (fun x H1 => gName i x σ H1 Ed.nx) := h
  refine thn (dc_core (Qf := fun _ s1 => SP X pins Ed .next s1) hc hN I hi ok hg ht hk he hs h' ?_) (fun _ _ z => wpAny_pure (wpAny_pure z))
  intro L C s1 m H1 I1 q hn ff
  obtain ⟨f0, f1, f2, f3, f4, f5⟩ := ff
  show wpAny _ _ (assign (.Name y py) X.env (.ref L)) _ _ _
  apply wpAny_assign_Name
  refine store_ok2 (v := V.ref L) I1 hN hy (.inl hyl) rfl ?_ (.inr hyl)
  rintro s2 I2 ⟨ad, sb, had⟩
  have hne : C ≠ ad := by
    rcases had with hz | hz
    · exact fun e => f1 (e.trans hz)
    · exact fun e => f4 y ad hz e.symm
  refine ⟨m, hn.sameBut sb hne, fun h3 sb3 => ⟨_, H1, ?_, q⟩⟩
  exact I2.turned (t' := s2.toks) (fun b o hb e => (sb3.2 b hb).trans e) f0 f1 f3 f4 f5
theorem sw_trueD {kx vx : Expr} {gs : List Comprehension} {scope : Scope} {pos py : Pos} {y : Str} {l : Nat} {env : Env} (hkd : env.scope.kind = .function) (hlk : env.scope.names.lookup y = some .local)
    (hln : (py.line == pos.line) = true) (hno : (scope.names.any fun (n, k) => n == y && (k == .local || k == .cell)) = false) : swapsWith (.DictComp kx vx gs scope pos) (some (.Name y py)) l env = pure true := by
  have e1 : env.kindOf y = some .local := hlk
  have e2 : env.blockKind = .function := by
    unfold Env.blockKind
    rw [hkd]
    rfl
  unfold swapsWith
  simp only [e2, e1, hno, Expr.pos, hln]
  rfl
end
section
variable {K : PySem.W.Frag} {σ : St} {H : Hp} {Q : VK}
def DcP (J : It) (g : TG) (tt : TT) (tk tv : TE) (vs : List Nat) (Q : VK) (σ : St) (H1 : Hp) : Prop := ∀ D, H1 D = none → ∃ W : Nat → Nat → Hp → Prop, (∃ m, W 0 m (upd H1 D (.dK []))) ∧ ∀ i m H, W i m H →
  (J.stop i H ∧ Q (.ref D) H) ∨ (J.go i H ∧ ∃ Nx : Hp → Prop, (∀ H', Nx H' → ∃ m', m' < m ∧ W (i + 1) m' H') ∧ ∀ x H', J.yld i H x H' → g x (wipe σ vs) H' fun σ2 H2 => wipe σ2 vs = wipe σ vs ∧ tt σ2 H2 fun b H3 =>
    if b = true then tk σ2 H3 fun y H4 => tv σ2 H4 fun z H5 => ∃ kvs k, y = kV k ∧ H5 D = some (.dK kvs) ∧ kvs.length < sizeLine ∧ Nx (upd H5 D (.dK (putK kvs k z))) else Nx H3)
theorem w_dc {wi : TI} {g : TG} {tt : TT} {tk tv : TE} {vs : List Nat} (h : wi σ H fun J H1 => DcP J g tt tk tv vs Q σ H1) : tDc wi g tt tk tv vs σ H Q := h
theorem putK_len' {κ : Type} [DecidableEq κ] (c : List (κ × V)) (k : κ) (x : V) : (putK c k x).length ≤ c.length + 1 := by
  unfold putK
  by_cases e : (c.any fun kv => decide (kv.1 = k)) = true
  · rw [if_pos e, List.length_map]; omega
  · rw [if_neg e, List.length_append]; simp
theorem mergeK_len (es : List (Key × V)) : ∀ acc, (mergeK acc es).length ≤ acc.length + es.length := by
  unfold mergeK
  induction es with
  | nil => intro acc; simp
  | cons e r ih =>
    intro acc
    have h1 := ih (putK acc e.1 e.2)
    have h2 := putK_len' acc e.1 e.2
    simp only [List.foldl_cons, List.length_cons] at *
    omega
theorem mergeK_snoc (acc es : List (Key × V)) (e : Key × V) : mergeK acc (es ++ [e]) = putK (mergeK acc es) e.1 e.2 := by
  unfold mergeK; rw [List.foldl_append]; rfl
/-- each turn adds a pair: the k-th is es[k]; what stood but M stands -/
theorem dcp_map {J : It} {n : Nat} {G : Hp → Prop} {Y : Nat → Hp → V → Hp → Prop} (w : Walk J n G Y) {g : TG} {tk tv : TE} {vs : List Nat} (M : List Addr) (es : List (Key × V)) (hn : es.length = n) (hz : n ≤ 1000000) (hG : ∀ H', Kp M H H' → G H')
    (hs : ∀ i x H1 H2 (R : V → V → Hp → Prop), i < n → Kp M H H1 → Y i H1 x H2 → (∀ e H4, es[i]? = some e → Kp M H1 H4 → R (kV e.1) e.2 H4) → g x (wipe σ vs) H2 fun σ2 H3 => wipe σ2 vs = wipe σ vs ∧ tk σ2 H3 fun y H4 => tv σ2 H4 fun z H5 => R y z H5)
    (hM : ∀ b ∈ M, ∃ o, H b = some o)
    (hd : ∀ D H', H D = none → Kp M H H' → H' D = some (.dK (mergeK [] es)) → Q (.ref D) H') : DcP J g tYes tk tv vs Q σ H := by
  intro D hD
  have hDM : D ∉ M := fun z => by obtain ⟨o, e⟩ := hM D z; rw [hD] at e; cases e
  refine ⟨fun i m H' => m = n - i ∧ i ≤ n ∧ Kp M H H' ∧ H' D = some (.dK (mergeK [] (es.take i))), ⟨n, by simp, Nat.zero_le _, Kp.new hD, upd_same⟩, ?_⟩
  rintro i m H1 ⟨rfl, hi, k1, e1⟩
  by_cases hlt : i < n
  · refine .inr ⟨w.goes i H1 hlt (hG _ k1), fun H' => Kp M H H' ∧ H' D = some (.dK (mergeK [] (es.take (i + 1)))), fun H' z => ⟨n - (i + 1), by omega, rfl, hlt, z.1, z.2⟩, fun x H2 y => ?_⟩
    refine hs i x H1 H2 (fun y z H5 => ∃ kvs k, y = kV k ∧ H5 D = some (.dK kvs) ∧ kvs.length < sizeLine ∧ (Kp M H (upd H5 D (.dK (putK kvs k z))) ∧ (upd H5 D (.dK (putK kvs k z))) D = some (.dK (mergeK [] (es.take (i + 1)))))) hlt k1 (w.yields i H1 x H2 hlt (hG _ k1) y) ?_
    intro e H4 he k4
    refine ⟨mergeK [] (es.take i), e.1, rfl, k4 _ _ hDM e1, ?_, (k1.trans k4).mutN hD, ?_⟩
    · have h1 := mergeK_len (es.take i) []
      have h2 : (es.take i).length ≤ 1000000 := by rw [List.length_take]; omega
      exact Nat.lt_of_le_of_lt (Nat.le_trans h1 (by simpa using h2)) (by decide)
    · rw [upd_same, List.take_add_one, he]
      show _ = some (HO.dK (mergeK [] (es.take i ++ [e])))
      rw [mergeK_snoc]
  · have e : i = n := by omega
    subst e
    rw [List.take_of_length_le (by omega)] at e1
    exact .inl ⟨w.stops H1 (hG _ k1), hd D H1 hD k1 e1⟩
theorem valV_merge (k : Key) : ∀ (es acc : List (Key × V)), (valV (mergeK acc es) k).isSome = ((valV acc k).isSome || es.any fun e => decide (e.1 = k)) := by
  intro es
  induction es with
  | nil => intro acc; show (valV acc k).isSome = _; simp
  | cons e r ih =>
    intro acc
    show (valV (mergeK (putK acc e.1 e.2) r) k).isSome = _
    rw [ih, valV_put, List.any_cons]
    by_cases h : k = e.1
    · rw [if_pos h, decide_eq_true h.symm]; simp
    · rw [if_neg h, decide_eq_false (fun z => h z.symm)]; simp
/-- {x: True for x in ns}: who is in it -/
theorem known_in (ns : List Int) (f : Int → V) (n : Int) : (valV (mergeK [] (ns.map fun i => ((Sum.inl i : Key), f i))) (Sum.inl n)).isSome = decide (n ∈ ns) := by
  rw [valV_merge, valV_nil]
  rw [Bool.eq_iff_iff]
  simp
end
/-! ### ints -/
theorem cmul_l {i j : Int} (h1 : -(2 ^ 64) < i) (h2 : i < 2 ^ 64) : CMul i j := .inl ⟨h1, h2⟩
theorem cmul_r {i j : Int} (h1 : -(2 ^ 64) < j) (h2 : j < 2 ^ 64) : CMul i j := .inr ⟨h1, h2⟩
theorem cdivw {i j : Int} (h1 : 0 < j) (h2 : j < 2 ^ 64) : CDivW i j := wide_div (b := 64) h1 (by omega) (by decide) (by decide)
theorem at_lt {α : Type} {xs : List α} {i : Int} (h0 : 0 ≤ i) (h1 : i < xs.length) : ∃ v, xs[i.toNat]? = some v ∧ atI xs i = some v := by
  have hl : i.toNat < xs.length := by omega
  refine ⟨xs[i.toNat], List.getElem?_eq_getElem hl, ?_⟩
  have e := atI_nat (xs := xs) (j := i.toNat) (List.getElem?_eq_getElem hl)
  rw [Int.toNat_of_nonneg h0] at e
  exact e
theorem at_neg1 {xs : List V} {d : V} (h : 0 < xs.length) : atI xs (-1) = some (xs.getLastD d) := by
  have hne : xs ≠ [] := by intro z; subst z; simp at h
  have z := atI_last xs.dropLast (xs.getLast hne)
  rw [List.dropLast_concat_getLast hne] at z
  rw [z, List.getLastD_eq_getLast?, List.getLast?_eq_some_getLast hne]
  rfl
/-! ### the deck -/
def MOSTD : Nat := 1099511627776
structure Deck (H : Hp) (d c : Addr) (n : Nat) : Prop where
  ex : ∃ (cs : List Int) (a : Nat) (b : Int) (t : Nat), H d = some (.lst [.ref c, .int a, .int b, .int t]) ∧ H c = some (.lst (cs.map V.int)) ∧ t ≤ n
  ne : c ≠ d
theorem Deck.kp {M : List Addr} {H H' : Hp} {d c : Addr} {n : Nat} (k : Kp M H H') (h1 : d ∉ M) (h2 : c ∉ M) (D : Deck H d c n) : Deck H' d c n := by
  obtain ⟨⟨cs, a, b, t, e1, e2, e3⟩, ne⟩ := D
  exact ⟨⟨cs, a, b, t, k _ _ h1 e1, k _ _ h2 e2, e3⟩, ne⟩
theorem Deck.new {H : Hp} {d c : Addr} {n : Nat} {p : Addr} {o : HO} (h : H p = none) (D : Deck H d c n) : Deck (upd H p o) d c n := D.kp (M := []) (Kp.new h) (by simp) (by simp)
theorem Deck.mut {H : Hp} {d c : Addr} {n : Nat} {p : Addr} {o : HO} (h1 : p ≠ d) (h2 : p ≠ c) (D : Deck H d c n) : Deck (upd H p o) d c n :=
  D.kp (M := [p]) (Kp.mut (by simp)) (by simpa using Ne.symm h1) (by simpa using Ne.symm h2)
theorem Deck.mono {H : Hp} {d c : Addr} {n m : Nat} (D : Deck H d c n) (h : n ≤ m) : Deck H d c m := by
  obtain ⟨⟨cs, a, b, t, e1, e2, e3⟩, ne⟩ := D
  exact ⟨⟨cs, a, b, t, e1, e2, Nat.le_trans e3 h⟩, ne⟩
theorem Deck.at {H : Hp} {d c : Addr} {n : Nat} (D : Deck H d c n) : (∃ xs, H d = some (.lst xs)) ∧ ∃ xs, H c = some (.lst xs) := by
  obtain ⟨⟨cs, a, b, t, e1, e2, e3⟩, ne⟩ := D
  exact ⟨⟨_, e1⟩, ⟨_, e2⟩⟩
theorem Deck.ne1 {H : Hp} {d c p : Addr} {n : Nat} (D : Deck H d c n) (h : H p = none) : p ≠ d ∧ p ≠ c := by
  obtain ⟨⟨xs, e1⟩, ys, e2⟩ := D.at
  exact ⟨(ne_of_none e1 h).symm, (ne_of_none e2 h).symm⟩
end FW

set_option Elab.async false
set_option linter.all false
set_option maxRecDepth 100000
set_option maxHeartbeats 4000000
/-! {key: value for a in as if .. for b in bs if ..}: a dict by two clauses, as a rule of the layer (my own: the layer has it for lists). -/
namespace FW
open PySem PySem.Spec PyProof.Rows L2
section
variable {kx vx ta ia tb ib : Expr} {fa fb : List Expr} {sc : Scope} {ps : Pos}
abbrev two (kx vx ta ia : Expr) (fa : List Expr) (tb ib : Expr) (fb : List Expr) (sc : Scope) (ps : Pos) : Expr := .DictComp kx vx [⟨ta, ia, fa, 0⟩, ⟨tb, ib, fb, 0⟩] sc ps
/-- the tests of a clause, one behind the other -/
abbrev testsOf2 (fs : List Expr) (env : Env) : Sem Bool := forIn fs true fun c r => if r = true then do let ok ← isTrue c env (eval c env); pure (ForInStep.yield ok) else pure (ForInStep.yield r)
theorem turn_first (it : Value) (D : Addr) (env : Env) : compTurn (two kx vx ta ia fa tb ib fb sc ps) 0 it (.ref D) env = (do
    standAt ia.pos
    match ← pyNext it with
    | none => pure (.done .next)
    | some u =>
      letOwnedTupleGo ta it u
      assign ta env u
      let mut good := true
      for c in fa do
        if good then good ← isTrue c env (eval c env)
      if good then
        let y ← eval ib env
        standAt ib.pos
        let y ← foldedSetIterable ib env y
        let _ ← runOwn (.compStart (two kx vx ta ia fa tb ib fb sc ps) 1 (← holding [y] (pyIter y)) (.ref D) env) env
      again (.compLoop (two kx vx ta ia fa tb ib fb sc ps) 0 it (.ref D) env)) := by rfl
theorem turn_second (it : Value) (D : Addr) (env : Env) : compTurn (two kx vx ta ia fa tb ib fb sc ps) 1 it (.ref D) env = (do
    standAt ib.pos
    match ← pyNext it with
    | none => pure (.done .next)
    | some u =>
      letOwnedTupleGo tb it u
      assign tb env u
      let mut good := true
      for c in fb do
        if good then good ← isTrue c env (eval c env)
      if good then
        (do
          let k ← eval kx env
          let v ← holding [k] (eval vx env)
          standAt { kx.pos with endLine := vx.pos.endLine, endCol := vx.pos.endCol }
          holding [k, v] (dictSet D k v))
      again (.compLoop (two kx vx ta ia fa tb ib fb sc ps) 1 it (.ref D) env)) := by rfl
variable {pg : Program} {wd : World} {A : Around} {R : Result → Shared → Prop} {st : Shared} {it : Value} {D : Addr} {env : Env}
/-- the first clause's loop; nothing raises in it -/
theorem loop_first (hf : ∀ y, foldedSetIterable ib env y = pure y) (G : Nat → Shared → Prop)
    (go : ∀ n z, G n z → wpAny (model pg wd) A (pyNext it) (fun r z1 => match r with
      | none => R (.ok .next) z1
      | some u => wpAny (model pg wd) A (letOwnedTupleGo ta it u) (fun _ z2 => wpAny (model pg wd) A (assign ta env u) (fun _ z3 => wpAny (model pg wd) A (testsOf2 fa env) (fun b z4 =>
          if b = true then wpAny (model pg wd) A (eval ib env) (fun y z5 => wpAny (model pg wd) A (pyIter y) (fun j z6 =>
            codeAny (model pg wd) A (.compStart (two kx vx ta ia fa tb ib fb sc ps) 1 j (.ref D) env) (fun r z7 => match r with
              | .ok _ => ∃ m, m < n ∧ G m z7
              | .error _ => False) z6) (fun _ _ => False) z5) (fun _ _ => False) z4
          else ∃ m, m < n ∧ G m z4) (fun _ _ => False) z3) (fun _ _ => False) z2) (fun _ _ => False) z1) (fun _ _ => False) z)
    (n : Nat) (h : G n st) : codeAny (model pg wd) A (.compLoop (two kx vx ta ia fa tb ib fb sc ps) 0 it (.ref D) env) R st := by
  refine codeAny_loop rfl G ?_ n h
  intro n z hz
  show wpAny _ A ((compTurn (two kx vx ta ia fa tb ib fb sc ps) 0 it (.ref D) env).onRaise _) _ _ z
  apply wpAny_noted
  rw [turn_first]
  apply wpAny_bind
  apply wpAny_standAt
  apply wpAny_bind
  refine thnF (go n z hz) fun r z1 h1 => ?_
  cases r with
  | none => exact wpAny_pure h1
  | some u =>
    apply wpAny_bind
    refine thnF h1 fun _ z2 h2 => ?_
    apply wpAny_bind
    refine thnF h2 fun _ z3 h3 => ?_
    apply wpAny_bind
    refine thnF h3 fun b z4 h4 => ?_
    cases b with
    | false => exact wpAny_pure ⟨rfl, h4⟩
    | true =>
      apply wpAny_bind
      refine thnF h4 fun y z5 h5 => ?_
      apply wpAny_bind
      apply wpAny_standAt
      apply wpAny_bind
      refine wpAny_of_eq (hf y) ?_
      apply wpAny_bind
      apply wpAny_holding
      refine thnF h5 fun j z6 h6 => ?_
      apply wpAny_bind
      refine wpAny_runOwn ?_
      rw [Around.mark_none]
      refine codeAny_mono h6 fun r z7 h7 => ?_
      cases r with
      | error _ => exact False.elim h7
      | ok _ => first | exact wpAny_pure ⟨rfl, h7⟩ | exact wpAny_bind (wpAny_pure (wpAny_pure ⟨rfl, h7⟩))
/-- the second clause's loop -/
theorem loop_second (G : Nat → Shared → Prop)
    (go : ∀ n z, G n z → wpAny (model pg wd) A (pyNext it) (fun r z1 => match r with
      | none => R (.ok .next) z1
      | some u => wpAny (model pg wd) A (letOwnedTupleGo tb it u) (fun _ z2 => wpAny (model pg wd) A (assign tb env u) (fun _ z3 => wpAny (model pg wd) A (testsOf2 fb env) (fun b z4 =>
          if b = true then wpAny (model pg wd) A (eval kx env) (fun k z5 => wpAny (model pg wd) A (eval vx env) (fun v z6 => wpAny (model pg wd) A (dictSet D k v) (fun _ z7 => ∃ m, m < n ∧ G m z7) (fun _ _ => False) z6) (fun _ _ => False) z5) (fun _ _ => False) z4
          else ∃ m, m < n ∧ G m z4) (fun _ _ => False) z3) (fun _ _ => False) z2) (fun _ _ => False) z1) (fun _ _ => False) z)
    (n : Nat) (h : G n st) : codeAny (model pg wd) A (.compLoop (two kx vx ta ia fa tb ib fb sc ps) 1 it (.ref D) env) R st := by
  refine codeAny_loop rfl G ?_ n h
  intro n z hz
  show wpAny _ A ((compTurn (two kx vx ta ia fa tb ib fb sc ps) 1 it (.ref D) env).onRaise _) _ _ z
  apply wpAny_noted
  rw [turn_second]
  apply wpAny_bind
  apply wpAny_standAt
  apply wpAny_bind
  refine thnF (go n z hz) fun r z1 h1 => ?_
  cases r with
  | none => exact wpAny_pure h1
  | some u =>
    apply wpAny_bind
    refine thnF h1 fun _ z2 h2 => ?_
    apply wpAny_bind
    refine thnF h2 fun _ z3 h3 => ?_
    apply wpAny_bind
    refine thnF h3 fun b z4 h4 => ?_
    cases b with
    | false => exact wpAny_pure ⟨rfl, h4⟩
    | true =>
      apply wpAny_bind
      apply wpAny_bind
      refine thnF h4 fun k z5 h5 => ?_
      apply wpAny_bind
      apply wpAny_holding
      refine thnF h5 fun v z6 h6 => ?_
      apply wpAny_bind
      apply wpAny_standAt
      apply wpAny_holding
      exact thnF h6 fun _ z7 h7 => wpAny_pure ⟨rfl, h7⟩
/-- the second clause begins -/
theorem start_second (h0 : codeAny (model pg wd) A (.compLoop (two kx vx ta ia fa tb ib fb sc ps) 1 it (.ref D) env) R st)
    (h1 : wpAny (model pg wd) A (pyIter it) (fun j z => codeAny (model pg wd) A (.compLoop (two kx vx ta ia fa tb ib fb sc ps) 1 j (.ref D) env) R z) (notedBy (model pg wd) A env fun x z => R (.error x) z) st) :
    codeAny (model pg wd) A (.compStart (two kx vx ta ia fa tb ib fb sc ps) 1 it (.ref D) env) R st := by
  apply codeAny_of_tree
  show wpAny _ _ ((compStart (two kx vx ta ia fa tb ib fb sc ps) 1 it (.ref D) env).onRaise _) _ _ st
  apply wpAny_notedAt
  unfold compStart
  show wpAny _ _ (ask >>= _) _ _ st
  apply wpAny_bind
  apply wpAny_askSetting
  apply wpAny_ite
  split
  · first | exact wpAny_bind (wpAny_pure (wpAny_pure ⟨rfl, h0⟩)) | exact wpAny_pure ⟨rfl, h0⟩
  · apply wpAny_bind
    apply wpAny_rule
    show wpAny _ _ (standAt ib.pos >>= _) _ _ st
    apply wpAny_bind
    apply wpAny_standAt
    apply wpAny_bind
    exact wpAny_mono h1 (fun _ _ q => wpAny_pure ⟨rfl, q⟩) fun _ _ q => q
end
section
variable {X : Cx} {kx vx ta ia tb ib : Expr} {fa fb : List Expr} {sc : Scope} {ps qs : Pos} {own : List (Str × Nat)} {us : List Nat} {wa wb : TI} {ga gb : TG} {ra rb : TT} {tk tv : TE}
/-- the inner walk of one turn: from it Nx is reached -/
def Inner2 (J : It) (gb : TG) (rb : TT) (tk tv : TE) (us : List Nat) (D : Addr) (σ : L2.St) (H : Hp) (Nx : Hp → Prop) : Prop := ∃ W : Nat → Nat → Hp → Prop, (∃ m, W 0 m H) ∧ ∀ j k H1, W j k H1 →
  (J.stop j H1 ∧ Nx H1) ∨ (J.go j H1 ∧ ∃ Ny : Hp → Prop, (∀ H2, Ny H2 → ∃ k', k' < k ∧ W (j + 1) k' H2) ∧ ∀ x H2, J.yld j H1 x H2 → gb x (wipe σ us) H2 fun σ3 H3 => wipe σ3 us = wipe σ us ∧ rb σ3 H3 fun b H4 =>
    if b = true then tk σ3 H4 fun y H5 => tv σ3 H5 fun z H6 => ∃ kvs key, y = kV key ∧ H6 D = some (.dK kvs) ∧ kvs.length < sizeLine ∧ Ny (upd H6 D (.dK (putK kvs key z))) else Ny H4)
/-- the whole -/
def tDc2 (wa : TI) (ga : TG) (ra : TT) (wb : TI) (gb : TG) (rb : TT) (tk tv : TE) (os us : List Nat) : TE := fun σ H Q => wa σ H fun J H1 => ∀ D, H1 D = none → ∃ W : Nat → Nat → Hp → Prop, (∃ m, W 0 m (upd H1 D (.dK []))) ∧ ∀ i m H2, W i m H2 →
  (J.stop i H2 ∧ Q (.ref D) H2) ∨ (J.go i H2 ∧ ∃ Nx : Hp → Prop, (∀ H3, Nx H3 → ∃ m', m' < m ∧ W (i + 1) m' H3) ∧ ∀ x H3, J.yld i H2 x H3 → ga x (wipe σ os) H3 fun σ2 H4 => wipe σ2 os = wipe σ os ∧ ra σ2 H4 fun b H5 =>
    if b = true then wb σ2 H5 fun J1 H6 => Inner2 J1 gb rb tk tv us D σ2 H6 Nx else Nx H5)
theorem dc2_run {pins : List (Addr × Obj)} {s : Shared} {σ : L2.St} {H : Hp} {Q : VK} {use : Option (Value → Sem Unit)} {Qf : Value → Shared → Prop}
    (calm : X.calm = true) (nd : X.N.Nodup) (I : Inv X pins σ H s) (pa : PI X ta ia wa) (ok : BlkOk X.N X.env.scope sc own) (sub : ∀ i ∈ us, i ∈ own.map (·.2))
    (pga : ∀ z G C cl fp, PG (X.blk z G sc (compEnvC sc cl C X.env) fp) ta ga) (pra : ∀ z G C cl fp, PTs (X.blk z G sc (compEnvC sc cl C X.env) fp) fa ra)
    (pb : ∀ z G C cl fp, PI (X.blk z G sc (compEnvC sc cl C X.env) fp) tb ib wb) (pgb : ∀ z G C cl fp, PG (X.blk z G sc (compEnvC sc cl C X.env) fp) tb gb) (prb : ∀ z G C cl fp, PTs (X.blk z G sc (compEnvC sc cl C X.env) fp) fb rb)
    (pk : ∀ z G C cl fp, PE (X.blk z G sc (compEnvC sc cl C X.env) fp) kx tk) (pv' : ∀ z G C cl fp, PE (X.blk z G sc (compEnvC sc cl C X.env) fp) vx tv)
    (hfa : ∀ y, foldedSetIterable ia X.env y = pure y) (hfb : ∀ env y, foldedSetIterable ib env y = pure y)
    (h : tDc2 wa ga ra wb gb rb tk tv (own.map (·.2)) us σ H Q)
    (fin : ∀ D C z m H', Inv X pins σ H' z → Q (.ref D) H' → z.heap.Ns C m → FpOk X pins H' C → compPost (model X.prog X.w) X.A X.xe use Qf (.ref D) C (.ok .next) z) :
    wpAny (model X.prog X.w) X.A (comprehension (two kx vx ta ia fa tb ib fb sc ps) sc X.env qs newDict false (eval ia X.env) use) Qf X.xe s := by
  have cellsOk : ∀ y ∈ sc.names, y.2 = .free → ∃ c, X.env.cells.lookup y.1 = some c := by
    intro y hy e
    rcases ok.free y hy e with k | k
    · exact I.ok.has _ (.inl k)
    · exact I.ok.has _ (.inr k)
  refine wpAny_comprehension_free (use := use) rfl hfa (closure_ok cellsOk) ok.kind (fun y hy e => by rw [ok.uniq y hy, e]) ?_
  refine thn (pa.run pins s σ H _ I h) fun _ _ hx => thn hx fun _ z2 hz2 => ?_
  obtain ⟨it, fp, tn, J, G2, rfl, I2, T, at2, far2, q⟩ := hz2
  refine wpAny_newObj_type (newEnv_comp ?_)
  -- the new dict stands at D
  obtain ⟨D, hD⟩ : ∃ D, D = z2.heap.objs.size := ⟨_, rfl⟩
  rw [← hD]
  have freeD : G2 D = none := I2.hok.fresh (Nat.le_of_eq hD.symm)
  obtain ⟨W, ⟨m0, w0⟩, turn⟩ := q D freeD
  obtain ⟨z3, e3⟩ : ∃ z3 : Shared, z3 = { z2 with heap := z2.heap.push { cls := .type "dict", data := .dict #[] } } := ⟨_, rfl⟩
  have h3 : z3.heap = z2.heap.push { cls := .type "dict", data := .dict #[] } := by rw [e3]
  have I3 : Inv X pins σ (upd G2 D (.dK [])) z3 := by
    rw [e3]
    refine I2.laid (t' := z2.toks) (fun _ _ e => Heap.get?_push_of_some _ e) (Nat.le_of_eq hD.symm) ?_
    rw [hD]
    exact dk_empty z2.heap I2.big
  have small : ∀ b ∈ fp, b < z2.heap.objs.size := by
    intro b hb
    obtain ⟨_, e, _⟩ := T.obj _ _ at2 b hb
    exact Heap.lt_size e
  have far3 : ∀ b ∈ fp, FpOk X pins (upd G2 D (.dK [])) b ∧ b < z3.heap.objs.size := by
    intro b hb
    have lt := small b hb
    constructor
    · refine ⟨?_, (far2 b hb).2⟩
      rw [upd_ne (by rw [hD]; exact Nat.ne_of_lt lt)]
      exact (far2 b hb).1
    · rw [h3, Heap.size_push]
      exact Nat.lt_succ_of_lt lt
  have at3 : tn 0 z3.heap := T.keep _ _ _ at2 fun _ _ _ e => by rw [h3]; exact Heap.get?_push_of_some _ e
  have I4 := block_start I3 ok nd far3
  -- the block's frame
  obtain ⟨cl, hcl⟩ : ∃ cl, cl = cellsFrom (z3.heap.objs.size + 1) sc.names (cloFrom X.env.cells sc.names []) := ⟨_, rfl⟩
  rw [← hcl] at I4
  have gA := pga z3 (upd G2 D (.dK [])) z3.heap.objs.size cl fp
  have tA := pra z3 (upd G2 D (.dK [])) z3.heap.objs.size cl fp
  have iB := pb z3 (upd G2 D (.dK [])) z3.heap.objs.size cl fp
  have gB := pgb z3 (upd G2 D (.dK [])) z3.heap.objs.size cl fp
  have tB := prb z3 (upd G2 D (.dK [])) z3.heap.objs.size cl fp
  have eK := pk z3 (upd G2 D (.dK [])) z3.heap.objs.size cl fp
  have eV := pv' z3 (upd G2 D (.dK [])) z3.heap.objs.size cl fp
  show codeAny _ _ (.compStart (two kx vx ta ia fa tb ib fb sc ps) 0 (.ref it) (.ref D) (compEnvC sc (cellsFrom (({ z2 with heap := z2.heap.push { cls := .type "dict", data := .dict #[] } } : Shared).heap.objs.size + 1) sc.names (cloFrom X.env.cells sc.names [])) ({ z2 with heap := z2.heap.push { cls := .type "dict", data := .dict #[] } } : Shared).heap.objs.size X.env))
    (compPost (model X.prog X.w) X.A X.xe use Qf (.ref D) ({ z2 with heap := z2.heap.push { cls := .type "dict", data := .dict #[] } } : Shared).heap.objs.size) { ({ z2 with heap := z2.heap.push { cls := .type "dict", data := .dict #[] } } : Shared) with heap := pushCells (({ z2 with heap := z2.heap.push { cls := .type "dict", data := .dict #[] } } : Shared).heap.push { cls := .type "dict", data := .dict #[] }) sc.names }
  rw [← e3, ← hcl]
  have none3 : ∀ b ∈ fp, (upd G2 D (.dK [])) b = none := fun b hb => (far3 b hb).1.1
  obtain ⟨ev, hev⟩ : ∃ ev, ev = compEnvC sc cl z3.heap.objs.size X.env := ⟨_, rfl⟩
  rw [← hev] at I4 gA tA iB gB tB eK eV ⊢
  have evL : ev.locals = z3.heap.objs.size := by rw [hev]; rfl
  obtain ⟨G3, hG3⟩ : ∃ G3, G3 = upd G2 D (.dK []) := ⟨_, rfl⟩
  rw [← hG3] at I3 I4 gA tA iB gB tB eK eV w0 none3 far3
  obtain ⟨z4, e4⟩ : ∃ z4 : Shared, z4 = { z3 with heap := pushCells (z3.heap.push { cls := .type "dict", data := .dict #[] }) sc.names } := ⟨_, rfl⟩
  rw [← e4] at I4 ⊢
  have at4 : tn 0 z4.heap := T.keep _ _ _ at3 fun _ _ _ e => by rw [e4]; exact pushCells_keeps _ _ _ _ (Heap.get?_push_of_some _ e)
  have aside : ∀ {σ' : L2.St} {G : Hp} {z : Shared}, Inv (X.blk z3 G3 sc ev fp) [] σ' G z → (∀ b ∈ fp, G b = none) → ∀ b ∈ fp, FpOk (X.blk z3 G3 sc ev fp) [] G b := by
    intro σ' G z J' hn b hb
    exact ⟨hn b hb, (J'.ok.exf b hb).1, J'.ok.exfs b hb, .inl hb, fun x c e => (J'.ok.exf b hb).2 x c e, fun p hp => absurd (show p ∈ ([] : List (Addr × Obj)) ++ [] from hp) (by simp)⟩
  have whole : codeAny (model X.prog X.w) X.A (.compLoop (two kx vx ta ia fa tb ib fb sc ps) 0 (.ref it) (.ref D) ev) (compPost (model X.prog X.w) X.A X.xe use Qf (.ref D) z3.heap.objs.size) z4 := by
    refine loop_first (hfb ev) (fun n z => ∃ i G, Inv (X.blk z3 G3 sc ev fp) [] (wipe σ (own.map (·.2))) G z ∧ tn i z.heap ∧ (∀ b ∈ fp, G b = none) ∧ W i n G) ?_ m0 ⟨0, G3, I4, at4, none3, w0⟩
    rintro n z5 ⟨i, G5, I5, at5, none5, w5⟩
    rcases turn i n G5 w5 with ⟨stop, qq⟩ | ⟨goes, Nx, hNx, step⟩
    · refine thnF (T.done (X.blk z3 G3 sc ev fp) rfl rfl rfl calm i [] z5 _ G5 (fun _ _ => False) I5 (aside I5 none5) at5 stop) ?_
      rintro r z6 ⟨rfl, I6⟩
      have I7 : Inv X pins σ G5 z6 := I3.call' (ch := fp) I6.os I6.base I6.hok I6.bare fun b hb =>
        let f := (far3 b hb).1
        ⟨f.2.2.2.1, f.2.1, f.2.2.2.2.1, f.2.2.2.2.2⟩
      have noC : G5 z3.heap.objs.size = none := by
        have y : G5 ev.locals = none := I6.free
        rw [evL] at y
        exact y
      obtain ⟨m, hn, _⟩ := I6.loc
      have hn' : z6.heap.Ns ev.locals m := hn
      rw [evL] at hn'
      exact fin D _ z6 m G5 I7 qq hn' (I3.fpOk (Nat.le_refl _) noC)
    · refine thnF (T.item (X.blk z3 G3 sc ev fp) rfl rfl rfl calm i [] z5 _ G5 (fun _ _ => False) I5 (aside I5 none5) at5 goes) ?_
      rintro r z6 ⟨u, rfl, h6⟩
      refine thnF h6 ?_
      rintro _ z7 ⟨x, G7, I7, r7, y7, at7, none7⟩
      refine thnF (gA.run _ z7 _ G7 x u _ (I7.pinned (aside I7 none7) (T.obj _ _ at7)) r7 (step x G7 y7)) ?_
      rintro _ z8 ⟨σ8, G8, I8, hw8, q8⟩
      refine thnF (tA.run _ z8 σ8 G8 _ I8 q8) ?_
      rintro b z9 ⟨G9, I9, q9⟩
      -- one turn of the first clause is over
      have over : ∀ {σ9 : L2.St} {z : Shared} {G : Hp}, Inv (X.blk z3 G3 sc ev fp) ([] ++ pinsAt fp z7.heap) σ9 G z → (wipe σ (own.map (·.2))).length = σ9.length → (∀ (j : Nat) v, (wipe σ (own.map (·.2)))[j]? = some (some v) → σ9[j]? = some (some v)) → Nx G →
          ∃ m, m < n ∧ ∃ i G, Inv (X.blk z3 G3 sc ev fp) [] (wipe σ (own.map (·.2))) G z ∧ tn i z.heap ∧ (∀ b ∈ fp, G b = none) ∧ W i m G := by
        intro σ9 z G I' hl hk nx
        obtain ⟨m', lt, w'⟩ := hNx G nx
        have pins' : ∀ b ∈ fp, ∀ o, z7.heap.get? b = some o → z.heap.get? b = some o ∧ G b = none := by
          intro b hb o e
          have y := I'.pin (b, o) (List.mem_append_right _ (List.mem_append_right _ (mem_pinsAt hb e)))
          exact ⟨y.1, y.2.1⟩
        refine ⟨m', lt, i + 1, G, (I'.unpinned (pins := [])).weak hl hk, T.keep _ _ _ at7 (fun b hb o e => (pins' b hb o e).1), ?_, w'⟩
        intro b hb
        obtain ⟨o, e, _⟩ := T.obj _ _ at7 b hb
        exact (pins' b hb o e).2
      have len8 : (wipe σ (own.map (·.2))).length = σ8.length := by rw [← hw8, wipe_length]
      cases b with
      | false =>
        have q9' : Nx G9 := q9
        show ∃ m, m < n ∧ _
        exact over I9 len8 (fun j v e => by rw [← hw8] at e; exact (wipe_some e).1) q9'
      | true =>
        have q9' : wb σ8 G9 fun J1 H6 => Inner2 J1 gb rb tk tv us D σ8 H6 Nx := q9
        show wpAny _ _ (eval ib ev) _ _ z9
        refine thnF (iB.run _ z9 σ8 G9 _ I9 q9') fun _ _ hx => thnF hx ?_
        rintro _ z11 ⟨it1, fp1, tn1, J1, G11, rfl, I11, T1, at11, far11, W1, ⟨m1, w1⟩, turn1⟩
        have aside1 : ∀ {G : Hp}, (∀ b ∈ fp1, G b = none) → ∀ b ∈ fp1, FpOk (X.blk z3 G3 sc ev fp) ([] ++ pinsAt fp z7.heap) G b := fun hn b hb => ⟨hn b hb, (far11 b hb).2⟩
        have inner : codeAny (model X.prog X.w) X.A (.compLoop (two kx vx ta ia fa tb ib fb sc ps) 1 (.ref it1) (.ref D) ev) (fun r z => match r with
            | .ok _ => ∃ m, m < n ∧ ∃ i G, Inv (X.blk z3 G3 sc ev fp) [] (wipe σ (own.map (·.2))) G z ∧ tn i z.heap ∧ (∀ b ∈ fp, G b = none) ∧ W i m G
            | .error _ => False) z11 := by
          refine loop_second (fun k z => ∃ j G, Inv (X.blk z3 G3 sc ev fp) ([] ++ pinsAt fp z7.heap) (wipe σ8 us) G z ∧ tn1 j z.heap ∧ (∀ b ∈ fp1, G b = none) ∧ W1 j k G) ?_ m1 ⟨0, G11, I11.weak (wipe_length _ _) (fun j v e => (wipe_some e).1), at11, fun b hb => (far11 b hb).1, w1⟩
          rintro k z12 ⟨j, G12, I12, at12, none12, w12⟩
          rcases turn1 j k G12 w12 with ⟨stop1, nx1⟩ | ⟨goes1, Ny, hNy, step1⟩
          · refine thnF (T1.done (X.blk z3 G3 sc ev fp) rfl rfl rfl calm j _ z12 (wipe σ8 us) G12 (fun _ _ => False) I12 (aside1 none12) at12 stop1) ?_
            rintro r z13 ⟨rfl, I13⟩
            refine over I13 (len8.trans (wipe_length σ8 us).symm) ?_ nx1
            intro j' v e
            rw [← hw8] at e
            obtain ⟨e1, e2⟩ := wipe_some e
            rw [wipe_out fun y => e2 (sub j' y)]
            exact e1
          · refine thnF (T1.item (X.blk z3 G3 sc ev fp) rfl rfl rfl calm j _ z12 (wipe σ8 us) G12 (fun _ _ => False) I12 (aside1 none12) at12 goes1) ?_
            rintro r z13 ⟨u1, rfl, h13⟩
            refine thnF h13 ?_
            rintro _ z14 ⟨x1, G14, I14, r14, y14, at14, none14⟩
            refine thnF (gB.run _ z14 (wipe σ8 us) G14 x1 u1 _ (I14.pinned (aside1 none14) (T1.obj _ _ at14)) r14 (step1 x1 G14 y14)) ?_
            rintro _ z15 ⟨σ15, G15, I15, hw15, q15⟩
            refine thnF (tB.run _ z15 σ15 G15 _ I15 q15) ?_
            rintro b1 z16 ⟨G16, I16, q16⟩
            have over1 : ∀ {z : Shared} {G : Hp}, Inv (X.blk z3 G3 sc ev fp) (([] ++ pinsAt fp z7.heap) ++ pinsAt fp1 z14.heap) σ15 G z → Ny G → ∃ m, m < k ∧ ∃ j G, Inv (X.blk z3 G3 sc ev fp) ([] ++ pinsAt fp z7.heap) (wipe σ8 us) G z ∧ tn1 j z.heap ∧ (∀ b ∈ fp1, G b = none) ∧ W1 j m G := by
              intro z G I' nx
              obtain ⟨m', lt, w'⟩ := hNy G nx
              have pins' : ∀ b ∈ fp1, ∀ o, z14.heap.get? b = some o → z.heap.get? b = some o ∧ G b = none := by
                intro b hb o e
                have y := I'.pin (b, o) (List.mem_append_right _ (List.mem_append_right _ (mem_pinsAt hb e)))
                exact ⟨y.1, y.2.1⟩
              refine ⟨m', lt, j + 1, G, I'.unpinned.weak (by rw [← hw15, wipe_length]) (fun j v e => by rw [← hw15] at e; exact (wipe_some e).1), T1.keep _ _ _ at14 (fun b hb o e => (pins' b hb o e).1), ?_, w'⟩
              intro b hb
              obtain ⟨o, e, _⟩ := T1.obj _ _ at14 b hb
              exact (pins' b hb o e).2
            cases b1 with
            | false =>
              have q16' : Ny G16 := q16
              show ∃ m, m < k ∧ _
              exact over1 I16 q16'
            | true =>
              have q16' : tk σ15 G16 fun y H5 => tv σ15 H5 fun z H6 => ∃ kvs key, y = kV key ∧ H6 D = some (.dK kvs) ∧ kvs.length < sizeLine ∧ Ny (upd H6 D (.dK (putK kvs key z))) := q16
              show wpAny _ _ (eval kx ev) _ _ z16
              refine thnF (eK.run _ z16 σ15 G16 _ I16 q16') ?_
              rintro _ z17 ⟨yk, G17, I17, r17, q17⟩
              refine thnF (eV.run _ z17 σ15 G17 _ I17 q17) ?_
              rintro _ z18 ⟨yv, G18, I18, r18, kvs, key, rfl, hD18, lt18, nx⟩
              exact d_dictSet (X := X.blk z3 G3 sc ev fp) I18 hD18 lt18 r17 r18 fun _ I19 => over1 I19 nx
        exact start_second inner (T1.self X.A 0 _ _ _ at11 inner)
  exact codeAny_compStart_dict whole (T.self X.A 0 _ _ _ at4 whole)
/-- name = {..}, the name a local of the def -/
theorem ps_setDc2 {i : Nat} {y : Str} {py spos : Pos} (calm : X.calm = true) (nd : X.N.Nodup) (hy : X.N[i]? = some y) (hyl : X.env.scope.names.lookup y = some .local)
    (hsw : swapsWith (two kx vx ta ia fa tb ib fb sc ps) (some (.Name y py)) spos.line X.env = pure true)
    (pa : PI X ta ia wa) (ok : BlkOk X.N X.env.scope sc own) (sub : ∀ i ∈ us, i ∈ own.map (·.2))
    (pga : ∀ z G C cl fp, PG (X.blk z G sc (compEnvC sc cl C X.env) fp) ta ga) (pra : ∀ z G C cl fp, PTs (X.blk z G sc (compEnvC sc cl C X.env) fp) fa ra)
    (pb : ∀ z G C cl fp, PI (X.blk z G sc (compEnvC sc cl C X.env) fp) tb ib wb) (pgb : ∀ z G C cl fp, PG (X.blk z G sc (compEnvC sc cl C X.env) fp) tb gb) (prb : ∀ z G C cl fp, PTs (X.blk z G sc (compEnvC sc cl C X.env) fp) fb rb)
    (pk : ∀ z G C cl fp, PE (X.blk z G sc (compEnvC sc cl C X.env) fp) kx tk) (pv' : ∀ z G C cl fp, PE (X.blk z G sc (compEnvC sc cl C X.env) fp) vx tv)
    (hfa : ∀ y, foldedSetIterable ia X.env y = pure y := by intro _; rfl) (hfb : ∀ env y, foldedSetIterable ib env y = pure y := by intro _ _; rfl) :
    PS X (.Assign [.Name y py] (two kx vx ta ia fa tb ib fb sc ps) spos) (tAsg (tDc2 wa ga ra wb gb rb tk tv (own.map (·.2)) us) (gName i)) := by
  constructor
  intro pins s σ H Ed I h
  rw [exec_Assign_Name_used y py _ _ hsw]
  apply wpAny_bind
  apply wpAny_standAt
  apply wpAny_bind
  show wpAny _ X.A (comprehension (two kx vx ta ia fa tb ib fb sc ps) sc X.env (firstIterPos [⟨ta, ia, fa, 0⟩, ⟨tb, ib, fb, 0⟩] ps) newDict false (eval ia X.env) (some (assign (.Name y py) X.env)) >>= fun _ => pure ()) _ _ s
  apply wpAny_bind
  have h' : tDc2 wa ga ra wb gb rb tk tv (own.map (·.2)) us σ H (fun x H1 => gName i x σ H1 Ed.nx) := h
  refine thn (dc2_run (Qf := fun _ s1 => SP X pins Ed .next s1) calm nd I pa ok sub pga pra pb pgb prb pk pv' hfa hfb h' ?_) (fun _ _ z => wpAny_pure (wpAny_pure z))
  intro L C s1 m H1 I1 q hn ff
  obtain ⟨f0, f1, f2, f3, f4, f5⟩ := ff
  show wpAny _ _ (assign (.Name y py) X.env (.ref L)) _ _ _
  apply wpAny_assign_Name
  refine store_ok2 (v := V.ref L) I1 nd hy (.inl hyl) rfl ?_ (.inr hyl)
  rintro s2 I2 ⟨ad, sb, had⟩
  have hne : C ≠ ad := by
    rcases had with hz | hz
    · exact fun e => f1 (e.trans hz)
    · exact fun e => f4 y ad hz e.symm
  refine ⟨m, hn.sameBut sb hne, fun h3 sb3 => ⟨_, H1, ?_, q⟩⟩
  exact I2.turned (t' := s2.toks) (fun b o hb e => (sb3.2 b hb).trans e) f0 f1 f3 f4 f5
theorem pi_listK {K : PySem.W.Frag} {l tg : Expr} {tl : TE} (hK : X.K = K) (hl : PE X l tl) : PI X tg l (iList K tl) := hK ▸ pi_list hl
theorem pi_tupK {K : PySem.W.Frag} {l tg : Expr} {tl : TE} (hK : X.K = K) (hl : PE X l tl) : PI X tg l (iTup K tl) := hK ▸ pi_tup hl
end
/-! ### its steps -/
section
variable {K : PySem.W.Frag} {σ : L2.St} {H : Hp} {Q : VK}
def Dc2P (J : It) (ga : TG) (ra : TT) (wb : TI) (gb : TG) (rb : TT) (tk tv : TE) (os us : List Nat) (Q : VK) (σ : L2.St) (H1 : Hp) : Prop := ∀ D, H1 D = none → ∃ W : Nat → Nat → Hp → Prop, (∃ m, W 0 m (upd H1 D (.dK []))) ∧ ∀ i m H2, W i m H2 →
  (J.stop i H2 ∧ Q (.ref D) H2) ∨ (J.go i H2 ∧ ∃ Nx : Hp → Prop, (∀ H3, Nx H3 → ∃ m', m' < m ∧ W (i + 1) m' H3) ∧ ∀ x H3, J.yld i H2 x H3 → ga x (wipe σ os) H3 fun σ2 H4 => wipe σ2 os = wipe σ os ∧ ra σ2 H4 fun b H5 =>
    if b = true then wb σ2 H5 fun J1 H6 => Inner2 J1 gb rb tk tv us D σ2 H6 Nx else Nx H5)
theorem w_dc2 {wa wb : TI} {ga gb : TG} {ra rb : TT} {tk tv : TE} {os us : List Nat} (h : wa σ H fun J H1 => Dc2P J ga ra wb gb rb tk tv os us Q σ H1) : tDc2 wa ga ra wb gb rb tk tv os us σ H Q := h
theorem dc2_it {J : It} {n : Nat} {G : Hp → Prop} {Y : Nat → Hp → V → Hp → Prop} (w : Walk J n G Y) {wb : TI} {ga gb : TG} {ra rb : TT} {tk tv : TE} {os us : List Nat} (Pv : Addr → Nat → Hp → Prop) (h0 : ∀ D, H D = none → Pv D 0 (upd H D (.dK []))) (hG : ∀ D i H1, i ≤ n → Pv D i H1 → G H1)
    (hs : ∀ D i x H1 H2, H D = none → i < n → Pv D i H1 → Y i H1 x H2 → ga x (wipe σ os) H2 fun σ2 H4 => wipe σ2 os = wipe σ os ∧ ra σ2 H4 fun b H5 => if b = true then wb σ2 H5 fun J1 H6 => Inner2 J1 gb rb tk tv us D σ2 H6 (Pv D (i + 1)) else Pv D (i + 1) H5)
    (hd : ∀ D H1, H D = none → Pv D n H1 → Q (.ref D) H1) : Dc2P J ga ra wb gb rb tk tv os us Q σ H := by
  intro D hD
  refine ⟨fun i m H1 => m = n - i ∧ i ≤ n ∧ Pv D i H1, ⟨n, by simp, Nat.zero_le _, h0 D hD⟩, ?_⟩
  rintro i m H1 ⟨rfl, hi, p⟩
  by_cases lt : i < n
  · exact .inr ⟨w.goes i H1 lt (hG D i H1 hi p), Pv D (i + 1), fun H3 q => ⟨n - (i + 1), by omega, rfl, lt, q⟩, fun x H2 y => hs D i x H1 H2 hD lt p (w.yields i H1 x H2 lt (hG D i H1 hi p) y)⟩
  · have e : i = n := by omega
    subst e
    exact .inl ⟨w.stops H1 (hG D i H1 hi p), hd D H1 hD p⟩
theorem inner_it {J : It} {n : Nat} {G : Hp → Prop} {Y : Nat → Hp → V → Hp → Prop} (w : Walk J n G Y) {gb : TG} {rb : TT} {tk tv : TE} {us : List Nat} {D : Addr} {Nx : Hp → Prop} (Pv : Nat → Hp → Prop) (h0 : Pv 0 H) (hG : ∀ i H1, i ≤ n → Pv i H1 → G H1)
    (hs : ∀ i x H1 H2, i < n → Pv i H1 → Y i H1 x H2 → gb x (wipe σ us) H2 fun σ3 H3 => wipe σ3 us = wipe σ us ∧ rb σ3 H3 fun b H4 =>
      if b = true then tk σ3 H4 fun y H5 => tv σ3 H5 fun z H6 => ∃ kvs key, y = kV key ∧ H6 D = some (.dK kvs) ∧ kvs.length < sizeLine ∧ Pv (i + 1) (upd H6 D (.dK (putK kvs key z))) else Pv (i + 1) H4)
    (hd : ∀ H1, Pv n H1 → Nx H1) : Inner2 J gb rb tk tv us D σ H Nx := by
  refine ⟨fun i m H1 => m = n - i ∧ i ≤ n ∧ Pv i H1, ⟨n, by simp, Nat.zero_le _, h0⟩, ?_⟩
  rintro i m H1 ⟨rfl, hi, p⟩
  by_cases lt : i < n
  · exact .inr ⟨w.goes i H1 lt (hG i H1 hi p), Pv (i + 1), fun H3 q => ⟨n - (i + 1), by omega, rfl, lt, q⟩, fun x H2 y => hs i x H1 H2 lt p (w.yields i H1 x H2 lt (hG i H1 hi p) y)⟩
  · have e : i = n := by omega
    subst e
    exact .inl ⟨w.stops H1 (hG i H1 hi p), hd H1 p⟩
/-- a comprehension with a test: the turn i gives sel i, or nothing -/
theorem lcp_sel {J : It} {n : Nat} {G : Hp → Prop} {Y : Nat → Hp → V → Hp → Prop} (w : Walk J n G Y) {g : TG} {tt : TT} {te : TE} {vs : List Nat} (M : List Addr) (sel : Nat → Option V) (hz : n ≤ 1000000) (hG : ∀ H', Kp M H H' → G H')
    (hs : ∀ i x H1 H2 (R : V → Hp → Prop) (R0 : Hp → Prop), i < n → Kp M H H1 → Y i H1 x H2 → (∀ y H4, sel i = some y → Kp M H1 H4 → R y H4) → (∀ H4, sel i = none → Kp M H1 H4 → R0 H4) → g x (wipe σ vs) H2 fun σ2 H3 => wipe σ2 vs = wipe σ vs ∧ tt σ2 H3 fun b H4 => if b = true then te σ2 H4 R else R0 H4)
    (hM : ∀ b ∈ M, ∃ o, H b = some o)
    (hd : ∀ D H', H D = none → Kp M H H' → H' D = some (.lst ((List.range n).filterMap sel)) → Q (.ref D) H') : LcP J g tt te vs Q σ H := by
  intro D hD
  have hDM : D ∉ M := fun z => by obtain ⟨o, e⟩ := hM D z; rw [hD] at e; cases e
  refine lc_it w (fun i H' => Kp M H H' ∧ H' D = some (.lst ((List.range i).filterMap sel))) ⟨Kp.new hD, upd_same⟩ (fun i H' _ z => hG H' z.1) ?_ ?_
  · rintro i x H1 H2 hi ⟨k1, e1⟩ y
    refine hs i x H1 H2 _ _ hi k1 y ?_ ?_
    · intro z H4 hz' k4
      refine ⟨_, k4 _ _ hDM e1, ?_, (k1.trans k4).mutN hD, ?_⟩
      · refine Nat.lt_of_le_of_lt (List.length_filterMap_le _ _) ?_
        rw [List.length_range]
        exact Nat.lt_of_lt_of_le (Nat.lt_of_lt_of_le hi hz) (by decide)
      · rw [upd_same, List.range_succ, List.filterMap_append]
        simp [hz']
    · intro H4 hz' k4
      refine ⟨k1.trans k4, ?_⟩
      rw [k4 _ _ hDM e1, List.range_succ, List.filterMap_append]
      simp [hz']
  · rintro H' ⟨k, e⟩
    exact hd D H' hD k e
/-- {k: v for .. if ..}: the turn i puts sel i, or nothing -/
theorem dcp_sel {J : It} {n : Nat} {G : Hp → Prop} {Y : Nat → Hp → V → Hp → Prop} (w : Walk J n G Y) {g : TG} {tt : TT} {tk tv : TE} {vs : List Nat} (M : List Addr) (sel : Nat → Option (Key × V)) (hz : n ≤ 1000000) (hG : ∀ H', Kp M H H' → G H')
    (hs : ∀ i x H1 H2 (R : V → V → Hp → Prop) (R0 : Hp → Prop), i < n → Kp M H H1 → Y i H1 x H2 → (∀ e H4, sel i = some e → Kp M H1 H4 → R (kV e.1) e.2 H4) → (∀ H4, sel i = none → Kp M H1 H4 → R0 H4) → g x (wipe σ vs) H2 fun σ2 H3 => wipe σ2 vs = wipe σ vs ∧ tt σ2 H3 fun b H4 => if b = true then tk σ2 H4 fun y H5 => tv σ2 H5 fun z H6 => R y z H6 else R0 H4)
    (hM : ∀ b ∈ M, ∃ o, H b = some o)
    (hd : ∀ D H', H D = none → Kp M H H' → H' D = some (.dK (mergeK [] ((List.range n).filterMap sel))) → Q (.ref D) H') : DcP J g tt tk tv vs Q σ H := by
  intro D hD
  have hDM : D ∉ M := fun z => by obtain ⟨o, e⟩ := hM D z; rw [hD] at e; cases e
  refine ⟨fun i m H' => m = n - i ∧ i ≤ n ∧ Kp M H H' ∧ H' D = some (.dK (mergeK [] ((List.range i).filterMap sel))), ⟨n, by simp, Nat.zero_le _, Kp.new hD, upd_same⟩, ?_⟩
  rintro i m H1 ⟨rfl, hi, k1, e1⟩
  by_cases hlt : i < n
  · refine .inr ⟨w.goes i H1 hlt (hG _ k1), fun H' => Kp M H H' ∧ H' D = some (.dK (mergeK [] ((List.range (i + 1)).filterMap sel))), fun H' z => ⟨n - (i + 1), by omega, rfl, hlt, z.1, z.2⟩, fun x H2 y => ?_⟩
    refine hs i x H1 H2 (fun y z H5 => ∃ kvs k, y = kV k ∧ H5 D = some (.dK kvs) ∧ kvs.length < sizeLine ∧ (Kp M H (upd H5 D (.dK (putK kvs k z))) ∧ (upd H5 D (.dK (putK kvs k z))) D = some (.dK (mergeK [] ((List.range (i + 1)).filterMap sel))))) _ hlt k1 (w.yields i H1 x H2 hlt (hG _ k1) y) ?_ ?_
    · intro e H4 he k4
      refine ⟨_, e.1, rfl, k4 _ _ hDM e1, ?_, (k1.trans k4).mutN hD, ?_⟩
      · have h1 := mergeK_len ((List.range i).filterMap sel) []
        have h2 : ((List.range i).filterMap sel).length ≤ i := by
          have := List.length_filterMap_le sel (List.range i)
          rw [List.length_range] at this
          exact this
        exact Nat.lt_of_le_of_lt (Nat.le_trans h1 (show _ ≤ 1000000 by simp only [List.length_nil]; omega)) (by decide)
      · rw [upd_same, List.range_succ, List.filterMap_append]
        simp only [List.filterMap_cons, he, List.filterMap_nil]
        rw [mergeK_snoc]
    · intro H4 he k4
      refine ⟨k1.trans k4, ?_⟩
      rw [k4 _ _ hDM e1, List.range_succ, List.filterMap_append]
      simp [he]
  · have e : i = n := by omega
    subst e
    exact .inl ⟨w.stops H1 (hG _ k1), hd D H1 hD k1 e1⟩
/-! ### a dict that is walked; any, sorted, insert -/
def rInsert : V → List V → Hp → VK → Prop := fun x vs H Q => ∃ (l : Addr) (xs : List V) (i : Int) (y : V), x = .ref l ∧ vs = [.int i, y] ∧ H l = some (.lst xs) ∧ xs.length < sizeLine ∧ 0 ≤ i ∧ i < 2 ^ 63 ∧ Q .non (upd H l (.lst (xs.take i.toNat ++ [y] ++ xs.drop i.toNat)))
theorem m_insert {X : Cx} : MtR X "list.insert" rInsert := mt_insert
theorem w_insert {l : Addr} {xs : List V} {k : Nat} {y : V} (h1 : H l = some (.lst xs)) (h2 : xs.length < sizeLine) (h3 : (k : Int) < 2 ^ 63) (h : ∀ H1, H1 l = some (.lst (xs.take k ++ [y] ++ xs.drop k)) → Off l H H1 → Q .non H1) : rInsert (.ref l) [.int k, y] H Q :=
  ⟨l, xs, k, y, rfl, rfl, h1, h2, by omega, h3, h _ upd_same fun x hx => upd_ne hx⟩
theorem w_any {p : Addr} {bs : List Bool} (h1 : SqL K H p (bs.map V.bl)) (h : Q (.bl (bs.any id)) H) : rAny K [.ref p] H Q := ⟨p, bs, rfl, h1, h⟩
theorem w_sorted {p : Addr} {ns : List Int} (h1 : SqL K H p (ns.map V.int)) (h2 : ns.length < 64) (h : ∀ (ys : List Int) l H1, ys.Perm ns → ys.Pairwise (· ≤ ·) → H l = none → H1 l = some (.lst (ys.map V.int)) → Same H H1 → Q (.ref l) H1) : rSorted K [.ref p] H Q :=
  ⟨p, ns, rfl, h1, h2, fun ys l a b c => h ys l _ a b c upd_same (Same.new c)⟩
section
variable {nx bk ct : L2.St → Hp → Prop} {rt : VK}
theorem w_lock {t : TS} {d : Addr} {kvs : List (Key × V)} (e : H d = some (.dK kvs)) (h : ∀ od H1, H1 d = some (.frz od (.dK kvs)) → Off d H H1 → t ⟨fun σ' H' => H' d = some (.frz od (.dK kvs)) ∧ nx σ' (upd H' d (.dK kvs)), fun v H' => H' d = some (.frz od (.dK kvs)) ∧ rt v (upd H' d (.dK kvs)), fun σ' H' => H' d = some (.frz od (.dK kvs)) ∧ bk σ' (upd H' d (.dK kvs)), fun σ' H' => H' d = some (.frz od (.dK kvs)) ∧ ct σ' (upd H' d (.dK kvs))⟩ σ H1) : tLock t ⟨nx, rt, bk, ct⟩ σ H :=
  ⟨d, _, e, trivial, fun od => h od _ upd_same fun x hx => upd_ne hx⟩
/-- behind the walk the dict is as it was -/
theorem unlock {d : Addr} {kvs : List (Key × V)} {H' : Hp} {R : Hp → Prop} {o : Obj} (e : H' d = some (.frz o (.dK kvs))) (h : ∀ H2, H2 d = some (.dK kvs) → Off d H' H2 → R H2) : H' d = some (.frz o (.dK kvs)) ∧ R (upd H' d (.dK kvs)) := ⟨e, h _ upd_same fun x hx => upd_ne hx⟩
def rKeys (x : V) (H1 : Hp) (R : It → Hp → Prop) : Prop := ∃ d o, x = .ref d ∧ ((∃ kvs, H1 d = some (.frz o (.dK kvs)) ∧ R (Itk d o kvs) H1) ∨ ∃ kvs, H1 d = some (.frz o (.dT kvs)) ∧ R (Itkt d o kvs) H1)
theorem w_keys {td : TE} {R : It → Hp → Prop} (h : td σ H fun x H1 => rKeys x H1 R) : iKeys td σ H R := h
theorem w_keys' {d : Addr} {o : Obj} {kvs : List (Key × V)} {R : It → Hp → Prop} (e : H d = some (.frz o (.dK kvs))) (h : R (Itk d o kvs) H) : rKeys (.ref d) H R := ⟨d, o, rfl, .inl ⟨kvs, e, h⟩⟩
theorem lp_keys {d : Addr} {o : Obj} {kvs : List (Key × V)} {ks : List Int} {g : TG} {tb : TS} (hk : kvs.map (·.1) = ks.map (Sum.inl : Int → Key)) (Pv : Nat → L2.St → Hp → Prop) (h0 : Pv 0 σ H) (hl : ∀ i σ H, i ≤ ks.length → Pv i σ H → H d = some (.frz o (.dK kvs)))
    (hs : ∀ i x σ H, ks[i]? = some x → Pv i σ H → g (.int x) σ H fun σ2 H2 => tb ⟨Pv (i + 1), rt, nx, Pv (i + 1)⟩ σ2 H2) (hd : ∀ σ H, Pv ks.length σ H → nx σ H) : Lp (Itk d o kvs) g tb ⟨nx, rt, bk, ct⟩ σ H := by
  have hn : kvs.length = ks.length := by
    have := congrArg List.length hk
    simpa using this
  refine lp_it walk_keys Pv h0 (fun i σ H hi => hl i σ H (by omega)) ?_ (by rw [hn]; exact hd)
  rintro i x σ H H' hi p ⟨rfl, k, v, e, rfl⟩
  have e2 : (kvs.map (·.1))[i]? = some k := by rw [List.getElem?_map, e]; rfl
  rw [hk, List.getElem?_map] at e2
  obtain ⟨z, e3, rfl⟩ := Option.map_eq_some_iff.mp e2
  exact hs i z σ H' e3 p
end
theorem w_tyes {R : Bool → Hp → Prop} (h : R true H) : tYes σ H R := h
theorem w_dinF {a : Addr} {o : Obj} {kvs : List (Key × V)} {n : Int} (e : H a = some (.frz o (.dK kvs))) (h : Q (.bl (valV kvs (Sum.inl n)).isSome) H) : rDIn (.ref a) (.int n) H Q := ⟨a, _, rfl, .inl ⟨kvs, Sum.inl n, .inr ⟨o, e⟩, rfl, rfl⟩, h⟩
theorem w_dgetF {a : Addr} {o : Obj} {kvs : List (Key × V)} {n : Int} {v : V} (e : H a = some (.frz o (.dK kvs))) (e2 : valV kvs (Sum.inl n) = some v) (h : Q v H) : rDGet (.ref a) (.int n) H Q := ⟨a, v, rfl, .inl ⟨kvs, Sum.inl n, .inr ⟨o, e⟩, rfl, e2.symm⟩, h⟩
/-! ### get, reversed, slices, pop -/
def rDGet1 (a : Addr) (y : V) (H : Hp) (Q : VK) : Prop := ∃ o, DGet H a y o ∧ Q (o.getD .non) H
theorem w_dget1 {td ty : TE} (h : td σ H fun x H1 => rIsD x H1 fun a H1 => ty σ H1 fun y H2 => rDGet1 a y H2 Q) : tDGet1 td ty σ H Q := h
theorem w_dget1I {a : Addr} {kvs : List (Key × V)} {n : Int} (e : H a = some (.dK kvs)) (h : Q ((valV kvs (Sum.inl n)).getD .non) H) : rDGet1 a (.int n) H Q := ⟨_, DGet.k (k := Sum.inl n) e, h⟩
def rRev (K : PySem.W.Frag) (vs : List V) (H : Hp) (R : It → Hp → Prop) : Prop := ∃ (a : Addr) (xs : List V), vs = [.ref a] ∧ SqL K H a xs ∧ R (Itv K a xs.length) H
theorem w_rev {ta : TA} {R : It → Hp → Prop} (h : ta σ H fun vs H1 => rRev K vs H1 R) : iRev K ta σ H R := h
theorem w_rev' {a : Addr} {xs : List V} {R : It → Hp → Prop} (h1 : SqL K H a xs) (h : R (Itv K a xs.length) H) : rRev K [.ref a] H R := ⟨a, xs, rfl, h1, h⟩
theorem lp_rev {nx bk ct : L2.St → Hp → Prop} {rt : VK} {a : Addr} {xs : List V} {g : TG} {tb : TS} (Pv : Nat → L2.St → Hp → Prop) (h0 : Pv 0 σ H) (hl : ∀ i σ H, i ≤ xs.length → Pv i σ H → SqL K H a xs)
    (hs : ∀ i x σ H, i < xs.length → xs[xs.length - 1 - i]? = some x → Pv i σ H → g x σ H fun σ2 H2 => tb ⟨Pv (i + 1), rt, nx, Pv (i + 1)⟩ σ2 H2) (hd : ∀ σ H, Pv xs.length σ H → nx σ H) : Lp (Itv K a xs.length) g tb ⟨nx, rt, bk, ct⟩ σ H := by
  refine lp_it walk_rev Pv h0 hl ?_ hd
  rintro i x σ H H' hi p ⟨rfl, e⟩
  exact hs i x σ H' hi e p
def rPart (x : V) (H : Hp) (R : Option Int → Hp → Prop) : Prop := ∃ i, x = .int i ∧ R (some i) H
theorem w_slice {r : V → Option Int → Option Int → Hp → VK → Prop} {te : TE} {tl th : TO} (h : te σ H fun x H1 => tl σ H1 fun l H2 => th σ H2 fun u H3 => r x l u H3 Q) : L2.tSl r te tl th σ H Q := h
theorem w_noPart {R : Option Int → Hp → Prop} (h : R none H) : tNoPart σ H R := h
theorem w_part {te : TE} {R : Option Int → Hp → Prop} (h : te σ H fun x H1 => rPart x H1 R) : tPart te σ H R := h
theorem w_part' {i : Int} {R : Option Int → Hp → Prop} (h : R (some i) H) : rPart (.int i) H R := ⟨i, rfl, h⟩
theorem w_slL {a : Addr} {xs : List V} {lo hi : Option Int} (h1 : SqL K H a xs) (h : ∀ p H1, H p = none → H1 p = some (.lst (cutV xs lo hi)) → Same H H1 → Q (.ref p) H1) : rSlL K (.ref a) lo hi H Q := ⟨a, xs, rfl, h1, w_new h⟩
theorem cut_last (xs : List V) : cutV xs none (some (-1)) = xs.dropLast := by
  show ((xs.drop 0).take ((if (-1 : Int) < 0 then ((-1 : Int) + (xs.length : Int)).toNat else min (-1 : Int).toNat xs.length) - 0)) = xs.dropLast
  rw [if_pos (by decide), List.drop_zero, List.dropLast_eq_take]
  congr 1
  omega
theorem w_bm0 {r : V → List V → Hp → VK → Prop} {to : TE} (h : to σ H fun x H1 => tyV K "list" x H1 ∧ r x [] H1 Q) : tBM0 K "list" r to σ H Q := h
theorem w_pop {l : Addr} {xs : List V} {y : V} (h1 : H l = some (.lst (xs ++ [y]))) (h : ∀ H1, H1 l = some (.lst xs) → Off l H H1 → Q y H1) : rPop (.ref l) [] H Q :=
  ⟨l, _, y, rfl, rfl, h1, by simp, by rw [List.dropLast_concat]; exact h _ upd_same fun x hx => upd_ne hx⟩
theorem w_retN {nx bk ct : L2.St → Hp → Prop} {rt : VK} (h : rt .non H) : tRetN ⟨nx, rt, bk, ct⟩ σ H := h
theorem range_fm {α β : Type} (f : α → Option β) : ∀ xs : List α, (List.range xs.length).filterMap (fun i => xs[i]?.bind f) = xs.filterMap f
  | [] => rfl
  | x :: r => by
    rw [List.length_cons, List.range_succ_eq_map, List.filterMap_cons, List.filterMap_map, List.filterMap_cons]
    have h := range_fm f r
    show (match f x with | none => List.filterMap (fun i => r[i]?.bind f) (List.range r.length) | some b => b :: List.filterMap (fun i => r[i]?.bind f) (List.range r.length)) = _
    rw [h]
    cases f x <;> rfl
end
end FW

set_option Elab.async false
set_option linter.all false
set_option maxRecDepth 100000
set_option maxHeartbeats 4000000
/-! Data of any kind: what isinstance says of them, and tuples of them to a depth. -/
namespace FW
open PySem PySem.Spec PyProof.Rows L2
inductive Ty (H : Hp) : V → String → Prop where
  | non : Ty H .non "NoneType"
  | bl (b : Bool) : Ty H (.bl b) "bool"
  | int (i : Int) : Ty H (.int i) "int"
  | str (z : Str) : Ty H (.str z) "str"
  | lst {a : Addr} {xs : List V} (e : H a = some (.lst xs)) : Ty H (.ref a) "list"
  | tup {a : Addr} {xs : List V} (e : H a = some (.tup xs)) : Ty H (.ref a) "tuple"
  | dK {a : Addr} {kvs : List (Key × V)} (e : H a = some (.dK kvs)) : Ty H (.ref a) "dict"
section
variable {K : PySem.W.Frag} {σ : L2.St} {H : Hp} {Q : VK} {x : V} {a : String}
theorem Ty.tx (t : Ty H x a) : TyX K H x (.type a) := by
  cases t with
  | non => exact .base .non
  | bl b => exact .base (.bl b)
  | int i => exact .base (.int i)
  | str z => exact .base (.str z)
  | lst e => exact .base (.lst e)
  | tup e => exact .base (.tup e)
  | dK e => exact .base (.dK e)
theorem Ty.kTup (t : Ty H x a) : kitB a "tuple" = some (decide (a = "tuple")) := by
  cases t with
  | non => exact kb_NoneType_tuple
  | bl b => exact kb_bool_tuple
  | int i => exact kb_int_tuple
  | str z => exact kb_str_tuple
  | lst e => exact kb_list_tuple
  | tup e => exact kb_tuple_tuple
  | dK e => exact kb_dict_tuple
theorem Ty.kInt (t : Ty H x a) : kitB a "int" = some (decide (a = "int") || decide (a = "bool")) := by
  cases t with
  | non => exact kb_NoneType_int
  | bl b => exact kb_bool_int
  | int i => exact kb_int_int
  | str z => exact kb_str_int
  | lst e => exact kb_list_int
  | tup e => exact kb_tuple_int
  | dK e => exact kb_dict_int
theorem Ty.kBool (t : Ty H x a) : kitB a "bool" = some (decide (a = "bool")) := by
  cases t with
  | non => exact kb_NoneType_bool
  | bl b => exact kb_bool_bool
  | int i => exact kb_int_bool
  | str z => exact kb_str_bool
  | lst e => exact kb_list_bool
  | tup e => exact kb_tuple_bool
  | dK e => exact kb_dict_bool
theorem w_isTup (t : Ty H x a) (h : Q (.bl (decide (a = "tuple"))) H) : rIsi K [x, .ty "tuple"] H Q := w_isi t.tx t.kTup h
theorem w_isInt (t : Ty H x a) (h : Q (.bl (decide (a = "int") || decide (a = "bool"))) H) : rIsi K [x, .ty "int"] H Q := w_isi t.tx t.kInt h
theorem w_isBool (t : Ty H x a) (h : Q (.bl (decide (a = "bool"))) H) : rIsi K [x, .ty "bool"] H Q := w_isi t.tx t.kBool h
theorem Ty.isTup (t : Ty H x a) (e : a = "tuple") : ∃ p xs, x = .ref p ∧ H p = some (.tup xs) := by
  cases t with
  | tup h => exact ⟨_, _, rfl, h⟩
  | non => exact absurd e (by decide)
  | bl _ => exact absurd e (by decide)
  | int _ => exact absurd e (by decide)
  | str _ => exact absurd e (by decide)
  | lst _ => exact absurd e (by decide)
  | dK _ => exact absurd e (by decide)
theorem Ty.isInt (t : Ty H x a) (e : a = "int") : ∃ i, x = .int i := by
  cases t with
  | int i => exact ⟨i, rfl⟩
  | non => exact absurd e (by decide)
  | bl _ => exact absurd e (by decide)
  | tup _ => exact absurd e (by decide)
  | str _ => exact absurd e (by decide)
  | lst _ => exact absurd e (by decide)
  | dK _ => exact absurd e (by decide)
theorem Ty.ofInt {i : Int} (t : Ty H (.int i) a) : a = "int" := by
  cases t with
  | int i => rfl
theorem Ty.ofTup {p : Addr} {xs : List V} (t : Ty H (.ref p) a) (e : H p = some (.tup xs)) : a = "tuple" := by
  cases t with
  | tup h => rfl
  | lst h => rw [e] at h; cases h
  | dK h => rw [e] at h; cases h
end
/-- data: a tuple of data, or another thing -/
inductive Dat (B : Nat) (H : Hp) : V → Prop where
  | leaf {x : V} {a : String} (t : Ty H x a) (h : a ≠ "tuple") : Dat B H x
  | tup {p : Addr} {xs : List V} (e : H p = some (.tup xs)) (l : xs.length ≤ B) (h : ∀ y ∈ xs, Dat B H y) : Dat B H (.ref p)
theorem Dat.int {B : Nat} {H : Hp} {i : Int} : Dat B H (.int i) := .leaf (.int i) (by decide)
theorem Dat.ty {B : Nat} {H : Hp} {x : V} (h : Dat B H x) : ∃ a, Ty H x a := by
  cases h with
  | leaf t _ => exact ⟨_, t⟩
  | tup e _ _ => exact ⟨_, .tup e⟩
/-- what keeps tuples, and of lists and dicts their kind -/
structure KD (H H' : Hp) : Prop where
  t : KT H H'
  l : ∀ b xs, H b = some (.lst xs) → ∃ ys, H' b = some (.lst ys)
  d : ∀ b kvs, H b = some (.dK kvs) → ∃ kws, H' b = some (.dK kws)
theorem KD.of {H H' : Hp} (k : Same H H') : KD H H' := ⟨KT.of k, fun b xs e => ⟨xs, k _ _ e⟩, fun b kvs e => ⟨kvs, k _ _ e⟩⟩
theorem KD.refl {H : Hp} : KD H H := ⟨KT.refl, fun b xs e => ⟨xs, e⟩, fun b kvs e => ⟨kvs, e⟩⟩
theorem KD.trans {H H1 H2 : Hp} (a : KD H H1) (b : KD H1 H2) : KD H H2 := ⟨a.t.trans b.t, fun c xs e => by
  obtain ⟨ys, e⟩ := a.l c xs e
  exact b.l c ys e, fun c xs e => by
  obtain ⟨ys, e⟩ := a.d c xs e
  exact b.d c ys e⟩
theorem KD.off {p : Addr} {H H' : Hp} {xs ys : List V} (k : Off p H H') (e : H p = some (.lst xs)) (e' : H' p = some (.lst ys)) : KD H H' := ⟨KT.off k e, fun b zs h => by
  by_cases q : b = p
  · subst q; exact ⟨ys, e'⟩
  · exact ⟨zs, k.get q h⟩, fun b kvs h => ⟨kvs, k.get (ne_of h e (fun z => nomatch z)) h⟩⟩
theorem KD.offK {p : Addr} {H H' : Hp} {xs ys : List (Key × V)} (k : Off p H H') (e : H p = some (.dK xs)) (e' : H' p = some (.dK ys)) : KD H H' := ⟨fun b zs h => k.get (ne_of h e (fun z => nomatch z)) h, fun b zs h => ⟨zs, k.get (ne_of h e (fun z => nomatch z)) h⟩, fun b kvs h => by
  by_cases q : b = p
  · subst q; exact ⟨ys, e'⟩
  · exact ⟨kvs, k.get q h⟩⟩
theorem Ty.kd {H H' : Hp} {x : V} {a : String} (t : Ty H x a) (k : KD H H') : Ty H' x a := by
  cases t with
  | non => exact .non
  | bl b => exact .bl b
  | int i => exact .int i
  | str z => exact .str z
  | lst e => obtain ⟨ys, e⟩ := k.l _ _ e; exact .lst e
  | tup e => exact .tup (k.t _ _ e)
  | dK e => obtain ⟨ys, e⟩ := k.d _ _ e; exact .dK e
theorem Dat.kd {B : Nat} {H H' : Hp} {x : V} (h : Dat B H x) (k : KD H H') : Dat B H' x := by
  induction h with
  | leaf t h => exact .leaf (t.kd k) h
  | tup e l _ ih => exact .tup (k.t _ _ e) l fun y hy => ih y hy
theorem Dat.mono {B C : Nat} (hB : B ≤ C) {H : Hp} {x : V} (h : Dat B H x) : Dat C H x := by
  induction h with
  | leaf t h => exact .leaf t h
  | tup e l _ ih => exact .tup e (Nat.le_trans l hB) fun y hy => ih y hy
theorem Dat.cases {B : Nat} {H : Hp} {x : V} (h : Dat B H x) : (∃ a, Ty H x a ∧ a ≠ "tuple") ∨ ∃ (p : Addr) (xs : List V), x = .ref p ∧ H p = some (.tup xs) ∧ xs.length ≤ B ∧ ∀ y ∈ xs, Dat B H y := by
  cases h with
  | leaf t h => exact .inl ⟨_, t, h⟩
  | tup e l h => exact .inr ⟨_, _, rfl, e, l, h⟩
theorem Deck.kd {H H' : Hp} {d c : Addr} {n m : Nat} (D : Deck H d c n) (D' : Deck H' d c m) (o : Off d H H') : KD H H' := by
  obtain ⟨⟨xs, e⟩, _⟩ := D.at
  obtain ⟨⟨ys, e'⟩, _⟩ := D'.at
  exact KD.off o e e'
section
variable {K : PySem.W.Frag} {H : Hp} {Q : VK}
theorem w_slA {a : Addr} {xs : List V} {lo hi : Option Int} (h1 : SqT K H a xs) (h2 : cutV xs lo hi = xs → Q (.ref a) H) (h : ∀ p H1, H p = none → H1 p = some (.tup (cutV xs lo hi)) → Same H H1 → Q (.ref p) H1) : rSlA K (.ref a) lo hi H Q := by
  refine ⟨a, xs, rfl, h1, fun ⟨z1, z2⟩ => h2 ?_, fun _ => w_new h⟩
  unfold cutV
  rw [z1, z2, List.drop_zero, Nat.sub_zero, List.take_length]
/-- new things in turn: the deck, those that were made, what stood at H0 -/
theorem w_newD {H0 : Hp} {d c : Addr} {n B : Nat} {L xs : List V} (D : Deck H d c n) (hL : ∀ y ∈ L, Dat B H y) (kk : Same H0 H) (hx : ∀ y ∈ xs, Dat B H y) (hl : xs.length ≤ B) (h : ∀ p H', Deck H' d c n → (∀ y ∈ V.ref p :: L, Dat B H' y) → Same H0 H' → Q (.ref p) H') : Nw (.tup xs) H Q := by
  refine w_new fun p H' hp e k => h p H' (D.kp (M := []) (Kp.of k) (by simp) (by simp)) (fun y hy => ?_) (Same.trans kk k)
  rcases List.mem_cons.mp hy with rfl | hy
  · exact .tup e hl fun y hy => (hx y hy).kd (KD.of k)
  · exact (hL y hy).kd (KD.of k)
theorem w_newLD {H0 : Hp} {d c : Addr} {n B : Nat} {L xs : List V} (D : Deck H d c n) (hL : ∀ y ∈ L, Dat B H y) (kk : Same H0 H) (hl : xs.length ≤ 1) (h : ∀ p H', Deck H' d c n → (∀ y ∈ V.ref p :: L, Dat B H' y) → Same H0 H' → Q (.ref p) H') : Nw (.lst xs) H Q := by
  refine w_new fun p H' hp e k => h p H' (D.kp (M := []) (Kp.of k) (by simp) (by simp)) (fun y hy => ?_) (Same.trans kk k)
  rcases List.mem_cons.mp hy with rfl | hy
  · exact .leaf (.lst e) (by decide)
  · exact (hL y hy).kd (KD.of k)
theorem w_newB {H0 : Hp} {d c : Addr} {n B : Nat} {L xs : List V} (D : Deck H d c n) (hL : ∀ y ∈ L, Dat B H y) (kk : Same H0 H) (hx : ∀ y ∈ xs, Dat B H y) (h : ∀ p H', Deck H' d c n → (∀ y ∈ xs, Dat B H' y) → H' p = some (.lst xs) → Same H0 H' → Q (.ref p) H') : Nw (.lst xs) H Q :=
  w_new fun p H' hp e k => h p H' (D.kp (M := []) (Kp.of k) (by simp) (by simp)) (fun y hy => (hx y hy).kd (KD.of k)) e (Same.trans kk k)
theorem w_newKD {H0 : Hp} {d c : Addr} {n B : Nat} {L : List V} {kvs : List (Key × V)} (D : Deck H d c n) (hL : ∀ y ∈ L, Dat B H y) (kk : Same H0 H) (h : ∀ p H', Deck H' d c n → (∀ y ∈ V.ref p :: L, Dat B H' y) → Same H0 H' → Q (.ref p) H') : Nw (.dK kvs) H Q := by
  refine w_new fun p H' hp e k => h p H' (D.kp (M := []) (Kp.of k) (by simp) (by simp)) (fun y hy => ?_) (Same.trans kk k)
  rcases List.mem_cons.mp hy with rfl | hy
  · exact .leaf (.dK e) (by decide)
  · exact (hL y hy).kd (KD.of k)
theorem w_dispD {σ : L2.St} {H0 : Hp} {d c : Addr} {n B : Nat} {L : List V} {k : Int} {v : V} (D : Deck H d c n) (hL : ∀ y ∈ L, Dat B H y) (kk : Same H0 H) (h : ∀ p H', Deck H' d c n → (∀ y ∈ V.ref p :: L, Dat B H' y) → Same H0 H' → Q (.ref p) H') : tDisp [(tC (.int k), tC v)] σ H Q := by
  refine w_disp fun p H1 hp e1 k1 => ?_
  refine w_pair (w_c (w_c (w_pnil ?_)))
  refine w_dispE [(Sum.inl k, v)] e1 rfl (show (1 : Nat) ≤ 15 by decide) fun H2 e2 o2 => ?_
  have k2 : Same H H2 := fun b o e => o2.get (ne_of_none e hp) (k1 _ _ e)
  refine h p H2 (D.kp (M := []) (Kp.of k2) (by simp) (by simp)) (fun y hy => ?_) (Same.trans kk k2)
  rcases List.mem_cons.mp hy with rfl | hy
  · exact .leaf (.dK e2) (by decide)
  · exact (hL y hy).kd (KD.of k2)
theorem w_cat {l b : Addr} {xs zs : List V} (h1 : H l = some (.lst xs)) (h2 : H b = some (.lst zs)) (hz : xs.length + zs.length ≤ sizeLine) (h : ∀ p H1, H p = none → H1 p = some (.lst (xs ++ zs)) → Same H H1 → Q (.ref p) H1) : rCat (.ref l) (.ref b) H Q := ⟨l, b, xs, zs, rfl, rfl, h1, h2, hz, w_new h⟩
/-- t[lo:hi]: where it stands, it is the cut -/
theorem w_slAt {a : Addr} {xs : List V} {lo hi : Option Int} (h1 : H a = some (.tup xs)) (h : ∀ p H1, H1 p = some (.tup (cutV xs lo hi)) → Same H H1 → Q (.ref p) H1) : rSlA K (.ref a) lo hi H Q :=
  w_slA (.of h1) (fun e => h a H (by rw [e]; exact h1) (fun _ _ z => z)) (fun p H1 _ e k => h p H1 e k)
theorem w_catAt {a b : Addr} {xs ys : List V} (h1 : H a = some (.tup xs)) (h2 : H b = some (.tup ys)) (hz : xs.length + ys.length ≤ sizeLine) (h : ∀ p H1, H1 p = some (.tup (xs ++ ys)) → Same H H1 → Q (.ref p) H1) : rCatA K (.ref a) (.ref b) H Q := by
  refine ⟨a, b, xs, ys, rfl, rfl, .of h1, .of h2, hz, fun e => ?_, fun _ e => ?_, fun _ _ p hp => h p _ upd_same (Same.new hp)⟩
  · subst e
    exact h b H h2 (fun _ _ z => z)
  · subst e
    exact h a H (by rw [List.append_nil]; exact h1) (fun _ _ z => z)
end
/-! ### except X as e -/
def tTryA (K : PySem.W.Frag) (c : Value) (i : Nat) (tb : WX → TS) (ts : Addr → Value → Option Addr → TS) : TS := fun D σ H => tb (wAs K c i ts (fun _ _ _ _ => False) D) D σ H
def tGuard (P : Prop) (t : TS) : TS := fun D σ H => P ∧ t D σ H
section
variable {X : Cx} {x n : Str} {c : Value} {i : Nat} {body suite : List Stmt} {b₀ : Stmt} {np pos pos' : Pos} {tb : WX → TS} {ts : Addr → Value → Option Addr → TS}
theorem p_tryAs (hs : X.stack = X.env :: X.outer) (hf : X.env.frame = some X.env.locals) (hN : X.N.Nodup) (hi : X.N[i]? = some n) (hln : X.env.kindOf n = some .local) (hc : Names X x c)
    (hb : ∀ (W : WX) (pn : List (Addr × Obj)) (xe : Value → Shared → Prop), Takes (X.tr pn xe) W → PassesOwn (model X.prog X.w) X.A X.env xe → PSs (X.tr pn xe) body (tb W))
    (hsu : ∀ (a : Addr) (oe : Obj) (cls : Value) (d : Option Addr) (pn : List (Addr × Obj)), Zc cls d oe → (∃ vs, oe.data = .fields vs) → PSs (X.suite a ((a, oe) :: pn)) (b₀ :: suite) (ts a cls d)) :
    PS X (.Try body [.ExceptHandler (some (.Name x np)) (some n) (b₀ :: suite) pos'] [] [] pos) (tTryA X.K c i tb ts) := ps_try_as hs hf hN hi hln hc takes0 hb hsu
theorem pss_guard {P : Prop} {ss : List Stmt} {t : TS} (h : P → PSs X ss t) : PSs X ss (tGuard P t) := ⟨fun pins s σ H D I hw => (h hw.1).run pins s σ H D I hw.2⟩
theorem zc_of {C : Addr} {cls : Value} {d : Option Addr} {oe : Obj} (hg : cls = .ref C ∧ d = none) (hz : Zc cls d oe) : Zc (.ref C) none oe := by
  obtain ⟨rfl, rfl⟩ := hg
  exact hz
end
section
variable {K : PySem.W.Frag} {σ : L2.St} {H : Hp} {Q : VK} {nx bk ct : L2.St → Hp → Prop} {rt : VK}
theorem w_tryA {c : Value} {i : Nat} {tb : WX → TS} {ts : Addr → Value → Option Addr → TS} (h : tb (wAs K c i ts (fun _ _ _ _ => False) ⟨nx, rt, bk, ct⟩) ⟨nx, rt, bk, ct⟩ σ H) : tTryA K c i tb ts ⟨nx, rt, bk, ct⟩ σ H := h
theorem w_guard {P : Prop} {t : TS} (p : P) (h : t ⟨nx, rt, bk, ct⟩ σ H) : tGuard P t ⟨nx, rt, bk, ct⟩ σ H := ⟨p, h⟩
theorem w_isE {a D C : Addr} {b : Bool} (e : PySem.W.kitOne K (.ref D) (.ref C) = some b) (h : Q (.bl b) H) : rIsE K D a [.ref a, .ref C] H Q := ⟨.ref C, .ref C, b, rfl, fun u r => r, e, h⟩
theorem w_isEt {a D : Addr} {n : String} {b : Bool} (e : PySem.W.kitOne K (.ref D) (.type n) = some b) (h : Q (.bl b) H) : rIsE K D a [.ref a, .ty n] H Q := ⟨.ty n, .type n, b, rfl, fun u r => r, e, h⟩
end
end FW

set_option Elab.async false
set_option linter.all false
set_option maxRecDepth 100000
set_option maxHeartbeats 4000000
/-! own errors with fields: made, caught, looked at; min of pairs; defaults by keyword -/
namespace FW
section
open PySem PySem.W PySem.Calls PyProof.Rows
variable {prog : Program} {w : World} {A : Around} {E : Value → Shared → Prop} {s : Shared} {K : Frag} {x D : Addr} {ox : Obj} {od : Option Obj}
theorem fo_data {C : Addr} {name : Str} {a g : Value} (hc : (clsIn K C).isSome = true) (ha : findIn K (.ref C) name = some (some a)) (hg : specialIn K a "__get__" = some (some g)) (ht : takesIn K a = some true) : findObj K C od name = some (.bind g a) := by
  obtain ⟨cd, e⟩ := Option.isSome_iff_exists.mp hc
  unfold findObj; rw [e, Option.bind_some, ha, Option.bind_some]; simp [hg, ht]
theorem cls_look {Q : Option Value → Shared → Prop} (C : L2.ExcC K D) (X : K.In s.heap) (I : InstAt s.heap x ox D od) (h : Q (some (.ref D)) { s with toks := s.toks + 1 }) : wpAny (model prog w) A (getAttr? (.ref x) "__class__") Q E s := by
  have hf : findObj K D od "__class__" = some (.bind (.builtin "getset_descriptor.__get__") (.builtin "object.__class__")) := fo_data (by obtain ⟨cd, hc, _⟩ := any_some C.hd; rw [hc]; rfl) C.ha C.hn C.ht
  obtain ⟨hp, g, d, t, os⟩ := s
  have y0 := I.type (M := model prog w); have y1 := looks_findIn (M := model prog w) X C.hg
  have y2 := looks_findIn (M := model prog w) X C.hk; have y3 := looks_find (M := model prog w) X I hf
  have sub : Looks (model prog w) hp (isInstance (.ref x) (.type "BaseException")) true := y0.andThen (looks_subIn X C.hs)
  have n2 : (Value.builtin "BaseException.__getattribute__" == Value.builtin "object.__getattribute__") = false := by decide +kernel
  have n1 : (onTheHeap (Value.ref D) && Value.builtin "BaseException.__getattribute__" == Value.builtin "object.__getattribute__") = false := by rw [n2]; rfl
  unfold getAttr? getAttrBy? getAttrBy
  refine wpAny_bind (wpAny_mkText (wpAny_bind (wpAny_attempt (wpAny_holding (wpAny_bind (y0.at (wpAny_bind (y1.at ?_))))))))
  show wpAny _ _ (if (onTheHeap (Value.ref D) && Value.builtin "BaseException.__getattribute__" == Value.builtin "object.__getattribute__") = true then _ else _) _ _ _; rw [n1, if_neg Bool.false_ne_true]
  unfold getAttrByItsOwn hookBefore; refine wpAny_bind ?_; rw [if_pos (show onTheHeap (Value.ref D) = true from rfl)]; refine y2.at ?_
  refine wpAny_bind (wpAny_attempt (wpAny_holding ?_)); unfold callGetattribute; rw [show (false && onTheHeap (Value.builtin "BaseException.__getattribute__")) = false from rfl, if_neg Bool.false_ne_true]
  unfold boundAndCalled; rw [PySem.F.excAttr_ValueError.ga.bind (.ref x)]; refine wpAny_bind (wpAny_pure ?_)
  show wpAny _ _ (call (.builtin "BaseException.__getattribute__") [.ref x, .str "__class__" t]) _ _ _; refine wpAny_call (codeAny_call_builtin PySem.F.excAttr_ValueError.ga.plain PySem.F.entry_bexc_ga ?_)
  refine @check_slot (model prog w) _ _ ⟨hp, g, d, t + 1, os⟩ "BaseException.__getattribute__" "BaseException" "__getattribute__" (.ref x) [.str "__class__" t] [] _ (by decide +kernel) (by decide +kernel) sub (PySem.F.args_bexc_ga (.ref x) (.str "__class__" t)) ?_; unfold Builtin.«object.__getattribute__»
  refine wpAny_bind (wpAny_of_eq (a := ((Value.ref x : Value), [Value.str "__class__" t])) (by first | rfl | (simp only [slotArgs]; rfl)) ?_); refine wpAny_bind (wpAny_pure (wpAny_bind (y0.at (wpAny_bind (y3.at ?_)))))
  show wpAny _ _ (holding [Value.builtin "object.__class__"] (call (.builtin "getset_descriptor.__get__") [.builtin "object.__class__", .ref x, .ref D]) >>= ret) _ _ _; refine wpAny_bind (wpAny_holding (wpAny_call (class_get (s := ⟨hp, g, d, t + 1, os⟩) (ox := ox) (od := od) X I C.hm ?_)))
  refine wpAny_pure ?_; show wpAny _ _ (handedOut (.ref D)) _ _ _; rw [handedOut_of (v := .ref D) rfl]
  first | exact wpAny_pure (wpAny_pure h) | exact wpAny_pure h | exact wpAny_pure (wpAny_bind (wpAny_pure (wpAny_pure h)))
theorem kitx_of (C : L2.ExcC K D) : KitX K (.ref x) (.ref D) (fun h => InstAt h x ox D od) := by
  have Z : KitX K (.ref x) (.ref D) (fun h => InstAt h x ox D none) := handS_kitx_exc C.hg C.hk C.hs C.hd C.ha C.hn C.ht C.hm
  refine ⟨fun _ _ _ I => I.type, fun _ _ X _ => ?_, Z.ne, fun X I k => cls_look C X I k⟩
  obtain ⟨cd, hc, _⟩ := any_some C.hd
  unfold clsIn at hc
  split at hc
  · rename_i ho
    intro A' Q' E' s' k q
    unfold isType loadHead; exact wpAny_bind (wpAny_loadPart (k _ _ (X _ _ ho)) (wpAny_pure q))
  · cases hc
end
open PySem PySem.Spec PyProof.Rows L2
/-- isinstance(e, c), e the error that the suite holds, with its fields at d -/
def rIsF (K : PySem.W.Frag) (D a : Addr) (d : Option Addr) : List V → Hp → VK → Prop := fun xs H Q => ∃ (c : V) (cv : Value) (b : Bool) (dd : Addr) (fs : List (Str × V)), xs = [.ref a, c] ∧ d = some dd ∧ H dd = some (.xd fs) ∧ (∀ u, RelV c u → u = cv) ∧ PySem.W.kitOne K (.ref D) cv = some b ∧ Q (.bl b) H
theorem call_isF {X : Cx} {a D : Addr} {oe : Obj} {cls : Value} {d : Option Addr} {pn : List (Addr × Obj)} (C : ExcC X.K D) (hc : cls = .ref D) (hz : Zc cls d oe) (hf : ∃ vs, oe.data = .fields vs) : CallR (X.suite a ((a, oe) :: pn)) (.builtin "isinstance") (rIsF X.K D a d) := by
  intro pins s σ H xs us Q I r ⟨c, cv, b, dd, fs, e0, ed, ea, hcv, e, q⟩
  subst e0 hc ed
  cases r with
  | cons rx rr =>
    cases rr with
    | cons rt rr =>
      cases rr
      cases rx
      have ec := hcv _ rt
      subst ec
      obtain ⟨ha, _⟩ := I.pin (a, oe) (List.mem_append.mpr (.inl List.mem_cons_self))
      obtain ⟨vs, hv⟩ := hf
      have hx : ObjOk X.prog X.w H s.heap dd (.xd fs) := I.hok dd _ ea
      obtain ⟨mA, hns, _⟩ := hx
      obtain ⟨od, ho, _⟩ := lookIn_ns hns
      have J : PySem.W.InstAt s.heap a oe D (some od) := ⟨ha, hz.1, by unfold PySem.W.notCls; rw [hv] <;> rfl, by rw [hz.2]; exact ho⟩
      exact PySem.W.kia_one (kitx_of C) I.kIn J e (fun z => nomatch z) fun tk => ⟨.bl b, H, I.kept (t' := tk) fun _ _ z => z, rfl, q⟩
/-- an own error with __init__ -/
structure ExnI (K : PySem.W.Frag) (mg : Str → Option Value) (x : Str) (C fI : Addr) (fd : FuncData) (ps : List Str) (fs : List Str) : Prop where
  g : mg x = some (.ref C)
  T : OexC K C
  i : PySem.W.findIn K (.ref C) "__init__" = some (some (.ref fI))
  t : PySem.W.typeIn K (.ref fI) = some (.type "function")
  b : Binds K fd ps []
  f : XfC K C
  ec : ExcC K C
  nf : ∀ y ∈ fs, PySem.W.findIn K (.ref C) y = some none
/-- a def with keyword-only defaults -/
structure DfK (K : PySem.W.Frag) (mg : Str → Option Value) (x : Str) (st : Stmt) (ps : List Str) (kws : List (Str × V)) (dvs : List V) (f : Addr) (fd : FuncData) : Prop where
  fn : FunD K x x (defArgs st) (defBody st) (defScope st) [] kws f fd
  g : mg x = some (.ref f)
  kp : PySem.W.keepIn K (.ref f) = true
  b : ∃ ds, Vals dvs ds ∧ Binds K fd ps ds
  kb : ∃ g, KBn K fd ps (ps.length - kws.length) (kws.map (·.1)) g (fun vs zs => vs ++ zs)
/-- raise C(..) of two fields -/
def tRaiseO (C : Addr) (W : WX) (sp : Sp) (ta : TA) : TS := fun _ σ H => tMkO C sp [] ta σ H fun cls d H' => W cls d σ H'
section
variable {K : PySem.W.Frag} {σ : L2.St} {H : Hp} {Q : VK} {nx bk ct : L2.St → Hp → Prop} {rt : VK}
theorem w_raiseO {C : Addr} {W : WX} {sp : Sp} {ta : TA} (h : tMkO C sp [] ta σ H fun cls d H' => W cls d σ H') : tRaiseO C W sp ta ⟨nx, rt, bk, ct⟩ σ H := h
theorem w_mkO {C : Addr} {sp : Sp} {ta : TA} {Qx : XK} (h : ta σ H fun vs H1 => vs.length ≤ 1000 ∧ ∀ a, H1 a = none → sp (.ref a :: (vs ++ [])) (upd H1 a (exo a C none)) (fun v H2 => v = .non ∧ ∃ (d : Addr) (fs : List (Str × V)), H2 a = some (exo a C (some d)) ∧ H2 d = some (exd d fs) ∧ H1 d = none ∧ Qx (.ref C) (some d) (upd (del H2 a) d (.xd fs))) (fun _ _ _ => False)) : tMkO C sp [] ta σ H Qx := h
theorem w_callSD {sp : Sp} {dvs : List V} {E : L2.St → XK} {t : TA} (h : t σ H fun vs H1 => sp (vs ++ dvs) H1 Q (E σ)) : tCallSD sp dvs E t σ H Q := h
theorem w_callN {n m : Nat} {sp : Sp} {gV : List V → List V → List V} {E : XK} {t tk : TA} (h : t σ H fun vs H1 => tk σ H1 fun zs H2 => vs.length = n ∧ zs.length = m ∧ sp (gV vs zs) H2 Q E) : tCallN n m sp gV E t tk σ H Q := h
theorem w_xf {a C : Addr} {cls : Value} {d : Option Addr} {f : Str} {te : TE} (h : te σ H fun x H1 => x = .ref a ∧ cls = .ref C ∧ ∃ (dd : Addr) (fs : List (Str × V)) (v : V), d = some dd ∧ H1 dd = some (.xd fs) ∧ fs.lookup f = some v ∧ Q v H1) : tXf a cls d C f te σ H Q := h
theorem w_isF {a D C dd : Addr} {fs : List (Str × V)} {b : Bool} (ed : H dd = some (.xd fs)) (e : PySem.W.kitOne K (.ref D) (.ref C) = some b) (h : Q (.bl b) H) : rIsF K D a (some dd) [.ref a, .ref C] H Q := ⟨.ref C, .ref C, b, dd, fs, rfl, rfl, ed, fun u r => r, e, h⟩
theorem w_isFt {a D dd : Addr} {fs : List (Str × V)} {n : String} {b : Bool} (ed : H dd = some (.xd fs)) (e : PySem.W.kitOne K (.ref D) (.type n) = some b) (h : Q (.bl b) H) : rIsF K D a (some dd) [.ref a, .ty n] H Q := ⟨.ty n, .type n, b, dd, fs, rfl, rfl, ed, fun u r => r, e, h⟩
theorem w_ost {f : Str} {to te : TE} {D : Ends} (h : te σ H fun y H1 => to σ H1 fun x H2 => ∃ a C : Addr, x = .ref a ∧ OexC K C ∧ PySem.W.findIn K (.ref C) f = some none ∧ ((H2 a = some (exo a C none) ∧ ∀ dx, H2 dx = none → dx ≠ a → D.nx σ (upd (upd H2 dx (exd dx [(f, y)])) a (exo a C (some dx)))) ∨ ∃ (dx : Addr) (fs : List (Str × V)), H2 a = some (exo a C (some dx)) ∧ H2 dx = some (exd dx fs) ∧ fs.length ≤ 900 ∧ D.nx σ (upd H2 dx (exd dx ((f, y) :: fs))))) : tOst K f to te D σ H := h
end
/-- what __init__ of two fields leaves -/
def spInit2 (K : PySem.W.Frag) (C : Addr) (f g : Str) : Sp := fun vs H Q _ => ∃ (a : Addr) (x y : V), vs = [.ref a, x, y] ∧ H a = some (exo a C none) ∧ ∀ dx, H dx = none → dx ≠ a → Q .non (upd (upd (upd H dx (exd dx [(f, x)])) a (exo a C (some dx))) dx (exd dx [(g, y), (f, x)]))
def spInit1 (K : PySem.W.Frag) (C : Addr) (f : Str) : Sp := fun vs H Q _ => ∃ (a : Addr) (x : V), vs = [.ref a, x] ∧ H a = some (exo a C none) ∧ ∀ dx, H dx = none → dx ≠ a → Q .non (upd (upd H dx (exd dx [(f, x)])) a (exo a C (some dx)))
/-- the heap behind it -/
theorem mk2_same {K : PySem.W.Frag} {C : Addr} {f g : Str} {x y : V} {H : Hp} {Qx : XK} {a : Addr} (ha : H a = none) (h : ∀ d H', Same H H' → H d = none → H' d = some (.xd [(g, y), (f, x)]) → Qx (.ref C) (some d) H') :
    spInit2 K C f g [.ref a, x, y] (upd H a (exo a C none)) (fun v H2 => v = .non ∧ ∃ (d : Addr) (fs : List (Str × V)), H2 a = some (exo a C (some d)) ∧ H2 d = some (exd d fs) ∧ H d = none ∧ Qx (.ref C) (some d) (upd (del H2 a) d (.xd fs))) (fun _ _ _ => False) := by
  refine ⟨a, x, y, rfl, upd_same, fun dx hd hne => ⟨rfl, dx, _, ?_, upd_same, (upd_none hd).1, h dx _ (fun b o e => ?_) (upd_none hd).1 upd_same⟩⟩
  · rw [upd_ne (Ne.symm hne), upd_same]
  · have n1 : b ≠ dx := ne_of_none e (upd_none hd).1
    have n2 : b ≠ a := ne_of_none e ha
    rw [upd_ne n1, del_ne n2, upd_ne n1, upd_ne n2, upd_ne n1, upd_ne n2]
    exact e
/-! ### min of a list of pairs -/
def LtP (p q : Int × Int) : Prop := p.1 < q.1 ∨ p.1 = q.1 ∧ p.2 < q.2
def rMinP (K : PySem.W.Frag) : List V → Hp → VK → Prop := fun vs H Q => ∃ (a : Addr) (ps : List (Addr × Int × Int)), vs = [V.ref a] ∧ SqL K H a (ps.map fun q => .ref q.1) ∧ (∀ q ∈ ps, H q.1 = some (.tup [.int q.2.1, .int q.2.2])) ∧ ps ≠ [] ∧ ∀ q ∈ ps, (∀ r ∈ ps, ¬ LtP r.2 q.2) → Q (.ref q.1) H
theorem lt_P (p q : Int × Int) : PySem.W.DatumOrd.lt p q = true ↔ LtP p q := by
  show (if p.1 = q.1 then decide (p.2 < q.2) else decide (p.1 < q.1)) = true ↔ _
  unfold LtP
  by_cases e : p.1 = q.1
  · rw [if_pos e, decide_eq_true_iff]; omega
  · rw [if_neg e, decide_eq_true_iff]; omega
theorem minOf_le : ∀ (xs : List (Int × Int)) (x : Int × Int), (∀ r ∈ x :: xs, ¬ LtP r (PySem.W.minOf x xs)) ∧ PySem.W.minOf x xs ∈ x :: xs
  | [], x => ⟨fun r hr => by
      have e : r = x := by simpa using hr
      subst e
      show ¬ LtP r r
      unfold LtP
      omega, by show x ∈ [x]; simp⟩
  | y :: xs, x => by
    have ih := minOf_le xs (if PySem.W.DatumOrd.lt y x = true then y else x)
    have e : PySem.W.minOf x (y :: xs) = PySem.W.minOf (if PySem.W.DatumOrd.lt y x = true then y else x) xs := rfl
    rw [e]
    revert ih
    generalize PySem.W.minOf (if PySem.W.DatumOrd.lt y x = true then y else x) xs = m
    by_cases c : PySem.W.DatumOrd.lt y x = true
    · rw [if_pos c]
      have c' := (lt_P y x).mp c
      intro ih
      refine ⟨fun r hr => ?_, ?_⟩
      · rcases List.mem_cons.mp hr with rfl | h
        · have := ih.1 y (by simp)
          unfold LtP at *
          omega
        · exact ih.1 r h
      · exact List.mem_cons_of_mem _ ih.2
    · rw [if_neg c]
      have c' : ¬ LtP y x := fun z => c ((lt_P y x).mpr z)
      intro ih
      refine ⟨fun r hr => ?_, ?_⟩
      · rcases List.mem_cons.mp hr with rfl | h
        · exact ih.1 r (by simp)
        · rcases List.mem_cons.mp h with rfl | h
          · have := ih.1 x (by simp)
            unfold LtP at *
            omega
          · exact ih.1 r (by simp [h])
      · rcases List.mem_cons.mp ih.2 with h | h
        · rw [h]; simp
        · simp [h]
section
variable {X : Cx} {pins : List (Addr × Obj)} {σ : L2.St} {H : Hp} {s : Shared}
theorem hold_pair (I : Inv X pins σ H s) {p : Addr} {x y : Int} (e : H p = some (.tup [.int x, .int y])) : PySem.W.Holds s.heap (.ref p) (x, y) := by
  obtain ⟨its, rv, hl, _⟩ := I.tuple (.of e)
  cases rv with
  | cons r1 rr =>
    cases rr with
    | cons r2 rr =>
      cases rr
      obtain ⟨t1, rfl⟩ := r1
      obtain ⟨t2, rfl⟩ := r2
      exact PySem.W.holds_pair hl (PySem.W.holds_int _ _) (PySem.W.holds_int _ _)
theorem hold_all (I : Inv X pins σ H s) : ∀ (ps : List (Addr × Int × Int)) (its : List Value), Vals (ps.map fun q => V.ref q.1) its → (∀ q ∈ ps, H q.1 = some (.tup [.int q.2.1, .int q.2.2])) → PySem.W.HoldAll s.heap its (ps.map (·.2)) ∧ its = ps.map fun q => Value.ref q.1
  | [], _, r, _ => by cases r; exact ⟨PySem.W.HoldAll.nil, rfl⟩
  | q :: ps, _, r, h => by
    cases r with
    | cons r1 rr =>
      cases r1
      obtain ⟨h1, h2⟩ := hold_all I ps _ rr fun z hz => h z (by simp [hz])
      exact ⟨PySem.W.HoldAll.cons (hold_pair I (h q (by simp))) h1, by rw [h2]; rfl⟩
theorem c_minP (hc : X.calm = true) (hu : X.A.units + 100 < cLine) : CallR X (.builtin "min") (rMinP X.K) := by
  intro pins s σ H vs us Q I r ⟨a, ps, e0, hs, hp, hne, q⟩
  subst e0
  obtain ⟨its, rv, hl, _⟩ := I.list hs
  rw [Vals.ref1 r]
  obtain ⟨ha, hit⟩ := hold_all I ps its rv hp
  cases ps with
  | nil => exact absurd rfl hne
  | cons p ps =>
    have hdp : PySem.W.Datum.depth (Int × Int) ≤ 50 := by decide
    refine PySem.W.min_list_datum (x := p.2) (xs := ps.map (·.2)) (I.ok.hd hc) hl.isList (by simpa using ha) (by omega) fun i v h' tk hi hv hk => ?_
    have hi' : its[i]? = some v := by simpa using hi
    rw [hit, List.getElem?_map] at hi'
    obtain ⟨z, hz, rfl⟩ := Option.map_eq_some_iff.mp hi'
    have hzm := List.mem_of_getElem? hz
    have e : z.2 = PySem.W.minOf p.2 (ps.map (·.2)) := by
      obtain ⟨as, ra⟩ := (hold_pair I (hp z hzm)).keeps hk
      obtain ⟨bs, rb⟩ := hv
      have e1 := (Reads.unique ra _ _ rb).1
      have e2 := PySem.W.Datum.eqv (z.2.1, z.2.2) (PySem.W.minOf p.2 (ps.map (·.2)))
      rw [← e1, PySem.W.Datum.eqv] at e2
      have e3 : decide ((z.2.1, z.2.2) = PySem.W.minOf p.2 (ps.map (·.2))) = true := by rw [← e2]; simp
      exact of_decide_eq_true e3
    refine ⟨.ref z.1, H, I.kept (t' := tk) hk, rfl, q z hzm fun r hr => ?_⟩
    have := (minOf_le (ps.map (·.2)) p.2).1 r.2 (by
      rcases List.mem_cons.mp hr with rfl | h
      · simp
      · exact List.mem_cons_of_mem _ (List.mem_map_of_mem h))
    rw [e]
    exact this
end
theorem room100 {k : Nat} {A : Around} (r : Room k A) : A.units + 100 < cLine := by have := r.un; omega
theorem w_minP {K : PySem.W.Frag} {H : Hp} {Q : VK} {a : Addr} {ps : List (Addr × Int × Int)} (h1 : SqL K H a (ps.map fun q => .ref q.1)) (h2 : ∀ q ∈ ps, H q.1 = some (.tup [.int q.2.1, .int q.2.2])) (h3 : ps ≠ []) (h : ∀ q ∈ ps, (∀ r ∈ ps, ¬ LtP r.2 q.2) → Q (.ref q.1) H) : rMinP K [.ref a] H Q := ⟨a, ps, rfl, h1, h2, h3, h⟩
end FW

set_option Elab.async false
set_option linter.all false
set_option maxRecDepth 100000
set_option maxHeartbeats 4000000
/-! for i, x in enumerate(t), t a tuple -/
namespace FW
open PySem PySem.Spec PyProof.Rows L2
def ItU (K : PySem.W.Frag) (a : Addr) : It :=
  ⟨fun i H => ∃ (xs : List V) (x : V), SqT K H a xs ∧ xs[i]? = some x,
   fun i H v H' => ∃ T x, v = .ref T ∧ H T = none ∧ H' = upd H T (.tup [.int (i : Nat), x]) ∧ ∀ xs, SqT K H a xs → xs[i]? = some x,
   fun i H => ∃ xs : List V, SqT K H a xs ∧ xs.length = i⟩
section
variable {P : Program} {w : World} {K : PySem.W.Frag} {elts : List Expr} {kk : Nat} {tpos : Pos}
theorem tup_iter_ne {h : Heap} {a it : Addr} {its : Array Value} {i : Nat} (p : h.IsTuple a its) (q : h.IsTupleIter it a i) : a ≠ it := by
  rintro rfl
  obtain ⟨o, e1, c1, _⟩ := p
  obtain ⟨u, e2, c2, _⟩ := q
  rw [e1] at e2
  cases e2
  rw [c1] at c2
  exact absurd c2 (by decide)
theorem tup_enum_ne {h : Heap} {a e it : Addr} {its : Array Value} {c : Int} {old : Value} (p : h.IsTuple a its) (q : IsEnum h e it c old) : e ≠ a := by
  rintro rfl
  obtain ⟨o, e1, c1, _⟩ := p
  have q' : h.get? e = _ := q
  rw [e1] at q'
  cases q'
  have c2 : Value.type "enumerate" = Value.type "tuple" := c1
  exact absurd c2 (by decide)
theorem turn_enumU (a e it : Addr) : Turn P w K (.Tuple elts kk tpos) (ItU K a) [e, it] e (fun i h => (∃ old, IsEnum h e it ((i : Nat) : Int) old) ∧ h.IsTupleIter it a i ∧ e ≠ it) where
  mem := by simp
  obj := fun i h st b hb => by
    obtain ⟨⟨old, he⟩, ⟨o, ho, hc, hd⟩, _⟩ := st
    have hb' : b = e ∨ b = it := by simpa using hb
    rcases hb' with rfl | rfl
    · exact ⟨_, he, fun v q => nomatch q⟩
    · exact ⟨o, ho, fun v q => by rw [hd] at q; cases q⟩
  keep := fun i h h' ⟨⟨old, he⟩, hi, hne⟩ k => ⟨⟨old, k e (by simp) _ he⟩, hi.at fun o z => k it (by simp) o z, hne⟩
  item := by
    intro X hP hw hK hc i pins s σ H E I hf ⟨⟨old, he⟩, hit, hne⟩ ⟨xs, x, hq, hx⟩
    subst hP hw hK
    obtain ⟨its, rv, p, _⟩ := I.tuple hq
    have p' : s.heap.IsTuple a its.toArray := p
    obtain ⟨u, hu, ru⟩ := rv.get hx
    have hl := rv.length
    have hil : i < its.toArray.size := by
      have := (List.getElem?_eq_some_iff.mp hx).1
      simp only [List.size_toArray]
      omega
    have hel := Heap.lt_size he
    have hil2 : it < s.heap.objs.size := by
      obtain ⟨_, z, _⟩ := hit
      exact Heap.lt_size z
    have DD := Draws.tuple (prog := X.prog) (w := X.w) (A := X.A.in1) (I.ok.hd hc) it a (tup_iter_ne p' hit) its.toArray
    refine wpAny_pyNext_enum_itemC DD he (show _ ∧ _ from ⟨hit, p'⟩) hil hne (by simpa using ⟨hne, tup_enum_ne p' he⟩) fun u' h' tk hu' ho hst hT hsz hk => ?_
    have hit' := hst.1
    have eu : u' = u := by
      have z : its.toArray[i]? = some u' := hu'
      rw [List.getElem?_toArray, hu] at z
      exact (Option.some.inj z).symm
    subst eu
    refine ⟨_, rfl, wpAny_letOwnedTupleGo_enum (s := { s with heap := h', toks := tk + 1 }) ho fun h2 he' sb => ?_⟩
    have hT2 := (sb.2 _ (Nat.ne_of_gt hel)).trans hT
    have new : ObjOk X.prog X.w (upd H s.heap.objs.size (.tup [.int (i : Nat), x])) h2 s.heap.objs.size (.tup [.int (i : Nat), x]) :=
      ⟨show 2 ≤ sizeLine by decide, [.int i tk, u'], .cons ⟨_, rfl⟩ (.cons ru .nil), ⟨_, hT2, rfl, _, rfl⟩⟩
    have I1 : Inv X pins σ (upd H s.heap.objs.size (.tup [.int (i : Nat), x])) { s with heap := h2, toks := tk + 1 } :=
      I.turnedNew (ch := [e, it]) (fun b ob hb q => (sb.2 b (fun z => hb (by simp [z]))).trans (hk b ob (fun z => hb (by simp [z])) (fun z => hb (by simp [z])) q)) hf (Nat.le_refl _) new
    refine ⟨.ref s.heap.objs.size, _, I1, rfl, ⟨_, x, rfl, I.hok.fresh (Nat.le_refl _), rfl, fun ys hy => by rw [I.tuple_inj hy hq]; exact hx⟩, ⟨⟨u', ?_⟩, hit'.at fun o q => (sb.2 it (Ne.symm hne)).trans q, hne⟩, fun b hb => ?_⟩
    · rw [show ((i + 1 : Nat) : Int) = (i : Int) + 1 by omega]
      exact he'
    · have hlt : b < s.heap.objs.size := by
        have hb' : b = e ∨ b = it := by simpa using hb
        rcases hb' with rfl | rfl
        · exact hel
        · exact hil2
      rw [upd_ne (Nat.ne_of_lt hlt)]
      exact (hf b hb).1
  done := by
    intro X hP hw hK hc i pins s σ H E I hf ⟨⟨old, he⟩, hit, hne⟩ ⟨xs, hq, hx⟩
    subst hP hw hK
    obtain ⟨its, rv, p, _⟩ := I.tuple hq
    have p' : s.heap.IsTuple a its.toArray := p
    obtain ⟨f0, f1, f2, f3, f4, f5⟩ := hf it (by simp)
    have hl := rv.length
    have hi : its.toArray.size = i := by
      simp only [List.size_toArray]
      omega
    have DD := Draws.tuple (prog := X.prog) (w := X.w) (A := X.A.in1) (I.ok.hd hc) it a (tup_iter_ne p' hit) its.toArray
    refine wpAny_pyNext_enum_endD DD he (show _ ∧ _ from ⟨by rw [hi]; exact hit, p'⟩) fun h' eb => ⟨rfl, I.turned (t' := s.toks) (fun b o hb q => eb b o hb q) f0 f1 f3 f4 f5⟩
  self := fun A i s Q E ⟨⟨_, he⟩, _⟩ h => wpAny_pyIter_enum he h
end
theorem begins_new1 {v : Value} {o : Obj} {Hs : Heap → Prop} (B : Begins v o Hs) : Meets (Builtin.«enumerate.__new__» ⟨[.type "enumerate", v], []⟩) (fun _ R s => Hs s.heap ∧
      R (.ok (.ret (.ref (s.heap.push o).objs.size))) { s with heap := (s.heap.push o).push { cls := .type "enumerate", data := .fields #[.none, .bool false, .ref s.heap.objs.size, rawInt 0, .none, .none] } }) :=
  .of_wp fun prog w A R s ⟨h1, h⟩ => by
    obtain ⟨hp, g, d, tk, os⟩ := s
    have hsub := sub_enumerate
    have q1 : ∀ {A' : Around} {E : Value → Shared → Prop} {Q : Value → Shared → Prop}, Q (.ref hp.objs.size) ⟨hp.push o, g, d, tk, os⟩ → wpAny (model prog w) A' (pyIter v) Q E ⟨hp, g, d, tk, os⟩ := fun q => B.iter prog w _ _ _ _ h1 q
    wp_walk using q1
    refine wpAny_stack_any fun st => wpAny_pure ?_
    split
    · rename_i c _ _ _ _ _
      cases (c == Value.type "enumerate") <;> (wp_walk using q1; exact ⟨_, rfl, h⟩)
    · wp_walk using q1
      exact ⟨_, rfl, h⟩
section
variable {prog : Program} {w : World} {A : Around} {E : Value → Shared → Prop} {s : Shared}
theorem enum_begins1 {v : Value} {o : Obj} {Hs : Heap → Prop} {Q : Value → Shared → Prop} (B : Begins v o Hs) (h1 : Hs s.heap)
    (h : ∀ h', IsEnum h' (s.heap.objs.size + 1) s.heap.objs.size 0 .none → h'.get? s.heap.objs.size = some o → (∀ b o, s.heap.get? b = some o → h'.get? b = some o) → Q (.ref (s.heap.objs.size + 1)) { s with heap := h' }) :
    wpAny (model prog w) A (call (.type "enumerate") [v]) Q E s := by
  refine callType_new F.called_enumerate (by decide) (F.typeCall_enumerate_1 _) (F.newCall_enumerate_1 _) (fun obj => F.args_object_init_2 obj _) F.entry_enumerate_new (begins_new1 B) ⟨h1, ?_⟩
  have hz : (s.heap.push o).objs.size = s.heap.objs.size + 1 := Heap.size_push ..
  show _ ∧ _
  have he := Heap.get?_push_size (s.heap.push o) (o := { cls := .type "enumerate", data := .fields #[.none, .bool false, .ref s.heap.objs.size, rawInt 0, .none, .none] }) rfl
  rw [hz] at he ⊢
  exact ⟨⟨_, he, rfl⟩, h _ he (Heap.get?_push_of_some _ (Heap.get?_push_size _ B.free)) fun b o x => Heap.get?_push_of_some _ (Heap.get?_push_of_some _ x)⟩
end
def rEnumT (K : PySem.W.Frag) (vs : List V) (H : Hp) (R : It → Hp → Prop) : Prop := ∃ a xs, vs = [.ref a] ∧ SqT K H a xs ∧ R (ItU K a) H
def iEnumT (K : PySem.W.Frag) (ta : TA) : TI := fun σ H R => ta σ H fun vs H1 => rEnumT K vs H1 R
theorem pi_enumT {X : Cx} {e : Expr} {ta : TA} {p pos tpos : Pos} {elts : List Expr} {kk : Nat} (hg : Gl X "enumerate") (hm : X.mg "enumerate" = none) (ha : PA X [e] ta) (hs : starEach [e] X.env = [(false, eval e X.env)] := by rfl) :
    PI X (.Tuple elts kk tpos) (.Call (.Name "enumerate" p) [e] [] pos) (iEnumT X.K ta) := by
  refine ⟨fun pins s σ H R I h => Call_ (ld_blt I hg hm boot_enumerate (callWith_type1 (thn (ha.run pos pins s σ H _ I h) fun us s1 ⟨vs, H1, I1, r1, a, xs, ex, hq, q⟩ => ?_) hs rfl))⟩
  subst ex
  cases r1 with
  | cons r rr =>
    cases rr
    cases r
    obtain ⟨its, rv, p', _⟩ := I1.tuple hq
    refine enum_begins1 (begins_tuple a its.toArray) (show s1.heap.IsTuple a its.toArray from p') fun h' he hit hk => wpAny_pyIter_enum he ?_
    have I2 : Inv X pins σ H1 { s1 with heap := h' } := I1.kept (t' := s1.toks) hk
    refine ⟨s1.heap.objs.size + 1, [s1.heap.objs.size + 1, s1.heap.objs.size], _, _, H1, rfl, I2, turn_enumU a (s1.heap.objs.size + 1) s1.heap.objs.size, ⟨⟨.none, he⟩, ⟨_, hit, rfl, rfl⟩, Nat.succ_ne_self _⟩, fun b hb => ?_, q⟩
    have hb' : b = s1.heap.objs.size + 1 ∨ b = s1.heap.objs.size := by simpa using hb
    have hle : s1.heap.objs.size ≤ b := by
      rcases hb' with rfl | rfl
      · exact Nat.le_succ _
      · exact Nat.le_refl _
    exact I1.fpOk hle (I1.hok.fresh hle)
def rLenD (vs : List V) (H : Hp) (Q : VK) : Prop := ∃ a kvs, vs = [V.ref a] ∧ H a = some (.dK kvs) ∧ Q (.int kvs.length) H
theorem c_lenD {X : Cx} : CallR X (.builtin "len") rLenD := call_lenD
theorem w_lenD {H : Hp} {Q : VK} {a : Addr} {kvs : List (Key × V)} (e : H a = some (.dK kvs)) (h : Q (.int kvs.length) H) : rLenD [.ref a] H Q := ⟨a, kvs, rfl, e, h⟩
section
variable {K : PySem.W.Frag} {σ : L2.St} {H : Hp} {a : Addr} {xs : List V}
theorem walk_enumT : Walk (ItU K a) xs.length (fun H => SqT K H a xs) (fun i H v H' => ∃ T x, v = .ref T ∧ H T = none ∧ H' = upd H T (.tup [.int (i : Nat), x]) ∧ xs[i]? = some x) :=
  ⟨fun i H hi h => ⟨xs, xs[i], h, List.getElem?_eq_getElem hi⟩, fun H h => ⟨xs, h, rfl⟩, fun i H x H' hi h ⟨T, y, e1, e2, e3, e4⟩ => ⟨T, y, e1, e2, e3, e4 xs h⟩⟩
theorem w_enum {ta : TA} {R : It → Hp → Prop} (h : ta σ H fun vs H1 => rEnumT K vs H1 R) : iEnumT K ta σ H R := h
theorem w_enum' {R : It → Hp → Prop} (h1 : SqT K H a xs) (h : R (ItU K a) H) : rEnumT K [.ref a] H R := ⟨a, xs, rfl, h1, h⟩
end
/-! ### what keeps all but the deck -/
structure KX (dk : Addr) (H H' : Hp) : Prop extends KD H H' where
  p : Kp [dk] H H'
theorem KX.of {d : Addr} {H H' : Hp} (k : Same H H') : KX d H H' := ⟨KD.of k, Kp.of k⟩
theorem KX.refl {d : Addr} {H : Hp} : KX d H H := ⟨KD.refl, Kp.refl⟩
theorem KX.trans {d : Addr} {H H1 H2 : Hp} (a : KX d H H1) (b : KX d H1 H2) : KX d H H2 := ⟨a.toKD.trans b.toKD, a.p.trans b.p⟩
theorem Deck.kx {H H' : Hp} {d c : Addr} {n m : Nat} (D : Deck H d c n) (D' : Deck H' d c m) (o : Off d H H') : KX d H H' := ⟨D.kd D' o, o.kp (by simp)⟩
instance {d : Addr} {H H' : Hp} : CoeOut (KX d H H') (KD H H') := ⟨KX.toKD⟩
/-- [x for .. if ..]: which are taken is left open; S goes on from turn to turn -/
theorem lcp_some {σ : L2.St} {H : Hp} {Q : VK} {J : It} {n : Nat} {G : Hp → Prop} {Y : Nat → Hp → V → Hp → Prop} (w : Walk J n G Y) {g : TG} {tt : TT} {te : TE} {vs : List Nat} (M : List Addr) (P : V → Prop) (S : Nat → Hp → Prop) (hz : n ≤ 1000000)
    (SD : ∀ D, H D = none → ∀ i H1 o, S i H1 → S i (upd H1 D o)) (hG : ∀ i H', Kp M H H' → S i H' → G H') (S0 : S 0 H)
    (hs : ∀ i x H1 H2 (R : V → Hp → Prop) (R0 : Hp → Prop), i < n → Kp M H H1 → S i H1 → Y i H1 x H2 → (∀ y H4, P y → Kp M H1 H4 → S (i + 1) H4 → R y H4) → (∀ H4, Kp M H1 H4 → S (i + 1) H4 → R0 H4) → g x (wipe σ vs) H2 fun σ2 H3 => wipe σ2 vs = wipe σ vs ∧ tt σ2 H3 fun b H4 => if b = true then te σ2 H4 R else R0 H4)
    (hM : ∀ b ∈ M, ∃ o, H b = some o)
    (hd : ∀ D H' ys, ys.length ≤ n → (∀ y ∈ ys, P y) → H D = none → Kp M H H' → S n H' → H' D = some (.lst ys) → Q (.ref D) H') : LcP J g tt te vs Q σ H := by
  intro D hD
  have hDM : D ∉ M := fun z => by obtain ⟨o, e⟩ := hM D z; rw [hD] at e; cases e
  refine lc_it w (fun i H' => Kp M H H' ∧ S i H' ∧ ∃ ys, ys.length ≤ i ∧ H' D = some (.lst ys) ∧ ∀ y ∈ ys, P y) ⟨Kp.new hD, SD D hD _ _ _ S0, [], Nat.le_refl _, upd_same, by simp⟩ (fun i H' _ z => hG i H' z.1 z.2.1) ?_ ?_
  · rintro i x H1 H2 hi ⟨k1, s1, ys, hl, e1, hp⟩ y
    refine hs i x H1 H2 _ _ hi k1 s1 y ?_ ?_
    · intro z H4 pz k4 s4
      refine ⟨ys, k4 _ _ hDM e1, Nat.lt_of_le_of_lt hl (Nat.lt_of_lt_of_le (Nat.lt_of_lt_of_le hi hz) (by decide)), (k1.trans k4).mutN hD, SD D hD _ _ _ s4, ys ++ [z], by rw [List.length_append]; simpa using hl, upd_same, fun y' hy' => ?_⟩
      rcases List.mem_append.mp hy' with h | h
      · exact hp y' h
      · have e : y' = z := by simpa using h
        rw [e]
        exact pz
    · intro H4 k4 s4
      exact ⟨k1.trans k4, s4, ys, Nat.le_succ_of_le hl, k4 _ _ hDM e1, hp⟩
  · rintro H' ⟨k, sn, ys, hl, e, hp⟩
    exact hd D H' ys hl hp hD k sn e
end FW

set_option Elab.async false
set_option linter.all false
set_option maxRecDepth 100000
set_option maxHeartbeats 4000000
/-! sorted(d) of a dict of ints, of any length -/
namespace FW
open PySem PySem.Spec PyProof.Rows L2
def rSortA (xs : List V) (H : Hp) (Q : VK) : Prop := ∃ (a : Addr) (kvs : List (Key × V)) (ks : List Int), xs = [.ref a] ∧ Rd H a (.dK kvs) ∧ kvs.map (·.1) = ks.map Sum.inl ∧ ks.length ≤ 100000 ∧
    ∀ (ys : List Int) (p : Addr), ys.Perm ks → ys.Pairwise (· ≤ ·) → H p = none → Q (.ref p) (upd H p (.lst (ys.map V.int)))
theorem c_sortA {X : Cx} (hcalm : X.calm = true) : CallR X (.builtin "sorted") rSortA := by
  intro pins s σ H xs us Q I r ⟨a, kvs, ks, ex, hd, hks, hlk, q⟩
  subst ex
  obtain ⟨u, eu, rx⟩ := vals1 r
  subst eu
  cases rx
  obtain ⟨z, lo, vs, rel, dd⟩ := dk_rd I.hok hd
  obtain ⟨ep, hat⟩ := dd.dictAt
  have hkeys : vs.map (·.1) = ks.map Sum.inl := rel.keys.symm.trans hks
  have hl : vs.length = ks.length := by
    have e := congrArg List.length hkeys
    simpa using e
  have h16 : vs.length ≤ sizeLine := by rw [hl, sizeLine_eq]; omega
  refine Calls.call_function_entry kind_sorted plain_sorted entry_sorted (args_sorted1 _) ?_
  unfold Builtin.«sorted»; refine wpAny_bind (m := checkCount "sorted" 1 1 _) (wpAny_pure ?_)
  refine wpAny_bind (PySem.W.kdu_collect (A := X.A.in1) (PySem.W.kdl_dict (knd := mixKind X.prog X.w) (kvs := vs) (ep := ep) lo) (I.ok.hd hcalm) hat h16 fun h' tk acc hk hacc => ?_)
  have hal : acc.toList.length = ks.length := by rw [Array.length_toList, hacc.1, hl]
  have hS : IntsAre acc.toList ks := ints_each hal fun j v e => by
    obtain ⟨k, x, e1, e2⟩ := hacc.2 j v (by rw [← Array.getElem?_toList]; exact e)
    have e3 : (vs.map (·.1))[j]? = some k := by rw [List.getElem?_map, e1]; rfl
    rw [hkeys, List.getElem?_map] at e3
    obtain ⟨y, e4, e5⟩ := Option.map_eq_some_iff.mp e3
    subst e5
    rcases keyIs_shape (show keyIs (Sum.inl y) v = true from e2) with ⟨i, t, ek, ev⟩ | ⟨z, t, ek, ev⟩
    · cases ek
      exact ⟨y, t, e4, ev⟩
    · cases ek
  have I1 : Inv X pins σ H { s with heap := h', toks := tk } := I.kept hk
  have hz : acc.toList.length ≤ sizeLine := by rw [hal, sizeLine_eq]; omega
  refine wpAny_bind (wpAny_newList ?_ hz)
  have hoL : (h'.push (seqObj "list" acc.toList.toArray 0)).get? h'.objs.size = some (seqObj "list" acc.toList.toArray 0) := Heap.get?_push_size _ rfl
  show wpAny _ _ _ _ _ { s with heap := h'.push (seqObj "list" acc.toList.toArray 0), toks := tk }
  refine wpAny_bind (wpAny_holding (wpAny_call_entry slot_list_sort ⟨_, hoL, rfl⟩ entry_list_sort (SrtO.list_sort_ord (s := { s with heap := h'.push (seqObj "list" acc.toList.toArray 0), toks := tk }) SrtO.swo_int hoL hz (fun h2 => SrtO.ints_sortable hS h2) fun out h1 h2 => ⟨_, rfl, ?_⟩) (args_list_sort _)))
  obtain ⟨g1, g2, g3⟩ := SrtO.ints_out hS h1 h2
  obtain ⟨e', he'⟩ := sortedHeap_at (vs := acc.toList) (out := out.toArray) hoL
  have hlen : ((out.map SrtO.iv).map V.int).length ≤ sizeLine := by rw [List.length_map, g2.length_eq, ← hal]; exact hz
  refine wpAny_pure ⟨_, rfl, .ref h'.objs.size, upd H h'.objs.size (.lst ((out.map SrtO.iv).map V.int)), I1.laid (t' := tk) (fun b u e => ?_) (Nat.le_refl _) (show ObjOk X.prog X.w _ _ _ (.lst ((out.map SrtO.iv).map V.int)) from ⟨hlen, out, e', vals_of_ints g1, he'⟩), rfl, q _ _ g2 g3 (I1.hok.fresh (Nat.le_refl _))⟩
  have hb : b < h'.objs.size := Heap.lt_size e
  rw [sortedHeap_old (Nat.ne_of_lt hb) (by rw [size_push']; exact Nat.lt_succ_of_lt hb)]
  exact Heap.get?_push_of_some _ e
theorem w_lenSetI {K : PySem.W.Frag} {σ : L2.St} {H : Hp} {Q : VK} {ta : TE} (h : ta σ H fun x H1 => ∃ (l : Addr) (ns : List Int), x = .ref l ∧ SqL K H1 l (ns.map V.int) ∧ ns.Nodup ∧ ns.length ≤ 4000 ∧ Q (.int (ns.length : Nat)) H1) : RZ.tLenSetI K ta σ H Q := h
theorem w_sortA {H : Hp} {Q : VK} {a : Addr} {kvs : List (Key × V)} {ks : List Int} (e : H a = some (.dK kvs)) (hk : kvs.map (·.1) = ks.map Sum.inl) (hl : ks.length ≤ 100000) (h : ∀ (ys : List Int) p H1, ys.Perm ks → ys.Pairwise (· ≤ ·) → H p = none → H1 p = some (.lst (ys.map V.int)) → Same H H1 → Q (.ref p) H1) : rSortA [.ref a] H Q :=
  ⟨a, kvs, ks, rfl, .inl e, hk, hl, fun ys p g1 g2 hp => h ys p _ g1 g2 hp upd_same (Same.new hp)⟩
end FW

set_option Elab.async false
set_option linter.all false
set_option maxRecDepth 100000
set_option maxHeartbeats 4000000
/-! t[k::w] of a tuple; extend by a tuple; pairs in a list -/
namespace HT
open PySem PySem.Spec PyProof.Rows
section
variable {prog : Program} {w : World} {A : Around} {E : Value → Shared → Prop} {s : Shared}
def places (n k w : Nat) : Nat := (n - k - 1) / w + 1
theorem applied_step {sl : Addr} {vl vs : Value} {k c n : Nat} {Q : Int × Int × Nat → Shared → Prop} (hs : s.heap.IsSliceOf sl vl .none vs) (pl : IsPart vl (some (k : Int))) (ps : IsPart vs (some (c : Int))) (hk : k < n) (hc : 0 < c)
    (h : Q ((k : Int), (c : Int), places n k c) s) : wpAny (model prog w) A (Builtin.Slice.sliceApplied (.ref sl) (pure (n : Int))) Q E s := by
  obtain ⟨os, hos, hcs, hds⟩ := id hs
  unfold Builtin.Slice.sliceApplied Builtin.Slice.sliceFields
  refine wpAny_bind (wpAny_bind (wpAny_field hos hds (x := vl) rfl (wpAny_bind (wpAny_field hos hds (x := .none) rfl (wpAny_bind (wpAny_field hos hds (x := vs) rfl (wpAny_pure ?_)))))))
  refine wpAny_bind (slicePart_ ps ?_)
  show wpAny _ _ (if ((c : Int) == 0) = true then _ else _) _ _ s
  rw [if_neg (by simp; omega)]
  refine wpAny_bind (slicePart_ pl (wpAny_bind (slicePart_none (wpAny_bind (wpAny_pure ?_)))))
  show wpAny _ _ (match Builtin.Slice.sliceAdjust (some (k : Int)) none (c : Int) (n : Int) with | (lo, hi) => pure (lo, (c : Int), Builtin.Slice.slicePlaces lo hi c)) _ _ s
  have e1 : Builtin.Slice.sliceAdjust (some (k : Int)) none (c : Int) (n : Int) = ((k : Int), (n : Int)) := by
    unfold Builtin.Slice.sliceAdjust
    have g1 : ¬ ((c : Int) < 0) := by omega
    have g2 : ¬ ((k : Int) < 0) := by omega
    simp only [g1, g2, if_false]
    rw [Int.min_eq_left (by omega)]
  have e2 : Builtin.Slice.slicePlaces (k : Int) (n : Int) (c : Int) = places n k c := by
    unfold Builtin.Slice.slicePlaces places
    rw [if_pos (by omega), if_pos (by omega)]
    have e3 : ((n : Int) - k - 1) = ((n - k - 1 : Nat) : Int) := by omega
    rw [e3, ← Int.natCast_ediv]
    generalize (n - k - 1) / c = z
    omega
  rw [e1]
  show wpAny _ _ (pure ((k : Int), (c : Int), Builtin.Slice.slicePlaces (k : Int) (n : Int) (c : Int))) _ _ s
  rw [e2]
  exact wpAny_pure h
def stepL {α : Type} (xs : List α) (k c : Nat) : List α := (List.range (places xs.length k c)).filterMap fun j => xs[k + j * c]?
theorem stepL_le {α : Type} (xs : List α) (k c : Nat) : (stepL xs k c).length ≤ places xs.length k c := Nat.le_trans (List.length_filterMap_le _ _) (by rw [List.length_range]; exact Nat.le_refl _)
theorem places_le {n k c : Nat} (hk : k < n) : places n k c ≤ n := by
  unfold places
  have := Nat.div_le_self (n - k - 1) c
  omega
theorem stepL_whole {α : Type} (xs : List α) : stepL xs 0 1 = xs := by
  unfold stepL places
  cases xs with
  | nil => simp
  | cons x r =>
    have e : ((x :: r).length - 0 - 1) / 1 + 1 = (x :: r).length := by simp
    rw [e]
    apply List.ext_getElem?
    intro i
    have h : (List.range (x :: r).length).filterMap (fun j => (x :: r)[0 + j * 1]?) = x :: r := by
      have h2 : (fun j => (x :: r)[0 + j * 1]?) = fun j => (x :: r)[j]? := by funext j; rw [Nat.zero_add, Nat.mul_one]
      rw [h2]
      exact range_get (x :: r)
    rw [h]
where
  range_get {α : Type} : ∀ ys : List α, (List.range ys.length).filterMap (fun j => ys[j]?) = ys
    | [] => rfl
    | y :: ys => by
      rw [List.length_cons, List.range_succ_eq_map, List.filterMap_cons, List.filterMap_map]
      show y :: (List.range ys.length).filterMap (fun j => ys[j]?) = _
      rw [range_get ys]
theorem item_step {t sl : Addr} {items : Array Value} {vl vs : Value} {k c : Nat} {Q : Value → Shared → Prop} (ht : IsTup s.heap t items) (hs : s.heap.IsSliceOf sl vl .none vs) (pl : IsPart vl (some (k : Int))) (ps : IsPart vs (some (c : Int))) (hk : k < items.size) (hc : 0 < c)
    (h1 : k = 0 → c = 1 → Q (.ref t) s) (h2 : ¬ (k = 0 ∧ c = 1) → Q (.ref s.heap.objs.size) { s with heap := s.heap.push { cls := .type "tuple", data := .seq (stepL items.toList k c).toArray } })
    (hsz : items.size ≤ sizeLine) : wpAny (model prog w) A (getItem (.ref t) (.ref sl)) Q E s := by
  have htake : sizeOk (.seq (stepL items.toList k c).toArray) := by
    show (stepL items.toList k c).toArray.size ≤ sizeLine
    rw [List.size_toArray]
    have g1 := stepL_le items.toList k c
    have g2 := places_le (n := items.toList.length) (k := k) (c := c) (by rw [Array.length_toList]; exact hk)
    have g3 : items.toList.length = items.size := Array.length_toList
    rw [g3] at g1 g2
    omega
  obtain ⟨os, hos, hcs, hds⟩ := id hs
  have hTs : s.TypeIs (.ref sl) "slice" := ⟨os, hos, hcs⟩
  unfold getItem; try with_reducible refine wpAny_holding ?_
  first | refine wpAny_bind (wpAny_pure ?_) | skip
  refine wpAny_bind (wpAny_sequenceKey ht.typeIs (by decide) ?_); refine wpAny_bind (wpAny_callSpecial?_slot (name := Str.ofString "__getitem__") ht.typeIs PyProof.Rows.slot_tuple_getitem (wpAny_call_entry PyProof.Rows.slot_tuple_getitem ht.typeIs entry_tuple_getitem ?_ (args_tuple_getitem _ _)))
  show wpAny _ _ (Builtin.Tuple.tupleItemsOf (.ref t) >>= _) _ _ s; refine wpAny_bind (tupleItemsOf_ ht ?_)
  refine wpAny_bind (wpAny_typeOf hTs ?_); rw [if_pos (by decide)]; refine wpAny_bind (applied_step hs pl ps hk hc ?_)
  show wpAny _ _ (if ((k : Int) == 0 && (c : Int) == 1 && (places items.size k c) == items.size) = true then _ else _) _ _ s
  by_cases hw : k = 0 ∧ c = 1
  · obtain ⟨rfl, rfl⟩ := hw
    have hyes : (((0 : Nat) : Int) == 0 && ((1 : Nat) : Int) == 1 && (places items.size 0 1) == items.size) = true := by
      have e : places items.size 0 1 = items.size := by unfold places; rw [Nat.div_one]; omega
      rw [e]; simp
    rw [if_pos hyes]; refine wpAny_bind ?_
    show wpAny _ _ (typeOf (.ref t) >>= fun T => pure (T == .type "tuple")) _ _ s; refine wpAny_bind (wpAny_typeOf ht.typeIs (wpAny_pure ?_))
    first | rw [if_pos (by decide)] | simp only [beq_self_eq_true, if_true]
    first | exact wpAny_bind (wpAny_rule (wpAny_pure ⟨_, rfl, wpAny_pure (h1 rfl rfl)⟩)) | exact wpAny_bind (wpAny_rule (wpAny_bind (wpAny_pure (wpAny_pure ⟨_, rfl, wpAny_pure (h1 rfl rfl)⟩))))
  · have hno : ¬ (((k : Int) == 0 && (c : Int) == 1 && (places items.size k c) == items.size) = true) := by
      intro q
      rw [Bool.and_eq_true, Bool.and_eq_true] at q
      have q1 : (k : Int) = 0 := eq_of_beq q.1.1
      have q2 : (c : Int) = 1 := eq_of_beq q.1.2
      exact hw ⟨by omega, by omega⟩
    have ep : ((List.range (places items.size k c)).filterMap fun (m : Nat) => items[((k : Int) + (m : Int) * c).toNat]?).toArray = (stepL items.toList k c).toArray := by
      unfold stepL
      rw [Array.length_toList]
      congr 2
      funext m
      have e : ((k : Int) + (m : Int) * c).toNat = k + m * c := by
        have : ((k : Int) + (m : Int) * c) = ((k + m * c : Nat) : Int) := by simp
        rw [this]; rfl
      rw [e, Array.getElem?_toList]
    have h := h2 hw
    rw [if_neg hno, ep]
    first | exact wpAny_bind (m := Builtin.Tuple.tupleExact _) (wpAny_newObj_type (wpAny_pure ⟨_, rfl, wpAny_pure h⟩) htake) | exact wpAny_bind (m := Builtin.Tuple.tupleExact _) (wpAny_newObj_type (wpAny_bind (wpAny_pure (wpAny_pure ⟨_, rfl, wpAny_pure h⟩))) htake) | exact wpAny_bind (wpAny_bind (m := Builtin.Tuple.tupleExact _) (wpAny_newObj_type (wpAny_pure (wpAny_pure ⟨_, rfl, wpAny_pure h⟩)) htake)) | exact wpAny_bind (wpAny_bind (m := Builtin.Tuple.tupleExact _) (wpAny_newObj_type (wpAny_pure ⟨_, rfl, wpAny_pure h⟩) htake))
end
end HT
namespace FW
open PySem PySem.Spec PyProof.Rows L2
/-- t[k::w] -/
def rStep (K : PySem.W.Frag) (x y z : V) (H : Hp) (Q : VK) : Prop := ∃ (a : Addr) (xs : List V) (k c : Nat), x = .ref a ∧ y = .int k ∧ z = .int c ∧ SqT K H a xs ∧ k < xs.length ∧ 0 < c ∧ (k = 0 → c = 1 → Q (.ref a) H) ∧ (¬ (k = 0 ∧ c = 1) → Nw (.tup (HT.stepL xs k c)) H Q)
def tStep (K : PySem.W.Frag) (te tl ts : TE) : TE := fun σ H Q => te σ H fun x H1 => tl σ H1 fun y H2 => ts σ H2 fun z H3 => rStep K x y z H3 Q
theorem vals_step {xs : List V} {its : List Value} (r : Vals xs its) (k c n : Nat) : Vals ((List.range n).filterMap fun j => xs[k + j * c]?) ((List.range n).filterMap fun j => its[k + j * c]?) := by
  induction n with
  | zero => exact .nil
  | succ n ih =>
    rw [List.range_succ, List.filterMap_append, List.filterMap_append]
    refine ih.append ?_
    cases e : xs[k + n * c]? with
    | none =>
      have e2 : its[k + n * c]? = none := by
        rw [List.getElem?_eq_none_iff] at e ⊢
        rw [← r.length]; exact e
      simp only [List.filterMap_cons, List.filterMap_nil, e, e2]
      exact .nil
    | some x =>
      obtain ⟨u, hu, ru⟩ := r.get e
      simp only [List.filterMap_cons, List.filterMap_nil, e, hu]
      exact .cons ru .nil
section
variable {X : Cx}
theorem pe_step {e lo st : Expr} {te tl ts : TE} {p2 pos : Pos} (he : PE X e te) (hl : PE X lo tl) (hst : PE X st ts) : PE X (.Subscript e (.Slice (some lo) none (some st) p2) pos) (tStep X.K te tl ts) := by
  refine ⟨fun pins s σ H Q I h => Subscript_ (thn (he.run pins s σ H _ I h) fun v s1 ⟨x, H1, I1, r1, q1⟩ => ?_)⟩
  refine wpAny_Slice (thn (hl.run pins s1 σ H1 _ I1 q1) fun vl s2 ⟨y, H2, I2, r2, q2⟩ => ?_)
  rw [evalPart_none]
  refine wpAny_pure ?_
  refine thn (hst.run pins s2 σ H2 _ I2 q2) fun vs s3 ⟨z, H3, I3, r3, a, xs, k, c, ex, ey, ez, hx, hk, hc, g1, g2⟩ => ?_
  subst ex ey ez
  cases r1
  obtain ⟨t1, rfl⟩ := r2
  obtain ⟨t2, rfl⟩ := r3
  have I4 : Inv X pins σ H3 { s3 with heap := s3.heap.push { cls := .type "slice", data := .fields #[.int (k : Int) t1, .none, .int (c : Int) t2] } } := I3.kept (t' := s3.toks) fun b ob q => Heap.get?_push_of_some _ q
  obtain ⟨its, r, ht, hz⟩ := I4.tuple hx
  have hlen : its.toArray.size = xs.length := by rw [List.size_toArray]; exact r.length.symm
  show wpAny (model X.prog X.w) X.A (subscriptTail e (.Slice (some lo) none (some st) p2) (.ref a) (.ref s3.heap.objs.size)) (EP X pins σ Q) X.xe _
  refine tail_any (ops := [.ref a, .ref s3.heap.objs.size]) ht.typeIs PyProof.Rows.slot_tuple_getitem.lookup ?_ (by with_unfolding_all rfl)
  refine HT.item_step ht (Heap.IsSliceOf.new _ _ _ _) (.int _ t1) (.int _ t2) (by rw [hlen]; exact hk) hc (fun h1 h2 => ⟨.ref a, H3, I4, rfl, g1 h1 h2⟩) (fun hn => ?_) (by rw [hlen]; exact hz)
  refine ⟨.ref _, _, I4.laid (t' := s3.toks) (o := .tup (HT.stepL xs k c)) (fun b ob q => Heap.get?_push_of_some _ q) (Nat.le_refl _) ?_, rfl, g2 hn _ (I4.hok.fresh (Nat.le_refl _))⟩
  refine ⟨Nat.le_trans (HT.stepL_le xs k c) (Nat.le_trans (HT.places_le hk) hz), _, ?_, IsTup.new _ _⟩
  unfold HT.stepL
  have hl2 : its.length = xs.length := r.length.symm
  show Vals _ ((List.range (HT.places its.length k c)).filterMap fun j => its[k + j * c]?)
  rw [hl2]
  exact vals_step r k c _
theorem ext_meets (l : Addr) (items : Array Value) (n : Nat) (b : Addr) (items2 : Array Value) (n2 : Nat) (dd : Option Addr) (sl : Array (Option Value)) (hs0 : ¬(!items.isEmpty && Builtin.List.listTooLong (items.size + items2.size)) = true) (hs1 : items.size ≤ sizeLine) (hs2 : items.size + items2.size ≤ sizeLine + 1) :
    Meets (Builtin.«list.extend» ⟨[.ref l, .ref b], []⟩) (fun _ R s => s.heap.get? l = some { cls := .type "list", dict := none, data := .seq items n, slots := #[] } ∧ s.heap.get? b = some { cls := .type "tuple", dict := dd, data := .seq items2 n2, slots := sl } ∧ R (.ok (.ret Value.none)) { s with heap := s.heap.update l (Obj.mapSeq fun x => x ++ items2), toks := s.toks }) :=
  .of_wp fun prog w A R s h => by
    obtain ⟨hp, g, d, tk, os⟩ := s
    obtain ⟨hl, hb, h⟩ := h
    have f1 := AutoSeq1.idx_int; have f2 := AutoSeq1.sub_tuple_tuple; have f3 := AutoSeq1.sub_list_list; have f4 := AutoSeq1.sub_tuple_list; have f5 := AutoSeq1.sub_list_tuple; have hz' : (items ++ items2).size ≤ sizeLine + 1 := by rw [Array.size_append]; exact hs2
    wp_walk using (wpAny_updateSeq hl rfl (hz := hs1) (_hz' := hz')), AutoSeq1.wpAny_loadPart' hl, AutoSeq1.wpAny_loadPart' hb
    exact ⟨_, rfl, h⟩
def rExtT (K : PySem.W.Frag) : V → List V → Hp → VK → Prop := fun x vs H Q => ∃ l b xs zs, x = .ref l ∧ vs = [.ref b] ∧ H l = some (.lst xs) ∧ H b = some (.tup zs) ∧ xs.length + zs.length ≤ sizeLine ∧ Q .non (upd H l (.lst (xs ++ zs)))
theorem mt_extT : MtM X "list.extend" (rExtT X.K) := by
  intro pins s σ H x vs v us Q I rx rv ⟨l, b, xs, zs, e0, e1, hH, hB, hz, q⟩
  subst e0 e1
  cases rx
  obtain ⟨u, rfl, ru⟩ := rv.one
  cases ru
  obtain ⟨z, its, n, r, hl, e⟩ := I.lstM hH
  obtain ⟨its2, r2, ⟨⟨oc, dd, od, sl⟩, e2, ec, n2, ed⟩, z2⟩ := I.tuple (.of hB)
  have hl2 := r2.length
  dsimp only at ec ed
  subst ec ed
  have hsz : its.toArray.size + its2.toArray.size ≤ sizeLine := by rw [List.size_toArray, List.size_toArray]; omega
  have hlong : ¬ (!its.toArray.isEmpty && Builtin.List.listTooLong (its.toArray.size + its2.toArray.size)) = true := by rw [notLongL hsz, Bool.and_false]; exact Bool.false_ne_true
  refine call_meets F.slot_list_extend ⟨_, e, rfl⟩ F.entry_list_extend (F.args_list_extend_2 _ _) (ext_meets l its.toArray n b its2.toArray n2 dd sl hlong (by rw [List.size_toArray]; omega) (by omega)) ⟨e, e2, ?_⟩
  refine ⟨.non, _, I.lset (its' := its ++ its2) hH e (by simp) (r.append r2) ?_, rfl, q⟩
  rw [List.length_append]; omega
/-- a pair (int, truth) that is not in a list of such -/
def rNotInP (K : PySem.W.Frag) : R2 := fun x y H Q => ∃ (p a : Addr) (v : Int) (b : Bool) (an : List (Addr × Int × Bool)), x = .ref p ∧ y = .ref a ∧ H p = some (.tup [.int v, .bl b]) ∧ SqL K H a (an.map fun q => .ref q.1) ∧ (∀ q ∈ an, H q.1 = some (.tup [.int q.2.1, .bl q.2.2])) ∧ Q (.bl (decide ((v, b) ∉ an.map (·.2)))) H
theorem hold_ib {pins : List (Addr × Obj)} {σ : L2.St} {H : Hp} {s : Shared} (I : Inv X pins σ H s) {p : Addr} {x : Int} {y : Bool} (e : H p = some (.tup [.int x, .bl y])) : PySem.W.Holds s.heap (.ref p) (x, y) := by
  obtain ⟨its, rv, hl, _⟩ := I.tuple (.of e)
  cases rv with
  | cons r1 rr =>
    cases rr with
    | cons r2 rr =>
      cases rr
      obtain ⟨t1, rfl⟩ := r1
      cases r2
      exact PySem.W.holds_pair hl (PySem.W.holds_int _ _) (PySem.W.holds_bool _)
theorem hold_allB {pins : List (Addr × Obj)} {σ : L2.St} {H : Hp} {s : Shared} (I : Inv X pins σ H s) : ∀ (ps : List (Addr × Int × Bool)) (its : List Value), Vals (ps.map fun q => V.ref q.1) its → (∀ q ∈ ps, H q.1 = some (.tup [.int q.2.1, .bl q.2.2])) → PySem.W.HoldAll s.heap its (ps.map (·.2))
  | [], _, r, _ => by cases r; exact PySem.W.HoldAll.nil
  | q :: ps, _, r, h => by
    cases r with
    | cons r1 rr =>
      cases r1
      exact PySem.W.HoldAll.cons (hold_ib I (h q (by simp))) (hold_allB I ps _ rr fun z hz => h z (by simp [hz]))
theorem op_notInP (hu : X.A.units + 100 < cLine) : OpR X (compareOp .NotIn) (rNotInP X.K) := by
  intro pins s σ H x y v u Q I rx ry ⟨p, a, w, b, an, e0, e1, hp, hs, hq, q⟩
  subst e0 e1
  cases rx
  cases ry
  obtain ⟨its, rv, hl, _⟩ := I.list hs
  have hdp : PySem.W.Datum.depth (Int × Bool) ≤ 50 := by decide
  exact PySem.W.notIn_list_datum (xs := an.map (·.2)) (x := (w, b)) hl.isList (by simpa using hold_allB I an its rv hq) (hold_ib I hp) (by omega) ⟨.bl _, H, I, congrArg Value.bool (decide_eq_decide.mpr Iff.rfl), q⟩
end
section
variable {K : PySem.W.Frag} {σ : L2.St} {H : Hp} {Q : VK}
theorem w_step {te tl ts : TE} (h : te σ H fun x H1 => tl σ H1 fun y H2 => ts σ H2 fun z H3 => rStep K x y z H3 Q) : tStep K te tl ts σ H Q := h
theorem w_step' {a : Addr} {xs : List V} {k c : Nat} (h1 : H a = some (.tup xs)) (hk : k < xs.length) (hc : 0 < c) (h : ∀ p H1, H1 p = some (.tup (HT.stepL xs k c)) → Same H H1 → Q (.ref p) H1) : rStep K (.ref a) (.int k) (.int c) H Q :=
  ⟨a, xs, k, c, rfl, rfl, rfl, .of h1, hk, hc, fun e1 e2 => h a H (by subst e1 e2; rw [HT.stepL_whole]; exact h1) (fun _ _ z => z), fun _ => w_new fun p H1 _ e k => h p H1 e k⟩
theorem w_extT {l b : Addr} {xs zs : List V} (h1 : H l = some (.lst xs)) (h2 : H b = some (.tup zs)) (hz : xs.length + zs.length ≤ sizeLine) (h : ∀ H1, H1 l = some (.lst (xs ++ zs)) → Off l H H1 → Q .non H1) : rExtT K (.ref l) [.ref b] H Q :=
  ⟨l, b, xs, zs, rfl, rfl, h1, h2, hz, h _ upd_same fun b n => upd_ne n⟩
theorem w_notInP {p a : Addr} {v : Int} {b : Bool} {an : List (Addr × Int × Bool)} (h1 : H p = some (.tup [.int v, .bl b])) (h2 : SqL K H a (an.map fun q => .ref q.1)) (h3 : ∀ q ∈ an, H q.1 = some (.tup [.int q.2.1, .bl q.2.2])) (h : Q (.bl (decide ((v, b) ∉ an.map (·.2)))) H) : rNotInP K (.ref p) (.ref a) H Q := ⟨p, a, v, b, an, rfl, rfl, h1, h2, h3, h⟩
end
end FW

set_option Elab.async false
set_option linter.all false
set_option maxRecDepth 100000
set_option maxHeartbeats 4000000
/-! a, .., *rest = t: the last target starred, t a tuple -/
namespace FW
open PySem PySem.Spec PyProof.Rows L2
section
variable {prog : Program} {w : World} {A : Around} {E : Value → Shared → Prop} {s : Shared}
theorem walks_shift {I : Addr} {fp wr : List Addr} {G : Array GenState → Array GenState → Prop} {n : Nat} {P : Nat → Value → Prop} {St : Nat → Shared → Prop} (W : WalksS prog w A I fp wr G n P St) {j : Nat} (hj : j ≤ n) : WalksS prog w A I fp wr G (n - j) (fun i => P (j + i)) (fun i => St (j + i)) where
  sub := W.sub
  grefl := W.grefl
  gtrans := W.gtrans
  frame := fun i => W.frame (j + i)
  item := fun i s Q E hi st hQ => W.item (j + i) s Q E (by omega) st fun v s' hp hs hm => hQ v s' hp hs hm
  done := fun s Q E st hQ => W.done s Q E (by rw [show j + (n - j) = n by omega] at st; exact st) hQ
  self := fun i => W.self (j + i)
theorem items_star {t : Addr} {items : Array Value} {j : Nat} {Q : List Value → Shared → Prop} (hh : A.handled = none) (ht : IsTup s.heap t items) (hj : j ≤ items.size) (hz : items.size ≤ sizeLine)
    (h : ∀ (h' : Heap) (tk : Nat), (∀ b o, s.heap.get? b = some o → h'.get? b = some o) → Q (items.toList.take j ++ [.ref h'.objs.size]) { s with heap := h'.push { cls := .type "list", data := .seq (items.toList.drop j).toArray }, toks := tk }) :
    wpAny (model prog w) A (unpackItems (.ref t) (j + 1) (some j)) Q E s := by
  have hlt : t ≠ s.heap.objs.size := by obtain ⟨o, ho, _⟩ := ht; exact Nat.ne_of_lt (Heap.lt_size ho)
  unfold unpackItems
  refine wpAny_bind ?_
  unfold notIterableAtAll
  refine wpAny_bind (wpAny_specialOf ht.typeIs slot_tuple_iter.lookup (wpAny_pure ?_))
  simp only [Bool.false_eq_true, if_false]
  refine wpAny_bind (wpAny_holding (iter_tuple ht ?_))
  refine wpAny_bind (wpAny_holding (draw_tuple hlt j 0 _ _ ⟨_, Heap.get?_push_size _ rfl, rfl, rfl⟩ (ht.push _) (by omega) fun h1 hit1 hs1 => ?_))
  have ht1 : IsTup h1 t items := (ht.push _).extBut hs1.extBut hlt
  rw [List.drop_zero, if_neg (by rw [List.length_take, Array.length_toList]; omega)]
  have hsz1 : s.heap.objs.size < h1.objs.size := by
    obtain ⟨o, ho, _⟩ := hit1
    exact Heap.lt_size ho
  have htl : t < h1.objs.size := by
    obtain ⟨o, ho, _⟩ := ht1
    exact Heap.lt_size ho
  have W := walks_shift (Walks.tuple (prog := prog) (w := w) (A := A.in1) hh s.heap.objs.size t hlt items).toS hj
  refine wpAny_bind (wpAny_holding (wpAny_collect_iter (.inr (.inr (.inr rfl))) W (fun i s' st => by obtain ⟨⟨o, ho, hc, _⟩, _⟩ := st; exact ⟨o, ho, hc⟩) (show _ ∧ _ from ⟨by rw [Nat.zero_add] at hit1; exact hit1, ht1⟩) (fun b hb => ?_) (by simp) (fun s' acc m ia => ?_) (by omega)))
  · have hb' : b = s.heap.objs.size ∨ b = t := by simpa using hb
    rcases hb' with rfl | rfl
    · exact hsz1
    · exact htl
  · have eacc : acc.toList = items.toList.drop j := by
      apply List.ext_getElem?
      intro i
      rw [List.getElem?_drop]
      by_cases hi : i < items.size - j
      · have hi2 : i < acc.size := by rw [ia.1]; exact hi
        have e1 : acc[i]? = some acc[i] := Array.getElem?_eq_getElem hi2
        have e2 := ia.2 i _ e1
        rw [Array.getElem?_toList, Array.getElem?_toList, e1]
        exact e2.symm
      · rw [List.getElem?_eq_none (by rw [Array.length_toList, ia.1]; omega), List.getElem?_eq_none (by rw [Array.length_toList]; omega)]
    have hgens : s'.gens = s.gens := m.gens
    have hdr : s'.drawn = s.drawn := m.drawn
    have hos : s'.os = s.os := m.os
    have hheap := m.heap
    obtain ⟨hp', g', d', tk', os'⟩ := s'
    dsimp only at hgens hdr hos hheap
    subst hgens hdr hos
    have old : ∀ b o, s.heap.get? b = some o → hp'.get? b = some o := fun b o e => by
      have hb : b ≠ s.heap.objs.size := Nat.ne_of_lt (Heap.lt_size e)
      exact hheap b o (by simpa using hb) (hs1.extBut b o hb (Heap.get?_push_of_some _ e))
    rw [eacc]
    have hz2 : (items.toList.drop j).length ≤ sizeLine := by rw [List.length_drop, Array.length_toList]; omega
    simp only [Nat.add_sub_cancel, Nat.sub_self, Nat.not_lt_zero, if_false, Nat.sub_zero, List.take_length, List.drop_length, List.append_nil]
    exact wpAny_bind (wpAny_newList (wpAny_pure (h hp' tk' old)) hz2)
end
/-- n names, then a starred one -/
def gStar (K : PySem.W.Frag) (j : Nat) (t : TGs) : TG := fun v σ H Q => ∃ a xs, v = .ref a ∧ SqT K H a xs ∧ j ≤ xs.length ∧ ∀ L, H L = none → t (xs.take j ++ [.ref L]) σ (upd H L (.lst (xs.drop j))) Q
section
variable {X : Cx} {pos : Pos}
theorem pg_star {es : List Expr} {k : Nat} {t : TGs} {j : Nat} (hc : X.calm = true) (h : PGs X es t) (hn : (assignEach es X.env).length = j + 1 := by rfl) (hst : (assignEach es X.env).findIdx? (·.1) = some j := by rfl) : PG X (.Tuple es k pos) (gStar X.K j t) := by
  refine ⟨fun pins s σ H v u Q I r ⟨a, xs, e1, hq, hl, hw⟩ => ?_⟩
  subst e1
  cases r
  obtain ⟨its, rv, ht, hz⟩ := I.tuple hq
  have hlen := rv.length
  rw [assign_Tuple]
  refine wpAny_bind (wpAny_standAt ?_)
  unfold unpack
  rw [hn, hst]
  refine wpAny_bind (wpAny_holding (items_star (I.ok.hd hc) ht (by rw [List.size_toArray]; omega) (by rw [List.size_toArray]; omega) fun h' tk hk => ?_))
  have I1 : Inv X pins σ H { s with heap := h', toks := tk } := I.kept hk
  have hfr := I1.hok.fresh (Nat.le_refl h'.objs.size)
  have I2 : Inv X pins σ (upd H h'.objs.size (.lst (xs.drop j))) { s with heap := h'.push { cls := .type "list", data := .seq (its.drop j).toArray }, toks := tk } :=
    I1.laid (t' := tk) (o := .lst (xs.drop j)) (fun b o q => Heap.get?_push_of_some _ q) (Nat.le_refl _) ⟨by rw [List.length_drop]; omega, _, 0, rv.drop j, Heap.get?_push_size _ rfl⟩
  exact h.run pins _ σ _ (xs.take j ++ [.ref h'.objs.size]) _ Q I2 ((rv.take j).append (.cons (show RelV (.ref h'.objs.size) (Value.ref h'.objs.size) from rfl) .nil)) (hw _ hfr)
theorem pgs_star {x : Str} {p1 p2 : Pos} {es : List Expr} {t : TG} {u : TGs} (h1 : PG X (.Name x p1) t) (h2 : PGs X es u) : PGs X (.Starred (.Name x p1) p2 :: es) (gCons t u) :=
  ⟨fun pins s σ H vs us Q I r h => (pgs_cons h1 h2).run pins s σ H vs us Q I r h⟩
end
theorem w_gstar {K : PySem.W.Frag} {σ : L2.St} {H : Hp} {j : Nat} {t : TGs} {a : Addr} {xs : List V} {R : L2.St → Hp → Prop} (h1 : SqT K H a xs) (h2 : j ≤ xs.length) (h : ∀ L H1, H L = none → H1 L = some (.lst (xs.drop j)) → Same H H1 → t (xs.take j ++ [.ref L]) σ H1 R) : gStar K j t (.ref a) σ H R :=
  ⟨a, xs, rfl, h1, h2, fun L hL => h L _ hL upd_same (Same.new hL)⟩
end FW

set_option Elab.async false
set_option linter.all false
set_option maxRecDepth 100000
set_option maxHeartbeats 4000000
/-! try with several except clauses, each with or without a name -/
namespace FW
open PySem PySem.Spec PyProof.Rows L2
abbrev Suite := Addr → Value → Option Addr → TS
/-- the ends behind a suite whose name goes -/
def unset (i : Nat) (D : Ends) : Ends := ⟨fun σ H => D.nx (σ.set i none) H, D.rt, fun σ H => D.bk (σ.set i none) H, fun σ H => D.ct (σ.set i none) H⟩
def runCl (o : Option Nat) (ts : Suite) (a : Addr) (cls : Value) (d : Option Addr) (D : Ends) (σ : L2.St) (H : Hp) : Prop :=
  match o with
  | none => ts a cls d D σ H
  | some i => ts a cls d (unset i D) (σ.set i (some (.ref a))) H
def wCl (K : PySem.W.Frag) (Wo : WX) (D : Ends) : List (Value × Option Nat × Suite) → WX
  | [] => Wo
  | (c, o, ts) :: r => fun cls d σ H => ∃ b, PySem.W.exmOne K cls c = some b ∧ (b = true → ∀ a, H a = none → runCl o ts a cls d D σ H) ∧ (b = false → wCl K Wo D r cls d σ H)
inductive ClOk (X : Cx) : List ExceptHandler → List (Value × Option Nat × Suite) → Prop
  | nil : ClOk X [] []
  | only {x : Str} {c : Value} {ts : Suite} {st : Stmt} {sts : List Stmt} {p1 p2 : Pos} {hs : List ExceptHandler} {l : List (Value × Option Nat × Suite)} (nm : Names X x c)
      (su : ∀ a oe cls d pn, Zc cls d oe → (∃ vs, oe.data = .fields vs) → PSs (X.suite a ((a, oe) :: pn)) (st :: sts) (ts a cls d)) (r : ClOk X hs l) :
      ClOk X (.ExceptHandler (some (.Name x p1)) none (st :: sts) p2 :: hs) ((c, none, ts) :: l)
  | as {x n : Str} {c : Value} {i : Nat} {ts : Suite} {st : Stmt} {sts : List Stmt} {p1 p2 : Pos} {hs : List ExceptHandler} {l : List (Value × Option Nat × Suite)} (hi : X.N[i]? = some n) (hl : X.env.kindOf n = some .local) (nm : Names X x c)
      (su : ∀ a oe cls d pn, Zc cls d oe → (∃ vs, oe.data = .fields vs) → PSs (X.suite a ((a, oe) :: pn)) (st :: sts) (ts a cls d)) (r : ClOk X hs l) :
      ClOk X (.ExceptHandler (some (.Name x p1)) (some n) (st :: sts) p2 :: hs) ((c, some i, ts) :: l)
def tTryG (K : PySem.W.Frag) (l : List (Value × Option Nat × Suite)) (Wo : WX) (tb : WX → TS) : TS := fun D σ H => tb (wCl K Wo D l) D σ H
section
variable {X : Cx} {body : List Stmt} {h1 : ExceptHandler} {hs : List ExceptHandler} {l : List (Value × Option Nat × Suite)} {pos : Pos} {tb : WX → TS} {Wo : WX}
theorem p_tryG (stk : X.stack = X.env :: X.outer) (fr : X.env.frame = some X.env.locals) (nd : X.N.Nodup) (tk : Takes X Wo)
    (pb : ∀ W pn xe, Takes (X.tr pn xe) W → PassesOwn (model X.prog X.w) X.A X.env xe → PSs (X.tr pn xe) body (tb W))
    (cl : ClOk X (h1 :: hs) l) : PS X (.Try body (h1 :: hs) [] [] pos) (tTryG X.K l Wo tb) := by
  constructor
  intro pins s σ H D I h
  have ok := I.ok
  have frm : X.A.frames = some (X.env :: X.outer) := by rw [ok.frames, stk]
  apply wpAny_Try_except
  have run := (pb (wCl X.K Wo D l) (X.pn ++ pins) (fun e z1 => wpAny (model X.prog X.w) X.A (noteFrame e X.env) (fun _ z2 => wpAny (model X.prog X.w) X.A (setFlight e none) (fun _ z3 => wpAny (model X.prog X.w) X.A (handleBy e X.env (h1 :: hs)) (SP X pins D) X.xe z3) X.xe z2) X.xe z1) ?caught PassesOwn.looking).run [] s σ H D (I.toTry _) h
  case caught =>
    intro u z xx
    obtain ⟨a, B, zI, pins', σ1, H1, cls, d, rfl, J', nb, up, sky, na, os, ag, wish⟩ := xx
    have J : Inv X pins σ1 H1 zI := J'.ofTry ok
    have sky1 : Sky B (X.env :: X.outer) a (Zc cls d) X.env.locals z.heap := by rw [← stk]; exact sky
    show wpAny (model X.prog X.w) X.A (noteFrame (.ref a) X.env) _ _ _
    refine Sky.land Zc.steady frm fr sky1 ?_
    intro g3 fl up3
    have J3 : Inv X pins σ1 H1 { z with heap := g3 } := J.landed nb fl.1 (up.trans up3) os ag
    obtain ⟨oe, vs, he, hz, hd⟩ := fl.there
    have far : a ∉ frs (X.env :: X.outer) := by
      intro hm
      obtain ⟨_, o2, e2, no⟩ := fl.2.2.1.mem hm
      rw [he] at e2
      cases e2
      exact no _ hd
    have farL : a ≠ X.env.locals := fun q => far (List.mem_filterMap.mpr ⟨X.env, by simp, by rw [fr, q]⟩)
    have farF : a ∉ X.fs := by
      intro hm
      obtain ⟨e, he', q⟩ := List.mem_filterMap.mp hm
      exact far (List.mem_filterMap.mpr ⟨e, by simp [he'], q⟩)
    have S3 := J3.suite he hd na farL farF
    have look : PySem.W.Looks (model X.prog X.w) g3 (typeOf (.ref a)) cls := fun _ _ _ _ k q => wpAny_typeOf_ref (k _ _ he) (by rw [hz.1]; exact q)
    have name : ∀ {x : Str} {c : Value} {p1 : Pos} {Q E : Value → Shared → Prop}, Names X x c → Q c { z with heap := g3 } → wpAny (model X.prog X.w) (X.A.mark (some (.ref a))) (eval (.Name x p1) X.env) Q E { z with heap := g3 } := by
      rintro x c p1 Q E ⟨hg, hdb, hm | ⟨hm, hv, hnn⟩⟩ q
      · exact ld_glob (X := X.suite a ((a, oe) :: (X.pn ++ pins))) S3 hg hm q hdb
      · exact ld_blt (X := X.suite a ((a, oe) :: (X.pn ++ pins))) S3 hg hm hv q hnn hdb
    have all : ∀ {hs' : List ExceptHandler} {l' : List (Value × Option Nat × Suite)}, ClOk X hs' l' → wCl X.K Wo D l' cls d σ1 H1 → wpAny (model X.prog X.w) X.A (handleBy (.ref a) X.env hs') (SP X pins D) X.xe { z with heap := g3 } := by
      intro hs' l' ck
      induction ck with
      | nil =>
        intro wish
        apply wpAny_handleBy_nil
        obtain ⟨_, _, _, oe', vs', T', oT, ts', he', hz', hd', hT, _⟩ := id fl
        unfold PySem.passOn
        apply wpAny_bind
        refine wpAny_field he' hd' hT ?_
        rw [if_neg (by simp)]
        have out : wpAny (model X.prog X.w) X.A (setFlight (.ref a) X.env.frame) (fun _ z4 => wpAny (model X.prog X.w) X.A (throw (.ref a) : Sem Flow) (SP X pins D) X.xe z4) X.xe { z with heap := g3 } := by
          rw [fr]
          refine HandSPX.setFlight_upZ fl ?_
          intro g4 hh4 up4
          exact wpAny_throw (tk _ _ ⟨a, B, zI, pins, σ1, H1, cls, d, rfl, J, nb, (up.trans up3).trans up4, .inr (.inr (by rw [stk]; exact hh4)), na, os, ag, wish⟩)
        first
        | exact wpAny_bind out
        | exact wpAny_bind (wpAny_pure (wpAny_bind out))
      | @only x c ts st sts p1 p2 hs2 l2 nm su r ih =>
        rintro ⟨b, hb, yes, no⟩
        refine wpAny_handleBy_cons (codeAny_handlers_test ?_) (by intro q; cases q)
        have lm := PySem.W.exm_one (M := model X.prog X.w) (J3.kIn) look hb
        refine name nm (lm.here ?_)
        cases b with
        | false => exact ih (no rfl)
        | true =>
          apply codeAny_handlers_suite
          refine HandSPX.lands_againZ fl ?_
          intro g4 fl4 up4
          have J4 : Inv X pins σ1 H1 { z with heap := g4 } := J.landed nb fl4.1 ((up.trans up3).trans up4) os ag
          obtain ⟨oe4, vs4, he4, hz4, hd4⟩ := fl4.there
          have S4 := J4.suite he4 hd4 na farL farF
          refine wpAny_mono ((su a oe4 cls d (X.pn ++ pins) hz4 ⟨_, hd4⟩).run [] _ _ H1 _ S4 (yes rfl a na)) ?_ (fun _ _ q => False.elim q)
          intro f z6 sp
          cases f with
          | ret u =>
            obtain ⟨v6, σ6, H6, S6, r6, q6⟩ := sp
            exact ⟨v6, σ6, H6, S6.unsuite ok, r6, q6⟩
          | _ =>
            obtain ⟨σ6, H6, S6, q6⟩ := sp
            exact ⟨σ6, H6, S6.unsuite ok, q6⟩
      | @as x n c i ts st sts p1 p2 hs2 l2 hi hl nm su r ih =>
        rintro ⟨b, hb, yes, no⟩
        refine wpAny_handleBy_cons (codeAny_handlers_test ?_) (by intro q; cases q)
        have lm := PySem.W.exm_one (M := model X.prog X.w) (J3.kIn) look hb
        refine name nm (lm.here ?_)
        cases b with
        | false => exact ih (no rfl)
        | true =>
          apply codeAny_handlers_suite_as
          refine HandSPX.lands_againZ fl ?_
          intro g4 fl4 up4
          have J4 : Inv X pins σ1 H1 { z with heap := g4 } := J.landed nb fl4.1 ((up.trans up3).trans up4) os ag
          obtain ⟨oe4, vs4, he4, hz4, hd4⟩ := fl4.there
          have S4 := J4.suite he4 hd4 na farL farF
          refine store_ok (X := X.suite a ((a, oe4) :: (X.pn ++ pins))) (v := .ref a) S4 nd hi (.inl hl) rfl ?_ (.inr hl)
          intro z5 S5
          refine wpAny_mono ((su a oe4 cls d (X.pn ++ pins) hz4 ⟨_, hd4⟩).run [] z5 _ H1 _ S5 (yes rfl a na)) ?_ (fun _ _ q => False.elim q)
          intro f z6 sp
          have goes : ∀ {σ6 : L2.St} {H6 : Hp} {Q : Shared → Prop}, Inv (X.suite a ((a, oe4) :: (X.pn ++ pins))) [] σ6 H6 z6 → (∀ z7, Inv X pins (σ6.set i none) H6 z7 → Q z7) → wpAny (model X.prog X.w) X.A (do bindName X.env n .none; unbindBehindTheSuite X.env n p2) (fun _ z7 => Q z7) X.xe z6 :=
            fun S6 hq => gone_ok (S6.unsuite ok) nd hi hl hq
          cases f with
          | ret u =>
            obtain ⟨v6, σ6, H6, S6, r6, q6⟩ := sp
            exact goes S6 fun z7 J7 => ⟨v6, _, _, J7, r6, q6⟩
          | next =>
            obtain ⟨σ6, H6, S6, q6⟩ := sp
            exact goes S6 fun z7 J7 => ⟨_, _, J7, q6⟩
          | brk =>
            obtain ⟨σ6, H6, S6, q6⟩ := sp
            exact goes S6 fun z7 J7 => ⟨_, _, J7, q6⟩
          | cont =>
            obtain ⟨σ6, H6, S6, q6⟩ := sp
            exact goes S6 fun z7 J7 => ⟨_, _, J7, q6⟩
    exact all cl wish
  refine wpAny_mono run ?_ (fun _ _ q => q)
  intro f z1 sp
  cases f with
  | next =>
    obtain ⟨σ1, H1, J1, q⟩ := sp
    exact wpAny_execs_nil ⟨σ1, H1, J1.ofTry ok, q⟩
  | ret u =>
    obtain ⟨v, σ1, H1, J1, r, q⟩ := sp
    exact ⟨v, σ1, H1, J1.ofTry ok, r, q⟩
  | brk =>
    obtain ⟨σ1, H1, J1, q⟩ := sp
    exact ⟨σ1, H1, J1.ofTry ok, q⟩
  | cont =>
    obtain ⟨σ1, H1, J1, q⟩ := sp
    exact ⟨σ1, H1, J1.ofTry ok, q⟩
end
section
variable {K : PySem.W.Frag} {σ : L2.St} {H : Hp} {nx bk ct : L2.St → Hp → Prop} {rt : VK}
theorem w_tryG {l : List (Value × Option Nat × Suite)} {Wo : WX} {tb : WX → TS} (h : tb (wCl K Wo ⟨nx, rt, bk, ct⟩ l) ⟨nx, rt, bk, ct⟩ σ H) : tTryG K l Wo tb ⟨nx, rt, bk, ct⟩ σ H := h
theorem w_clY {c cls : Value} {o : Option Nat} {ts : Suite} {d : Option Addr} {Wo : WX} {D : Ends} {l : List (Value × Option Nat × Suite)} (e : PySem.W.exmOne K cls c = some true) (h : ∀ a, H a = none → runCl o ts a cls d D σ H) : wCl K Wo D ((c, o, ts) :: l) cls d σ H := ⟨true, e, fun _ => h, fun z => nomatch z⟩
theorem w_clN {c cls : Value} {o : Option Nat} {ts : Suite} {d : Option Addr} {Wo : WX} {D : Ends} {l : List (Value × Option Nat × Suite)} (e : PySem.W.exmOne K cls c = some false) (h : wCl K Wo D l cls d σ H) : wCl K Wo D ((c, o, ts) :: l) cls d σ H := ⟨false, e, (fun z => nomatch z), fun _ => h⟩
end
end FW

set_option Elab.async false
set_option linter.all false
set_option maxRecDepth 100000
set_option maxHeartbeats 4000000
/-! {tuple: value for a in as if ..}: a dict keyed by tuples, one clause; pairs looked for in tuples; zip of tuples -/
namespace FW
open PySem PySem.Spec PyProof.Rows L2
section
variable {kx vx ta ia : Expr} {fa : List Expr} {sc : Scope} {ps : Pos}
abbrev one (kx vx ta ia : Expr) (fa : List Expr) (sc : Scope) (ps : Pos) : Expr := .DictComp kx vx [⟨ta, ia, fa, 0⟩] sc ps
theorem turn_one (it : Value) (D : Addr) (env : Env) : compTurn (one kx vx ta ia fa sc ps) 0 it (.ref D) env = (do
    standAt ia.pos
    match ← pyNext it with
    | none => pure (.done .next)
    | some u =>
      letOwnedTupleGo ta it u
      assign ta env u
      let mut good := true
      for c in fa do
        if good then good ← isTrue c env (eval c env)
      if good then
        (do
          let k ← eval kx env
          let v ← holding [k] (eval vx env)
          standAt { kx.pos with endLine := vx.pos.endLine, endCol := vx.pos.endCol }
          holding [k, v] (dictSet D k v))
      again (.compLoop (one kx vx ta ia fa sc ps) 0 it (.ref D) env)) := by rfl
variable {pg : Program} {wd : World} {A : Around} {R : Result → Shared → Prop} {st : Shared} {it : Value} {D : Addr} {env : Env}
theorem loop_one (G : Nat → Shared → Prop)
    (go : ∀ n z, G n z → wpAny (model pg wd) A (pyNext it) (fun r z1 => match r with
      | none => R (.ok .next) z1
      | some u => wpAny (model pg wd) A (letOwnedTupleGo ta it u) (fun _ z2 => wpAny (model pg wd) A (assign ta env u) (fun _ z3 => wpAny (model pg wd) A (testsOf2 fa env) (fun b z4 =>
          if b = true then wpAny (model pg wd) A (eval kx env) (fun k z5 => wpAny (model pg wd) A (eval vx env) (fun v z6 => wpAny (model pg wd) A (dictSet D k v) (fun _ z7 => ∃ m, m < n ∧ G m z7) (fun _ _ => False) z6) (fun _ _ => False) z5) (fun _ _ => False) z4
          else ∃ m, m < n ∧ G m z4) (fun _ _ => False) z3) (fun _ _ => False) z2) (fun _ _ => False) z1) (fun _ _ => False) z)
    (n : Nat) (h : G n st) : codeAny (model pg wd) A (.compLoop (one kx vx ta ia fa sc ps) 0 it (.ref D) env) R st := by
  refine codeAny_loop rfl G ?_ n h
  intro n z hz
  show wpAny _ A ((compTurn (one kx vx ta ia fa sc ps) 0 it (.ref D) env).onRaise _) _ _ z
  apply wpAny_noted
  rw [turn_one]
  apply wpAny_bind
  apply wpAny_standAt
  apply wpAny_bind
  refine thnF (go n z hz) fun r z1 h1 => ?_
  cases r with
  | none => exact wpAny_pure h1
  | some u =>
    apply wpAny_bind
    refine thnF h1 fun _ z2 h2 => ?_
    apply wpAny_bind
    refine thnF h2 fun _ z3 h3 => ?_
    apply wpAny_bind
    refine thnF h3 fun b z4 h4 => ?_
    cases b with
    | false => exact wpAny_pure ⟨rfl, h4⟩
    | true =>
      apply wpAny_bind
      apply wpAny_bind
      refine thnF h4 fun k z5 h5 => ?_
      apply wpAny_bind
      apply wpAny_holding
      refine thnF h5 fun v z6 h6 => ?_
      apply wpAny_bind
      apply wpAny_standAt
      apply wpAny_holding
      exact thnF h6 fun _ z7 h7 => wpAny_pure ⟨rfl, h7⟩
end
section
variable {X : Cx}
theorem t_dictSet {pins : List (Addr × Obj)} {σ : L2.St} {H : Hp} {s : Shared} {E : Value → Shared → Prop} {D b : Addr} {kvs : List (List Key × V)} {k : List Key} {v : V} {r : Value} {Q : Unit → Shared → Prop} (hu : X.A.units + 1 < cLine) (I : Inv X pins σ H s) (hD : H D = some (.dT kvs)) (hz : kvs.length < sizeLine)
    (eb : H b = some (.tup (k.map kV))) (rv : RelV v r) (h : ∀ s', Inv X pins σ (upd H D (.dT (putK kvs k v))) s' → Q () s') : wpAny (model X.prog X.w) X.A (dictSet D (.ref b) r) Q E s := by
  obtain ⟨z, hd, xs, rel, dd⟩ := dt_of I.hok hD
  have hzv : xs.length ≤ sizeLine := by rw [← Paired.length rel]; exact z
  have hl : (putK kvs k v).length ≤ sizeLine := by have := length_putK kvs k v; omega
  refine wpAny_dictSet_heap (hsz := hzv) (show X.A.units < cLine by omega) (key_of I.hok eb) dd fun h' dd' hs => h _ ?_
  obtain ⟨q, es, ep, hq, h2, h3, h4, _, h5⟩ := dd'
  refine d_write I (by rw [hD]; exact True.intro) hs ⟨q, hq⟩ ⟨hl, hd, _, (rel.put k eb rv).keeps fun c ys ec => ?_, q, es, ep, hq, h2, h3, h4, h5⟩
  rw [upd_ne (ne_of ec hD (fun z => nomatch z))]
  exact ec
variable {kx vx ta ia : Expr} {fa : List Expr} {sc : Scope} {ps qs : Pos} {own : List (Str × Nat)} {wa : TI} {ga : TG} {ra : TT} {tk tv : TE}
def DcTP (J : It) (g : TG) (tt : TT) (tk tv : TE) (vs : List Nat) (Q : VK) (σ : L2.St) (H1 : Hp) : Prop := ∀ D, H1 D = none → ∃ W : Nat → Nat → Hp → Prop, (∃ m, W 0 m (upd H1 D (.dT []))) ∧ ∀ i m H, W i m H →
  (J.stop i H ∧ Q (.ref D) H) ∨ (J.go i H ∧ ∃ Nx : Hp → Prop, (∀ H', Nx H' → ∃ m', m' < m ∧ W (i + 1) m' H') ∧ ∀ x H', J.yld i H x H' → g x (wipe σ vs) H' fun σ2 H2 => wipe σ2 vs = wipe σ vs ∧ tt σ2 H2 fun b H3 =>
    if b = true then tk σ2 H3 fun y H4 => tv σ2 H4 fun z H5 => ∃ kvs k b, y = .ref b ∧ H5 b = some (.tup (k.map kV)) ∧ H5 D = some (.dT kvs) ∧ kvs.length < sizeLine ∧ Nx (upd H5 D (.dT (putK kvs k z))) else Nx H3)
def tDcT (wi : TI) (g : TG) (tt : TT) (tk tv : TE) (vs : List Nat) : TE := fun σ H Q => wi σ H fun J H1 => DcTP J g tt tk tv vs Q σ H1
theorem dct_run {pins : List (Addr × Obj)} {s : Shared} {σ : L2.St} {H : Hp} {Q : VK} {use : Option (Value → Sem Unit)} {Qf : Value → Shared → Prop}
    (hu : X.A.units + 1 < cLine) (calm : X.calm = true) (nd : X.N.Nodup) (I : Inv X pins σ H s) (pa : PI X ta ia wa) (ok : BlkOk X.N X.env.scope sc own)
    (pga : ∀ z G C cl fp, PG (X.blk z G sc (compEnvC sc cl C X.env) fp) ta ga) (pra : ∀ z G C cl fp, PTs (X.blk z G sc (compEnvC sc cl C X.env) fp) fa ra)
    (pk : ∀ z G C cl fp, PE (X.blk z G sc (compEnvC sc cl C X.env) fp) kx tk) (pv' : ∀ z G C cl fp, PE (X.blk z G sc (compEnvC sc cl C X.env) fp) vx tv)
    (hfa : ∀ y, foldedSetIterable ia X.env y = pure y)
    (h : tDcT wa ga ra tk tv (own.map (·.2)) σ H Q)
    (fin : ∀ D C z m H', Inv X pins σ H' z → Q (.ref D) H' → z.heap.Ns C m → FpOk X pins H' C → compPost (model X.prog X.w) X.A X.xe use Qf (.ref D) C (.ok .next) z) :
    wpAny (model X.prog X.w) X.A (comprehension (one kx vx ta ia fa sc ps) sc X.env qs newDict false (eval ia X.env) use) Qf X.xe s := by
  have cellsOk : ∀ y ∈ sc.names, y.2 = .free → ∃ c, X.env.cells.lookup y.1 = some c := by
    intro y hy e
    rcases ok.free y hy e with k | k
    · exact I.ok.has _ (.inl k)
    · exact I.ok.has _ (.inr k)
  refine wpAny_comprehension_free (use := use) rfl hfa (closure_ok cellsOk) ok.kind (fun y hy e => by rw [ok.uniq y hy, e]) ?_
  refine thn (pa.run pins s σ H _ I h) fun _ _ hx => thn hx fun _ z2 hz2 => ?_
  obtain ⟨it, fp, tn, J, G2, rfl, I2, T, at2, far2, q⟩ := hz2
  refine wpAny_newObj_type (newEnv_comp ?_)
  obtain ⟨D, hD⟩ : ∃ D, D = z2.heap.objs.size := ⟨_, rfl⟩
  rw [← hD]
  have freeD : G2 D = none := I2.hok.fresh (Nat.le_of_eq hD.symm)
  obtain ⟨W, ⟨m0, w0⟩, turn⟩ := q D freeD
  obtain ⟨z3, e3⟩ : ∃ z3 : Shared, z3 = { z2 with heap := z2.heap.push { cls := .type "dict", data := .dict #[] } } := ⟨_, rfl⟩
  have h3 : z3.heap = z2.heap.push { cls := .type "dict", data := .dict #[] } := by rw [e3]
  have I3 : Inv X pins σ (upd G2 D (.dT [])) z3 := by
    rw [e3]
    refine I2.laid (t' := z2.toks) (fun _ _ e => Heap.get?_push_of_some _ e) (Nat.le_of_eq hD.symm) ?_
    rw [hD]
    exact dt_empty z2.heap I2.big
  have small : ∀ b ∈ fp, b < z2.heap.objs.size := by
    intro b hb
    obtain ⟨_, e, _⟩ := T.obj _ _ at2 b hb
    exact Heap.lt_size e
  have far3 : ∀ b ∈ fp, FpOk X pins (upd G2 D (.dT [])) b ∧ b < z3.heap.objs.size := by
    intro b hb
    have lt := small b hb
    constructor
    · refine ⟨?_, (far2 b hb).2⟩
      rw [upd_ne (by rw [hD]; exact Nat.ne_of_lt lt)]
      exact (far2 b hb).1
    · rw [h3, Heap.size_push]
      exact Nat.lt_succ_of_lt lt
  have at3 : tn 0 z3.heap := T.keep _ _ _ at2 fun _ _ _ e => by rw [h3]; exact Heap.get?_push_of_some _ e
  have I4 := block_start I3 ok nd far3
  obtain ⟨cl, hcl⟩ : ∃ cl, cl = cellsFrom (z3.heap.objs.size + 1) sc.names (cloFrom X.env.cells sc.names []) := ⟨_, rfl⟩
  rw [← hcl] at I4
  have gA := pga z3 (upd G2 D (.dT [])) z3.heap.objs.size cl fp
  have tA := pra z3 (upd G2 D (.dT [])) z3.heap.objs.size cl fp
  have eK := pk z3 (upd G2 D (.dT [])) z3.heap.objs.size cl fp
  have eV := pv' z3 (upd G2 D (.dT [])) z3.heap.objs.size cl fp
  show codeAny _ _ (.compStart (one kx vx ta ia fa sc ps) 0 (.ref it) (.ref D) (compEnvC sc (cellsFrom (({ z2 with heap := z2.heap.push { cls := .type "dict", data := .dict #[] } } : Shared).heap.objs.size + 1) sc.names (cloFrom X.env.cells sc.names [])) ({ z2 with heap := z2.heap.push { cls := .type "dict", data := .dict #[] } } : Shared).heap.objs.size X.env))
    (compPost (model X.prog X.w) X.A X.xe use Qf (.ref D) ({ z2 with heap := z2.heap.push { cls := .type "dict", data := .dict #[] } } : Shared).heap.objs.size) { ({ z2 with heap := z2.heap.push { cls := .type "dict", data := .dict #[] } } : Shared) with heap := pushCells (({ z2 with heap := z2.heap.push { cls := .type "dict", data := .dict #[] } } : Shared).heap.push { cls := .type "dict", data := .dict #[] }) sc.names }
  rw [← e3, ← hcl]
  have none3 : ∀ b ∈ fp, (upd G2 D (.dT [])) b = none := fun b hb => (far3 b hb).1.1
  obtain ⟨ev, hev⟩ : ∃ ev, ev = compEnvC sc cl z3.heap.objs.size X.env := ⟨_, rfl⟩
  rw [← hev] at I4 gA tA eK eV ⊢
  have evL : ev.locals = z3.heap.objs.size := by rw [hev]; rfl
  obtain ⟨G3, hG3⟩ : ∃ G3, G3 = upd G2 D (.dT []) := ⟨_, rfl⟩
  rw [← hG3] at I3 I4 gA tA eK eV w0 none3 far3
  obtain ⟨z4, e4⟩ : ∃ z4 : Shared, z4 = { z3 with heap := pushCells (z3.heap.push { cls := .type "dict", data := .dict #[] }) sc.names } := ⟨_, rfl⟩
  rw [← e4] at I4 ⊢
  have at4 : tn 0 z4.heap := T.keep _ _ _ at3 fun _ _ _ e => by rw [e4]; exact pushCells_keeps _ _ _ _ (Heap.get?_push_of_some _ e)
  have aside : ∀ {σ' : L2.St} {G : Hp} {z : Shared}, Inv (X.blk z3 G3 sc ev fp) [] σ' G z → (∀ b ∈ fp, G b = none) → ∀ b ∈ fp, FpOk (X.blk z3 G3 sc ev fp) [] G b := by
    intro σ' G z J' hn b hb
    exact ⟨hn b hb, (J'.ok.exf b hb).1, J'.ok.exfs b hb, .inl hb, fun x c e => (J'.ok.exf b hb).2 x c e, fun p hp => absurd (show p ∈ ([] : List (Addr × Obj)) ++ [] from hp) (by simp)⟩
  have whole : codeAny (model X.prog X.w) X.A (.compLoop (one kx vx ta ia fa sc ps) 0 (.ref it) (.ref D) ev) (compPost (model X.prog X.w) X.A X.xe use Qf (.ref D) z3.heap.objs.size) z4 := by
    refine loop_one (fun n z => ∃ i G, Inv (X.blk z3 G3 sc ev fp) [] (wipe σ (own.map (·.2))) G z ∧ tn i z.heap ∧ (∀ b ∈ fp, G b = none) ∧ W i n G) ?_ m0 ⟨0, G3, I4, at4, none3, w0⟩
    rintro n z5 ⟨i, G5, I5, at5, none5, w5⟩
    rcases turn i n G5 w5 with ⟨stop, qq⟩ | ⟨goes, Nx, hNx, step⟩
    · refine thnF (T.done (X.blk z3 G3 sc ev fp) rfl rfl rfl calm i [] z5 _ G5 (fun _ _ => False) I5 (aside I5 none5) at5 stop) ?_
      rintro r z6 ⟨rfl, I6⟩
      have I7 : Inv X pins σ G5 z6 := I3.call' (ch := fp) I6.os I6.base I6.hok I6.bare fun b hb =>
        let f := (far3 b hb).1
        ⟨f.2.2.2.1, f.2.1, f.2.2.2.2.1, f.2.2.2.2.2⟩
      have noC : G5 z3.heap.objs.size = none := by
        have y : G5 ev.locals = none := I6.free
        rw [evL] at y
        exact y
      obtain ⟨m, hn, _⟩ := I6.loc
      have hn' : z6.heap.Ns ev.locals m := hn
      rw [evL] at hn'
      exact fin D _ z6 m G5 I7 qq hn' (I3.fpOk (Nat.le_refl _) noC)
    · refine thnF (T.item (X.blk z3 G3 sc ev fp) rfl rfl rfl calm i [] z5 _ G5 (fun _ _ => False) I5 (aside I5 none5) at5 goes) ?_
      rintro r z6 ⟨u, rfl, h6⟩
      refine thnF h6 ?_
      rintro _ z7 ⟨x, G7, I7, r7, y7, at7, none7⟩
      refine thnF (gA.run _ z7 _ G7 x u _ (I7.pinned (aside I7 none7) (T.obj _ _ at7)) r7 (step x G7 y7)) ?_
      rintro _ z8 ⟨σ8, G8, I8, hw8, q8⟩
      refine thnF (tA.run _ z8 σ8 G8 _ I8 q8) ?_
      rintro b z9 ⟨G9, I9, q9⟩
      have over : ∀ {z : Shared} {G : Hp}, Inv (X.blk z3 G3 sc ev fp) ([] ++ pinsAt fp z7.heap) σ8 G z → Nx G →
          ∃ m, m < n ∧ ∃ i G, Inv (X.blk z3 G3 sc ev fp) [] (wipe σ (own.map (·.2))) G z ∧ tn i z.heap ∧ (∀ b ∈ fp, G b = none) ∧ W i m G := by
        intro z G I' nx
        obtain ⟨m', lt, w'⟩ := hNx G nx
        have pins' : ∀ b ∈ fp, ∀ o, z7.heap.get? b = some o → z.heap.get? b = some o ∧ G b = none := by
          intro b hb o e
          have y := I'.pin (b, o) (List.mem_append_right _ (List.mem_append_right _ (mem_pinsAt hb e)))
          exact ⟨y.1, y.2.1⟩
        refine ⟨m', lt, i + 1, G, (I'.unpinned (pins := [])).weak (by rw [← hw8, wipe_length]) (fun j v e => by rw [← hw8] at e; exact (wipe_some e).1), T.keep _ _ _ at7 (fun b hb o e => (pins' b hb o e).1), ?_, w'⟩
        intro b hb
        obtain ⟨o, e, _⟩ := T.obj _ _ at7 b hb
        exact (pins' b hb o e).2
      cases b with
      | false =>
        have q9' : Nx G9 := q9
        show ∃ m, m < n ∧ _
        exact over I9 q9'
      | true =>
        have q9' : tk σ8 G9 fun y H4 => tv σ8 H4 fun z H5 => ∃ kvs k b, y = .ref b ∧ H5 b = some (.tup (k.map kV)) ∧ H5 D = some (.dT kvs) ∧ kvs.length < sizeLine ∧ Nx (upd H5 D (.dT (putK kvs k z))) := q9
        show wpAny _ _ (eval kx ev) _ _ z9
        refine thnF (eK.run _ z9 σ8 G9 _ I9 q9') ?_
        rintro _ z17 ⟨yk, G17, I17, r17, q17⟩
        refine thnF (eV.run _ z17 σ8 G17 _ I17 q17) ?_
        rintro _ z18 ⟨yv, G18, I18, r18, kvs, key, b, rfl, hb18, hD18, lt18, nx⟩
        cases r17
        exact t_dictSet (X := X.blk z3 G3 sc ev fp) hu I18 hD18 lt18 hb18 r18 fun _ I19 => over I19 nx
  exact codeAny_compStart_dict whole (T.self X.A 0 _ _ _ at4 whole)
/-- name = {..}, the name a local of the def -/
theorem ps_setDcT {i : Nat} {y : Str} {py spos : Pos} (hu : X.A.units + 1 < cLine) (calm : X.calm = true) (nd : X.N.Nodup) (hy : X.N[i]? = some y) (hyl : X.env.scope.names.lookup y = some .local)
    (hsw : swapsWith (one kx vx ta ia fa sc ps) (some (.Name y py)) spos.line X.env = pure true)
    (pa : PI X ta ia wa) (ok : BlkOk X.N X.env.scope sc own)
    (pga : ∀ z G C cl fp, PG (X.blk z G sc (compEnvC sc cl C X.env) fp) ta ga) (pra : ∀ z G C cl fp, PTs (X.blk z G sc (compEnvC sc cl C X.env) fp) fa ra)
    (pk : ∀ z G C cl fp, PE (X.blk z G sc (compEnvC sc cl C X.env) fp) kx tk) (pv' : ∀ z G C cl fp, PE (X.blk z G sc (compEnvC sc cl C X.env) fp) vx tv)
    (hfa : ∀ y, foldedSetIterable ia X.env y = pure y := by intro _; rfl) :
    PS X (.Assign [.Name y py] (one kx vx ta ia fa sc ps) spos) (tAsg (tDcT wa ga ra tk tv (own.map (·.2))) (gName i)) := by
  constructor
  intro pins s σ H Ed I h
  rw [exec_Assign_Name_used y py _ _ hsw]
  apply wpAny_bind
  apply wpAny_standAt
  apply wpAny_bind
  show wpAny _ X.A (comprehension (one kx vx ta ia fa sc ps) sc X.env (firstIterPos [⟨ta, ia, fa, 0⟩] ps) newDict false (eval ia X.env) (some (assign (.Name y py) X.env)) >>= fun _ => pure ()) _ _ s
  apply wpAny_bind
  have h' : tDcT wa ga ra tk tv (own.map (·.2)) σ H (fun x H1 => gName i x σ H1 Ed.nx) := h
  refine thn (dct_run (Qf := fun _ s1 => SP X pins Ed .next s1) hu calm nd I pa ok pga pra pk pv' hfa h' ?_) (fun _ _ z => wpAny_pure (wpAny_pure z))
  intro L C s1 m H1 I1 q hn ff
  obtain ⟨f0, f1, f2, f3, f4, f5⟩ := ff
  show wpAny _ _ (assign (.Name y py) X.env (.ref L)) _ _ _
  apply wpAny_assign_Name
  refine store_ok2 (v := V.ref L) I1 nd hy (.inl hyl) rfl ?_ (.inr hyl)
  rintro s2 I2 ⟨ad, sb, had⟩
  have hne : C ≠ ad := by
    rcases had with hz | hz
    · exact fun e => f1 (e.trans hz)
    · exact fun e => f4 y ad hz e.symm
  refine ⟨m, hn.sameBut sb hne, fun h3 sb3 => ⟨_, H1, ?_, q⟩⟩
  exact I2.turned (t' := s2.toks) (fun b o hb e => (sb3.2 b hb).trans e) f0 f1 f3 f4 f5
/-- a pair of ints that is not in a tuple of such -/
def rNotInT (K : PySem.W.Frag) : R2 := fun x y H Q => ∃ (p a : Addr) (v b : Int) (an : List (Addr × Int × Int)), x = .ref p ∧ y = .ref a ∧ H p = some (.tup [.int v, .int b]) ∧ SqT K H a (an.map fun q => .ref q.1) ∧ (∀ q ∈ an, H q.1 = some (.tup [.int q.2.1, .int q.2.2])) ∧ Q (.bl (decide ((v, b) ∉ an.map (·.2)))) H
theorem op_notInT (hu : X.A.units + 100 < cLine) : OpR X (compareOp .NotIn) (rNotInT X.K) := by
  intro pins s σ H x y v u Q I rx ry ⟨p, a, w, b, an, e0, e1, hp, hs, hq, q⟩
  subst e0 e1
  cases rx
  cases ry
  obtain ⟨its, rv, hl, _⟩ := I.tuple hs
  have hdp : PySem.W.Datum.depth (Int × Int) ≤ 50 := by decide
  exact PySem.W.notIn_tuple_datum (xs := an.map (·.2)) (x := (w, b)) hl (by simpa using (hold_all I an its rv hq).1) (hold_pair I hp) (by omega) ⟨.bl _, H, I, congrArg Value.bool (decide_eq_decide.mpr Iff.rfl), q⟩
end
section
variable {K : PySem.W.Frag} {σ : L2.St} {H : Hp} {Q : VK} {nx bk ct : L2.St → Hp → Prop} {rt : VK}
theorem w_dct {wi : TI} {g : TG} {tt : TT} {tk tv : TE} {vs : List Nat} (h : wi σ H fun J H1 => DcTP J g tt tk tv vs Q σ H1) : tDcT wi g tt tk tv vs σ H Q := h
/-- each turn adds a pair: the k-th is es[k] -/
theorem dct_map {J : It} {n : Nat} {G : Hp → Prop} {Y : Nat → Hp → V → Hp → Prop} (w : Walk J n G Y) {g : TG} {tk tv : TE} {vs : List Nat} (es : List (List Key × V)) (hn : es.length = n) (hz : n ≤ 1000000) (hG : ∀ H', Same H H' → G H')
    (hs : ∀ i x H1 H2 (R : V → V → Hp → Prop), i < n → Same H H1 → Y i H1 x H2 → (∀ e b H4, es[i]? = some e → H4 b = some (.tup (e.1.map kV)) → Same H1 H4 → R (.ref b) e.2 H4) → g x (wipe σ vs) H2 fun σ2 H3 => wipe σ2 vs = wipe σ vs ∧ tk σ2 H3 fun y H4 => tv σ2 H4 fun z H5 => R y z H5)
    (hd : ∀ D H', H D = none → Same H H' → H' D = some (.dT (es.foldl (fun acc e => putK acc e.1 e.2) [])) → Q (.ref D) H') : DcTP J g tYes tk tv vs Q σ H := by
  intro D hD
  refine ⟨fun i m H' => m = n - i ∧ i ≤ n ∧ Same H H' ∧ H' D = some (.dT ((es.take i).foldl (fun acc e => putK acc e.1 e.2) [])), ⟨n, by simp, Nat.zero_le _, Same.new hD, upd_same⟩, ?_⟩
  rintro i m H1 ⟨rfl, hi, k1, e1⟩
  by_cases hlt : i < n
  · refine .inr ⟨w.goes i H1 hlt (hG _ k1), fun H' => Same H H' ∧ H' D = some (.dT ((es.take (i + 1)).foldl (fun acc e => putK acc e.1 e.2) [])), fun H' z => ⟨n - (i + 1), by omega, rfl, hlt, z.1, z.2⟩, fun x H2 y => ?_⟩
    refine hs i x H1 H2 (fun y z H5 => ∃ kvs k b, y = .ref b ∧ H5 b = some (.tup (k.map kV)) ∧ H5 D = some (.dT kvs) ∧ kvs.length < sizeLine ∧ (Same H (upd H5 D (.dT (putK kvs k z))) ∧ (upd H5 D (.dT (putK kvs k z))) D = some (.dT ((es.take (i + 1)).foldl (fun acc e => putK acc e.1 e.2) [])))) hlt k1 (w.yields i H1 x H2 hlt (hG _ k1) y) ?_
    intro e b H4 he hb k4
    refine ⟨(es.take i).foldl (fun acc e => putK acc e.1 e.2) [], e.1, b, rfl, hb, k4 _ _ e1, ?_, fun c o ec => ?_, ?_⟩
    · have len : ∀ (l acc : List (List Key × V)), (l.foldl (fun acc e => putK acc e.1 e.2) acc).length ≤ acc.length + l.length := by
        intro l
        induction l with
        | nil => intro acc; simp
        | cons x r ih =>
          intro acc
          have h1 := ih (putK acc x.1 x.2)
          have h2 := putK_len' acc x.1 x.2
          simp only [List.foldl_cons, List.length_cons] at *
          omega
      have h1 := len (es.take i) []
      have h2 : (es.take i).length ≤ 1000000 := by rw [List.length_take]; omega
      exact Nat.lt_of_le_of_lt (Nat.le_trans h1 (by simpa using h2)) (by decide)
    · rw [upd_ne (ne_of_none ec hD)]
      exact k4 _ _ (k1 _ _ ec)
    · rw [upd_same, List.take_add_one, he, List.foldl_append]
      rfl
  · have e : i = n := by omega
    subst e
    rw [List.take_of_length_le (by omega)] at e1
    exact .inl ⟨w.stops H1 (hG _ k1), hd D H1 hD k1 e1⟩
theorem valV_foldT (k : List Key) : ∀ (es acc : List (List Key × V)), (valV (es.foldl (fun acc e => putK acc e.1 e.2) acc) k).isSome = ((valV acc k).isSome || es.any fun e => decide (e.1 = k)) := by
  intro es
  induction es with
  | nil => intro acc; simp
  | cons e r ih =>
    intro acc
    rw [List.foldl_cons, ih, valV_put, List.any_cons]
    by_cases h : k = e.1
    · rw [if_pos h, decide_eq_true h.symm]; simp
    · rw [if_neg h, decide_eq_false (fun z => h z.symm)]; simp
theorem w_dinT {a b : Addr} {kvs : List (List Key × V)} {k : List Key} (e : H a = some (.dT kvs)) (eb : H b = some (.tup (k.map kV))) (h : Q (.bl (valV kvs k).isSome) H) : rDIn (.ref a) (.ref b) H Q := ⟨a, _, rfl, DGet.t e eb, h⟩
theorem w_dnotinT {a b : Addr} {kvs : List (List Key × V)} {k : List Key} (e : H a = some (.dT kvs)) (eb : H b = some (.tup (k.map kV))) (h : Q (.bl (!(valV kvs k).isSome)) H) : rDNotIn (.ref a) (.ref b) H Q := ⟨a, _, rfl, DGet.t e eb, h⟩
theorem w_notInT {p a : Addr} {v b : Int} {an : List (Addr × Int × Int)} (h1 : H p = some (.tup [.int v, .int b])) (h2 : SqT K H a (an.map fun q => .ref q.1)) (h3 : ∀ q ∈ an, H q.1 = some (.tup [.int q.2.1, .int q.2.2])) (h : Q (.bl (decide ((v, b) ∉ an.map (·.2)))) H) : rNotInT K (.ref p) (.ref a) H Q := ⟨p, a, v, b, an, rfl, rfl, h1, h2, h3, h⟩
/-- for a, b in zip(tuple, tuple) -/
def rZipA (K : PySem.W.Frag) (vs : List V) (H : Hp) (R : It → Hp → Prop) : Prop := ∃ a b xs ys, vs = [.ref a, .ref b] ∧ ((SqL K H a xs ∧ SqL K H b ys ∧ R (Itz K a b) H) ∨ (SqT K H a xs ∧ SqT K H b ys ∧ R (RZ.ItzT K a b) H))
theorem w_zipA {ta : TA} {R : It → Hp → Prop} (h : ta σ H fun vs H1 => rZipA K vs H1 R) : RZ.iZipA K ta σ H R := h
theorem w_zipT' {a b : Addr} {xs ys : List V} {R : It → Hp → Prop} (h1 : SqT K H a xs) (h2 : SqT K H b ys) (h : R (RZ.ItzT K a b) H) : rZipA K [.ref a, .ref b] H R := ⟨a, b, xs, ys, rfl, .inr ⟨h1, h2, h⟩⟩
theorem lp_zipT {a b : Addr} {xs ys : List V} {g : TG} {tb : TS} (hl : xs.length = ys.length) (Pv : Nat → L2.St → Hp → Prop) (h0 : Pv 0 σ H) (hq : ∀ i σ H, Pv i σ H → SqT K H a xs ∧ SqT K H b ys)
    (hs : ∀ i x y T σ H H', xs[i]? = some x → ys[i]? = some y → Pv i σ H → H T = none → H' T = some (.tup [x, y]) → Same H H' → g (.ref T) σ H' fun σ2 H2 => tb ⟨Pv (i + 1), rt, nx, Pv (i + 1)⟩ σ2 H2) (hd : ∀ σ H, Pv xs.length σ H → nx σ H) : Lp (RZ.ItzT K a b) g tb ⟨nx, rt, bk, ct⟩ σ H :=
  RZ.for_zipT (D := ⟨nx, rt, bk, ct⟩) hl Pv h0 hq (fun i x y T σ H hx hy p hT => hs i x y T σ H _ hx hy p hT upd_same (Same.new hT)) hd
end
end FW

set_option Elab.async false
set_option linter.all false
set_option maxRecDepth 100000
set_option maxHeartbeats 4000000
/-! try: .. except (A, B): .. -/
namespace FW
open PySem PySem.Spec PyProof.Rows L2
def wTwo (K : PySem.W.Frag) (c1 c2 : Value) (ts : Suite) (D : Ends) : WX := fun cls d σ H => PySem.W.exmAny K cls [c1, c2] = some true ∧ ∀ a, H a = none → ts a cls d D σ H
def tTry2 (K : PySem.W.Frag) (c1 c2 : Value) (tb : WX → TS) (ts : Suite) : TS := fun D σ H => tb (wTwo K c1 c2 ts D) D σ H
theorem flying_on {B : Heap} {l : List Env} {a : Addr} {Z : Obj → Prop} {h h' : Heap} (f : HandSPX.FlyingZ B l a Z h) (k : ∀ b o, h.get? b = some o → h'.get? b = some o) : HandSPX.FlyingZ B l a Z h' := by
  obtain ⟨f1, f2, f3, oe, vs, T, oT, ts, g1, g2, g3, g4, g5, g6, g7, g8, g9⟩ := f
  exact ⟨fun b o e => k _ _ (f1 b o e), f2, f3.of_keeps (fun b o e _ => ⟨o, k _ _ e, rfl⟩), oe, vs, T, oT, ts, k _ _ g1, g2, g3, g4, g5, g6, k _ _ g7, g8, g9⟩
section
variable {X : Cx} {body sts : List Stmt} {st : Stmt} {x1 x2 : Str} {c1 c2 : Value} {p1 p2 p3 p4 p5 : Pos} {kk : Nat} {tb : WX → TS} {ts : Suite}
theorem p_try2 (stk : X.stack = X.env :: X.outer) (fr : X.env.frame = some X.env.locals) (n1 : Names X x1 c1) (n2 : Names X x2 c2)
    (pb : ∀ W pn xe, Takes (X.tr pn xe) W → PassesOwn (model X.prog X.w) X.A X.env xe → PSs (X.tr pn xe) body (tb W))
    (su : ∀ a oe cls d pn, Zc cls d oe → (∃ vs, oe.data = .fields vs) → PSs (X.suite a ((a, oe) :: pn)) (st :: sts) (ts a cls d)) :
    PS X (.Try body [.ExceptHandler (some (.Tuple [.Name x1 p1, .Name x2 p2] kk p3)) none (st :: sts) p4] [] [] p5) (tTry2 X.K c1 c2 tb ts) := by
  constructor
  intro pins s σ H D I h
  have ok := I.ok
  have frm : X.A.frames = some (X.env :: X.outer) := by rw [ok.frames, stk]
  apply wpAny_Try_except
  have run := (pb (wTwo X.K c1 c2 ts D) (X.pn ++ pins) (fun e z1 => wpAny (model X.prog X.w) X.A (noteFrame e X.env) (fun _ z2 => wpAny (model X.prog X.w) X.A (setFlight e none) (fun _ z3 => wpAny (model X.prog X.w) X.A (handleBy e X.env [.ExceptHandler (some (.Tuple [.Name x1 p1, .Name x2 p2] kk p3)) none (st :: sts) p4]) (SP X pins D) X.xe z3) X.xe z2) X.xe z1) ?caught PassesOwn.looking).run [] s σ H D (I.toTry _) h
  case caught =>
    intro u z xx
    obtain ⟨a, B, zI, pins', σ1, H1, cls, d, rfl, J', nb, up, sky, na, os, ag, hm, wish⟩ := xx
    have J : Inv X pins σ1 H1 zI := J'.ofTry ok
    have sky1 : Sky B (X.env :: X.outer) a (Zc cls d) X.env.locals z.heap := by rw [← stk]; exact sky
    show wpAny (model X.prog X.w) X.A (noteFrame (.ref a) X.env) _ _ _
    refine Sky.land Zc.steady frm fr sky1 ?_
    intro g3 fl up3
    have J3 : Inv X pins σ1 H1 { z with heap := g3 } := J.landed nb fl.1 (up.trans up3) os ag
    obtain ⟨oe, vs, he, hz, hd⟩ := fl.there
    have far : a ∉ frs (X.env :: X.outer) := by
      intro hm
      obtain ⟨_, o2, e2, no⟩ := fl.2.2.1.mem hm
      rw [he] at e2
      cases e2
      exact no _ hd
    have farL : a ≠ X.env.locals := fun q => far (List.mem_filterMap.mpr ⟨X.env, by simp, by rw [fr, q]⟩)
    have farF : a ∉ X.fs := by
      intro hm
      obtain ⟨e, he', q⟩ := List.mem_filterMap.mp hm
      exact far (List.mem_filterMap.mpr ⟨e, by simp [he'], q⟩)
    have S3 := J3.suite he hd na farL farF
    have name : ∀ {x : Str} {c : Value} {p1 : Pos} {Q E : Value → Shared → Prop}, Names X x c → Q c { z with heap := g3 } → wpAny (model X.prog X.w) (X.A.mark (some (.ref a))) (eval (.Name x p1) X.env) Q E { z with heap := g3 } := by
      rintro x c p1 Q E ⟨hg, hdb, hm | ⟨hm, hv, hnn⟩⟩ q
      · exact ld_glob (X := X.suite a ((a, oe) :: (X.pn ++ pins))) S3 hg hm q hdb
      · exact ld_blt (X := X.suite a ((a, oe) :: (X.pn ++ pins))) S3 hg hm hv q hnn hdb
    refine wpAny_handleBy_cons (codeAny_handlers_test ?_) (by intro q; cases q)
    refine wpAny_Tuple_spliced ?_
    show wpAny _ _ (spliced ((false, eval (.Name x1 p1) X.env) :: backTo p3 (starEach [.Name x2 p2] X.env))) _ _ _
    refine Calls.spliced_cons (name n1 ?_)
    show wpAny _ _ (spliced ((false, eval (.Name x2 p2) X.env) :: [])) _ _ _
    refine Calls.spliced_cons (name n2 ?_)
    refine Calls.spliced_nil ⟨by show (2 : Nat) ≤ sizeLine; decide, ?_⟩
    obtain ⟨g4, hg4⟩ : ∃ g4, g4 = g3.push { cls := .type "tuple", data := .seq [c1, c2].toArray } := ⟨_, rfl⟩
    have kp : ∀ b o, g3.get? b = some o → g4.get? b = some o := fun b o e => by rw [hg4]; exact Heap.get?_push_of_some _ e
    have tup : g4.get? g3.objs.size = some { cls := .type "tuple", data := .seq [c1, c2].toArray } := by rw [hg4]; exact Heap.get?_push_size _ rfl
    show wpAny _ _ (excMatches (.ref a) (.ref g3.objs.size)) _ _ { z with heap := g3.push { cls := .type "tuple", data := .seq [c1, c2].toArray } }
    rw [← hg4]
    have fl4 := flying_on fl kp
    have up4 := up3.trans (Heap.UpToSlots.of_keeps kp)
    have J4 : Inv X pins σ1 H1 { z with heap := g4 } := J.landed nb fl4.1 (up.trans up4) os ag
    have look : PySem.W.Looks (model X.prog X.w) g4 (typeOf (.ref a)) cls := fun _ _ _ _ k q => wpAny_typeOf_ref (k _ _ (kp _ _ he)) (by rw [hz.1]; exact q)
    have lm := PySem.W.exm_tup2 (M := model X.prog X.w) J4.kIn look tup hm
    refine lm.here ?_
    apply codeAny_handlers_suite
    refine HandSPX.lands_againZ fl4 ?_
    intro g5 fl5 up5
    have J5 : Inv X pins σ1 H1 { z with heap := g5 } := J.landed nb fl5.1 ((up.trans up4).trans up5) os ag
    obtain ⟨oe5, vs5, he5, hz5, hd5⟩ := fl5.there
    have S5 := J5.suite he5 hd5 na farL farF
    refine wpAny_mono ((su a oe5 cls d (X.pn ++ pins) hz5 ⟨_, hd5⟩).run [] _ _ H1 _ S5 (wish a na)) ?_ (fun _ _ q => False.elim q)
    intro f z6 sp
    cases f with
    | ret u =>
      obtain ⟨v6, σ6, H6, S6, r6, q6⟩ := sp
      exact ⟨v6, σ6, H6, S6.unsuite ok, r6, q6⟩
    | _ =>
      obtain ⟨σ6, H6, S6, q6⟩ := sp
      exact ⟨σ6, H6, S6.unsuite ok, q6⟩
  refine wpAny_mono run ?_ (fun _ _ q => q)
  intro f z1 sp
  cases f with
  | next =>
    obtain ⟨σ1, H1, J1, q⟩ := sp
    exact wpAny_execs_nil ⟨σ1, H1, J1.ofTry ok, q⟩
  | ret u =>
    obtain ⟨v, σ1, H1, J1, r, q⟩ := sp
    exact ⟨v, σ1, H1, J1.ofTry ok, r, q⟩
  | brk =>
    obtain ⟨σ1, H1, J1, q⟩ := sp
    exact ⟨σ1, H1, J1.ofTry ok, q⟩
  | cont =>
    obtain ⟨σ1, H1, J1, q⟩ := sp
    exact ⟨σ1, H1, J1.ofTry ok, q⟩
end
theorem w_try2 {K : PySem.W.Frag} {σ : L2.St} {H : Hp} {nx bk ct : L2.St → Hp → Prop} {rt : VK} {c1 c2 : Value} {tb : WX → TS} {ts : Suite} (h : tb (wTwo K c1 c2 ts ⟨nx, rt, bk, ct⟩) ⟨nx, rt, bk, ct⟩ σ H) : tTry2 K c1 c2 tb ts ⟨nx, rt, bk, ct⟩ σ H := h
end FW

set_option Elab.async false
set_option linter.all false
set_option maxRecDepth 100000
set_option maxHeartbeats 4000000
/-! texts: len, in, signs one by one, join; lists taken apart; all -/
namespace FW
open PySem PySem.Spec PyProof.Rows L2
def rLenS : List V → Hp → VK → Prop := fun xs H Q => ∃ z, xs = [.str z] ∧ z.length ≤ sizeLine ∧ Q (.int z.length) H
def rInS : R2 := fun x y H Q => ∃ (c : Nat) (z : Str), x = .str ⟨#[c]⟩ ∧ y = .str z ∧ Q (.bl (decide (c ∈ z.cps.toList))) H
def rJoin (K : PySem.W.Frag) : V → List V → Hp → VK → Prop := fun x xs H Q => ∃ a p, ∃ ys : List Str, x = .str a ∧ xs = [.ref p] ∧ (SqL K H p (ys.map V.str) ∨ SqT K H p (ys.map V.str)) ∧ (ys.map (·.length)).sum + ys.length * a.length ≤ 16777216 ∧ Q (.str (Txt.join a ys)) H
def rIStr (v : V) (H : Hp) (R : It → Hp → Prop) : Prop := ∃ x, v = .str x ∧ R (Its x) H
def rLtS : R2 := fun x y H Q => ∃ i j : Str, x = .str i ∧ y = .str j ∧ Q (.bl (decide (i.cps.toList < j.cps.toList))) H
def rGtS : R2 := fun x y H Q => ∃ i j : Str, x = .str i ∧ y = .str j ∧ Q (.bl (decide (j.cps.toList < i.cps.toList))) H
section
variable {X : Cx}
theorem o_ltS : OpR X (compareOp .Lt) rLtS := op_lt_str
theorem o_gtS : OpR X (compareOp .Gt) rGtS := op_gt_str
theorem c_lenS : CallR X (.builtin "len") rLenS := call_len_str
theorem o_inS : OpR X (compareOp .In) rInS := op_in_sign
theorem p_join {o e : Expr} {to te : TE} {apos pos : Pos} (ho : PE X o to) (he : PE X e te) (hs : starEach [e] X.env = [(false, eval e X.env)] := by rfl) (hbase : attributeBase o "join" X.env (eval o X.env) = eval o X.env := by rfl) (hline : (apos.endLine == pos.line) = true := by rfl) :
    PE X (.Call (.Attribute o "join" apos) [e] [] pos) (tM1 (rJoin X.K) to te) := pe_join ho he hs hbase hline
end
section
variable {K : PySem.W.Frag} {σ : L2.St} {H : Hp} {Q : VK} {nx bk ct : L2.St → Hp → Prop} {rt : VK}
theorem w_callD {sp : Sp} {dvs : List V} {E : XK} {t : TA} (h : t σ H fun vs H1 => sp (vs ++ dvs) H1 Q E) : tCall sp dvs E t σ H Q := h
theorem w_ipI {g : Int → Int → Int} {i j : Int} (h : Q (.int (g i j)) H) : ipI g (.int i) (.int j) H Q := ⟨i, j, rfl, rfl, h⟩
theorem w_ltS {x y : Str} (h : Q (.bl (decide (x.cps.toList < y.cps.toList))) H) : rLtS (.str x) (.str y) H Q := ⟨x, y, rfl, rfl, h⟩
theorem w_gtS {x y : Str} (h : Q (.bl (decide (y.cps.toList < x.cps.toList))) H) : rGtS (.str x) (.str y) H Q := ⟨x, y, rfl, rfl, h⟩
theorem w_neS {x y : Str} (h : Q (.bl (!decide (x = y))) H) : rNe (.str x) (.str y) H Q := ⟨rfl, by
  have e : decide (V.str x = V.str y) = decide (x = y) := by
    by_cases q : x = y
    · subst q; rw [decide_eq_true rfl, decide_eq_true rfl]
    · rw [decide_eq_false q, decide_eq_false (fun z => q (V.str.inj z))]
  rw [e]; exact h⟩
theorem w_lenS {z : Str} (h1 : z.length ≤ sizeLine) (h : Q (.int z.length) H) : rLenS [.str z] H Q := ⟨z, rfl, h1, h⟩
theorem w_inS {c : Nat} {z : Str} (h : Q (.bl (decide (c ∈ z.cps.toList))) H) : rInS (.str ⟨#[c]⟩) (.str z) H Q := ⟨c, z, rfl, rfl, h⟩
theorem w_ixS {z : Str} {i : Int} {c : Nat} (h1 : z.length ≤ sizeLine) (h2 : atI z.cps.toList i = some c) (h : Q (.str ⟨#[c]⟩) H) : rIxS (.str z) (.int i) H Q := ⟨z, i, c, rfl, rfl, h1, h2, h⟩
theorem w_m1 {r : V → List V → Hp → VK → Prop} {to te : TE} (h : to σ H fun x H1 => (∃ a, x = .str a) ∧ te σ H1 fun y H2 => r x [y] H2 Q) : tM1 r to te σ H Q := h
theorem w_isS {z : Str} {A : Prop} (h : A) : (∃ a, V.str z = .str a) ∧ A := ⟨⟨z, rfl⟩, h⟩
theorem w_joinL {a : Str} {p : Addr} {ys : List Str} (h1 : SqL K H p (ys.map V.str)) (h2 : (ys.map (·.length)).sum + ys.length * a.length ≤ 16777216) (h : Q (.str (Txt.join a ys)) H) : rJoin K (.str a) [.ref p] H Q := ⟨a, p, ys, rfl, rfl, .inl h1, h2, h⟩
theorem w_istr {te : TE} {R : It → Hp → Prop} (h : te σ H fun v H1 => rIStr v H1 R) : iStr te σ H R := h
theorem w_istr' {z : Str} {R : It → Hp → Prop} (h : R (Its z) H) : rIStr (.str z) H R := ⟨z, rfl, h⟩
theorem walk_str (x : Str) : Walk (Its x) x.cps.size (fun _ => True) (fun i H v H' => H' = H ∧ ∃ c, x.cps[i]? = some c ∧ v = .str ⟨#[c]⟩) := ⟨fun _ _ hi _ => hi, fun _ _ => Nat.le_refl _, fun _ _ _ _ _ _ y => y⟩
theorem w_glst {a : Addr} {xs : List V} {n : Nat} {t : TGs} {R : L2.St → Hp → Prop} (h1 : SqL K H a xs) (h2 : xs.length = n) (h : t xs σ H R) : gLst K n t (.ref a) σ H R := ⟨a, xs, rfl, h1, h2, h⟩
theorem w_all {p : Addr} {bs : List Bool} (h1 : SqL K H p (bs.map V.bl)) (h : Q (.bl (bs.all id)) H) : rAll K [.ref p] H Q := ⟨p, bs, rfl, h1, h⟩
theorem w_augI {i : Nat} {te : TE} {ti : TIp} {v : V} (e : σ[i]? = some (some v)) (h : te σ H fun x H1 => ti v x H1 fun z H2 => nx (σ.set i (some z)) H2) : tAug i te ti ⟨nx, rt, bk, ct⟩ σ H := ⟨v, e, h⟩
end
section
variable {P : Program} {w : World} {K : PySem.W.Frag} {mg : Str → Option Value} {base : Heap} {x qual : Str} {params : Arguments} {body : List Stmt} {scope : Scope} {dvs : List V} {kws : List (Str × V)} {f : Addr} {fd : FuncData}
/-- a def with defaults that lets nothing out -/
theorem okD {N ps : List Str} {k : Nat} {sp : Sp} (F : FunD K x qual params body scope dvs kws f fd) (S : FnScope N ps scope) (len : ∀ vs H Q E, sp vs H Q E → vs.length = ps.length)
    (hb : ∀ cdv A outer s H vs Q E, Room k (A.deeper (envOfC qual scope s.heap.objs.size f cdv)) → sp vs H Q E → ∃ t, PSs (cxOf CX0 P w K mg base N qual scope f cdv A outer s H E).nox body t ∧ t { nx := fun _ H' => Q .non H', rt := Q } (L2.start N vs) H) : FnOk P w K mg base CX0 (k + 1) f fd ps sp :=
  F.ok S len fun cdv A outer s H vs Q E hr h => by
    obtain ⟨t, p, q⟩ := hb cdv A outer s H vs Q E hr h
    exact ⟨t, p.nox, q⟩
end
/-- a def with defaults -/
structure DfD (K : PySem.W.Frag) (mg : Str → Option Value) (x : Str) (st : Stmt) (ps : List Str) (dvs : List V) (f : Addr) (fd : FuncData) : Prop where
  fn : FunD K x x (defArgs st) (defBody st) (defScope st) dvs [] f fd
  g : mg x = some (.ref f)
  kp : PySem.W.keepIn K (.ref f) = true
  b : ∃ ds, Vals dvs ds ∧ Binds K fd ps ds
/-- a def with several keyword-only defaults -/
structure DfKs (K : PySem.W.Frag) (mg : Str → Option Value) (x : Str) (st : Stmt) (ps : List Str) (kws : List (Str × V)) (dvs : List V) (f : Addr) (fd : FuncData) : Prop where
  fn : FunD K x x (defArgs st) (defBody st) (defScope st) [] kws f fd
  g : mg x = some (.ref f)
  kp : PySem.W.keepIn K (.ref f) = true
  b : ∃ ds, Vals dvs ds ∧ Binds K fd ps ds
theorem join_cps' : ∀ ys : List Str, (Str.join (Str.ofString "") ys).cps.toList = (ys.map fun y => y.cps.toList).flatten
  | [] => rfl
  | [y] => by
    show y.cps.toList = _
    simp
  | y :: z :: r => by
    have ih := join_cps' (z :: r)
    show (y.cps ++ (Str.ofString "").cps ++ (Str.join (Str.ofString "") (z :: r)).cps).toList = _
    rw [Array.toList_append, Array.toList_append, ih, List.map_cons (l := z :: r), List.flatten_cons]
    show y.cps.toList ++ [] ++ _ = _
    rw [List.append_nil]
theorem join_cps (ys : List Str) : (Txt.join (Str.ofString "") ys).cps.toList = (ys.map fun y => y.cps.toList).flatten := by
  have e : Txt.join (Str.ofString "") ys = Str.join (Str.ofString "") ys := StrLaws.glued_eq_join _ _
  rw [e]
  exact join_cps' ys
end FW

set_option Elab.async false
set_option linter.all false
set_option maxRecDepth 100000
set_option maxHeartbeats 4000000
/-! t[::-1] of a tuple -/
namespace HT
open PySem PySem.Spec PyProof.Rows
section
variable {prog : Program} {w : World} {A : Around} {E : Value → Shared → Prop} {s : Shared}
theorem applied_rev {sl : Addr} {vs : Value} {n : Nat} {Q : Int × Int × Nat → Shared → Prop} (hs : s.heap.IsSliceOf sl .none .none vs) (ps : IsPart vs (some (-1 : Int)))
    (h : Q ((n : Int) - 1, (-1 : Int), n) s) : wpAny (model prog w) A (Builtin.Slice.sliceApplied (.ref sl) (pure (n : Int))) Q E s := by
  obtain ⟨os, hos, hcs, hds⟩ := id hs
  unfold Builtin.Slice.sliceApplied Builtin.Slice.sliceFields
  refine wpAny_bind (wpAny_bind (wpAny_field hos hds (x := .none) rfl (wpAny_bind (wpAny_field hos hds (x := .none) rfl (wpAny_bind (wpAny_field hos hds (x := vs) rfl (wpAny_pure ?_)))))))
  refine wpAny_bind (slicePart_ ps ?_)
  show wpAny _ _ (if ((-1 : Int) == 0) = true then _ else _) _ _ s
  rw [if_neg (by decide)]
  refine wpAny_bind (slicePart_none (wpAny_bind (slicePart_none (wpAny_bind (wpAny_pure ?_)))))
  show wpAny _ _ (match Builtin.Slice.sliceAdjust none none (-1 : Int) (n : Int) with | (lo, hi) => pure (lo, (-1 : Int), Builtin.Slice.slicePlaces lo hi (-1))) _ _ s
  have e1 : Builtin.Slice.sliceAdjust none none (-1 : Int) (n : Int) = ((n : Int) - 1, (-1 : Int)) := by
    unfold Builtin.Slice.sliceAdjust
    have g1 : ((-1 : Int) < 0) := by decide
    simp only [g1, if_true]
  have e2 : Builtin.Slice.slicePlaces ((n : Int) - 1) (-1 : Int) (-1 : Int) = n := by
    unfold Builtin.Slice.slicePlaces
    rw [if_neg (by decide)]
    by_cases h0 : n = 0
    · rw [if_neg (by omega)]; omega
    · rw [if_pos (by omega)]
      show ((((n : Int) - 1 - -1 - 1) / 1 + 1)).toNat = n
      rw [Int.ediv_one]
      omega
  rw [e1]
  show wpAny _ _ (pure ((n : Int) - 1, (-1 : Int), Builtin.Slice.slicePlaces ((n : Int) - 1) (-1 : Int) (-1 : Int))) _ _ s
  rw [e2]
  exact wpAny_pure h
theorem rev_map {α : Type} (xs : List α) : ((List.range xs.length).filterMap fun (m : Nat) => xs[(((xs.length : Nat) : Int) - 1 + (m : Int) * (-1)).toNat]?) = xs.reverse := by
  have h : ∀ n, n ≤ xs.length → ((List.range n).filterMap fun (m : Nat) => xs[(((xs.length : Nat) : Int) - 1 + (m : Int) * (-1)).toNat]?) = xs.reverse.take n := by
    intro n
    induction n with
    | zero => intro _; simp
    | succ n ih =>
      intro hn
      rw [List.range_succ, List.filterMap_append, ih (by omega)]
      have e : (((xs.length : Nat) : Int) - 1 + (n : Int) * (-1)).toNat = xs.length - 1 - n := by omega
      have hg : xs.reverse[n]? = xs[xs.length - 1 - n]? := List.getElem?_reverse (by omega)
      have hs : xs[xs.length - 1 - n]? = some (xs[xs.length - 1 - n]'(by omega)) := List.getElem?_eq_getElem (by omega)
      rw [List.take_succ, hg]
      congr 1
      simp only [List.filterMap_cons, List.filterMap_nil, e, hs]
      rfl
  rw [h _ (Nat.le_refl _)]
  exact List.take_of_length_le (by simp)
theorem item_rev {t sl : Addr} {items : Array Value} {vs : Value} {Q : Value → Shared → Prop} (ht : IsTup s.heap t items) (hs : s.heap.IsSliceOf sl .none .none vs) (ps : IsPart vs (some (-1 : Int)))
    (h2 : Q (.ref s.heap.objs.size) { s with heap := s.heap.push { cls := .type "tuple", data := .seq items.toList.reverse.toArray } })
    (hsz : items.size ≤ sizeLine) : wpAny (model prog w) A (getItem (.ref t) (.ref sl)) Q E s := by
  have htake : sizeOk (.seq items.toList.reverse.toArray) := by
    show items.toList.reverse.toArray.size ≤ sizeLine
    rw [List.size_toArray, List.length_reverse, Array.length_toList]
    exact hsz
  obtain ⟨os, hos, hcs, hds⟩ := id hs
  have hTs : s.TypeIs (.ref sl) "slice" := ⟨os, hos, hcs⟩
  unfold getItem; try with_reducible refine wpAny_holding ?_
  first | refine wpAny_bind (wpAny_pure ?_) | skip
  refine wpAny_bind (wpAny_sequenceKey ht.typeIs (by decide) ?_); refine wpAny_bind (wpAny_callSpecial?_slot (name := Str.ofString "__getitem__") ht.typeIs PyProof.Rows.slot_tuple_getitem (wpAny_call_entry PyProof.Rows.slot_tuple_getitem ht.typeIs entry_tuple_getitem ?_ (args_tuple_getitem _ _)))
  show wpAny _ _ (Builtin.Tuple.tupleItemsOf (.ref t) >>= _) _ _ s; refine wpAny_bind (tupleItemsOf_ ht ?_)
  refine wpAny_bind (wpAny_typeOf hTs ?_); rw [if_pos (by decide)]; refine wpAny_bind (applied_rev hs ps ?_)
  show wpAny _ _ (if ((items.size : Int) - 1 == 0 && (-1 : Int) == 1 && items.size == items.size) = true then _ else _) _ _ s
  have hno : ¬ (((items.size : Int) - 1 == 0 && (-1 : Int) == 1 && items.size == items.size) = true) := by
    intro q
    rw [Bool.and_eq_true, Bool.and_eq_true] at q
    have q2 : (-1 : Int) = 1 := eq_of_beq q.1.2
    omega
  have ep : ((List.range items.size).filterMap fun (m : Nat) => items[((items.size : Int) - 1 + (m : Int) * (-1)).toNat]?).toArray = items.toList.reverse.toArray := by
    rw [← rev_map, Array.length_toList]
    congr 2
    funext m
    rw [Array.getElem?_toList]
  rw [if_neg hno, ep]
  first | exact wpAny_bind (m := Builtin.Tuple.tupleExact _) (wpAny_newObj_type (wpAny_pure ⟨_, rfl, wpAny_pure h2⟩) htake) | exact wpAny_bind (m := Builtin.Tuple.tupleExact _) (wpAny_newObj_type (wpAny_bind (wpAny_pure (wpAny_pure ⟨_, rfl, wpAny_pure h2⟩))) htake) | exact wpAny_bind (wpAny_bind (m := Builtin.Tuple.tupleExact _) (wpAny_newObj_type (wpAny_pure (wpAny_pure ⟨_, rfl, wpAny_pure h2⟩)) htake)) | exact wpAny_bind (wpAny_bind (m := Builtin.Tuple.tupleExact _) (wpAny_newObj_type (wpAny_pure ⟨_, rfl, wpAny_pure h2⟩) htake))
end
end HT
namespace FW
open PySem PySem.Spec PyProof.Rows L2
/-- t[::-1] -/
def rRevT (K : PySem.W.Frag) (x z : V) (H : Hp) (Q : VK) : Prop := ∃ (a : Addr) (xs : List V), x = .ref a ∧ z = .int (-1) ∧ SqT K H a xs ∧ Nw (.tup xs.reverse) H Q
def tRevT (K : PySem.W.Frag) (te ts : TE) : TE := fun σ H Q => te σ H fun x H1 => ts σ H1 fun z H3 => rRevT K x z H3 Q
theorem vals_rev {xs : List V} {its : List Value} (r : Vals xs its) : Vals xs.reverse its.reverse := by
  induction r with
  | nil => exact .nil
  | cons h _ ih =>
    rw [List.reverse_cons, List.reverse_cons]
    exact ih.append (.cons h .nil)
section
variable {X : Cx}
theorem pe_revT {e st : Expr} {te ts : TE} {p2 pos : Pos} (he : PE X e te) (hst : PE X st ts) : PE X (.Subscript e (.Slice none none (some st) p2) pos) (tRevT X.K te ts) := by
  refine ⟨fun pins s σ H Q I h => Subscript_ (thn (he.run pins s σ H _ I h) fun v s1 ⟨x, H1, I1, r1, q1⟩ => ?_)⟩
  refine wpAny_Slice ?_
  rw [evalPart_none]
  refine wpAny_pure ?_
  refine wpAny_pure ?_
  refine thn (hst.run pins s1 σ H1 _ I1 q1) fun vs s3 ⟨z, H3, I3, r3, a, xs, ex, ez, hx, g2⟩ => ?_
  subst ex ez
  cases r1
  obtain ⟨t2, rfl⟩ := r3
  have I4 : Inv X pins σ H3 { s3 with heap := s3.heap.push { cls := .type "slice", data := .fields #[.none, .none, .int (-1 : Int) t2] } } := I3.kept (t' := s3.toks) fun b ob q => Heap.get?_push_of_some _ q
  obtain ⟨its, r, ht, hz⟩ := I4.tuple hx
  have hlen : its.toArray.size = xs.length := by rw [List.size_toArray]; exact r.length.symm
  show wpAny (model X.prog X.w) X.A (subscriptTail e (.Slice none none (some st) p2) (.ref a) (.ref s3.heap.objs.size)) (EP X pins σ Q) X.xe _
  refine tail_any (ops := [.ref a, .ref s3.heap.objs.size]) ht.typeIs PyProof.Rows.slot_tuple_getitem.lookup ?_ (by with_unfolding_all rfl)
  refine HT.item_rev ht (Heap.IsSliceOf.new _ _ _ _) (.int _ t2) ?_ (by rw [hlen]; exact hz)
  refine ⟨.ref _, _, I4.laid (t' := s3.toks) (o := .tup xs.reverse) (fun b ob q => Heap.get?_push_of_some _ q) (Nat.le_refl _) ?_, rfl, g2 _ (I4.hok.fresh (Nat.le_refl _))⟩
  exact ⟨by rw [List.length_reverse]; exact hz, _, vals_rev r, IsTup.new _ _⟩
end
section
variable {K : PySem.W.Frag} {σ : L2.St} {H : Hp} {Q : VK}
theorem w_revT {te ts : TE} (h : te σ H fun x H1 => ts σ H1 fun z H3 => rRevT K x z H3 Q) : tRevT K te ts σ H Q := h
theorem w_revT' {a : Addr} {xs : List V} (h1 : H a = some (.tup xs)) (h : ∀ p H1, H p = none → H1 p = some (.tup xs.reverse) → Same H H1 → Q (.ref p) H1) : rRevT K (.ref a) (.int (-1)) H Q := ⟨a, xs, rfl, rfl, .of h1, w_new h⟩
end
end FW

set_option Elab.async false
set_option linter.all false
set_option maxRecDepth 100000
set_option maxHeartbeats 4000000
/-! text * number, tuple * number, texts put together -/
namespace FW
open PySem PySem.Spec PyProof.Rows L2
def rRepS : R2 := fun x y H Q => ∃ (z : Str) (k : Int), x = .str z ∧ y = .int k ∧ z.length ≤ 16 ∧ 0 ≤ k ∧ k ≤ 1000 ∧ Q (.str (Txt.mul z k)) H
theorem op_repS {X : Cx} : OpR X (binaryOp .Mult) rRepS := by
  intro pins s σ H x y v u Q I rx ry h
  obtain ⟨z, k, rfl, rfl, hz, h0, h1, q⟩ := h
  obtain ⟨t, rfl⟩ := rx
  obtain ⟨t', rfl⟩ := ry
  exact PySem.W.KXi.mul rfl hz (by omega) (by omega) (fun t' k' _ _ => ⟨.str (Txt.mul z k), H, I.tok _, ⟨_, rfl⟩, q⟩)
def rAddS : R2 := fun x y H Q => ∃ i j : Str, x = .str i ∧ y = .str j ∧ i.length + j.length ≤ sizeLine ∧ Q (.str (i ++ j)) H
theorem o_addS {X : Cx} : OpR X (binaryOp .Add) rAddS := op_add_str
section
variable {K : PySem.W.Frag} {H : Hp} {Q : VK}
theorem w_repS {z : Str} {k : Int} (h1 : z.length ≤ 16) (h2 : 0 ≤ k) (h3 : k ≤ 1000) (h : Q (.str (Txt.mul z k)) H) : rRepS (.str z) (.int k) H Q := ⟨z, k, rfl, rfl, h1, h2, h3, h⟩
theorem w_addS {i j : Str} (h1 : i.length + j.length ≤ sizeLine) (h : Q (.str (i ++ j)) H) : rAddS (.str i) (.str j) H Q := ⟨i, j, rfl, rfl, h1, h⟩
theorem w_repT {l : Addr} {k : Int} {xs : List V} (h1 : H l = some (.tup xs)) (h2 : xs ≠ []) (h3 : 2 ≤ k) (h4 : k ≤ 1000) (h5 : xs.length ≤ 1000) (h : Nw (.tup (List.replicate k.toNat xs).flatten) H Q) : rRepT K (.ref l) (.int k) H Q := ⟨l, k, xs, rfl, rfl, .of h1, h2, h3, h4, h5, h⟩
end
end FW

set_option Elab.async false
set_option linter.all false
set_option maxRecDepth 100000
set_option maxHeartbeats 4000000
namespace FW
open PySem L2
def top (i : Nat) : Stmt := PySem.Challenge.pw_fewasks_k39_papers_looked_at.main.body.getD i (.Pass ⟨0, 0, 0, 0⟩)
abbrev s_is_int : Stmt := top 5
abbrev N_is_int : List Str := ["thing", "least"]
theorem sc_is_int : FnScope N_is_int ["thing", "least"] (defScope s_is_int) := ⟨rfl, rfl, rfl, by decide +kernel, rfl, by decide +kernel, by decide +kernel⟩
abbrev s_is_text : Stmt := top 6
abbrev N_is_text : List Str := ["thing", "most", "sign"]
theorem sc_is_text : FnScope N_is_text ["thing", "most"] (defScope s_is_text) := ⟨rfl, rfl, rfl, by decide +kernel, rfl, by decide +kernel, by decide +kernel⟩
abbrev s_is_pair : Stmt := top 7
abbrev N_is_pair : List Str := ["thing"]
theorem sc_is_pair : FnScope N_is_pair ["thing"] (defScope s_is_pair) := ⟨rfl, rfl, rfl, by decide +kernel, rfl, by decide +kernel, by decide +kernel⟩
abbrev s_made_by : Stmt := top 12
abbrev N_made_by : List Str := ["thing", "row"]
theorem sc_made_by : FnScope N_made_by ["thing"] (defScope s_made_by) := ⟨rfl, rfl, rfl, by decide +kernel, rfl, by decide +kernel, by decide +kernel⟩
abbrev s_is_script : Stmt := top 13
abbrev N_is_script : List Str := ["thing", "many", "piece", "made"]
theorem sc_is_script : FnScope N_is_script ["thing"] (defScope s_is_script) := ⟨rfl, rfl, rfl, by decide +kernel, rfl, by decide +kernel, by decide +kernel⟩
abbrev s_done : Stmt := top 14
abbrev N_done : List Str := ["base", "script", "rows", "word", "told", "begin", "many"]
theorem sc_done : FnScope N_done ["base", "script"] (defScope s_done) := ⟨rfl, rfl, rfl, by decide +kernel, rfl, by decide +kernel, by decide +kernel⟩
abbrev s_price : Stmt := top 15
abbrev N_price : List Str := ["script", "take", "put", "cost", "piece"]
theorem sc_price : FnScope N_price ["script", "take", "put"] (defScope s_price) := ⟨rfl, rfl, rfl, by decide +kernel, rfl, by decide +kernel, by decide +kernel⟩
abbrev s_longest_takes : Stmt := top 16
abbrev N_longest_takes : List Str := ["base", "rows", "found", "behind", "row", "here", "many", "at"]
theorem sc_longest_takes : FnScope N_longest_takes ["base", "rows"] (defScope s_longest_takes) := ⟨rfl, rfl, rfl, by decide +kernel, rfl, by decide +kernel, by decide +kernel⟩
abbrev s_right_least : Stmt := top 17
abbrev N_right_least : List Str := ["base", "rows", "thing", "take", "put", "script", "distances", "found", "end", "begin", "one"]
theorem sc_right_least : FnScope N_right_least ["base", "rows", "thing", "take", "put"] (defScope s_right_least) := ⟨rfl, rfl, rfl, by decide +kernel, rfl, by decide +kernel, by decide +kernel⟩
abbrev s_makes_rows : Stmt := top 18
abbrev N_makes_rows : List Str := ["base", "script", "rows", "made"]
theorem sc_makes_rows : FnScope N_makes_rows ["base", "script", "rows"] (defScope s_makes_rows) := ⟨rfl, rfl, rfl, by decide +kernel, rfl, by decide +kernel, by decide +kernel⟩
abbrev s_law_deck : Stmt := top 20
abbrev N_law_deck : List Str := ["_law_script_here"]
theorem sc_law_deck : FnScope N_law_deck ["_law_script_here"] (defScope s_law_deck) := ⟨rfl, rfl, rfl, by decide +kernel, rfl, by decide +kernel, by decide +kernel⟩
abbrev s_law_mixed : Stmt := top 21
abbrev N_law_mixed : List Str := ["_law_cell", "_law_turn"]
theorem sc_law_mixed : FnScope N_law_mixed ["_law_cell", "_law_turn"] (defScope s_law_mixed) := ⟨rfl, rfl, rfl, by decide +kernel, rfl, by decide +kernel, by decide +kernel⟩
abbrev s_law_draw : Stmt := top 22
abbrev N_law_draw : List Str := ["_law_deck_here", "_law_many", "_law_cells", "_law_found", "_law_number"]
theorem sc_law_draw : FnScope N_law_draw ["_law_deck_here", "_law_many"] (defScope s_law_draw) := ⟨rfl, rfl, rfl, by decide +kernel, rfl, by decide +kernel, by decide +kernel⟩
abbrev s_law_text : Stmt := top 23
abbrev N_law_text : List Str := ["_law_deck_here", "_law_size_here", "_law_signs", "_law_k"]
theorem sc_law_text : FnScope N_law_text ["_law_deck_here", "_law_size_here"] (defScope s_law_text) := ⟨rfl, rfl, rfl, by decide +kernel, rfl, by decide +kernel, by decide +kernel⟩
abbrev s_law_int : Stmt := top 24
abbrev N_law_int : List Str := ["_law_thing"]
theorem sc_law_int : FnScope N_law_int ["_law_thing"] (defScope s_law_int) := ⟨rfl, rfl, rfl, by decide +kernel, rfl, by decide +kernel, by decide +kernel⟩
abbrev s_law_same : Stmt := top 25
abbrev N_law_same : List Str := ["_law_found", "_law_due", "_law_k"]
theorem sc_law_same : FnScope N_law_same ["_law_found", "_law_due"] (defScope s_law_same) := ⟨rfl, rfl, rfl, by decide +kernel, rfl, by decide +kernel, by decide +kernel⟩
abbrev s_law_stock : Stmt := top 26
abbrev N_law_stock : List Str := ["_law_deck_here", "_law_longest", "_law_k"]
theorem sc_law_stock : FnScope N_law_stock ["_law_deck_here"] (defScope s_law_stock) := ⟨rfl, rfl, rfl, by decide +kernel, rfl, by decide +kernel, by decide +kernel⟩
abbrev s_law_lines : Stmt := top 27
abbrev N_law_lines : List Str := ["_law_deck_here", "_law_stock_here", "_law_most", "_law_k"]
theorem sc_law_lines : FnScope N_law_lines ["_law_deck_here", "_law_stock_here", "_law_most"] (defScope s_law_lines) := ⟨rfl, rfl, rfl, by decide +kernel, rfl, by decide +kernel, by decide +kernel⟩
abbrev s_law_script : Stmt := top 28
abbrev N_law_script : List Str := ["_law_deck_here", "_law_base", "_law_stock_here", "_law_most", "_law_pieces", "_law_room", "_law_begin", "_law_many", "_law_k"]
theorem sc_law_script : FnScope N_law_script ["_law_deck_here", "_law_base", "_law_stock_here", "_law_most"] (defScope s_law_script) := ⟨rfl, rfl, rfl, by decide +kernel, rfl, by decide +kernel, by decide +kernel⟩
abbrev s_law_made : Stmt := top 29
abbrev N_law_made : List Str := ["_law_base", "_law_pieces", "_law_made_here", "_law_piece", "_law_k", "_law_line"]
theorem sc_law_made : FnScope N_law_made ["_law_base", "_law_pieces"] (defScope s_law_made) := ⟨rfl, rfl, rfl, by decide +kernel, rfl, by decide +kernel, by decide +kernel⟩
abbrev s_law_cost : Stmt := top 30
abbrev N_law_cost : List Str := ["_law_pieces", "_law_by_take", "_law_by_put", "_law_total", "_law_piece"]
theorem sc_law_cost : FnScope N_law_cost ["_law_pieces", "_law_by_take", "_law_by_put"] (defScope s_law_cost) := ⟨rfl, rfl, rfl, by decide +kernel, rfl, by decide +kernel, by decide +kernel⟩
abbrev s_law_is_line : Stmt := top 31
abbrev N_law_is_line : List Str := ["_law_thing", "_law_sign"]
theorem sc_law_is_line : FnScope N_law_is_line ["_law_thing"] (defScope s_law_is_line) := ⟨rfl, rfl, rfl, by decide +kernel, rfl, by decide +kernel, by decide +kernel⟩
abbrev s_law_size : Stmt := top 32
abbrev N_law_size : List Str := ["_law_piece", "_law_line"]
theorem sc_law_size : FnScope N_law_size ["_law_piece"] (defScope s_law_size) := ⟨rfl, rfl, rfl, by decide +kernel, rfl, by decide +kernel, by decide +kernel⟩
abbrev s_law_is_script : Stmt := top 33
abbrev N_law_is_script : List Str := ["_law_thing", "_law_total", "_law_piece"]
theorem sc_law_is_script : FnScope N_law_is_script ["_law_thing"] (defScope s_law_is_script) := ⟨rfl, rfl, rfl, by decide +kernel, rfl, by decide +kernel, by decide +kernel⟩
abbrev s_law_fits : Stmt := top 34
abbrev N_law_fits : List Str := ["_law_base", "_law_thing", "_law_piece"]
theorem sc_law_fits : FnScope N_law_fits ["_law_base", "_law_thing"] (defScope s_law_fits) := ⟨rfl, rfl, rfl, by decide +kernel, rfl, by decide +kernel, by decide +kernel⟩
abbrev s_law_odd : Stmt := top 35
abbrev N_law_odd : List Str := ["_law_deck_here", "_law_some"]
theorem sc_law_odd : FnScope N_law_odd ["_law_deck_here"] (defScope s_law_odd) := ⟨rfl, rfl, rfl, by decide +kernel, rfl, by decide +kernel, by decide +kernel⟩
abbrev s_law_bent : Stmt := top 36
abbrev N_law_bent : List Str := ["_law_deck_here", "_law_thing", "_law_deep_in", "_law_turn", "_law_place"]
theorem sc_law_bent : FnScope N_law_bent ["_law_deck_here", "_law_thing", "_law_deep_in"] (defScope s_law_bent) := ⟨rfl, rfl, rfl, by decide +kernel, rfl, by decide +kernel, by decide +kernel⟩
abbrev s_law_spoiled : Stmt := top 37
abbrev N_law_spoiled : List Str := ["_law_deck_here", "_law_thing", "_law_times", "_law_k"]
theorem sc_law_spoiled : FnScope N_law_spoiled ["_law_deck_here", "_law_thing", "_law_times"] (defScope s_law_spoiled) := ⟨rfl, rfl, rfl, by decide +kernel, rfl, by decide +kernel, by decide +kernel⟩
abbrev s_law_stands : Stmt := top 38
abbrev N_law_stands : List Str := ["_law_base", "_law_part", "_law_place"]
theorem sc_law_stands : FnScope N_law_stands ["_law_base", "_law_part"] (defScope s_law_stands) := ⟨rfl, rfl, rfl, by decide +kernel, rfl, by decide +kernel, by decide +kernel⟩
abbrev s_law_firsts : Stmt := top 39
abbrev N_law_firsts : List Str := ["_law_base", "_law_lines_here", "_law_by_take", "_law_by_put", "_law_firsts_here", "_law_place", "_law_best", "_law_ahead"]
theorem sc_law_firsts : FnScope N_law_firsts ["_law_base", "_law_lines_here", "_law_by_take", "_law_by_put"] (defScope s_law_firsts) := ⟨rfl, rfl, rfl, by decide +kernel, rfl, by decide +kernel, by decide +kernel⟩
abbrev s_law_is_least : Stmt := top 40
abbrev N_law_is_least : List Str := ["_law_base", "_law_lines_here", "_law_thing", "_law_by_take", "_law_by_put", "_law_numbers_here", "_law_number", "_law_place", "_law_ahead"]
theorem sc_law_is_least : FnScope N_law_is_least ["_law_base", "_law_lines_here", "_law_thing", "_law_by_take", "_law_by_put"] (defScope s_law_is_least) := ⟨rfl, rfl, rfl, by decide +kernel, rfl, by decide +kernel, by decide +kernel⟩
abbrev s_law_least_script : Stmt := top 41
abbrev N_law_least_script : List Str := ["_law_base", "_law_lines_here", "_law_by_take", "_law_by_put", "_law_firsts_here", "_law_pieces", "_law_place", "_law_piece", "_law_size_here", "_law_ahead", "_law_many", "_law_begin"]
theorem sc_law_least_script : FnScope N_law_least_script ["_law_base", "_law_lines_here", "_law_by_take", "_law_by_put", "_law_firsts_here"] (defScope s_law_least_script) := ⟨rfl, rfl, rfl, by decide +kernel, rfl, by decide +kernel, by decide +kernel⟩
abbrev s_law_numbers : Stmt := top 42
abbrev N_law_numbers : List Str := ["_law_deck_here", "_law_firsts_here", "_law_total", "_law_turn", "_law_numbers_here", "_law_place"]
theorem sc_law_numbers : FnScope N_law_numbers ["_law_deck_here", "_law_firsts_here", "_law_total"] (defScope s_law_numbers) := ⟨rfl, rfl, rfl, by decide +kernel, rfl, by decide +kernel, by decide +kernel⟩
abbrev s_law : Stmt := top 43
abbrev N_law : List Str := ["_law_script_here", "_law_deck_here", "_law_stock_here", "_law_k", "_law_times", "_law_own", "_law_greatest", "_law_base", "_law_pieces", "_law_lines_here", "_law_by_take", "_law_by_put", "_law_firsts_here", "_law_numbers_here", "_law_thing", "_law_due"]
theorem sc_law : FnScope N_law ["_law_script_here"] (defScope s_law) := ⟨rfl, rfl, rfl, by decide +kernel, rfl, by decide +kernel, by decide +kernel⟩
structure Df (K : PySem.W.Frag) (mg : Str → Option Value) (x : Str) (st : Stmt) (ps : List Str) (f : Addr) (fd : FuncData) : Prop where
  fn : Fun K x x st f fd
  b : Binds K fd ps []
  g : mg x = some (.ref f)
structure Txt (K : PySem.W.Frag) (mg : Str → Option Value) : Prop where
  n_len : mg "len" = none
  n_list : mg "list" = none
  n_isinstance : mg "isinstance" = none
  n_int : mg "int" = none
  n_bool : mg "bool" = none
  n_str : mg "str" = none
  n_tuple : mg "tuple" = none
  n_dict : mg "dict" = none
  n_range : mg "range" = none
  n_all : mg "all" = none
  n_min : mg "min" = none
  n_max : mg "max" = none
  g_SIGNS : ∃ t, mg "SIGNS" = some (.str " !\"#$&'()*+,-./0123456789:;<=>?@ABCDEFGHIJKLMNOPQRSTUVWXYZ[\\]^_`abcdefghijklmnopqrstuvwxyz{|}~" t)
  g_TAKE : ∃ t, mg "TAKE" = some (.int 3 t)
  g_PUT : ∃ t, mg "PUT" = some (.int 2 t)
  g_ROWS : ∃ t, mg "ROWS" = some (.int 40 t)
local macro_rules | `(tactic| walk_at "sq") => `(tactic| first | assumption | exact SqL.of (by assumption) | exact SqT.of (by assumption))
local macro_rules | `(tactic| walk_at "c") => `(tactic| first | ((with_reducible refine cdivw ?_ ?_) <;> first | decide | omega | assumption) | ((with_reducible refine cmul_r ?_ ?_) <;> first | decide | omega) | ((with_reducible refine cmul_l ?_ ?_) <;> first | decide | omega) | with_reducible assumption | decide | omega | exact ⟨by decide, by decide, by first | decide | omega⟩)
local macro_rules | `(tactic| walk_at "at") => `(tactic| first | assumption | exact rfl)
local macro_rules | `(tactic| walk_at "ty") => `(tactic| first | exact .base (.int _) | exact .base (.bl _) | exact .base (.str _) | exact .base .non | exact .base (.tup (by assumption)) | exact .base (.lst (by assumption)) | exact .base (.dK (by assumption)))
local macro_rules | `(tactic| walk_at "kb") => `(tactic| first | exact kb_int_int | exact kb_int_bool | exact kb_int_str | exact kb_int_tuple | exact kb_int_list | exact kb_int_dict | exact kb_bool_int | exact kb_bool_bool | exact kb_bool_str | exact kb_bool_tuple | exact kb_bool_list | exact kb_bool_dict | exact kb_str_int | exact kb_str_bool | exact kb_str_str | exact kb_str_tuple | exact kb_str_list | exact kb_str_dict | exact kb_tuple_int | exact kb_tuple_bool | exact kb_tuple_str | exact kb_tuple_tuple | exact kb_tuple_list | exact kb_tuple_dict | exact kb_list_int | exact kb_list_bool | exact kb_list_str | exact kb_list_tuple | exact kb_list_list | exact kb_list_dict | exact kb_dict_int | exact kb_dict_bool | exact kb_dict_str | exact kb_dict_tuple | exact kb_dict_list | exact kb_dict_dict | exact kb_NoneType_int | exact kb_NoneType_bool | exact kb_NoneType_str | exact kb_NoneType_tuple | exact kb_NoneType_list | exact kb_NoneType_dict)
local macro_rules | `(tactic| walk_at "s") => `(tactic| first
  | with_reducible refine w_seqA ?_
  | with_reducible refine w_seqD ?_
  | with_reducible refine w_seqF ?_
  | with_reducible refine w_seqW ?_
  | with_reducible refine w_seqG ?_
  | with_reducible refine w_seqP ?_
  | with_reducible refine w_asg ?_
  | ((with_reducible refine' w_var ?hv ?_); (case hv => exact rfl))
  | with_reducible refine w_c ?_
  | ((with_reducible refine w_name ?_); dsimp only [List.set_cons_zero, List.set_cons_succ])
  | with_reducible refine w_name ?_
  | with_reducible refine w_op ?_
  | with_reducible refine w_un ?_
  | with_reducible refine w_neg ?_
  | with_reducible refine w_i0 ?_
  | ((with_reducible refine w_i ?hc ?_); (case hc => walk_at "c"))
  | with_reducible refine w_eqI ?_
  | with_reducible refine w_neI ?_
  | ((with_reducible refine' w_ixL ?h1 ?h2 ?_); (case h1 => walk_at "sq"); (case h2 => walk_at "at"))
  | ((with_reducible refine' w_ixT ?h1 ?h2 ?_); (case h1 => walk_at "sq"); (case h2 => walk_at "at"))
  | ((with_reducible refine' w_ixSL ?h1 ?h2 ?_); (case h1 => walk_at "sq"); (case h2 => walk_at "at"))
  | ((with_reducible refine' w_ixST ?h1 ?h2 ?_); (case h1 => walk_at "sq"); (case h2 => walk_at "at"))
  | with_reducible refine w_neB ?_
  | with_reducible refine w_eqN ?_
  | with_reducible refine w_sub ?_
  | with_reducible refine w_if ?_
  | with_reducible refine w_test ?_
  | with_reducible refine w_tb ?_
  | with_reducible refine w_bl ?_
  | with_reducible refine w_and ?_
  | with_reducible refine w_or ?_
  | with_reducible refine w_not ?_
  | with_reducible refine w_andV ?_
  | with_reducible refine w_orV ?_
  | with_reducible refine w_notV ?_
  | with_reducible refine w_ret ?_
  | with_reducible refine w_drop ?_
  | with_reducible refine w_next ?_
  | with_reducible refine w_cb ?_
  | with_reducible refine w_nil ?_
  | with_reducible refine w_cons ?_
  | with_reducible refine w_call ?_
  | with_reducible refine w_lst ?_
  | with_reducible refine w_tup ?_
  | with_reducible refine w_bm ?_
  | ((with_reducible refine' w_tyL ?h1 ?_); (case h1 => assumption))
  | ((with_reducible refine' w_lenL ?h1 ?_); (case h1 => walk_at "sq"))
  | ((with_reducible refine' w_lenT ?h1 ?_); (case h1 => walk_at "sq"))
  | ((with_reducible refine w_sz ?h1 ?_); (case h1 => first | decide | (simp only [List.length_cons, List.length_nil]; decide)))
  | with_reducible refine w_min2 ?_
  | with_reducible refine w_max2 ?_
  | with_reducible refine w_tupRg ?_
  | with_reducible refine w_rg2 ?_
  | with_reducible refine w_rg2' ?_
  | with_reducible refine w_bits ?_
  | with_reducible refine w_bits' ?_
  | with_reducible refine w_for ?_
  | with_reducible refine w_rng1 ?_
  | ((with_reducible refine w_rng1' ?h1 ?h2 ?_); (case h1 => omega); (case h2 => omega))
  | with_reducible refine w_rng2 ?_
  | ((with_reducible refine w_rng2' ?h1 ?_); (case h1 => omega))
  | with_reducible refine w_itL ?_
  | ((with_reducible refine' w_itL' ?h1 ?_); (case h1 => walk_at "sq"))
  | with_reducible refine w_itT ?_
  | ((with_reducible refine' w_itT' ?h1 ?_); (case h1 => walk_at "sq"))
  | with_reducible refine w_lc ?_
  | ((with_reducible refine' w_isi ?ty ?hk ?_); (case ty => walk_at "ty"); (case hk => walk_at "kb"))
  | with_reducible refine iteT ?_
  | with_reducible refine iteF ?_
  | with_reducible refine w_nT ?_
  | with_reducible refine w_nF ?_
  | with_reducible refine w_eqS ?_
  | with_reducible refine w_eqB ?_
  | ((with_reducible refine' w_sum ?h1 ?_); (case h1 => walk_at "sq"))
  | ((with_reducible refine' w_gtup ?h1 ?h2 ?_); (case h1 => walk_at "sq"); (case h2 => exact rfl))
  | with_reducible refine w_gcons ?_
  | with_reducible refine w_gnil ?_
  | with_reducible refine w_din ?_
  | with_reducible refine w_dnotin ?_
  | with_reducible refine w_dget ?_
  | ((with_reducible refine' w_dinI ?h1 ?_); (case h1 => assumption))
  | ((with_reducible refine' w_dnotinI ?h1 ?_); (case h1 => assumption))
  | ((with_reducible refine' w_dgetI ?h1 ?h2 ?_); (case h1 => assumption); (case h2 => assumption))
  | with_reducible refine w_dnewK ?_
  | with_reducible refine w_dput ?_
  | with_reducible refine w_dget2 ?_
  | ((with_reducible refine' w_isD ?h1 ?_); (case h1 => assumption))
  | ((with_reducible refine' w_dget2I ?h1 ?_); (case h1 => assumption))
  | with_reducible refine w_dsetd ?_
  | ((with_reducible refine' w_leT2 ?h1 ?h2 ?_); (case h1 => walk_at "sq"); (case h2 => walk_at "sq"))
  | ((with_reducible refine' w_inT ?h1 ?_); (case h1 => walk_at "sq"))
  | ((with_reducible refine' w_ninT ?h1 ?_); (case h1 => walk_at "sq"))
  | ((with_reducible refine' w_inL ?h1 ?_); (case h1 => walk_at "sq"))
  | ((with_reducible refine' w_ninL ?h1 ?_); (case h1 => walk_at "sq"))
  | with_reducible refine w_pair ?_
  | with_reducible refine w_pnil ?_
  | with_reducible refine w_callS ?_
  | with_reducible refine w_try ?_
  | with_reducible refine w_isB ?_
  | with_reducible refine w_isN ?_
  | with_reducible refine w_notN ?_
  | with_reducible refine w_chain ?_
  | with_reducible refine w_tru ?_
  | ((with_reducible refine' w_trL ?h1 ?_); (case h1 => walk_at "sq"))
  | ((with_reducible refine' w_trT ?h1 ?_); (case h1 => walk_at "sq"))
  | with_reducible refine w_dc ?_
  | with_reducible refine w_dc2 ?_
  | with_reducible refine w_dget1 ?_
  | ((with_reducible refine' w_dget1I ?h1 ?_); (case h1 => assumption))
  | with_reducible refine w_rev ?_
  | ((with_reducible refine' w_rev' ?h1 ?_); (case h1 => walk_at "sq"))
  | with_reducible refine w_slice ?_
  | with_reducible refine w_noPart ?_
  | with_reducible refine w_part ?_
  | with_reducible refine w_part' ?_
  | with_reducible refine w_enum ?_
  | ((with_reducible refine' w_enum' ?h1 ?_); (case h1 => walk_at "sq"))
  | with_reducible refine w_bm0 ?_
  | with_reducible refine w_retN ?_
  | with_reducible refine w_tyes ?_
  | with_reducible refine w_keys ?_
  | ((with_reducible refine' w_keys' ?h1 ?_); (case h1 => assumption))
  | ((with_reducible refine' w_dinF ?h1 ?_); (case h1 => assumption))
  | ((with_reducible refine' w_dgetF ?h1 ?h2 ?_); (case h1 => assumption); (case h2 => assumption))
  | ((with_reducible refine' w_any ?h1 ?_); (case h1 => walk_at "sq"))
  | with_reducible refine w_zipA ?_
  | ((with_reducible refine' w_zipT' ?h1 ?h2 ?_); (case h1 => walk_at "sq"); (case h2 => walk_at "sq"))
  | with_reducible refine w_dct ?_
  | with_reducible refine w_tryG ?_
  | with_reducible refine w_inS ?_
  | with_reducible refine w_neS ?_
  | with_reducible refine w_ltS ?_
  | with_reducible refine w_gtS ?_
  | ((with_reducible refine' w_augI ?hv ?_); (case hv => exact rfl))
  | ((with_reducible refine w_ipI ?_); dsimp only [List.set_cons_zero, List.set_cons_succ])
  | with_reducible refine w_callD ?_
  | with_reducible refine w_m1 ?_
  | with_reducible refine w_isS ?_
  | with_reducible refine w_istr ?_
  | with_reducible refine w_istr' ?_
  | ((with_reducible refine' w_all ?h1 ?_); (case h1 => walk_at "sq"))
  | ((with_reducible refine' w_glst ?h1 ?h2 ?_); (case h1 => walk_at "sq"); (case h2 => exact rfl))
  | with_reducible refine w_callN ?_
  | with_reducible refine w_step ?_
  | dsimp only [Bool.not_true, Bool.not_false]
  )
local macro_rules | `(tactic| walk_at "p") => `(tactic| first | assumption | omega | (simp only [List.length_cons, List.length_nil, List.length_map]; omega) | exact rfl | decide)
local macro_rules | `(tactic| walk_at "d") => `(tactic| first
  | ((with_reducible refine w_yes ?hp ?_); (case hp => walk_at "p"))
  | ((with_reducible refine w_no ?hp ?_); (case hp => walk_at "p"))
  | ((with_reducible refine w_nyes ?hp ?_); (case hp => walk_at "p"))
  | ((with_reducible refine w_nno ?hp ?_); (case hp => walk_at "p")))
local macro_rules | `(tactic| walk_at "g") => `(tactic| repeat walk_at "s")
local macro_rules | `(tactic| walk_at "dg") => `(tactic| (walk_at "d"; repeat walk_at "s"))
local macro_rules | `(tactic| walk_at "x") => `(tactic| ((try dsimp only [cxOf, Cx.nox, Cx.wish]); repeat walk_at "s"))
local macro_rules | `(tactic| walk_at "s") => `(tactic| with_reducible refine w_revT ?_)
def spDeck (K : PySem.W.Frag) : Sp := fun vs H Q _ => ∃ (a : Addr) (ns : List Int), vs = [.ref a] ∧ SqL K H a (ns.map V.int) ∧
  ∀ H' d c, Same H H' → H d = none → H c = none → Deck H' d c 0 → Q (.ref d) H'
def spMixed : Sp := fun vs H Q _ => ∃ (x t : Int), vs = [.int x, .int t] ∧ 0 ≤ t ∧ t ≤ 2 ^ 41 ∧ ∀ i, Q (.int i) H
def spDraw : Sp := fun vs H Q _ => ∃ (d c : Addr) (n : Nat) (m : Int), vs = [.ref d, .int m] ∧ Deck H d c n ∧ n < MOSTD ∧ 0 < m ∧ m < 2 ^ 64 ∧
  ∀ (i : Nat) H', (i : Int) < m → Deck H' d c (n + 1) → Off d H H' → Q (.int i) H'
theorem w_deck {K : PySem.W.Frag} {H : Hp} {Q : VK} {E : XK} {a : Addr} {ns : List Int} (h1 : SqL K H a (ns.map V.int)) (h : ∀ H' d c, Same H H' → H d = none → H c = none → Deck H' d c 0 → Q (.ref d) H') : spDeck K ([V.ref a] ++ []) H Q E := ⟨a, ns, rfl, h1, h⟩
theorem w_draw {H : Hp} {Q : VK} {E : XK} {d c : Addr} {n : Nat} {m : Int} (D : Deck H d c n) (hn : n < MOSTD) (h0 : 0 < m) (h1 : m < 2 ^ 64) (h : ∀ (i : Nat) H', (i : Int) < m → Deck H' d c (n + 1) → Off d H H' → Q (.int i) H') : spDraw ([V.ref d, V.int m] ++ []) H Q E := ⟨d, c, n, m, rfl, D, hn, h0, h1, h⟩
theorem dk0 {c : Addr} {a b t : V} : atI [V.ref c, a, b, t] 0 = some (.ref c) := rfl
theorem dk1 {c a b t : V} : atI [c, a, b, t] 1 = some a := rfl
theorem dk2 {c a b t : V} : atI [c, a, b, t] 2 = some b := rfl
theorem dk3 {c a b t : V} : atI [c, a, b, t] 3 = some t := rfl
section
variable {P : Program} {w : World} {K : PySem.W.Frag} {mg : Str → Option Value} {base : Heap}
theorem ok_deck {f : Addr} {fd : FuncData} (T : Txt K mg) (F : Fun K "_law_deck" "_law_deck" s_law_deck f fd) : FnOk P w K mg base CX0 1 f fd ["_law_script_here"] (spDeck K) := by
  refine F.ok sc_law_deck (fun vs H Q E h => ?_) (fun cdv A outer s H vs Q E hr h => ?_)
  · obtain ⟨a, ns, rfl, _⟩ := h
    rfl
  · obtain ⟨a, ns, rfl, hS, q⟩ := h
    refine ⟨_,
      (pss_one
        (ps_ret (pe_lst (pa_cons (pe_callTy (r := rListOf K) c_listOf (by rfl) T.n_list (by decide +kernel) (pa_cons (pv 0) pa_nil)) (pa_cons pe_int (pa_cons pe_int (pa_cons pe_int pa_nil)))))))
      , ?_⟩
    walk_at "x"
    refine w_listL hS fun c H1 hc e1 k1 => ?_
    walk_at "g"
    refine w_new fun d H2 hd e2 k2 => ?_
    refine q _ d c (Same.trans k1 k2) (k1.free hd) hc ⟨⟨ns, 0, 0, 0, e2, k2 _ _ e1, Nat.le_refl _⟩, ne_of_none e1 hd⟩
theorem ok_mixed {f : Addr} {fd : FuncData} (T : Txt K mg) (F : Fun K "_law_mixed" "_law_mixed" s_law_mixed f fd) : FnOk P w K mg base CX0 1 f fd ["_law_cell", "_law_turn"] spMixed := by
  refine F.ok sc_law_mixed (fun vs H Q E h => ?_) (fun cdv A outer s H vs Q E hr h => ?_)
  · obtain ⟨x, t, rfl, _⟩ := h
    rfl
  · obtain ⟨x, t, rfl, h0, h1, q⟩ := h
    refine ⟨_,
      (pss_one
        (ps_ret (pe_op op_mod (pe_op op_pow (pe_op op_add (pe_op op_add (pe_op op_mod (pv 0) pe_int) (pe_op op_mul (pv 1) pe_int)) pe_int) pe_int) pe_int)))
      , ?_⟩
    have e := Int.emod_lt_of_pos x (show (0 : Int) < 2147483629 by decide)
    have e2 := Int.emod_nonneg x (show (2147483629 : Int) ≠ 0 by decide)
    walk_at "x"
    exact q _
theorem ok_draw {f fM : Addr} {fd fdM : FuncData} (T : Txt K mg) (F : Fun K "_law_draw" "_law_draw" s_law_draw f fd) (D_law_mixed : Df K mg "_law_mixed" s_law_mixed ["_law_cell", "_law_turn"] fM fdM) : FnOk P w K mg base CX0 2 f fd ["_law_deck_here", "_law_many"] spDraw := by
  have G_law_mixed : FnOk P w K mg base CX0 1 fM fdM ["_law_cell", "_law_turn"] spMixed := ok_mixed T D_law_mixed.fn
  refine F.ok sc_law_draw (fun vs H Q E h => ?_) (fun cdv A outer s H vs Q E hr h => ?_)
  · obtain ⟨d, c, n, m, rfl, _⟩ := h
    rfl
  · obtain ⟨d, c, n, m, rfl, ⟨⟨cs, a, b, t, e1, e2, e3⟩, ne⟩, hn, hm, hm2, q⟩ := h
    have hn' : t < 1099511627776 := Nat.lt_of_le_of_lt e3 hn
    refine ⟨_,
      (pss_cons
        (ps_set (i := 2) sc_law_draw.nd rfl (.inl rfl) (pe_ix (r := rIxL K) ix_list (pv 0) pe_int (fun _ _ => rfl)))
      (pss_cons
        (ps_asg (pe_op op_add (pe_ix (r := rIxL K) ix_list (pv 0) pe_int (fun _ _ => rfl)) pe_int) (pg_sub (pv 0) pe_int set_list))
      (pss_cons
        (ps_if (PW.pt (pw_and (pt_cmpR op_eq (pe_ix (r := rIxL K) ix_list (pv 0) pe_int (fun _ _ => rfl)) pe_int (nomark _)) (pw_and1 (pt_cmpR op_lt (pe_ix (r := rIxL K) ix_list (pv 0) pe_int (fun _ _ => rfl)) (pe_callB (r := rLen K) c_len (by rfl) T.n_len (by decide +kernel) (pa_cons (pv 2) pa_nil)) (nomark _)))))
          (pss_cons
            (ps_asg (pe_op op_add (pe_ix (r := rIxL K) ix_list (pv 0) pe_int (fun _ _ => rfl)) pe_int) (pg_sub (pv 0) pe_int set_list))
          (pss_cons
            (ps_if (pt_cmpR op_lt (pe_ix (r := rIxL K) ix_list (pv 2) (pe_op op_sub (pe_ix (r := rIxL K) ix_list (pv 0) pe_int (fun _ _ => rfl)) pe_int) (fun _ _ => rfl)) (pe_op op_pow pe_int pe_int) (nomark _))
              (pss_one
                (ps_ret (pe_op op_mod (pe_call G_law_mixed (hr.mono (by omega)) (by rfl) D_law_mixed.g D_law_mixed.fn.kp D_law_mixed.b .nil pass0 (pa_cons (pe_ix (r := rIxL K) ix_list (pv 2) (pe_op op_sub (pe_ix (r := rIxL K) ix_list (pv 0) pe_int (fun _ _ => rfl)) pe_int) (fun _ _ => rfl)) (pa_cons (pe_ix (r := rIxL K) ix_list (pv 0) pe_int (fun _ _ => rfl)) pa_nil))) (pv 1))))
              pss_nil)
          (pss_one
            (ps_asg (pe_ix (r := rIxL K) ix_list (pv 2) (pe_op op_sub (pe_ix (r := rIxL K) ix_list (pv 0) pe_int (fun _ _ => rfl)) pe_int) (fun _ _ => rfl)) (pg_sub (pv 0) pe_int set_list)))))
          pss_nil)
      (pss_cons
        (ps_if (pt_cmpR op_gt (pe_ix (r := rIxL K) ix_list (pv 0) pe_int (fun _ _ => rfl)) pe_int (nomark _))
          (pss_cons
            (ps_set (i := 3) sc_law_draw.nd rfl (.inl rfl) (pe_op op_mod (pe_ix (r := rIxL K) ix_list (pv 0) pe_int (fun _ _ => rfl)) (pv 1)))
          (pss_cons
            (ps_asg (pe_op op_fdivW (pe_ix (r := rIxL K) ix_list (pv 0) pe_int (fun _ _ => rfl)) (pv 1)) (pg_sub (pv 0) pe_int set_list))
          (pss_one
            (ps_ret (pv 3)))))
          pss_nil)
      (pss_cons
        (ps_set (i := 4) sc_law_draw.nd rfl (.inl rfl) (pe_op op_mul (pe_ix (r := rIxL K) ix_list (pv 0) pe_int (fun _ _ => rfl)) pe_int))
      (pss_cons
        (ps_if (pt_cmpR op_gt (pe_callB (r := rLen K) c_len (by rfl) T.n_len (by decide +kernel) (pa_cons (pv 2) pa_nil)) pe_int (nomark _))
          (pss_one
            (ps_set (i := 4) sc_law_draw.nd rfl (.inl rfl) (pe_op op_add (pv 4) (pe_op op_mod (pe_ix (r := rIxL K) ix_list (pv 2) (pe_op op_mod (pe_op op_mul (pe_ix (r := rIxL K) ix_list (pv 0) pe_int (fun _ _ => rfl)) pe_int) (pe_callB (r := rLen K) c_len (by rfl) T.n_len (by decide +kernel) (pa_cons (pv 2) pa_nil))) (fun _ _ => rfl)) pe_int))))
          pss_nil)
      (pss_one
        (ps_ret (pe_op op_mod (pe_call G_law_mixed (hr.mono (by omega)) (by rfl) D_law_mixed.g D_law_mixed.fn.kp D_law_mixed.b .nil pass0 (pa_cons (pv 4) (pa_cons (pe_ix (r := rIxL K) ix_list (pv 0) pe_int (fun _ _ => rfl)) pa_nil))) (pv 1))))))))))
      , ?_⟩
    rw [show L2.start N_law_draw [V.ref d, V.int m] = [some (.ref d), some (.int m), none, none, none] from rfl]
    -- cells = deck[0]; deck[3] = deck[3] + 1
    walk_at "x"
    refine w_setL e1 rfl rfl fun H1 g0 o0 => ?_
    have fin : ∀ (H' : Hp) (a' : Nat) (b' i : Int), 0 ≤ i → i < m → H' d = some (.lst [.ref c, .int a', .int b', .int (t + 1)]) → Off d H H' → Q (.int i) H' := fun H' a' b' i i0 i1 g1 g2 => by
      have z := q i.toNat H' (by omega) ⟨⟨cs, a', b', t + 1, g1, (g2 c ne).trans e2, by omega⟩, ne⟩ g2
      rw [Int.toNat_of_nonneg i0] at z
      exact z
    have md : ∀ x : Int, 0 ≤ x % m ∧ x % m < m := fun x => ⟨Int.emod_nonneg x (by omega), Int.emod_lt_of_pos x hm⟩
    have g0 : H1 d = some (.lst [.ref c, .int a, .int b, .int ((t : Int) + 1)]) := g0
    have c1 : H1 c = some (.lst (cs.map V.int)) := (o0 c ne).trans e2
    -- if deck[2] == 0 and deck[1] < len(cells): ..
    refine w_seqJ (fun σ' H2 => σ' = [some (.ref d), some (.int m), some (.ref c), none, none] ∧ ∃ (a' : Nat) (b' : Int), H2 d = some (.lst [.ref c, .int a', .int b', .int ((t : Int) + 1)]) ∧ Off d H H2) ?_ ?_
    · rintro σ' H2 ⟨rfl, a', b', g2, o2⟩
      have c2 : H2 c = some (.lst (cs.map V.int)) := (o2 c ne).trans e2
      refine w_seqJ (fun σ' H3 => σ' = [some (.ref d), some (.int m), some (.ref c), none, none] ∧ H3 = H2) ?_ ?_
      · rintro σ' H3 ⟨rfl, rfl⟩
        -- number = deck[3] * 48271; if len(cells) > 0: ..
        walk_at "g"
        refine w_seqJ (fun σ' H4 => (∃ z : Int, σ' = [some (.ref d), some (.int m), some (.ref c), none, some (.int z)]) ∧ H4 = H3) ?_ ?_
        · rintro σ' H4 ⟨⟨z, rfl⟩, rfl⟩
          walk_at "g"
          refine ⟨_, _, rfl, by omega, by omega, fun y => ?_⟩
          walk_at "g"
          exact fin _ a' b' _ (md y).1 (md y).2 g2 o2
        · intro U hU
          walk_at "g"
          refine w_ite (fun hl => ?_) (fun hl => ?_)
          · obtain ⟨v, hv1, hv2⟩ := at_lt (xs := cs.map V.int) (i := ((t : Int) + 1) * 7 % ((cs.map V.int).length : Int)) (Int.emod_nonneg _ (by omega)) (Int.emod_lt_of_pos _ hl)
            rw [List.getElem?_map] at hv1
            obtain ⟨y, _, rfl⟩ := Option.map_eq_some_iff.mp hv1
            walk_at "g"
            exact hU _ _ ⟨⟨_, rfl⟩, rfl⟩
          · exact hU _ _ ⟨⟨_, rfl⟩, rfl⟩
      · intro U hU
        walk_at "g"
        refine w_ite (fun hl => ?_) (fun hl => ?_)
        · walk_at "g"
          refine w_setL g2 rfl rfl fun H9 g9 o9 => ?_
          walk_at "g"
          exact fin _ a' (b' / m) _ (md b').1 (md b').2 g9 (o2.trans o9)
        · exact hU _ _ ⟨rfl, rfl⟩
    · intro U hU
      have no : U [some (.ref d), some (.int m), some (.ref c), none, none] H1 := hU _ _ ⟨rfl, a, b, g0, o0⟩
      walk_at "g"
      refine w_ite (fun hl => ?_) (fun _ => no)
      walk_at "g"
      refine w_ite (fun hl2 => ?_) (fun _ => no)
      obtain ⟨v, hv1, hv2⟩ := at_lt (xs := cs.map V.int) (i := ((a + 1 : Nat) : Int) - 1) (by omega) (by omega)
      rw [List.getElem?_map] at hv1
      obtain ⟨y, _, rfl⟩ := Option.map_eq_some_iff.mp hv1
      walk_at "g"
      refine w_setL g0 rfl rfl fun H2 g2 o2 => ?_
      have g2 : H2 d = some (.lst [.ref c, .int ((a + 1 : Nat) : Int), .int b, .int ((t : Int) + 1)]) := g2
      have o2 : Off d H H2 := o0.trans o2
      have c2 : H2 c = some (.lst (cs.map V.int)) := (o2 c ne).trans e2
      refine w_seq ?_
      walk_at "g"
      refine w_ite (fun hl => ?_) (fun hl => ?_)
      · walk_at "g"
        refine ⟨_, _, rfl, by omega, by omega, fun y => ?_⟩
        walk_at "g"
        exact fin _ (a + 1) b _ (md y).1 (md y).2 g2 o2
      · walk_at "g"
        refine w_setL g2 rfl rfl fun H9 g9 o9 => ?_
        exact hU _ _ ⟨rfl, a + 1, y, g9, o2.trans o9⟩
end
/-! ### _law_same, of data that are the same, kind for kind -/
def Sc : V → Prop
  | .non => True
  | .bl _ => True
  | .int _ => True
  | .str _ => True
  | _ => False
def SD : Nat → Hp → V → V → Prop
  | 0, _, x, y => x = y ∧ Sc x
  | n + 1, H, x, y => (x = y ∧ Sc x) ∨ ∃ p q xs ys, x = .ref p ∧ y = .ref q ∧ ((H p = some (.tup xs) ∧ H q = some (.tup ys)) ∨ (H p = some (.lst xs) ∧ H q = some (.lst ys))) ∧ xs.length = ys.length ∧ xs.length ≤ 100000 ∧
      ∀ (i : Nat) (a b : V), xs[i]? = some a → ys[i]? = some b → SD n H a b
theorem SD.ints {H : Hp} {p q : Addr} {xs : List Int} (h1 : H p = some (.lst (xs.map V.int))) (h2 : H q = some (.lst (xs.map V.int))) (hl : xs.length ≤ 100000) : SD 1 H (.ref p) (.ref q) :=
  Or.inr ⟨p, q, _, _, rfl, rfl, .inr ⟨h1, h2⟩, rfl, by simpa using hl, fun i a b ha hb => by
    rw [ha] at hb
    cases hb
    rw [List.getElem?_map] at ha
    obtain ⟨z, _, rfl⟩ := Option.map_eq_some_iff.mp ha
    exact ⟨rfl, trivial⟩⟩
theorem SD.tups {H : Hp} {p q : Addr} {xs : List Int} (h1 : H p = some (.tup (xs.map V.int))) (h2 : H q = some (.tup (xs.map V.int))) (hl : xs.length ≤ 100000) : SD 1 H (.ref p) (.ref q) :=
  Or.inr ⟨p, q, _, _, rfl, rfl, .inl ⟨h1, h2⟩, rfl, by simpa using hl, fun i a b ha hb => by
    rw [ha] at hb
    cases hb
    rw [List.getElem?_map] at ha
    obtain ⟨z, _, rfl⟩ := Option.map_eq_some_iff.mp ha
    exact ⟨rfl, trivial⟩⟩
theorem SD.on {H H' : Hp} (k : Same H H') : ∀ {n : Nat} {x y : V}, SD n H x y → SD n H' x y
  | 0, _, _, h => h
  | n + 1, _, _, h => by
    rcases h with h | ⟨p, q, xs, ys, e1, e2, hk, h1, h2, h3⟩
    · exact .inl h
    · exact .inr ⟨p, q, xs, ys, e1, e2, hk.imp (fun z => ⟨k _ _ z.1, k _ _ z.2⟩) (fun z => ⟨k _ _ z.1, k _ _ z.2⟩), h1, h2, fun i a b ha hb => SD.on k (h3 i a b ha hb)⟩
theorem Ty.kList {H : Hp} {x : V} {a : String} (t : Ty H x a) : kitB a "list" = some (decide (a = "list")) := by
  cases t with
  | non => exact kb_NoneType_list
  | bl b => exact kb_bool_list
  | int i => exact kb_int_list
  | str z => exact kb_str_list
  | lst e => exact kb_list_list
  | tup e => exact kb_tuple_list
  | dK e => exact kb_dict_list
theorem w_isTL {K : PySem.W.Frag} {H : Hp} {Q : VK} {x : V} {a : String} {p : Addr} {b : Bool} (t : Ty H x a) (ep : H p = some (.tup [.ty "tuple", .ty "list"])) (hb : (decide (a = "tuple") || decide (a = "list")) = b) (h : Q (.bl b) H) : rIsiT K [x, .ref p] H Q := by
  refine ⟨x, p, _, .type a, [.type "tuple", .type "list"], b, rfl, ep, .cons (.ty _) (.cons (.ty _) .nil), t.tx, kitAny_cons (kit_ty t.kTup) (fun e1 => kitAny_cons (kit_ty t.kList) (fun e2 => ?_) (fun e2 => ?_)) (fun e1 => ?_), h⟩
  · rw [← hb, e1, e2]
    rfl
  · rw [← hb, e2]
    simp
  · rw [← hb, e1]
    rfl
def spSame (n : Nat) : Sp := fun vs H Q _ => ∃ (x y : V), vs = [x, y] ∧ SD n H x y ∧ ∀ H', Same H H' → Q (.bl true) H'
def spIntI : Sp := fun vs H Q _ => ∃ (x : Int), vs = [.int x] ∧ Q (.bl true) H
section
variable {P : Program} {w : World} {K : PySem.W.Frag} {mg : Str → Option Value} {base : Heap}
theorem ok_int {f : Addr} {fd : FuncData} (T : Txt K mg) (F : Fun K "_law_int" "_law_int" s_law_int f fd) : FnOk P w K mg base CX0 1 f fd ["_law_thing"] spIntI := by
  refine F.ok sc_law_int (fun vs H Q E h => ?_) (fun cdv A outer s H vs Q E hr h => ?_)
  · obtain ⟨x, rfl, _⟩ := h
    rfl
  · obtain ⟨x, rfl, q⟩ := h
    refine ⟨_,
      (pss_one
        (ps_ret (pe_and (pe_callB (r := rIsi K) call_isi (by rfl) T.n_isinstance (by decide +kernel) (pa_cons (pv 0) (pa_cons (pe_bltn (v := .ty "int") (u := .type "int") (by rfl) T.n_int (by decide +kernel) rfl) pa_nil))) (pe_one (pe_not (pe_callB (r := rIsi K) call_isi (by rfl) T.n_isinstance (by decide +kernel) (pa_cons (pv 0) (pa_cons (pe_bltn (v := .ty "bool") (u := .type "bool") (by rfl) T.n_bool (by decide +kernel) rfl) pa_nil))))))))
      , ?_⟩
    walk_at "x"
    exact q
theorem ok_same0 {f fI : Addr} {fd fdI : FuncData} (T : Txt K mg) (D_law_same : Df K mg "_law_same" s_law_same ["_law_found", "_law_due"] f fd) (D_law_int : Df K mg "_law_int" s_law_int ["_law_thing"] fI fdI) : FnOk P w K mg base CX0 2 f fd ["_law_found", "_law_due"] (spSame 0) := by
  have G_law_int : FnOk P w K mg base CX0 1 fI fdI ["_law_thing"] spIntI := ok_int T D_law_int.fn
  refine D_law_same.fn.ok sc_law_same (fun vs H Q E h => ?_) (fun cdv A outer s H vs Q E hr h => ?_)
  · obtain ⟨x, y, rfl, _⟩ := h
    rfl
  · obtain ⟨x, y, rfl, ⟨rfl, hx⟩, q⟩ := h
    refine ⟨_,
      (pss_cons
        (ps_if (pt_val (pe_callB (r := rIsiT K) call_isiT (by rfl) T.n_isinstance (by decide +kernel) (pa_cons (pv 1) (pa_cons (pe_tup (pa_cons (pe_bltn (v := .ty "tuple") (u := .type "tuple") (by rfl) T.n_tuple (by decide +kernel) rfl) (pa_cons (pe_bltn (v := .ty "list") (u := .type "list") (by rfl) T.n_list (by decide +kernel) rfl) pa_nil))) pa_nil))))
          pss_never
          pss_nil)
      (pss_cons
        (ps_if (pt_val (pe_callB (r := rIsi K) call_isi (by rfl) T.n_isinstance (by decide +kernel) (pa_cons (pv 1) (pa_cons (pe_bltn (v := .ty "dict") (u := .type "dict") (by rfl) T.n_dict (by decide +kernel) rfl) pa_nil))))
          (pss_one
            (ps_ret (pe_and (pe_callB (r := rIsi K) call_isi (by rfl) T.n_isinstance (by decide +kernel) (pa_cons (pv 0) (pa_cons (pe_bltn (v := .ty "dict") (u := .type "dict") (by rfl) T.n_dict (by decide +kernel) rfl) pa_nil))) (pe_one (pe_cmpR op_eq (pv 0) (pv 1) (nomark _))))))
          pss_nil)
      (pss_cons
        (ps_if (pt_val (pe_callB (r := rIsi K) call_isi (by rfl) T.n_isinstance (by decide +kernel) (pa_cons (pv 1) (pa_cons (pe_bltn (v := .ty "bool") (u := .type "bool") (by rfl) T.n_bool (by decide +kernel) rfl) pa_nil))))
          (pss_one
            (ps_ret (pe_and (pe_callB (r := rIsi K) call_isi (by rfl) T.n_isinstance (by decide +kernel) (pa_cons (pv 0) (pa_cons (pe_bltn (v := .ty "bool") (u := .type "bool") (by rfl) T.n_bool (by decide +kernel) rfl) pa_nil))) (pe_one (pe_cmpR op_eq (pv 0) (pv 1) (nomark _))))))
          pss_nil)
      (pss_cons
        (ps_if (pt_val (pe_callB (r := rIsi K) call_isi (by rfl) T.n_isinstance (by decide +kernel) (pa_cons (pv 1) (pa_cons (pe_bltn (v := .ty "int") (u := .type "int") (by rfl) T.n_int (by decide +kernel) rfl) pa_nil))))
          (pss_one
            (ps_ret (pe_and (pe_call G_law_int (hr.mono (by omega)) (by rfl) D_law_int.g D_law_int.fn.kp D_law_int.b .nil pass0 (pa_cons (pv 0) pa_nil)) (pe_one (pe_cmpR op_eq (pv 0) (pv 1) (nomark _))))))
          pss_nil)
      (pss_cons
        (ps_if (pt_val (pe_callB (r := rIsi K) call_isi (by rfl) T.n_isinstance (by decide +kernel) (pa_cons (pv 1) (pa_cons (pe_bltn (v := .ty "str") (u := .type "str") (by rfl) T.n_str (by decide +kernel) rfl) pa_nil))))
          (pss_one
            (ps_ret (pe_and (pe_callB (r := rIsi K) call_isi (by rfl) T.n_isinstance (by decide +kernel) (pa_cons (pv 0) (pa_cons (pe_bltn (v := .ty "str") (u := .type "str") (by rfl) T.n_str (by decide +kernel) rfl) pa_nil))) (pe_one (pe_cmpR op_eq (pv 0) (pv 1) (nomark _))))))
          pss_nil)
      (pss_one
        (ps_ret (pe_and (pe_cmpR o_isN (pv 1) pe_non (nomark _)) (pe_one (pe_cmpR o_isN (pv 0) pe_non (nomark _)))))))))))
      , ?_⟩
    rw [show L2.start N_law_same [x, x] = [some x, some x, none] from rfl]
    cases x with
    | non =>
      refine w_seq ?_
      walk_at "x"
      refine w_new fun tp H1 htp etp k1 => ?_
      walk_at "g"
      refine w_isTL (b := false) Ty.non etp (by decide) ?_
      walk_at "g"
      refine w_seq ?_
      walk_at "g"
      refine w_seq ?_
      walk_at "g"
      refine w_seq ?_
      walk_at "g"
      refine w_seq ?_
      walk_at "g"
      refine w_yes rfl ?_
      walk_at "g"
      exact q _ k1
    | bl b =>
      refine w_seq ?_
      walk_at "x"
      refine w_new fun tp H1 htp etp k1 => ?_
      walk_at "g"
      refine w_isTL (b := false) (Ty.bl b) etp (by decide) ?_
      walk_at "g"
      refine w_seq ?_
      walk_at "g"
      refine w_seq ?_
      walk_at "g"
      rw [decide_eq_true rfl]
      exact q _ k1
    | int i =>
      refine w_seq ?_
      walk_at "x"
      refine w_new fun tp H1 htp etp k1 => ?_
      walk_at "g"
      refine w_isTL (b := false) (Ty.int i) etp (by decide) ?_
      walk_at "g"
      refine w_seq ?_
      walk_at "g"
      refine w_seq ?_
      walk_at "g"
      refine w_seq ?_
      walk_at "g"
      refine ⟨i, rfl, ?_⟩
      walk_at "g"
      rw [decide_eq_true rfl]
      exact q _ k1
    | str z =>
      refine w_seq ?_
      walk_at "x"
      refine w_new fun tp H1 htp etp k1 => ?_
      walk_at "g"
      refine w_isTL (b := false) (Ty.str z) etp (by decide) ?_
      walk_at "g"
      refine w_seq ?_
      walk_at "g"
      refine w_seq ?_
      walk_at "g"
      refine w_seq ?_
      walk_at "g"
      refine w_seq ?_
      walk_at "g"
      rw [decide_eq_true rfl]
      exact q _ k1
    | byt _ => exact hx.elim
    | flt _ => exact hx.elim
    | ref _ => exact hx.elim
    | ty _ => exact hx.elim
theorem ok_same {f fI : Addr} {fd fdI : FuncData} (T : Txt K mg) (D_law_same : Df K mg "_law_same" s_law_same ["_law_found", "_law_due"] f fd) (D_law_int : Df K mg "_law_int" s_law_int ["_law_thing"] fI fdI) : ∀ n : Nat, FnOk P w K mg base CX0 (n + 2) f fd ["_law_found", "_law_due"] (spSame n)
  | 0 => ok_same0 T D_law_same D_law_int
  | n + 1 => by
    have G_law_int : FnOk P w K mg base CX0 1 fI fdI ["_law_thing"] spIntI := ok_int T D_law_int.fn
    have G_law_same : FnOk P w K mg base CX0 (n + 2) f fd ["_law_found", "_law_due"] (spSame n) := ok_same T D_law_same D_law_int n
    refine D_law_same.fn.ok sc_law_same (fun vs H Q E h => ?_) (fun cdv A outer s H vs Q E hr h => ?_)
    · obtain ⟨x, y, rfl, _⟩ := h
      rfl
    · obtain ⟨x, y, rfl, hd, q⟩ := h
      have hmono : 1 ≤ n + 1 + 1 := by omega
      refine ⟨_,
      (pss_cons
        (ps_if (pt_val (pe_callB (r := rIsiT K) call_isiT (by rfl) T.n_isinstance (by decide +kernel) (pa_cons (pv 1) (pa_cons (pe_tup (pa_cons (pe_bltn (v := .ty "tuple") (u := .type "tuple") (by rfl) T.n_tuple (by decide +kernel) rfl) (pa_cons (pe_bltn (v := .ty "list") (u := .type "list") (by rfl) T.n_list (by decide +kernel) rfl) pa_nil))) pa_nil))))
          (pss_cons
            (ps_if (PW.pt (pw_or (pt_cmpR op_ne (pe_callB (r := rIsi K) call_isi (by rfl) T.n_isinstance (by decide +kernel) (pa_cons (pv 1) (pa_cons (pe_bltn (v := .ty "tuple") (u := .type "tuple") (by rfl) T.n_tuple (by decide +kernel) rfl) pa_nil))) (pe_callB (r := rIsi K) call_isi (by rfl) T.n_isinstance (by decide +kernel) (pa_cons (pv 0) (pa_cons (pe_bltn (v := .ty "tuple") (u := .type "tuple") (by rfl) T.n_tuple (by decide +kernel) rfl) pa_nil))) (nomark _)) (pw_or1 (pt_cmpR op_ne (pe_callB (r := rIsi K) call_isi (by rfl) T.n_isinstance (by decide +kernel) (pa_cons (pv 1) (pa_cons (pe_bltn (v := .ty "list") (u := .type "list") (by rfl) T.n_list (by decide +kernel) rfl) pa_nil))) (pe_callB (r := rIsi K) call_isi (by rfl) T.n_isinstance (by decide +kernel) (pa_cons (pv 0) (pa_cons (pe_bltn (v := .ty "list") (u := .type "list") (by rfl) T.n_list (by decide +kernel) rfl) pa_nil))) (nomark _)))))
              (pss_one
                (ps_ret pe_bl))
              pss_nil)
          (pss_cons
            (ps_if (pt_cmpR op_ne (pe_callB (r := rLen K) c_len (by rfl) T.n_len (by decide +kernel) (pa_cons (pv 0) pa_nil)) (pe_callB (r := rLen K) c_len (by rfl) T.n_len (by decide +kernel) (pa_cons (pv 1) pa_nil)) (nomark _))
              (pss_one
                (ps_ret pe_bl))
              pss_nil)
          (pss_cons
            (ps_for PassesOwn.never rfl (pi_range1 (by rfl) T.n_range (pa_cons (pe_callB (r := rLen K) c_len (by rfl) T.n_len (by decide +kernel) (pa_cons (pv 1) pa_nil)) pa_nil)) (pg_name (i := 2) sc_law_same.nd rfl (.inl rfl))
              (pss_one
                (ps_if (pt_not (pt_val (pe_call G_law_same (hr.mono (by omega)) (by rfl) D_law_same.g D_law_same.fn.kp D_law_same.b .nil pass0 (pa_cons (pe_ix (r := rIx K) ix_seq (pv 0) (pv 2) (fun _ _ => rfl)) (pa_cons (pe_ix (r := rIx K) ix_seq (pv 1) (pv 2) (fun _ _ => rfl)) pa_nil)))))
                  (pss_one
                    (ps_ret pe_bl))
                  pss_nil)))
          (pss_one
            (ps_ret pe_bl)))))
          pss_nil)
      (pss_cons
        (ps_if (pt_val (pe_callB (r := rIsi K) call_isi (by rfl) T.n_isinstance (by decide +kernel) (pa_cons (pv 1) (pa_cons (pe_bltn (v := .ty "dict") (u := .type "dict") (by rfl) T.n_dict (by decide +kernel) rfl) pa_nil))))
          (pss_one
            (ps_ret (pe_and (pe_callB (r := rIsi K) call_isi (by rfl) T.n_isinstance (by decide +kernel) (pa_cons (pv 0) (pa_cons (pe_bltn (v := .ty "dict") (u := .type "dict") (by rfl) T.n_dict (by decide +kernel) rfl) pa_nil))) (pe_one (pe_cmpR op_eq (pv 0) (pv 1) (nomark _))))))
          pss_nil)
      (pss_cons
        (ps_if (pt_val (pe_callB (r := rIsi K) call_isi (by rfl) T.n_isinstance (by decide +kernel) (pa_cons (pv 1) (pa_cons (pe_bltn (v := .ty "bool") (u := .type "bool") (by rfl) T.n_bool (by decide +kernel) rfl) pa_nil))))
          (pss_one
            (ps_ret (pe_and (pe_callB (r := rIsi K) call_isi (by rfl) T.n_isinstance (by decide +kernel) (pa_cons (pv 0) (pa_cons (pe_bltn (v := .ty "bool") (u := .type "bool") (by rfl) T.n_bool (by decide +kernel) rfl) pa_nil))) (pe_one (pe_cmpR op_eq (pv 0) (pv 1) (nomark _))))))
          pss_nil)
      (pss_cons
        (ps_if (pt_val (pe_callB (r := rIsi K) call_isi (by rfl) T.n_isinstance (by decide +kernel) (pa_cons (pv 1) (pa_cons (pe_bltn (v := .ty "int") (u := .type "int") (by rfl) T.n_int (by decide +kernel) rfl) pa_nil))))
          (pss_one
            (ps_ret (pe_and (pe_call G_law_int (hr.mono (by omega)) (by rfl) D_law_int.g D_law_int.fn.kp D_law_int.b .nil pass0 (pa_cons (pv 0) pa_nil)) (pe_one (pe_cmpR op_eq (pv 0) (pv 1) (nomark _))))))
          pss_nil)
      (pss_cons
        (ps_if (pt_val (pe_callB (r := rIsi K) call_isi (by rfl) T.n_isinstance (by decide +kernel) (pa_cons (pv 1) (pa_cons (pe_bltn (v := .ty "str") (u := .type "str") (by rfl) T.n_str (by decide +kernel) rfl) pa_nil))))
          (pss_one
            (ps_ret (pe_and (pe_callB (r := rIsi K) call_isi (by rfl) T.n_isinstance (by decide +kernel) (pa_cons (pv 0) (pa_cons (pe_bltn (v := .ty "str") (u := .type "str") (by rfl) T.n_str (by decide +kernel) rfl) pa_nil))) (pe_one (pe_cmpR op_eq (pv 0) (pv 1) (nomark _))))))
          pss_nil)
      (pss_one
        (ps_ret (pe_and (pe_cmpR o_isN (pv 1) pe_non (nomark _)) (pe_one (pe_cmpR o_isN (pv 0) pe_non (nomark _)))))))))))
        , ?_⟩
      rw [show L2.start N_law_same [x, y] = [some x, some y, none] from rfl]
      rcases hd with ⟨rfl, hx⟩ | ⟨p, r, xs, ys, rfl, rfl, hk, hlen, hle, hd⟩
      · cases x with
        | non =>
          refine w_seq ?_
          walk_at "x"
          refine w_new fun tp H1 htp etp k1 => ?_
          walk_at "g"
          refine w_isTL (b := false) Ty.non etp (by decide) ?_
          walk_at "g"
          refine w_seq ?_
          walk_at "g"
          refine w_seq ?_
          walk_at "g"
          refine w_seq ?_
          walk_at "g"
          refine w_seq ?_
          walk_at "g"
          refine w_yes rfl ?_
          walk_at "g"
          exact q _ k1
        | bl b =>
          refine w_seq ?_
          walk_at "x"
          refine w_new fun tp H1 htp etp k1 => ?_
          walk_at "g"
          refine w_isTL (b := false) (Ty.bl b) etp (by decide) ?_
          walk_at "g"
          refine w_seq ?_
          walk_at "g"
          refine w_seq ?_
          walk_at "g"
          rw [decide_eq_true rfl]
          exact q _ k1
        | int i =>
          refine w_seq ?_
          walk_at "x"
          refine w_new fun tp H1 htp etp k1 => ?_
          walk_at "g"
          refine w_isTL (b := false) (Ty.int i) etp (by decide) ?_
          walk_at "g"
          refine w_seq ?_
          walk_at "g"
          refine w_seq ?_
          walk_at "g"
          refine w_seq ?_
          walk_at "g"
          refine ⟨i, rfl, ?_⟩
          walk_at "g"
          rw [decide_eq_true rfl]
          exact q _ k1
        | str z =>
          refine w_seq ?_
          walk_at "x"
          refine w_new fun tp H1 htp etp k1 => ?_
          walk_at "g"
          refine w_isTL (b := false) (Ty.str z) etp (by decide) ?_
          walk_at "g"
          refine w_seq ?_
          walk_at "g"
          refine w_seq ?_
          walk_at "g"
          refine w_seq ?_
          walk_at "g"
          refine w_seq ?_
          walk_at "g"
          rw [decide_eq_true rfl]
          exact q _ k1
        | byt _ => exact hx.elim
        | flt _ => exact hx.elim
        | ref _ => exact hx.elim
        | ty _ => exact hx.elim
      · have turn : ∀ (i : Nat), i < ys.length → ∃ a b, atI xs (0 + (i : Int)) = some a ∧ atI ys (0 + (i : Int)) = some b ∧ SD n H a b := fun i hi => by
          have h1 : xs[i]? = some xs[i] := List.getElem?_eq_getElem (by omega)
          have h2 : ys[i]? = some ys[i] := List.getElem?_eq_getElem hi
          rw [show 0 + (i : Int) = (i : Int) by omega]
          exact ⟨_, _, atI_nat h1, atI_nat h2, hd i _ _ h1 h2⟩
        rcases hk with ⟨h1, h2⟩ | ⟨h1, h2⟩
        · refine w_seq ?_
          walk_at "x"
          refine w_new fun tp H1 htp etp k1 => ?_
          have h1' := k1 _ _ h1
          have h2' := k1 _ _ h2
          walk_at "g"
          refine w_isTL (b := true) (Ty.tup h2') etp (by decide) ?_
          walk_at "g"
          refine w_seq ?_
          walk_at "g"
          walk_at "dg"
          walk_at "dg"
          refine w_seq ?_
          walk_at "g"
          walk_at "dg"
          refine lp_range (fun i σ H' => Same H1 H' ∧ ∃ y2, σ = [some (.ref p), some (.ref r), y2]) ⟨fun _ _ z => z, _, rfl⟩ ?_ ?_
          · rintro i σ H' hi ⟨k2, y2, rfl⟩
            obtain ⟨a, b, ha, hb, hab⟩ := turn i (by omega)
            have h1'' := k2 _ _ h1'
            have h2'' := k2 _ _ h2'
            walk_at "g"
            refine ⟨a, b, rfl, (hab.on k1).on k2, fun H3 k3 => ?_⟩
            walk_at "g"
            exact ⟨Same.trans k2 k3, _, rfl⟩
          · rintro σ H' ⟨k2, y2, rfl⟩
            walk_at "g"
            exact q _ (Same.trans k1 k2)
        · refine w_seq ?_
          walk_at "x"
          refine w_new fun tp H1 htp etp k1 => ?_
          have h1' := k1 _ _ h1
          have h2' := k1 _ _ h2
          walk_at "g"
          refine w_isTL (b := true) (Ty.lst h2') etp (by decide) ?_
          walk_at "g"
          refine w_seq ?_
          walk_at "g"
          walk_at "dg"
          walk_at "dg"
          refine w_seq ?_
          walk_at "g"
          walk_at "dg"
          refine lp_range (fun i σ H' => Same H1 H' ∧ ∃ y2, σ = [some (.ref p), some (.ref r), y2]) ⟨fun _ _ z => z, _, rfl⟩ ?_ ?_
          · rintro i σ H' hi ⟨k2, y2, rfl⟩
            obtain ⟨a, b, ha, hb, hab⟩ := turn i (by omega)
            have h1'' := k2 _ _ h1'
            have h2'' := k2 _ _ h2'
            walk_at "g"
            refine ⟨a, b, rfl, (hab.on k1).on k2, fun H3 k3 => ?_⟩
            walk_at "g"
            exact ⟨Same.trans k2 k3, _, rfl⟩
          · rintro σ H' ⟨k2, y2, rfl⟩
            walk_at "g"
            exact q _ (Same.trans k1 k2)
end
/-! ### pieces and scripts -/
theorem map_at {α : Type} {f : α → V} {xs : List α} {i : Nat} {v : V} (h : (xs.map f)[i]? = some v) : ∃ x, xs[i]? = some x ∧ v = f x := by
  rw [List.getElem?_map] at h
  obtain ⟨y, h1, h2⟩ := Option.map_eq_some_iff.mp h
  exact ⟨y, h1, h2.symm⟩
theorem le_sum : ∀ {l : List Nat} {x : Nat}, x ∈ l → x ≤ l.sum
  | [], x, h => by cases h
  | y :: l, x, h => by
    rw [List.sum_cons]
    rcases List.mem_cons.mp h with rfl | h
    · omega
    · have := le_sum h
      omega
abbrev SG : Str := Str.ofString " !\"#$&'()*+,-./0123456789:;<=>?@ABCDEFGHIJKLMNOPQRSTUVWXYZ[\\]^_`abcdefghijklmnopqrstuvwxyz{|}~"
def LineOk (z : Str) : Prop := z.length ≤ 40 ∧ ∀ c ∈ z.cps.toList, c ∈ SG.cps.toList
inductive Pc where
  | take (b m : Nat)
  | put (ls : List Str)
def Pc.size : Pc → Nat
  | .take _ m => m
  | .put ls => ls.length
def Pc.make (base : List Str) : Pc → List Str
  | .take b m => (base.drop b).take m
  | .put ls => ls
def Pc.fits (n : Nat) : Pc → Prop
  | .take b m => b + m ≤ n
  | .put _ => True
def Pc.ok : Pc → Prop
  | .take _ m => 1 ≤ m
  | .put ls => ls ≠ [] ∧ ∀ z ∈ ls, LineOk z
def Pc.cost (t p : Int) : Pc → Int
  | .take _ _ => t
  | .put ls => p * (ls.length : Int)
theorem Pc.ok.pos {p : Pc} (h : p.ok) : 1 ≤ p.size := by
  cases p with
  | take b m => exact h
  | put ls =>
    have := List.length_pos_iff.mpr h.1
    exact this
def sizes (ps : List Pc) : Nat := (ps.map Pc.size).sum
def makes (base : List Str) (ps : List Pc) : List Str := (ps.map (Pc.make base)).flatten
def costs (t p : Int) (ps : List Pc) : Int := (ps.map (Pc.cost t p)).sum
theorem sizes_snoc (ps : List Pc) (p : Pc) : sizes (ps ++ [p]) = sizes ps + p.size := by unfold sizes; simp
theorem makes_snoc (base : List Str) (ps : List Pc) (p : Pc) : makes base (ps ++ [p]) = makes base ps ++ p.make base := by unfold makes; simp
theorem costs_snoc (t q : Int) (ps : List Pc) (p : Pc) : costs t q (ps ++ [p]) = costs t q ps + p.cost t q := by unfold costs; simp
theorem sizes_take (ps : List Pc) (i : Nat) : sizes (ps.take i) ≤ sizes ps := by
  have e : sizes ps = sizes (ps.take i) + sizes (ps.drop i) := by
    have : sizes (ps.take i ++ ps.drop i) = sizes (ps.take i) + sizes (ps.drop i) := by unfold sizes; rw [List.map_append, List.sum_append]
    rw [List.take_append_drop] at this
    exact this
  omega
theorem take_at {α : Type} {l : List α} {i : Nat} {x : α} (h : l[i]? = some x) : l.take (i + 1) = l.take i ++ [x] := by rw [List.take_add_one, h]; rfl
theorem sizes_ge : ∀ {ps : List Pc}, (∀ p ∈ ps, p.ok) → ps.length ≤ sizes ps
  | [], _ => by simp [sizes]
  | p :: ps, h => by
    have h1 := (h p (by simp)).pos
    have h2 := sizes_ge (ps := ps) fun q hq => h q (by simp [hq])
    unfold sizes at *
    simp only [List.map_cons, List.sum_cons, List.length_cons]
    omega
theorem make_len {base : List Str} {p : Pc} (h : p.fits base.length) : (p.make base).length = p.size := by
  cases p with
  | take b m =>
    show ((base.drop b).take m).length = m
    have h' : b + m ≤ base.length := h
    rw [List.length_take, List.length_drop]
    omega
  | put ls => rfl
theorem makes_len {base : List Str} : ∀ {ps : List Pc}, (∀ p ∈ ps, p.fits base.length) → (makes base ps).length = sizes ps
  | [], _ => rfl
  | p :: ps, h => by
    have h1 := make_len (h p (by simp))
    have h2 := makes_len (ps := ps) fun q hq => h q (by simp [hq])
    unfold makes sizes at *
    simp only [List.map_cons, List.flatten_cons, List.length_append, List.sum_cons]
    omega
def RwAt (H : Hp) (a : Addr) (ls : List Str) : Prop := H a = some (.tup (ls.map V.str))
def PcAt (H : Hp) (a : Addr) : Pc → Prop
  | .take b m => H a = some (.tup [.str "take", .int (b : Int), .int (m : Int)])
  | .put ls => ∃ r, H a = some (.tup [.str "put", .ref r]) ∧ RwAt H r ls
theorem PcAt.kt {H H' : Hp} {a : Addr} {p : Pc} (h : PcAt H a p) (k : KT H H') : PcAt H' a p := by
  cases p with
  | take b m => exact k _ _ h
  | put ls =>
    obtain ⟨r, h1, h2⟩ := h
    exact ⟨r, k _ _ h1, k _ _ h2⟩
structure ScAt (H : Hp) (s : Addr) (ps : List (Addr × Pc)) : Prop where
  at' : H s = some (.tup (ps.map fun q => .ref q.1))
  pc : ∀ q ∈ ps, PcAt H q.1 q.2
theorem ScAt.kt {H H' : Hp} {s : Addr} {ps : List (Addr × Pc)} (h : ScAt H s ps) (k : KT H H') : ScAt H' s ps := ⟨k _ _ h.at', fun q hq => (h.pc q hq).kt k⟩
structure ScOk (ps : List Pc) : Prop where
  ok : ∀ p ∈ ps, p.ok
  few : sizes ps ≤ 40
/-- data whose texts are not too long -/
inductive DatT (B : Nat) (H : Hp) : V → Prop where
  | leaf {x : V} {a : String} (t : Ty H x a) (h : a ≠ "tuple") (z : ∀ z, x = .str z → z.length ≤ B) : DatT B H x
  | tup {p : Addr} {xs : List V} (e : H p = some (.tup xs)) (l : xs.length ≤ B) (h : ∀ y ∈ xs, DatT B H y) : DatT B H (.ref p)
theorem DatT.ty {B : Nat} {H : Hp} {x : V} (h : DatT B H x) : ∃ a, Ty H x a := by
  cases h with
  | leaf t _ _ => exact ⟨_, t⟩
  | tup e _ _ => exact ⟨_, .tup e⟩
theorem DatT.len {B : Nat} {H : Hp} {z : Str} (h : DatT B H (.str z)) : z.length ≤ B := by
  cases h with
  | leaf _ _ hz => exact hz z rfl
theorem DatT.kd {B : Nat} {H H' : Hp} {x : V} (h : DatT B H x) (k : KD H H') : DatT B H' x := by
  induction h with
  | leaf t h z => exact .leaf (t.kd k) h z
  | tup e l _ ih => exact .tup (k.t _ _ e) l fun y hy => ih y hy
theorem DatT.cases {B : Nat} {H : Hp} {x : V} (h : DatT B H x) : (∃ a, Ty H x a ∧ a ≠ "tuple") ∨ ∃ (p : Addr) (xs : List V), x = .ref p ∧ H p = some (.tup xs) ∧ xs.length ≤ B ∧ ∀ y ∈ xs, DatT B H y := by
  cases h with
  | leaf t h _ => exact .inl ⟨_, t, h⟩
  | tup e l h => exact .inr ⟨_, _, rfl, e, l, h⟩
theorem DatT.back {B : Nat} {H H1 : Hp} {a : Addr} {xs : List V} (d : DatT B H (.ref a)) (k : Same H H1) (e : H1 a = some (.tup xs)) : H a = some (.tup xs) := by
  rcases d.cases with ⟨s, t, hne⟩ | ⟨p, ys, e1, e2, _⟩
  · cases t with
    | lst h => have z := k _ _ h; rw [e] at z; cases z
    | tup h => exact absurd rfl hne
    | dK h => have z := k _ _ h; rw [e] at z; cases z
  · cases e1
    have z := k _ _ e2
    rw [e] at z
    cases z
    exact e2
theorem DatT.elem {B : Nat} {H : Hp} {a : Addr} {xs : List V} (d : DatT B H (.ref a)) (e : H a = some (.tup xs)) : xs.length ≤ B ∧ ∀ y ∈ xs, DatT B H y := by
  rcases d.cases with ⟨s, t, hne⟩ | ⟨p, ys, e1, e2, h⟩
  · exact absurd (t.ofTup e) hne
  · cases e1
    rw [e] at e2
    cases e2
    exact h
theorem DatT.strs {B : Nat} {H : Hp} {a : Addr} {ls : List Str} (h : RwAt H a ls) (hl : ls.length ≤ B) (hz : ∀ z ∈ ls, z.length ≤ B) : DatT B H (.ref a) := .tup h (by rw [List.length_map]; exact hl) fun y hy => by
  obtain ⟨z, hz', rfl⟩ := List.mem_map.mp hy
  exact .leaf (.str z) (by decide) fun z' e => by cases e; exact hz z hz'
theorem PcAt.dat {B : Nat} {H : Hp} {a : Addr} {p : Pc} (h : PcAt H a p) (hB : 4 ≤ B) (hs : p.size ≤ B) (hz : ∀ ls, p = .put ls → ∀ z ∈ ls, z.length ≤ B) : DatT B H (.ref a) := by
  cases p with
  | take b m =>
    refine .tup h (by simp only [List.length_cons, List.length_nil]; omega) fun y hy => ?_
    have hy' : y = .str "take" ∨ y = .int (b : Int) ∨ y = .int (m : Int) := by simpa using hy
    rcases hy' with rfl | rfl | rfl
    · exact .leaf (.str _) (by decide) fun z e => by cases e; exact Nat.le_trans (show (Str.ofString "take").length ≤ 4 by decide) hB
    · exact .leaf (.int _) (by decide) fun z e => by cases e
    · exact .leaf (.int _) (by decide) fun z e => by cases e
  | put ls =>
    obtain ⟨r, h1, h2⟩ := h
    refine .tup h1 (by simp only [List.length_cons, List.length_nil]; omega) fun y hy => ?_
    have hy' : y = .str "put" ∨ y = .ref r := by simpa using hy
    rcases hy' with rfl | rfl
    · exact .leaf (.str _) (by decide) fun z e => by cases e; exact Nat.le_trans (show (Str.ofString "put").length ≤ 4 by decide) hB
    · exact DatT.strs h2 hs (hz ls rfl)
theorem ScAt.dat {B : Nat} {H : Hp} {s : Addr} {ps : List (Addr × Pc)} (h : ScAt H s ps) (k : ScOk (ps.map (·.2))) (hB : 40 ≤ B) : DatT B H (.ref s) := by
  have hl := sizes_ge k.ok
  have hf := k.few
  rw [List.length_map] at hl
  refine .tup h.at' (by rw [List.length_map]; omega) fun y hy => ?_
  obtain ⟨q, hq, rfl⟩ := List.mem_map.mp hy
  have hqm : q.2 ∈ ps.map (·.2) := List.mem_map_of_mem hq
  have hsz : q.2.size ≤ sizes (ps.map (·.2)) := by
    unfold sizes
    exact le_sum (List.mem_map_of_mem hqm)
  refine (h.pc q hq).dat (by omega) (by omega) fun ls e z hz => ?_
  have := k.ok _ hqm
  rw [e] at this
  have := (this.2 z hz).1
  omega
/-- a piece, as a thing of any kind -/
def PcV (H : Hp) (x : V) (p : Pc) : Prop := ∃ a, x = .ref a ∧ PcAt H a p ∧ p.ok
def ScV (H : Hp) (x : V) (ps : List (Addr × Pc)) : Prop := ∃ s, x = .ref s ∧ ScAt H s ps ∧ ScOk (ps.map (·.2))
theorem PcAt.det {H : Hp} {a : Addr} {p q : Pc} (h : PcAt H a p) (h' : PcAt H a q) : p = q := by
  cases p with
  | take b m =>
    cases q with
    | take b' m' =>
      have e := Option.some.inj (h.symm.trans h')
      injection e with e
      have e1 : (b : Int) = b' := by simpa using (List.cons.inj (List.cons.inj e).2).1
      have e2 : (m : Int) = m' := by simpa using (List.cons.inj (List.cons.inj (List.cons.inj e).2).2).1
      rw [show b = b' by omega, show m = m' by omega]
    | put ls =>
      obtain ⟨r, h1, _⟩ := h'
      have e := Option.some.inj (h.symm.trans h1)
      injection e with e
      have := congrArg List.length e
      simp at this
  | put ls =>
    obtain ⟨r, h1, h2⟩ := h
    cases q with
    | take b' m' =>
      have e := Option.some.inj (h1.symm.trans h')
      injection e with e
      have := congrArg List.length e
      simp at this
    | put ls' =>
      obtain ⟨r', h1', h2'⟩ := h'
      have e := Option.some.inj (h1.symm.trans h1')
      injection e with e
      have e1 : r = r' := by simpa using (List.cons.inj (List.cons.inj e).2).1
      subst e1
      have e2 := Option.some.inj (h2.symm.trans h2')
      injection e2 with e2
      have inj : ∀ {xs ys : List Str}, xs.map V.str = ys.map V.str → xs = ys := by
        intro xs
        induction xs with
        | nil => intro ys h; cases ys with | nil => rfl | cons _ _ => simp at h
        | cons x xs ih =>
          intro ys h
          cases ys with
          | nil => simp at h
          | cons y ys =>
            rw [List.map_cons, List.map_cons, List.cons.injEq] at h
            rw [V.str.inj h.1, ih h.2]
      rw [inj e2]
def spIsInt : Sp := fun vs H Q _ => ∃ (x : V) (a : String), vs = [x, .int 0] ∧ Ty H x a ∧ (∀ n : Nat, x = .int (n : Int) → Q (.bl true) H) ∧ ((∀ n : Nat, x ≠ .int (n : Int)) → Q (.bl false) H)
def spIsText : Sp := fun vs H Q _ => ∃ (x : V) (B : Nat), vs = [x, .int 40] ∧ DatT B H x ∧ B ≤ 1000000 ∧ (∀ z, x = .str z → LineOk z → ∀ H', Same H H' → Q (.bl true) H') ∧ ((∀ z, x = .str z → ¬ LineOk z) → ∀ H', Same H H' → Q (.bl false) H')
def spMadeBy : Sp := fun vs H Q _ => ∃ (x : V) (B : Nat), vs = [x] ∧ DatT B H x ∧ B ≤ 1000000 ∧ (∀ p, PcV H x p → ∀ H', Same H H' → Q (.int (p.size : Int)) H') ∧ ((∀ p, ¬ PcV H x p) → ∀ H', Same H H' → Q (.int 0) H')
def spIsScript : Sp := fun vs H Q _ => ∃ (x : V) (B : Nat), vs = [x] ∧ DatT B H x ∧ B ≤ 1000000 ∧ (∀ ps, ScV H x ps → ∀ H', Same H H' → Q (.bl true) H') ∧ ((∀ ps, ¬ ScV H x ps) → ∀ H', Same H H' → Q (.bl false) H')
theorem ln_size {B : Nat} (h : B ≤ 1000000) {n : Nat} (h2 : n ≤ B) : n ≤ sizeLine := Nat.le_trans (Nat.le_trans h2 h) (by decide)
theorem Ty.kStr {H : Hp} {x : V} {a : String} (t : Ty H x a) : kitB a "str" = some (decide (a = "str")) := by
  cases t with
  | non => exact kb_NoneType_str
  | bl b => exact kb_bool_str
  | int i => exact kb_int_str
  | str z => exact kb_str_str
  | lst e => exact kb_list_str
  | tup e => exact kb_tuple_str
  | dK e => exact kb_dict_str
theorem w_isStr {K : PySem.W.Frag} {H : Hp} {Q : VK} {x : V} {a : String} (t : Ty H x a) (h : Q (.bl (decide (a = "str"))) H) : rIsi K [x, .ty "str"] H Q := w_isi t.tx t.kStr h
theorem Ty.isStr {H : Hp} {x : V} {a : String} (t : Ty H x a) (e : a = "str") : ∃ z, x = .str z := by
  cases t with
  | str z => exact ⟨z, rfl⟩
  | non => exact absurd e (by decide)
  | bl _ => exact absurd e (by decide)
  | tup _ => exact absurd e (by decide)
  | int _ => exact absurd e (by decide)
  | lst _ => exact absurd e (by decide)
  | dK _ => exact absurd e (by decide)
theorem Ty.ofStr {H : Hp} {z : Str} {a : String} (t : Ty H (.str z) a) : a = "str" := by
  cases t with
  | str i => rfl
theorem Ty.ofBl {H : Hp} {z : Bool} {a : String} (t : Ty H (.bl z) a) : a = "bool" := by
  cases t with
  | bl i => rfl
section
variable {P : Program} {w : World} {K : PySem.W.Frag} {mg : Str → Option Value} {base : Heap}
theorem ok_isint {f : Addr} {fd : FuncData} (T : Txt K mg) (D : DfD K mg "is_int" s_is_int ["thing", "least"] [.int 0] f fd) : FnOk P w K mg base CX0 1 f fd ["thing", "least"] spIsInt := by
  refine okD D.fn sc_is_int (fun vs H Q E h => ?_) (fun cdv A outer s H vs Q E hr h => ?_)
  · obtain ⟨x, a, rfl, _⟩ := h
    rfl
  · obtain ⟨x, a, rfl, t, q1, q2⟩ := h
    refine ⟨_,
      (pss_one
        (ps_ret (pe_and (pe_callB (r := rIsi K) call_isi (by rfl) T.n_isinstance (by decide +kernel) (pa_cons (pv 0) (pa_cons (pe_bltn (v := .ty "int") (u := .type "int") (by rfl) T.n_int (by decide +kernel) rfl) pa_nil))) (pe_and (pe_not (pe_callB (r := rIsi K) call_isi (by rfl) T.n_isinstance (by decide +kernel) (pa_cons (pv 0) (pa_cons (pe_bltn (v := .ty "bool") (u := .type "bool") (by rfl) T.n_bool (by decide +kernel) rfl) pa_nil)))) (pe_one (pe_cmpR op_ge (pv 0) (pv 1) (nomark _)))))))
      , ?_⟩
    rw [show L2.start N_is_int [x, V.int 0] = [some x, some (.int 0)] from rfl]
    walk_at "x"
    refine w_isInt t ?_
    walk_at "g"
    refine w_itB (fun hb => ?_) (fun hb => ?_)
    · walk_at "g"
      refine w_isBool t ?_
      walk_at "g"
      refine w_itN (fun hn => ?_) (fun hn => ?_)
      · rw [decide_eq_false hn, Bool.or_false, decide_eq_true_iff] at hb
        obtain ⟨i, rfl⟩ := t.isInt hb
        walk_at "g"
        by_cases h : i ≥ 0
        · rw [decide_eq_true h]
          exact q1 i.toNat (by rw [Int.toNat_of_nonneg h])
        · rw [decide_eq_false h]
          exact q2 fun n e => by cases e; exact h (by omega)
      · exact q2 fun n e => by
          subst e
          rw [t.ofInt] at hn
          exact absurd hn (by decide)
    · exact q2 fun n e => by
        subst e
        rw [t.ofInt] at hb
        exact absurd hb (by decide)
theorem ok_istext {f : Addr} {fd : FuncData} (T : Txt K mg) (D : DfD K mg "is_text" s_is_text ["thing", "most"] [.int 40] f fd) : FnOk P w K mg base CX0 1 f fd ["thing", "most"] spIsText := by
  obtain ⟨tk_SIGNS, g_SIGNS⟩ := T.g_SIGNS
  refine okD D.fn sc_is_text (fun vs H Q E h => ?_) (fun cdv A outer s H vs Q E hr h => ?_)
  · obtain ⟨x, B, rfl, _⟩ := h
    rfl
  · obtain ⟨x, B, rfl, hd, hB, q1, q2⟩ := h
    obtain ⟨a, t⟩ := hd.ty
    refine ⟨_,
      (pss_one
        (ps_ret (pe_and (pe_callB (r := rIsi K) call_isi (by rfl) T.n_isinstance (by decide +kernel) (pa_cons (pv 0) (pa_cons (pe_bltn (v := .ty "str") (u := .type "str") (by rfl) T.n_str (by decide +kernel) rfl) pa_nil))) (pe_and (pe_cmpR op_le (pe_callB c_lenS (by rfl) T.n_len (by decide +kernel) (pa_cons (pv 0) pa_nil)) (pv 1) (nomark _)) (pe_one (pe_callB (r := rAll K) (cr_all rfl) (by rfl) T.n_all (by decide +kernel) (pa_cons (pe_lc (own := [("sign", 2)]) (g := (gName 2)) rfl sc_is_text.nd (pi_str (pv 0)) (blkOk_by (own := [("sign", 2)]) (N := N_is_text) (sc := defScope s_is_text) (by decide +kernel)) (fun _ _ _ _ _ => (pg_name (i := 2) sc_is_text.nd rfl (.inl rfl))) (fun _ _ _ _ _ => pts_nil) (fun _ _ _ _ _ => (pe_cmpR o_inS (pv 2) (pe_glob (v := .str " !\"#$&'()*+,-./0123456789:;<=>?@ABCDEFGHIJKLMNOPQRSTUVWXYZ[\\]^_`abcdefghijklmnopqrstuvwxyz{|}~") rfl g_SIGNS ⟨_, rfl⟩) rfl))) pa_nil)))))))
      , ?_⟩
    rw [show L2.start N_is_text [x, V.int 40] = [some x, some (.int 40), none] from rfl]
    walk_at "x"
    refine w_isStr t ?_
    walk_at "g"
    refine w_ite (fun hs => ?_) (fun hs => ?_)
    rotate_left
    · exact q2 (fun z e => by subst e; exact absurd t.ofStr hs) H (fun _ _ z => z)
    obtain ⟨z, rfl⟩ := t.isStr hs
    have hzl := hd.len
    walk_at "g"
    refine w_lenS (ln_size hB hzl) ?_
    walk_at "g"
    refine w_ite (fun h40 => ?_) (fun h40 => ?_)
    rotate_left
    · exact q2 (fun z' e hl => by cases e; exact h40 (by have := hl.1; omega)) H (fun _ _ z => z)
    walk_at "g"
    refine lcp_map (walk_str z) [] ((z.cps.toList.map fun c => decide (c ∈ SG.cps.toList)).map V.bl) (by simp) (by show z.length ≤ 1000000; omega) (fun _ _ => trivial) ?_ (by simp) ?_
    · rintro i x H1 H2 R hi k1 ⟨rfl, c, hc, rfl⟩ hR
      refine w_name ⟨rfl, ?_⟩
      walk_at "g"
      refine hR _ _ ?_ Kp.refl
      rw [List.getElem?_map, List.getElem?_map, Array.getElem?_toList, hc]
      rfl
    · intro L H1 hL k1 eL
      walk_at "g"
      have hk := k1.same
      by_cases h : ∀ c ∈ z.cps.toList, c ∈ SG.cps.toList
      · have e : (z.cps.toList.map fun c => decide (c ∈ SG.cps.toList)).all id = true := by
          rw [List.all_eq_true]
          intro b hb
          obtain ⟨c, hc, rfl⟩ := List.mem_map.mp hb
          exact decide_eq_true (h c hc)
        rw [e]
        exact q1 z rfl ⟨by omega, h⟩ _ hk
      · have e : (z.cps.toList.map fun c => decide (c ∈ SG.cps.toList)).all id = false := by
          rw [Bool.eq_false_iff]
          intro hall
          rw [List.all_eq_true] at hall
          exact h fun c hc => of_decide_eq_true (hall _ (List.mem_map_of_mem (f := fun c => decide (c ∈ SG.cps.toList)) hc))
        rw [e]
        exact q2 (fun z' e' hl => by cases e'; exact h hl.2) _ hk
theorem ok_madeby {f fI fT : Addr} {fd fdI fdT : FuncData} (T : Txt K mg) (F : Fun K "made_by" "made_by" s_made_by f fd) (D_is_int : DfD K mg "is_int" s_is_int ["thing", "least"] [.int 0] fI fdI) (D_is_text : DfD K mg "is_text" s_is_text ["thing", "most"] [.int 40] fT fdT) : FnOk P w K mg base CX0 2 f fd ["thing"] spMadeBy := by
  obtain ⟨ds_is_int, V_is_int, B_is_int⟩ := D_is_int.b
  obtain ⟨ds_is_text, V_is_text, B_is_text⟩ := D_is_text.b
  have G_is_int : FnOk P w K mg base CX0 1 fI fdI ["thing", "least"] spIsInt := ok_isint T D_is_int
  have G_is_text : FnOk P w K mg base CX0 1 fT fdT ["thing", "most"] spIsText := ok_istext T D_is_text
  refine F.ok sc_made_by (fun vs H Q E h => ?_) (fun cdv A outer s H vs Q E hr h => ?_)
  · obtain ⟨x, B, rfl, _⟩ := h
    rfl
  · obtain ⟨x, B, rfl, hd, hB, q1, q2⟩ := h
    refine ⟨_,
      (pss_cons
        (ps_if (PW.pt (pw_or (pt_not (pt_val (pe_callB (r := rIsi K) call_isi (by rfl) T.n_isinstance (by decide +kernel) (pa_cons (pv 0) (pa_cons (pe_bltn (v := .ty "tuple") (u := .type "tuple") (by rfl) T.n_tuple (by decide +kernel) rfl) pa_nil))))) (pw_or (pt_cmpR op_eq (pe_callB (r := rLen K) c_len (by rfl) T.n_len (by decide +kernel) (pa_cons (pv 0) pa_nil)) pe_int (nomark _)) (pw_or1 (pt_not (pt_val (pe_callB (r := rIsi K) call_isi (by rfl) T.n_isinstance (by decide +kernel) (pa_cons (pe_ix (r := rIxT K) ix_tup (pv 0) pe_int (fun _ _ => rfl)) (pa_cons (pe_bltn (v := .ty "str") (u := .type "str") (by rfl) T.n_str (by decide +kernel) rfl) pa_nil)))))))))
          (pss_one
            (ps_ret pe_int))
          pss_nil)
      (pss_cons
        (ps_if (PW.pt (pw_and (pt_cmpR op_eq (pe_ix (r := rIxT K) ix_tup (pv 0) pe_int (fun _ _ => rfl)) pe_str (nomark _)) (pw_and1 (pt_cmpR op_eq (pe_callB (r := rLen K) c_len (by rfl) T.n_len (by decide +kernel) (pa_cons (pv 0) pa_nil)) pe_int (nomark _)))))
          (pss_cons
            (ps_if (PW.pt (pw_and (pt_val (pe_call G_is_int (hr.mono (by omega)) (by rfl) D_is_int.g D_is_int.kp B_is_int V_is_int pass0 (pa_cons (pe_ix (r := rIxT K) ix_tup (pv 0) pe_int (fun _ _ => rfl)) pa_nil))) (pw_and1 (pt_val (pe_call G_is_int (hr.mono (by omega)) (by rfl) D_is_int.g D_is_int.kp B_is_int V_is_int pass0 (pa_cons (pe_ix (r := rIxT K) ix_tup (pv 0) pe_int (fun _ _ => rfl)) pa_nil))))))
              (pss_one
                (ps_ret (pe_ix (r := rIxT K) ix_tup (pv 0) pe_int (fun _ _ => rfl))))
              pss_nil)
          (pss_one
            (ps_ret pe_int)))
          pss_nil)
      (pss_cons
        (ps_if (PW.pt (pw_and (pt_cmpR op_eq (pe_ix (r := rIxT K) ix_tup (pv 0) pe_int (fun _ _ => rfl)) pe_str (nomark _)) (pw_and (pt_cmpR op_eq (pe_callB (r := rLen K) c_len (by rfl) T.n_len (by decide +kernel) (pa_cons (pv 0) pa_nil)) pe_int (nomark _)) (pw_and1 (pt_val (pe_callB (r := rIsi K) call_isi (by rfl) T.n_isinstance (by decide +kernel) (pa_cons (pe_ix (r := rIxT K) ix_tup (pv 0) pe_int (fun _ _ => rfl)) (pa_cons (pe_bltn (v := .ty "tuple") (u := .type "tuple") (by rfl) T.n_tuple (by decide +kernel) rfl) pa_nil))))))))
          (pss_one
            (ps_if (pt_val (pe_callB (r := rAll K) (cr_all rfl) (by rfl) T.n_all (by decide +kernel) (pa_cons (pe_lc (own := [("row", 1)]) (g := (gName 1)) rfl sc_made_by.nd (pi_tup (pe_ix (r := rIxT K) ix_tup (pv 0) pe_int (fun _ _ => rfl))) (blkOk_by (own := [("row", 1)]) (N := N_made_by) (sc := defScope s_made_by) (by decide +kernel)) (fun _ _ _ _ _ => (pg_name (i := 1) sc_made_by.nd rfl (.inl rfl))) (fun _ _ _ _ _ => pts_nil) (fun _ _ _ _ _ => (pe_call G_is_text (hr.mono (by omega)) (by rfl) D_is_text.g D_is_text.kp B_is_text V_is_text pass0 (pa_cons (pv 1) pa_nil)))) pa_nil)))
              (pss_one
                (ps_ret (pe_callB (r := rLen K) c_len (by rfl) T.n_len (by decide +kernel) (pa_cons (pe_ix (r := rIxT K) ix_tup (pv 0) pe_int (fun _ _ => rfl)) pa_nil))))
              pss_nil))
          pss_nil)
      (pss_one
        (ps_ret pe_int)))))
      , ?_⟩
    rw [show L2.start N_made_by [x] = [some x, none] from rfl]
    refine w_seq ?_
    walk_at "x"
    rcases hd.cases with ⟨ay, ty, hne⟩ | ⟨a, xs, rfl, ea, hxB, hxs⟩
    · refine w_isTup ty ?_
      rw [decide_eq_false hne]
      walk_at "g"
      refine q2 ?_ H (fun _ _ z => z)
      rintro p ⟨a, rfl, h, _⟩
      cases p with
      | take b m => exact hne (ty.ofTup h)
      | put ls =>
        obtain ⟨r, h1, _⟩ := h
        exact hne (ty.ofTup h1)
    -- what a piece would be
    have isPc : ∀ {p : Pc}, PcV H (.ref a) p → (∃ b m : Nat, xs = [.str "take", .int (b : Int), .int (m : Int)] ∧ p = .take b m ∧ 1 ≤ m) ∨ ∃ r ls, xs = [.str "put", .ref r] ∧ p = .put ls ∧ RwAt H r ls ∧ ls ≠ [] ∧ ∀ z ∈ ls, LineOk z := by
      rintro p ⟨a', e, h, hok⟩
      cases e
      cases p with
      | take b m =>
        have e := Option.some.inj (ea.symm.trans h)
        injection e with e
        exact .inl ⟨b, m, e, rfl, hok⟩
      | put ls =>
        obtain ⟨r, h1, h2⟩ := h
        have e := Option.some.inj (ea.symm.trans h1)
        injection e with e
        exact .inr ⟨r, ls, e, rfl, h2, hok.1, hok.2⟩
    have no : (∀ p, ¬ PcV H (.ref a) p) → Q (.int 0) H := fun h => q2 h H (fun _ _ z => z)
    walk_at "g"
    refine w_ite (fun h0 => ?_) (fun h0 => ?_)
    · walk_at "g"
      refine no fun p hp => ?_
      rcases isPc hp with ⟨b, m, e, _⟩ | ⟨r, ls, e, _⟩
      · rw [e] at h0
        simp only [List.length_cons, List.length_nil] at h0
        omega
      · rw [e] at h0
        simp only [List.length_cons, List.length_nil] at h0
        omega
    obtain ⟨x0, xr, rfl⟩ : ∃ x0 xr, xs = x0 :: xr := by
      cases xs with
      | nil => exact absurd rfl h0
      | cons x0 xr => exact ⟨x0, xr, rfl⟩
    obtain ⟨a0, t0⟩ := (hxs x0 (by simp)).ty
    have at0 : atI (x0 :: xr) 0 = some x0 := atI_nat (j := 0) rfl
    walk_at "g"
    refine w_isStr t0 ?_
    walk_at "g"
    refine w_itN (fun hs => ?_) (fun hs => ?_)
    · walk_at "g"
      refine no fun p hp => ?_
      rcases isPc hp with ⟨b, m, e, _⟩ | ⟨r, ls, e, _⟩
      · rw [(List.cons.inj e).1] at t0; exact hs t0.ofStr
      · rw [(List.cons.inj e).1] at t0; exact hs t0.ofStr
    obtain ⟨wd, rfl⟩ := t0.isStr hs
    walk_at "g"
    refine w_seqJ (fun σ' H' => σ' = [some (.ref a), none] ∧ H' = H ∧ ¬ (wd = "take" ∧ xr.length = 2)) ?_ ?_
    rotate_left
    · intro U hU
      walk_at "g"
      refine w_ite (fun h1 => ?_) (fun h1 => ?_)
      rotate_left
      · walk_at "g"
        exact hU _ _ ⟨rfl, rfl, fun z => h1 z.1⟩
      walk_at "g"
      refine w_ite (fun h2 => ?_) (fun h2 => ?_)
      rotate_left
      · walk_at "g"
        exact hU _ _ ⟨rfl, rfl, fun z => h2 (by rw [List.length_cons, z.2]; rfl)⟩
      obtain ⟨x1, x2, rfl⟩ : ∃ x1 x2, xr = [x1, x2] := by
        match xr, h2 with
        | [x1, x2], _ => exact ⟨x1, x2, rfl⟩
        | [], h => simp only [List.length_cons, List.length_nil] at h; omega
        | [_], h => simp only [List.length_cons, List.length_nil] at h; omega
        | _ :: _ :: _ :: _, h => simp only [List.length_cons] at h; omega
      subst h1
      obtain ⟨a1, t1⟩ := (hxs x1 (by simp)).ty
      obtain ⟨a2, t2⟩ := (hxs x2 (by simp)).ty
      have at1 : atI [V.str "take", x1, x2] 1 = some x1 := atI_nat (j := 1) rfl
      have at2 : atI [V.str "take", x1, x2] 2 = some x2 := atI_nat (j := 2) rfl
      refine w_seq ?_
      walk_at "g"
      refine ⟨x1, a1, rfl, t1, fun b hb => ?_, fun hb => ?_⟩
      · walk_at "g"
        refine ⟨x2, a2, rfl, t2, fun m hm => ?_, fun hm => ?_⟩
        · walk_at "g"
          subst hb hm
          by_cases hm0 : m = 0
          · subst hm0
            refine no fun p hp => ?_
            rcases isPc hp with ⟨b', m', e, _, hm'⟩ | ⟨r, ls, e, _⟩
            · have e2 : ((0 : Nat) : Int) = (m' : Int) := by simpa using (List.cons.inj (List.cons.inj (List.cons.inj e).2).2).1
              omega
            · have := congrArg List.length e
              simp at this
          · exact q1 (.take b m) ⟨a, rfl, ea, by show 1 ≤ m; omega⟩ H (fun _ _ z => z)
        · walk_at "g"
          refine no fun p hp => ?_
          rcases isPc hp with ⟨b', m', e, _⟩ | ⟨r, ls, e, _⟩
          · exact hm m' (by simpa using (List.cons.inj (List.cons.inj (List.cons.inj e).2).2).1)
          · have := congrArg List.length e
            simp at this
      · walk_at "g"
        refine no fun p hp => ?_
        rcases isPc hp with ⟨b', m', e, _⟩ | ⟨r, ls, e, _⟩
        · exact hb b' (by simpa using (List.cons.inj (List.cons.inj e).2).1)
        · have := congrArg List.length e
          simp at this
    rintro σ' H' ⟨rfl, rfl, hnt⟩
    have no2 : (∀ r ls, xr = [.ref r] → wd = "put" → RwAt H' r ls → (∀ z ∈ ls, LineOk z) → ls = []) → ∀ p, ¬ PcV H' (.ref a) p := fun hn p hp => by
      rcases isPc hp with ⟨b', m', e, _⟩ | ⟨r, ls, e, _, h1, h2, h3⟩
      · refine hnt ⟨V.str.inj (List.cons.inj e).1, ?_⟩
        rw [(List.cons.inj e).2]
        rfl
      · exact h2 (hn r ls (List.cons.inj e).2 (V.str.inj (List.cons.inj e).1) h1 h3)
    refine w_seqJ (fun σ' H1 => (∃ y, σ' = [some (.ref a), y]) ∧ Same H' H1 ∧ ∀ p, ¬ PcV H' (.ref a) p) ?_ ?_
    · rintro σ' H1 ⟨⟨y, rfl⟩, k1, hn⟩
      walk_at "g"
      exact q2 hn _ k1
    intro U hU
    walk_at "g"
    refine w_ite (fun h1 => ?_) (fun h1 => ?_)
    rotate_left
    · walk_at "g"
      exact hU _ _ ⟨⟨_, rfl⟩, fun _ _ z => z, no2 fun r ls _ e => absurd e h1⟩
    walk_at "g"
    refine w_ite (fun h2 => ?_) (fun h2 => ?_)
    rotate_left
    · walk_at "g"
      exact hU _ _ ⟨⟨_, rfl⟩, fun _ _ z => z, no2 fun r ls e => by rw [e] at h2; exact absurd rfl h2⟩
    obtain ⟨x1, rfl⟩ : ∃ x1, xr = [x1] := by
      match xr, h2 with
      | [x1], _ => exact ⟨x1, rfl⟩
      | [], h => simp only [List.length_cons, List.length_nil] at h; omega
      | _ :: _ :: _, h => simp only [List.length_cons] at h; omega
    subst h1
    have at1 : atI [V.str "put", x1] 1 = some x1 := atI_nat (j := 1) rfl
    walk_at "g"
    have hd1 := hxs x1 (by simp)
    rcases hd1.cases with ⟨ay, ty, hne⟩ | ⟨b, ys, rfl, eb, hyB, hys⟩
    · refine w_isTup ty ?_
      rw [decide_eq_false hne]
      walk_at "g"
      exact hU _ _ ⟨⟨_, rfl⟩, fun _ _ z => z, no2 fun r ls e _ hr' => by
        have e1 : x1 = .ref r := by simpa using e
        subst e1
        exact absurd (ty.ofTup hr') hne⟩
    walk_at "g"
    refine lcp_gen (walk_tup (K := K) (a := b) (xs := ys)) [] (fun i y _ => ∃ bb : Bool, y = .bl bb ∧ ∀ z, ys[i]? = some z → (bb = true ↔ ∃ z', z = .str z' ∧ LineOk z')) (fun _ _ => True) (by omega) (fun _ _ _ _ _ h => h) (fun _ _ _ _ _ _ => trivial) (fun _ H1 k _ => .of (k _ _ (by simp) eb)) trivial ?_ (by simp) ?_
    · rintro i x H1 H2 R hi k1 t1 _ ⟨rfl, hx⟩ hR
      have hdx := (hys x (List.mem_of_getElem? hx)).kd (KD.of k1.same)
      refine w_name ⟨rfl, ?_⟩
      walk_at "g"
      refine ⟨x, B, rfl, hdx, hB, fun z e hl H3 k3 => ?_, fun hn H3 k3 => ?_⟩
      · exact hR _ _ ⟨true, rfl, fun z' hz' => ⟨fun _ => ⟨z, by rw [hx] at hz'; cases hz'; exact ⟨e, hl⟩⟩, fun _ => rfl⟩⟩ (Kp.of k3) (KT.of k3) trivial
      · exact hR _ _ ⟨false, rfl, fun z' hz' => ⟨fun h => Bool.noConfusion h, fun ⟨z'', e, hl⟩ => by rw [hx] at hz'; cases hz'; exact absurd hl (hn z'' e)⟩⟩ (Kp.of k3) (KT.of k3) trivial
    · intro L H1 vs hvl hvp hL k1' t1 _ eL
      have k1 := k1'.same
      obtain ⟨bs, rfl⟩ : ∃ bs : List Bool, vs = bs.map V.bl := by
        have : ∀ {vs : List V}, (∀ y ∈ vs, ∃ b : Bool, y = .bl b) → ∃ bs : List Bool, vs = bs.map V.bl := by
          intro vs
          induction vs with
          | nil => intro _; exact ⟨[], rfl⟩
          | cons v vs ih =>
            intro h
            obtain ⟨b, rfl⟩ := h v (by simp)
            obtain ⟨bs, rfl⟩ := ih fun y hy => h y (by simp [hy])
            exact ⟨b :: bs, rfl⟩
        refine this fun y hy => ?_
        obtain ⟨i, hi, e⟩ := List.getElem_of_mem hy
        obtain ⟨bb, e2, _⟩ := hvp i y (by rw [List.getElem?_eq_getElem hi, e])
        exact ⟨bb, e2⟩
      have ea1 := k1 _ _ ea
      have eb1 := k1 _ _ eb
      rw [List.length_map] at hvl
      have hb : ∀ (i : Nat) (z : V), ys[i]? = some z → (bs[i]? = some true ↔ ∃ z', z = .str z' ∧ LineOk z') := fun i z hz => by
        have hi : i < bs.length := by rw [hvl]; exact (List.getElem?_eq_some_iff.mp hz).1
        obtain ⟨bb, e, h⟩ := hvp i (.bl bs[i]) (by rw [List.getElem?_map, List.getElem?_eq_getElem hi]; rfl)
        cases e
        rw [List.getElem?_eq_getElem hi, Option.some.injEq]
        exact h z hz
      walk_at "g"
      refine w_itB (fun hall => ?_) (fun hall => ?_)
      · walk_at "g"
        have allTrue : ∀ i, i < bs.length → bs[i]? = some true := fun i hi => by
          rw [List.all_eq_true] at hall
          rw [List.getElem?_eq_getElem hi]
          exact congrArg some (hall _ (List.getElem_mem hi))
        obtain ⟨ls, hls, hlo⟩ : ∃ ls : List Str, ys = ls.map V.str ∧ ∀ z ∈ ls, LineOk z := by
          have : ∀ {ys : List V}, (∀ y ∈ ys, ∃ z, y = .str z ∧ LineOk z) → ∃ ls : List Str, ys = ls.map V.str ∧ ∀ z ∈ ls, LineOk z := by
            intro ys
            induction ys with
            | nil => intro _; exact ⟨[], rfl, by simp⟩
            | cons v vs ih =>
              intro h
              obtain ⟨b, rfl, hb⟩ := h v (by simp)
              obtain ⟨bs, rfl, hbs⟩ := ih fun y hy => h y (by simp [hy])
              exact ⟨b :: bs, rfl, fun z hz => by
                rcases List.mem_cons.mp hz with rfl | hz
                · exact hb
                · exact hbs z hz⟩
          refine this fun y hy => ?_
          obtain ⟨i, hi, e⟩ := List.getElem_of_mem hy
          have ey : ys[i]? = some y := by rw [List.getElem?_eq_getElem hi, e]
          exact (hb i y ey).mp (allTrue i (by omega))
        have er : RwAt H' b ls := by show H' b = some (.tup (ls.map V.str)); rw [← hls]; exact eb
        have el : ls.length = ys.length := by rw [hls, List.length_map]
        by_cases h0' : ls = []
        · subst h0'
          have : ys = [] := by rw [hls]; rfl
          subst this
          refine q2 (no2 fun r ls' e _ hr' _ => ?_) _ k1
          have e1 : b = r := by simpa using e
          subst e1
          have e2 := Option.some.inj (er.symm.trans hr')
          injection e2 with e2
          cases ls' with
          | nil => rfl
          | cons _ _ => simp at e2
        · have := q1 (.put ls) ⟨a, rfl, ⟨b, ea, er⟩, h0', hlo⟩ _ k1
          rw [show ((Pc.put ls).size : Int) = (ys.length : Int) by show ((ls.length : Nat) : Int) = _; rw [el]] at this
          exact this
      · walk_at "g"
        refine hU _ _ ⟨⟨_, rfl⟩, k1, no2 fun r ls e _ hr' hlo => ?_⟩
        have e1 : b = r := by simpa using e
        subst e1
        have e2 := Option.some.inj (eb.symm.trans hr')
        injection e2 with e2
        exfalso
        rw [Bool.eq_false_iff] at hall
        refine hall (List.all_eq_true.mpr fun bb hbb => ?_)
        obtain ⟨i, hi, e⟩ := List.getElem_of_mem hbb
        have hi2 : i < ys.length := by omega
        have := (hb i ys[i] (List.getElem?_eq_getElem hi2)).mpr (by
          subst e2
          have hi3 : i < ls.length := by rw [List.length_map] at hi2; exact hi2
          exact ⟨ls[i], by rw [List.getElem_map], hlo _ (List.getElem_mem hi3)⟩)
        rw [List.getElem?_eq_getElem hi, Option.some.injEq] at this
        rw [← e]
        exact this
theorem ok_isscript {f fM fI fT : Addr} {fd fdM fdI fdT : FuncData} (T : Txt K mg) (F : Fun K "is_script" "is_script" s_is_script f fd) (D_made_by : Df K mg "made_by" s_made_by ["thing"] fM fdM) (D_is_int : DfD K mg "is_int" s_is_int ["thing", "least"] [.int 0] fI fdI) (D_is_text : DfD K mg "is_text" s_is_text ["thing", "most"] [.int 40] fT fdT) : FnOk P w K mg base CX0 3 f fd ["thing"] spIsScript := by
  obtain ⟨tk_ROWS, g_ROWS⟩ := T.g_ROWS
  have G_made_by : FnOk P w K mg base CX0 2 fM fdM ["thing"] spMadeBy := ok_madeby T D_made_by.fn D_is_int D_is_text
  refine F.ok sc_is_script (fun vs H Q E h => ?_) (fun cdv A outer s H vs Q E hr h => ?_)
  · obtain ⟨x, B, rfl, _⟩ := h
    rfl
  · obtain ⟨x, B, rfl, hd, hB, q1, q2⟩ := h
    refine ⟨_,
      (pss_cons
        (ps_if (pt_not (pt_val (pe_callB (r := rIsi K) call_isi (by rfl) T.n_isinstance (by decide +kernel) (pa_cons (pv 0) (pa_cons (pe_bltn (v := .ty "tuple") (u := .type "tuple") (by rfl) T.n_tuple (by decide +kernel) rfl) pa_nil)))))
          (pss_one
            (ps_ret pe_bl))
          pss_nil)
      (pss_cons
        (ps_set (i := 1) sc_is_script.nd rfl (.inl rfl) pe_int)
      (pss_cons
        (ps_for PassesOwn.never rfl (pi_tup (pv 0)) (pg_name (i := 2) sc_is_script.nd rfl (.inl rfl))
          (pss_cons
            (ps_set (i := 3) sc_is_script.nd rfl (.inl rfl) (pe_call G_made_by (hr.mono (by omega)) (by rfl) D_made_by.g D_made_by.fn.kp D_made_by.b .nil pass0 (pa_cons (pv 2) pa_nil)))
          (pss_cons
            (ps_aug (i := 1) sc_is_script.nd rfl (.inl rfl) (pv 3) ip_add)
          (pss_one
            (ps_if (PW.pt (pw_or (pt_cmpR op_eq (pv 3) pe_int (nomark _)) (pw_or1 (pt_cmpR op_gt (pv 1) (pe_glob (v := .int 40) rfl g_ROWS ⟨_, rfl⟩) (nomark _)))))
              (pss_one
                (ps_ret pe_bl))
              pss_nil)))))
      (pss_one
        (ps_ret pe_bl)))))
      , ?_⟩
    rw [show L2.start N_is_script [x] = [some x, none, none, none] from rfl]
    refine w_seq ?_
    walk_at "x"
    rcases hd.cases with ⟨ay, ty, hne⟩ | ⟨a, xs, rfl, ea, hxB, hxs⟩
    · refine w_isTup ty ?_
      rw [decide_eq_false hne]
      walk_at "g"
      refine q2 ?_ H (fun _ _ z => z)
      rintro ps ⟨s, rfl, h, _⟩
      exact hne (ty.ofTup h.at')
    walk_at "g"
    have back : ∀ {H1 : Hp} {y : V} {p : Pc}, y ∈ xs → Same H H1 → PcV H1 y p → PcV H y p := by
      rintro H1 y p hy k ⟨b, rfl, h, ok⟩
      have db := hxs _ hy
      cases p with
      | take u m => exact ⟨b, rfl, db.back k h, ok⟩
      | put ls =>
        obtain ⟨r, h1, h2⟩ := h
        have h1' := db.back k h1
        exact ⟨b, rfl, ⟨r, h1', ((db.elem h1').2 (.ref r) (by simp)).back k h2⟩, ok⟩
    have parts : ∀ {ps : List (Addr × Pc)}, ScV H (.ref a) ps → xs = ps.map fun q => .ref q.1 := by
      rintro ps ⟨s', e, h, _⟩
      cases e
      have e := Option.some.inj (ea.symm.trans h.at')
      injection e
    refine lp_tup (xs := xs) (fun i σ H' => Same H H' ∧ ∃ (y2 y3 : Option V) (ps : List (Addr × Pc)), σ = [some (.ref a), some (.int (sizes (ps.map (·.2)) : Int)), y2, y3] ∧ xs.take i = ps.map (fun q => .ref q.1) ∧ (∀ q ∈ ps, PcAt H q.1 q.2 ∧ q.2.ok) ∧ sizes (ps.map (·.2)) ≤ 40) ?_ ?_ ?_ ?_
    · exact ⟨fun _ _ z => z, _, _, [], rfl, rfl, by simp, by simp [sizes]⟩
    · rintro i σ H' _ ⟨k, _⟩
      exact .of (k _ _ ea)
    · rintro i y σ H1 hy ⟨k1, y2, y3, ps, rfl, htk, hpc, hsz⟩
      have hym := List.mem_of_getElem? hy
      have hdy := (hxs y hym).kd (KD.of k1)
      -- what stands ahead in a script is what was found
      have ahead : ∀ {ps' : List (Addr × Pc)}, ScV H (.ref a) ps' → ∃ p, PcV H y p ∧ sizes (ps.map (·.2)) + p.size ≤ 40 := by
        intro ps' h
        have e := parts h
        obtain ⟨s', e', h1, h2⟩ := h
        cases e'
        rw [e] at hy htk
        obtain ⟨q, hq, rfl⟩ := map_at hy
        have hqm := List.mem_of_getElem? hq
        refine ⟨q.2, ⟨q.1, rfl, h1.pc q hqm, h2.ok _ (List.mem_map_of_mem hqm)⟩, ?_⟩
        have same : ∀ (l l' : List (Addr × Pc)), (l.map fun q => V.ref q.1) = (l'.map fun q => V.ref q.1) → (∀ q ∈ l, PcAt H q.1 q.2) → (∀ q ∈ l', PcAt H q.1 q.2) → l.map (·.2) = l'.map (·.2) := by
          intro l
          induction l with
          | nil => intro l' h _ _; cases l' with | nil => rfl | cons _ _ => simp at h
          | cons x l ih =>
            intro l' h hx hx'
            cases l' with
            | nil => simp at h
            | cons x' l' =>
              rw [List.map_cons, List.map_cons, List.cons.injEq] at h
              have e1 : x.1 = x'.1 := V.ref.inj h.1
              have p1 := hx x (by simp)
              rw [e1] at p1
              rw [List.map_cons, List.map_cons, p1.det (hx' x' (by simp)), ih l' h.2 (fun q hq => hx q (by simp [hq])) (fun q hq => hx' q (by simp [hq]))]
        have e2 : ps.map (·.2) = (ps'.take i).map (·.2) := same _ _ (by rw [← htk, List.map_take]) (fun q hq => (hpc q hq).1) fun q hq => h1.pc q (List.mem_of_mem_take hq)
        have e3 : (ps'.take (i + 1)).map (·.2) = (ps'.take i).map (·.2) ++ [q.2] := by rw [take_at hq, List.map_append]; rfl
        have e4 := sizes_take (ps'.map (·.2)) (i + 1)
        rw [← List.map_take, e3, sizes_snoc, ← e2] at e4
        have := h2.few
        omega
      walk_at "g"
      refine ⟨y, B, rfl, hdy, hB, fun p hp H2 k2 => ?_, fun hn H2 k2 => ?_⟩
      · have hp' := back hym k1 hp
        have hpos := hp'.choose_spec.2.2.pos
        walk_at "g"
        refine w_no (by omega) ?_
        walk_at "g"
        refine w_ite (fun h40 => ?_) (fun h40 => ?_)
        · walk_at "g"
          refine q2 (fun ps' h => ?_) _ (Same.trans k1 k2)
          obtain ⟨p', hp2, hle⟩ := ahead h
          obtain ⟨b1, e1, h1, _⟩ := hp'
          obtain ⟨b2, e2, h2, _⟩ := hp2
          rw [e1] at e2
          cases e2
          rw [h2.det h1] at hle
          omega
        · walk_at "g"
          obtain ⟨b1, rfl, h1, ok1⟩ := hp'
          refine ⟨Same.trans k1 k2, some (.ref b1), some (.int (p.size : Int)), ps ++ [(b1, p)], ?_, ?_, fun q hq => ?_, ?_⟩
          · rw [List.map_append, show List.map (fun x : Addr × Pc => x.2) [(b1, p)] = [p] from rfl, sizes_snoc]
            simp
          · rw [take_at hy, htk, List.map_append]
            rfl
          · rcases List.mem_append.mp hq with h | h
            · exact hpc q h
            · have e : q = (b1, p) := by simpa using h
              subst e
              exact ⟨h1, ok1⟩
          · rw [List.map_append, show List.map (fun x : Addr × Pc => x.2) [(b1, p)] = [p] from rfl, sizes_snoc]
            omega
      · walk_at "g"
        refine w_yes rfl ?_
        walk_at "g"
        refine q2 (fun ps' h => ?_) _ (Same.trans k1 k2)
        obtain ⟨p', ⟨b2, rfl, h2, ok2⟩, _⟩ := ahead h
        exact hn p' ⟨b2, rfl, h2.kt (KT.of k1), ok2⟩
    · rintro σ H1 ⟨k1, y2, y3, ps, rfl, htk, hpc, hsz⟩
      rw [List.take_length] at htk
      walk_at "g"
      refine q1 ps ⟨a, rfl, ⟨by rw [← htk]; exact ea, fun q hq => (hpc q hq).1⟩, ⟨fun p hp => ?_, hsz⟩⟩ _ k1
      obtain ⟨q, hq, rfl⟩ := List.mem_map.mp hp
      exact (hpc q hq).2
end
def spDone : Sp := fun vs H Q _ => ∃ (b s : Addr) (bs : List Str) (ps : List (Addr × Pc)), vs = [.ref b, .ref s] ∧ RwAt H b bs ∧ bs.length ≤ 1000 ∧ ScAt H s ps ∧ ScOk (ps.map (·.2)) ∧ (∀ q ∈ ps, q.2.fits bs.length) ∧ ∀ H' r, Same H H' → RwAt H' r (makes bs (ps.map (·.2))) → Q (.ref r) H'
def spPrice : Sp := fun vs H Q _ => ∃ (s : Addr) (t p : Int) (ps : List (Addr × Pc)), vs = [.ref s, .int t, .int p] ∧ 0 ≤ p ∧ p < 2 ^ 60 ∧ ScAt H s ps ∧ ScOk (ps.map (·.2)) ∧ ∀ H', Same H H' → Q (.int (costs t p (ps.map (·.2)))) H'
theorem cut_strs (bs : List Str) {b m : Nat} (h : b + m ≤ bs.length) : cutV (bs.map V.str) (some (b : Int)) (some ((b : Int) + (m : Int))) = ((bs.drop b).take m).map V.str := by
  show (((bs.map V.str).drop (if (b : Int) < 0 then ((b : Int) + ((bs.map V.str).length : Int)).toNat else min (b : Int).toNat (bs.map V.str).length)).take ((if (b : Int) + (m : Int) < 0 then ((b : Int) + (m : Int) + ((bs.map V.str).length : Int)).toNat else min ((b : Int) + (m : Int)).toNat (bs.map V.str).length) - (if (b : Int) < 0 then ((b : Int) + ((bs.map V.str).length : Int)).toNat else min (b : Int).toNat (bs.map V.str).length))) = _
  rw [List.length_map, if_neg (by omega), if_neg (by omega)]
  rw [show min (b : Int).toNat bs.length = b by omega, show min ((b : Int) + (m : Int)).toNat bs.length - b = m by omega, List.map_take, List.map_drop]
theorem small2000 {n : Nat} (h : n ≤ 2000) : n ≤ sizeLine := Nat.le_trans h (by decide)
section
variable {P : Program} {w : World} {K : PySem.W.Frag} {mg : Str → Option Value} {base : Heap}
theorem ok_price {f fS fM fI fT : Addr} {fd fdS fdM fdI fdT : FuncData} (T : Txt K mg) (F : FunD K "price" "price" (defArgs s_price) (defBody s_price) (defScope s_price) [] [("take", .int 3), ("put", .int 2)] f fd) (D_is_script : Df K mg "is_script" s_is_script ["thing"] fS fdS) (D_made_by : Df K mg "made_by" s_made_by ["thing"] fM fdM) (D_is_int : DfD K mg "is_int" s_is_int ["thing", "least"] [.int 0] fI fdI) (D_is_text : DfD K mg "is_text" s_is_text ["thing", "most"] [.int 40] fT fdT) : FnOk P w K mg base CX0 4 f fd ["script", "take", "put"] spPrice := by
  have G_is_script : FnOk P w K mg base CX0 3 fS fdS ["thing"] spIsScript := ok_isscript T D_is_script.fn D_made_by D_is_int D_is_text
  refine okD F sc_price (fun vs H Q E h => ?_) (fun cdv A outer s H vs Q E hr h => ?_)
  · obtain ⟨s, t, p, ps, rfl, _⟩ := h
    rfl
  · obtain ⟨s', t, p, ps, rfl, hp0, hp1, hS, hO, q⟩ := h
    refine ⟨_,
      (pss_cons
        (ps_if (pt_not (pt_val (pe_call G_is_script (hr.mono (by omega)) (by rfl) D_is_script.g D_is_script.fn.kp D_is_script.b .nil pass0 (pa_cons (pv 0) pa_nil))))
          pss_never
          pss_nil)
      (pss_cons
        (ps_set (i := 3) sc_price.nd rfl (.inl rfl) pe_int)
      (pss_cons
        (ps_for PassesOwn.never rfl (pi_tup (pv 0)) (pg_name (i := 4) sc_price.nd rfl (.inl rfl))
          (pss_one
            (ps_if (pt_cmpR op_eq (pe_ix (r := rIxT K) ix_tup (pv 4) pe_int (fun _ _ => rfl)) pe_str (nomark _))
              (pss_one
                (ps_aug (i := 3) sc_price.nd rfl (.inl rfl) (pv 1) ip_add))
              (pss_one
                (ps_aug (i := 3) sc_price.nd rfl (.inl rfl) (pe_op op_mul (pv 2) (pe_callB (r := rLen K) c_len (by rfl) T.n_len (by decide +kernel) (pa_cons (pe_ix (r := rIxT K) ix_tup (pv 4) pe_int (fun _ _ => rfl)) pa_nil))) ip_add)))))
      (pss_one
        (ps_ret (pv 3))))))
      , ?_⟩
    rw [show L2.start N_price [V.ref s', V.int t, V.int p] = [some (.ref s'), some (.int t), some (.int p), none, none] from rfl]
    refine w_seq ?_
    walk_at "x"
    refine ⟨.ref s', 40, rfl, hS.dat hO (Nat.le_refl _), by omega, fun _ _ H1 k1 => ?_, fun hn => absurd ⟨s', rfl, hS, hO⟩ (hn ps)⟩
    have st := k1 _ _ hS.at'
    walk_at "g"
    refine lp_tup (xs := ps.map fun q => .ref q.1) (fun i σ H' => H' = H1 ∧ ∃ y4 : Option V, σ = [some (.ref s'), some (.int t), some (.int p), some (.int (costs t p ((ps.take i).map (·.2)))), y4]) ⟨rfl, _, rfl⟩ ?_ ?_ ?_
    · rintro i σ H' _ ⟨rfl, _⟩
      exact .of st
    · rintro i y σ H' hy ⟨rfl, y4, rfl⟩
      obtain ⟨z, hz, rfl⟩ := map_at hy
      have hzm := List.mem_of_getElem? hz
      have hpc := (hS.pc z hzm).kt (KT.of k1)
      have tk : (ps.take (i + 1)).map (·.2) = (ps.take i).map (·.2) ++ [z.2] := by rw [take_at hz, List.map_append]; rfl
      obtain ⟨za, zp⟩ := z
      cases zp with
      | take u m =>
        have hpc' : H' za = some (.tup [.str "take", .int (u : Int), .int (m : Int)]) := hpc
        walk_at "g"
        refine w_yes rfl ?_
        walk_at "g"
        refine ⟨rfl, some (.ref za), ?_⟩
        rw [tk, costs_snoc]
        rfl
      | put ls =>
        obtain ⟨r, hpc1, hpc2⟩ := hpc
        have hpc2' : H' r = some (.tup (ls.map V.str)) := hpc2
        walk_at "g"
        refine w_no (by decide) ?_
        walk_at "g"
        refine ⟨rfl, some (.ref za), ?_⟩
        rw [tk, costs_snoc, List.length_map]
        rfl
    · rintro σ H' ⟨rfl, y4, rfl⟩
      rw [List.length_map, List.take_length]
      walk_at "g"
      exact q _ k1
end
/-! ### the law's own lines and scripts -/
def StkAt (H : Hp) (a : Addr) (zs : List Str) : Prop := H a = some (.lst (zs.map V.str)) ∧ zs ≠ [] ∧ zs.length ≤ 5 ∧ ∀ z ∈ zs, LineOk z
def spText : Sp := fun vs H Q _ => ∃ (d c : Addr) (n : Nat) (m : Nat), vs = [.ref d, .int (m : Int)] ∧ Deck H d c n ∧ n + 42 ≤ MOSTD ∧ m ≤ 40 ∧ ∀ H' z, Deck H' d c (n + 42) → Kp [d] H H' → KT H H' → LineOk z → Q (.str z) H'
def spStock : Sp := fun vs H Q _ => ∃ (d c : Addr) (n : Nat), vs = [.ref d] ∧ Deck H d c n ∧ n + 300 ≤ MOSTD ∧ ∀ H' a zs, Deck H' d c (n + 300) → Kp [d] H H' → KT H H' → H a = none → StkAt H' a zs → Q (.ref a) H'
def spLines : Sp := fun vs H Q _ => ∃ (d c a : Addr) (n m : Nat) (zs : List Str), vs = [.ref d, .ref a, .int (m : Int)] ∧ Deck H d c n ∧ n + 50 ≤ MOSTD ∧ m ≤ 40 ∧ StkAt H a zs ∧ a ≠ d ∧ ∀ H' r ls, Deck H' d c (n + 50) → Kp [d] H H' → KT H H' → RwAt H' r ls → ls.length ≤ m → (∀ z ∈ ls, LineOk z) → Q (.ref r) H'
def spMostL : Sp := fun vs H Q _ => ∃ (d c : Addr) (n : Nat), vs = [.ref d] ∧ Deck H d c n ∧ n + 1 ≤ MOSTD ∧ ∀ H' m, Deck H' d c (n + 1) → Off d H H' → (m = 40 ∨ m = 9) → Q (.int ((m : Nat) : Int)) H'
def spScript : Sp := fun vs H Q _ => ∃ (d c a b : Addr) (n m : Nat) (zs bs : List Str), vs = [.ref d, .ref b, .ref a, .int (m : Int)] ∧ Deck H d c n ∧ n + 400 ≤ MOSTD ∧ m ≤ 40 ∧ StkAt H a zs ∧ a ≠ d ∧ RwAt H b bs ∧ bs.length ≤ 1000 ∧ ∀ H' s ps, Deck H' d c (n + 400) → Kp [d] H H' → KT H H' → ScAt H' s ps → ScOk (ps.map (·.2)) → sizes (ps.map (·.2)) ≤ m → (∀ q ∈ ps, q.2.fits bs.length) → Q (.ref s) H'
def spMade : Sp := fun vs H Q _ => ∃ (b s : Addr) (bs : List Str) (ps : List (Addr × Pc)), vs = [.ref b, .ref s] ∧ RwAt H b bs ∧ bs.length ≤ 1000 ∧ ScAt H s ps ∧ ScOk (ps.map (·.2)) ∧ (∀ q ∈ ps, q.2.fits bs.length) ∧ ∀ H' r, Same H H' → RwAt H' r (makes bs (ps.map (·.2))) → Q (.ref r) H'
def spCost : Sp := fun vs H Q _ => ∃ (s : Addr) (t p : Int) (ps : List (Addr × Pc)), vs = [.ref s, .int t, .int p] ∧ 0 ≤ p ∧ p < 2 ^ 60 ∧ ScAt H s ps ∧ Q (.int (costs t p (ps.map (·.2)))) H
theorem StkAt.kp {M : List Addr} {H H' : Hp} {a : Addr} {zs : List Str} (h : StkAt H a zs) (k : Kp M H H') (n : a ∉ M) : StkAt H' a zs := ⟨k _ _ n h.1, h.2⟩
theorem Deck.ktK {H H' : Hp} {d c : Addr} {n : Nat} (D : Deck H d c n) (k : Kp [d] H H') : KT H H' := by
  obtain ⟨⟨xs, e⟩, _⟩ := D.at
  exact KT.kp k (by simp [e])
section
variable {P : Program} {w : World} {K : PySem.W.Frag} {mg : Str → Option Value} {base : Heap}
theorem ok_text {f fM fD : Addr} {fd fdM fdD : FuncData} (T : Txt K mg) (F : Fun K "_law_text" "_law_text" s_law_text f fd) (D_law_mixed : Df K mg "_law_mixed" s_law_mixed ["_law_cell", "_law_turn"] fM fdM) (D_law_draw : Df K mg "_law_draw" s_law_draw ["_law_deck_here", "_law_many"] fD fdD) : FnOk P w K mg base CX0 3 f fd ["_law_deck_here", "_law_size_here"] spText := by
  have G_law_draw : FnOk P w K mg base CX0 2 fD fdD ["_law_deck_here", "_law_many"] spDraw := ok_draw T D_law_draw.fn D_law_mixed
  refine F.ok sc_law_text (fun vs H Q E h => ?_) (fun cdv A outer s H vs Q E hr h => ?_)
  · obtain ⟨d, c, n, m, rfl, _⟩ := h
    rfl
  · obtain ⟨d, c, n, m, rfl, D0, hn, hm, q⟩ := h
    refine ⟨_,
      (pss_cons
        (ps_set (i := 2) sc_law_text.nd rfl (.inr rfl) pe_str)
      (pss_cons
        (ps_if (pt_cmpR op_eq (pe_call G_law_draw (hr.mono (by omega)) (by rfl) D_law_draw.g D_law_draw.fn.kp D_law_draw.b .nil pass0 (pa_cons (pv 0) (pa_cons pe_int pa_nil))) pe_int (nomark _))
          (pss_one
            (ps_set (i := 2) sc_law_text.nd rfl (.inr rfl) pe_str))
          pss_nil)
      (pss_one
        (ps_ret (p_join pe_str (pe_lc (own := [("_law_k", 3)]) (g := (gName 3)) rfl sc_law_text.nd (pi_range1 (by rfl) T.n_range (pa_cons (pe_call G_law_draw (hr.mono (by omega)) (by rfl) D_law_draw.g D_law_draw.fn.kp D_law_draw.b .nil pass0 (pa_cons (pv 0) (pa_cons (pe_op op_add (pv 1) pe_int) pa_nil))) pa_nil)) (blkOk_by (own := [("_law_k", 3)]) (N := N_law_text) (sc := defScope s_law_text) (by decide +kernel)) (fun _ _ _ _ _ => (pg_name (i := 3) sc_law_text.nd rfl (.inl rfl))) (fun _ _ _ _ _ => pts_nil) (fun _ _ _ _ _ => (pe_ix ix_str (pv 2) (pe_call G_law_draw (hr.mono (by omega)) (by rfl) D_law_draw.g D_law_draw.fn.kp D_law_draw.b .nil pass0 (pa_cons (pv 0) (pa_cons (pe_callB c_lenS (by rfl) T.n_len (by decide +kernel) (pa_cons (pv 2) pa_nil)) pa_nil))) (fun _ _ => rfl)))))))))
      , ?_⟩
    rw [show L2.start N_law_text [V.ref d, V.int (m : Int)] = [some (.ref d), some (.int (m : Int)), none, none] from rfl]
    walk_at "x"
    refine w_seqJ (fun σ' H' => ∃ sg : Str, σ' = [some (.ref d), some (.int (m : Int)), some (.str sg), none] ∧ Deck H' d c (n + 1) ∧ Kp [d] H H' ∧ 0 < sg.length ∧ sg.length ≤ 100 ∧ ∀ c ∈ sg.cps.toList, c ∈ SG.cps.toList) ?_ ?_
    rotate_left
    · intro U hU
      walk_at "g"
      refine w_draw D0 (by omega) (by decide) (by decide) fun r H1 hr1 D1 o1 => ?_
      walk_at "g"
      refine w_ite (fun h => ?_) (fun h => ?_)
      · walk_at "g"
        exact hU _ _ ⟨_, rfl, D1, o1.kp (by simp), by decide, by decide, by decide⟩
      · walk_at "g"
        exact hU _ _ ⟨_, rfl, D1, o1.kp (by simp), by decide +kernel, by decide +kernel, fun c h => h⟩
    rintro σ' H1 ⟨sg, rfl, D1, k1, hs0, hs1, hsg⟩
    obtain ⟨⟨dx, ed1⟩, ⟨cx, ec1⟩⟩ := D1.at
    walk_at "g"
    refine w_draw D1 (by omega) (by omega) (by omega) fun r H2 hr2 D2 o2 => ?_
    obtain ⟨⟨dx2, ed2⟩, _⟩ := D2.at
    walk_at "g"
    refine lcp_gen (walk_range (lo := 0) (n := (r : Int).toNat)) [d] (fun i y _ => ∃ ch : Nat, y = .str ⟨#[ch]⟩ ∧ ch ∈ SG.cps.toList) (fun i H' => Deck H' d c (n + 2 + i)) (by omega) (fun _ _ _ _ _ h => h) (fun D hD i H1' o z => z.mut (D2.ne1 hD).1 (D2.ne1 hD).2) (fun _ _ _ _ => trivial) D2 ?_ (by intro b hb; have e : b = d := (by simpa using hb); subst e; exact ⟨_, ed2⟩) ?_
    · rintro i x H3 H4 R hi k3 t3 D3 ⟨rfl, rfl⟩ hR
      refine w_name ⟨rfl, ?_⟩
      walk_at "g"
      refine w_lenS (small2000 (by omega)) ?_
      walk_at "g"
      refine w_draw D3 (by unfold MOSTD at *; omega) (by omega) (by omega) fun r4 H5 hr4 D5 o5 => ?_
      obtain ⟨⟨dx3, ed3⟩, _⟩ := D3.at
      obtain ⟨ch, hch, ech⟩ : ∃ ch, sg.cps.toList[r4]? = some ch ∧ atI sg.cps.toList (r4 : Int) = some ch := by
        have hl : r4 < sg.cps.toList.length := by
          have : sg.length = sg.cps.toList.length := by show sg.cps.size = _; simp
          omega
        exact ⟨_, List.getElem?_eq_getElem hl, atI_nat (List.getElem?_eq_getElem hl)⟩
      walk_at "g"
      refine w_ixS (small2000 (by omega)) ech ?_
      exact hR _ _ ⟨ch, rfl, hsg ch (List.mem_of_getElem? hch)⟩ (o5.kp (by simp)) (KT.off o5 ed3) D5
    · intro L H3 ys hyl hyp hL k3 t3 D3 eL
      obtain ⟨zs, hzs, hzc⟩ : ∃ zs : List Nat, ys = (zs.map fun ch => (⟨#[ch]⟩ : Str)).map V.str ∧ ∀ ch ∈ zs, ch ∈ SG.cps.toList := by
        have : ∀ {ys : List V}, (∀ y ∈ ys, ∃ ch : Nat, y = .str ⟨#[ch]⟩ ∧ ch ∈ SG.cps.toList) → ∃ zs : List Nat, ys = (zs.map fun ch => (⟨#[ch]⟩ : Str)).map V.str ∧ ∀ ch ∈ zs, ch ∈ SG.cps.toList := by
          intro ys
          induction ys with
          | nil => intro _; exact ⟨[], rfl, by simp⟩
          | cons y ys ih =>
            intro h
            obtain ⟨ch, rfl, hch⟩ := h y (by simp)
            obtain ⟨zs, rfl, hz⟩ := ih fun y hy => h y (by simp [hy])
            exact ⟨ch :: zs, rfl, fun c hc => by
              rcases List.mem_cons.mp hc with rfl | hc
              · exact hch
              · exact hz c hc⟩
        refine this fun y hy => ?_
        obtain ⟨i, hi, e⟩ := List.getElem_of_mem hy
        exact hyp i y (by rw [List.getElem?_eq_getElem hi, e])
      have hzl : zs.length = (r : Int).toNat := by rw [← hyl, hzs]; simp
      subst hzs
      have hsum : ∀ l : List Nat, (l.map fun ch => ((⟨#[ch]⟩ : Str)).length).sum = l.length := by
        intro l
        induction l with
        | nil => rfl
        | cons x l ih =>
          rw [List.map_cons, List.sum_cons, ih, List.length_cons]
          show 1 + l.length = _
          omega
      have hflat : ∀ l : List Nat, ((l.map fun ch => (⟨#[ch]⟩ : Str)).map fun y => y.cps.toList).flatten = l := by
        intro l
        induction l with
        | nil => rfl
        | cons x l ih =>
          rw [List.map_cons, List.map_cons, List.flatten_cons, ih]
          rfl
      walk_at "g"
      refine w_joinL (.of eL) ?_ ?_
      · rw [List.map_map, List.length_map]
        have := hsum zs
        show (zs.map fun ch => ((⟨#[ch]⟩ : Str)).length).sum + zs.length * 0 ≤ _
        omega
      · have ec := join_cps (zs.map fun ch => (⟨#[ch]⟩ : Str))
        rw [hflat] at ec
        refine q H3 _ (D3.mono (by omega)) (k1.trans ((o2.kp (by simp)).trans k3)) ?_ ⟨?_, fun ch hch => ?_⟩
        · exact D0.ktK (k1.trans ((o2.kp (by simp)).trans k3))
        · show (Txt.join (Str.ofString "") (zs.map fun ch => (⟨#[ch]⟩ : Str))).cps.size ≤ 40
          rw [← Array.length_toList, ec]
          omega
        · rw [ec] at hch
          exact hzc ch hch
end
theorem small1000' {n : Nat} (h : n ≤ 1000) : n < sizeLine := Nat.lt_of_le_of_lt h (by decide)
theorem strs_of {C : Str → Prop} : ∀ {ys : List V}, (∀ y ∈ ys, ∃ z, y = .str z ∧ C z) → ∃ ls : List Str, ys = ls.map V.str ∧ ∀ z ∈ ls, C z
  | [], _ => ⟨[], rfl, by simp⟩
  | y :: ys, h => by
    obtain ⟨z, rfl, hz⟩ := h y (by simp)
    obtain ⟨ls, rfl, hl⟩ := strs_of (ys := ys) fun y hy => h y (by simp [hy])
    exact ⟨z :: ls, rfl, fun c hc => by
      rcases List.mem_cons.mp hc with rfl | hc
      · exact hz
      · exact hl c hc⟩
theorem all_at {α : Type} {C : α → Prop} {ys : List α} (h : ∀ (i : Nat) (y : α), ys[i]? = some y → C y) : ∀ y ∈ ys, C y := fun y hy => by
  obtain ⟨i, hi, e⟩ := List.getElem_of_mem hy
  exact h i y (by rw [List.getElem?_eq_getElem hi, e])
section
variable {P : Program} {w : World} {K : PySem.W.Frag} {mg : Str → Option Value} {base : Heap}
theorem ok_stock {f fM fD fT : Addr} {fd fdM fdD fdT : FuncData} (T : Txt K mg) (F : Fun K "_law_stock" "_law_stock" s_law_stock f fd) (D_law_mixed : Df K mg "_law_mixed" s_law_mixed ["_law_cell", "_law_turn"] fM fdM) (D_law_draw : Df K mg "_law_draw" s_law_draw ["_law_deck_here", "_law_many"] fD fdD) (D_law_text : Df K mg "_law_text" s_law_text ["_law_deck_here", "_law_size_here"] fT fdT) : FnOk P w K mg base CX0 4 f fd ["_law_deck_here"] spStock := by
  have G_law_draw : FnOk P w K mg base CX0 2 fD fdD ["_law_deck_here", "_law_many"] spDraw := ok_draw T D_law_draw.fn D_law_mixed
  have G_law_text : FnOk P w K mg base CX0 3 fT fdT ["_law_deck_here", "_law_size_here"] spText := ok_text T D_law_text.fn D_law_mixed D_law_draw
  refine F.ok sc_law_stock (fun vs H Q E h => ?_) (fun cdv A outer s H vs Q E hr h => ?_)
  · obtain ⟨d, c, n, rfl, _⟩ := h
    rfl
  · obtain ⟨d, c, n, rfl, D0, hn, q⟩ := h
    refine ⟨_,
      (pss_cons
        (ps_set (i := 1) sc_law_stock.nd rfl (.inr rfl) pe_int)
      (pss_cons
        (ps_if (pt_cmpR op_eq (pe_call G_law_draw (hr.mono (by omega)) (by rfl) D_law_draw.g D_law_draw.fn.kp D_law_draw.b .nil pass0 (pa_cons (pv 0) (pa_cons pe_int pa_nil))) pe_int (nomark _))
          (pss_one
            (ps_set (i := 1) sc_law_stock.nd rfl (.inr rfl) pe_int))
          pss_nil)
      (pss_one
        (ps_ret (pe_lc (own := [("_law_k", 2)]) (g := (gName 2)) rfl sc_law_stock.nd (pi_range1 (by rfl) T.n_range (pa_cons (pe_op op_add pe_int (pe_call G_law_draw (hr.mono (by omega)) (by rfl) D_law_draw.g D_law_draw.fn.kp D_law_draw.b .nil pass0 (pa_cons (pv 0) (pa_cons pe_int pa_nil)))) pa_nil)) (blkOk_by (own := [("_law_k", 2)]) (N := N_law_stock) (sc := defScope s_law_stock) (by decide +kernel)) (fun _ _ _ _ _ => (pg_name (i := 2) sc_law_stock.nd rfl (.inl rfl))) (fun _ _ _ _ _ => pts_nil) (fun _ _ _ _ _ => (pe_call G_law_text (hr.mono (by omega)) (by rfl) D_law_text.g D_law_text.fn.kp D_law_text.b .nil pass0 (pa_cons (pv 0) (pa_cons (pv 1) pa_nil)))))))))
      , ?_⟩
    rw [show L2.start N_law_stock [V.ref d] = [some (.ref d), none, none] from rfl]
    walk_at "x"
    refine w_seqJ (fun σ' H' => ∃ lg : Nat, σ' = [some (.ref d), some (.int (lg : Int)), none] ∧ Deck H' d c (n + 1) ∧ Kp [d] H H' ∧ lg ≤ 40) ?_ ?_
    rotate_left
    · intro U hU
      walk_at "g"
      refine w_draw D0 (by omega) (by decide) (by decide) fun r H1 hr1 D1 o1 => ?_
      walk_at "g"
      refine w_ite (fun h => ?_) (fun h => ?_)
      · walk_at "g"
        exact hU _ _ ⟨40, rfl, D1, o1.kp (by simp), by omega⟩
      · walk_at "g"
        exact hU _ _ ⟨4, rfl, D1, o1.kp (by simp), by omega⟩
    rintro σ' H1 ⟨lg, rfl, D1, k1, hlg⟩
    walk_at "g"
    refine w_draw D1 (by omega) (by decide) (by decide) fun r H2 hr2 D2 o2 => ?_
    obtain ⟨⟨dx2, ed2⟩, _⟩ := D2.at
    walk_at "g"
    refine lcp_gen (walk_range (lo := 0) (n := (1 + (r : Int)).toNat)) [d] (fun i y _ => ∃ z, y = .str z ∧ LineOk z) (fun i H' => Deck H' d c (n + 2 + 42 * i)) (by omega) (fun _ _ _ _ _ h => h) (fun D hD i H1' o z => z.mut (D2.ne1 hD).1 (D2.ne1 hD).2) (fun _ _ _ _ => trivial) D2 ?_ (by intro b hb; have e : b = d := (by simpa using hb); subst e; exact ⟨_, ed2⟩) ?_
    · rintro i x H3 H4 R hi k3 t3 D3 ⟨rfl, rfl⟩ hR
      refine w_name ⟨rfl, ?_⟩
      walk_at "g"
      refine ⟨d, c, _, lg, rfl, D3, by omega, hlg, fun H5 z D5 k5 t5 hz => ?_⟩
      exact hR _ _ ⟨z, rfl, hz⟩ k5 t5 (D5.mono (by omega))
    · intro L H3 ys hyl hyp hL k3 t3 D3 eL
      obtain ⟨zs, rfl, hzs⟩ := strs_of (all_at hyp)
      rw [List.length_map] at hyl
      have kk : Kp [d] H H3 := k1.trans ((o2.kp (by simp)).trans k3)
      refine q H3 L zs (D3.mono (by omega)) kk (D0.ktK kk) ?_ ⟨eL, fun z => by rw [z] at hyl; simp at hyl; omega, by omega, hzs⟩
      cases e : H L with
      | none => rfl
      | some o =>
        have hLd : L ≠ d := (D2.ne1 hL).1
        have := (k1.trans (o2.kp (by simp))) L o (by simpa using hLd) e
        rw [hL] at this
        cases this
theorem ok_lines {f fM fD : Addr} {fd fdM fdD : FuncData} (T : Txt K mg) (F : Fun K "_law_lines" "_law_lines" s_law_lines f fd) (D_law_mixed : Df K mg "_law_mixed" s_law_mixed ["_law_cell", "_law_turn"] fM fdM) (D_law_draw : Df K mg "_law_draw" s_law_draw ["_law_deck_here", "_law_many"] fD fdD) : FnOk P w K mg base CX0 3 f fd ["_law_deck_here", "_law_stock_here", "_law_most"] spLines := by
  have G_law_draw : FnOk P w K mg base CX0 2 fD fdD ["_law_deck_here", "_law_many"] spDraw := ok_draw T D_law_draw.fn D_law_mixed
  refine F.ok sc_law_lines (fun vs H Q E h => ?_) (fun cdv A outer s H vs Q E hr h => ?_)
  · obtain ⟨d, c, a, n, m, zs, rfl, _⟩ := h
    rfl
  · obtain ⟨d, c, a, n, m, zs, rfl, D0, hn, hm, hst, nad, q⟩ := h
    refine ⟨_,
      (pss_one
        (ps_ret (pe_callTy (r := rTupOf K) c_tupOf (by rfl) T.n_tuple (by decide +kernel) (pa_cons (pe_lc (own := [("_law_k", 3)]) (g := (gName 3)) rfl sc_law_lines.nd (pi_range1 (by rfl) T.n_range (pa_cons (pe_call G_law_draw (hr.mono (by omega)) (by rfl) D_law_draw.g D_law_draw.fn.kp D_law_draw.b .nil pass0 (pa_cons (pv 0) (pa_cons (pe_op op_add (pv 2) pe_int) pa_nil))) pa_nil)) (blkOk_by (own := [("_law_k", 3)]) (N := N_law_lines) (sc := defScope s_law_lines) (by decide +kernel)) (fun _ _ _ _ _ => (pg_name (i := 3) sc_law_lines.nd rfl (.inl rfl))) (fun _ _ _ _ _ => pts_nil) (fun _ _ _ _ _ => (pe_ix (r := rIxL K) ix_list (pv 1) (pe_call G_law_draw (hr.mono (by omega)) (by rfl) D_law_draw.g D_law_draw.fn.kp D_law_draw.b .nil pass0 (pa_cons (pv 0) (pa_cons (pe_callB (r := rLen K) c_len (by rfl) T.n_len (by decide +kernel) (pa_cons (pv 1) pa_nil)) pa_nil))) (fun _ _ => rfl)))) pa_nil))))
      , ?_⟩
    rw [show L2.start N_law_lines [V.ref d, V.ref a, V.int (m : Int)] = [some (.ref d), some (.ref a), some (.int (m : Int)), none] from rfl]
    walk_at "x"
    refine w_draw D0 (by omega) (by omega) (by omega) fun r H2 hr2 D2 o2 => ?_
    obtain ⟨⟨dx2, ed2⟩, _⟩ := D2.at
    have hst2 := hst.kp (M := [d]) (o2.kp (by simp)) (by simpa using nad)
    obtain ⟨ea, hne, hz5, hzl⟩ := id hst2
    have hpos := List.length_pos_iff.mpr hne
    walk_at "g"
    refine lcp_gen (walk_range (lo := 0) (n := (r : Int).toNat)) [d] (fun i y _ => ∃ z, y = .str z ∧ LineOk z) (fun i H' => Deck H' d c (n + 1 + i)) (by omega) (fun _ _ _ _ _ h => h) (fun D hD i H1' o z => z.mut (D2.ne1 hD).1 (D2.ne1 hD).2) (fun _ _ _ _ => trivial) D2 ?_ (by intro b hb; have e : b = d := (by simpa using hb); subst e; exact ⟨_, ed2⟩) ?_
    · rintro i x H3 H4 R hi k3 t3 D3 ⟨rfl, rfl⟩ hR
      have ea3 := k3 _ _ (by simpa using nad) ea
      refine w_name ⟨rfl, ?_⟩
      walk_at "g"
      refine w_draw D3 (by omega) (by rw [List.length_map]; omega) (by rw [List.length_map]; omega) fun r4 H5 hr4 D5 o5 => ?_
      obtain ⟨⟨dx3, ed3⟩, _⟩ := D3.at
      have ea5 := o5.get nad ea3
      obtain ⟨y, hy1, hy2⟩ := at_lt (xs := zs.map V.str) (i := (r4 : Int)) (by omega) hr4
      obtain ⟨z, hz, rfl⟩ := map_at hy1
      walk_at "g"
      exact hR _ _ ⟨z, rfl, hzl z (List.mem_of_getElem? hz)⟩ (o5.kp (by simp)) (KT.off o5 ed3) D5
    · intro L H3 ys hyl hyp hL k3 t3 D3 eL
      obtain ⟨ls, rfl, hls⟩ := strs_of (all_at hyp)
      rw [List.length_map] at hyl
      walk_at "g"
      refine w_tupL (.of eL) fun r4 H4 hr4 e4 k4 => ?_
      have kk : Kp [d] H H4 := (o2.kp (by simp)).trans (k3.trans (Kp.of k4))
      exact q H4 r4 ls ((D3.kp (M := []) (Kp.of k4) (by simp) (by simp)).mono (by omega)) kk (D0.ktK kk) e4 (by omega) hls
theorem ok_script {f fM fD : Addr} {fd fdM fdD : FuncData} (T : Txt K mg) (F : Fun K "_law_script" "_law_script" s_law_script f fd) (D_law_mixed : Df K mg "_law_mixed" s_law_mixed ["_law_cell", "_law_turn"] fM fdM) (D_law_draw : Df K mg "_law_draw" s_law_draw ["_law_deck_here", "_law_many"] fD fdD) : FnOk P w K mg base CX0 3 f fd ["_law_deck_here", "_law_base", "_law_stock_here", "_law_most"] spScript := by
  have G_law_draw : FnOk P w K mg base CX0 2 fD fdD ["_law_deck_here", "_law_many"] spDraw := ok_draw T D_law_draw.fn D_law_mixed
  refine F.ok sc_law_script (fun vs H Q E h => ?_) (fun cdv A outer s H vs Q E hr h => ?_)
  · obtain ⟨d, c, a, b, n, m, zs, bs, rfl, _⟩ := h
    rfl
  · obtain ⟨d, c, a, b, n, m, zs, bs, rfl, D0, hn, hm, hst, nad, hb, hbl, q⟩ := h
    refine ⟨_,
      (pss_cons
        (ps_set (i := 4) sc_law_script.nd rfl (.inl rfl) (pe_lst pa_nil))
      (pss_cons
        (ps_set (i := 5) sc_law_script.nd rfl (.inl rfl) (pe_call G_law_draw (hr.mono (by omega)) (by rfl) D_law_draw.g D_law_draw.fn.kp D_law_draw.b .nil pass0 (pa_cons (pv 0) (pa_cons (pe_op op_add (pv 3) pe_int) pa_nil))))
      (pss_cons
        (ps_while PassesOwn.never (pt_cmpR op_gt (pv 5) pe_int (nomark _))
          (pss_cons
            (ps_if (PW.pt (pw_and (pt_cmpR op_gt (pe_callB (r := rLen K) c_len (by rfl) T.n_len (by decide +kernel) (pa_cons (pv 1) pa_nil)) pe_int (nomark _)) (pw_and1 (pt_cmpR op_gt (pe_call G_law_draw (hr.mono (by omega)) (by rfl) D_law_draw.g D_law_draw.fn.kp D_law_draw.b .nil pass0 (pa_cons (pv 0) (pa_cons pe_int pa_nil))) pe_int (nomark _)))))
              (pss_cons
                (ps_set (i := 6) sc_law_script.nd rfl (.inl rfl) (pe_call G_law_draw (hr.mono (by omega)) (by rfl) D_law_draw.g D_law_draw.fn.kp D_law_draw.b .nil pass0 (pa_cons (pv 0) (pa_cons (pe_callB (r := rLen K) c_len (by rfl) T.n_len (by decide +kernel) (pa_cons (pv 1) pa_nil)) pa_nil))))
              (pss_cons
                (ps_set (i := 7) sc_law_script.nd rfl (.inl rfl) (pe_op op_add pe_int (pe_call G_law_draw (hr.mono (by omega)) (by rfl) D_law_draw.g D_law_draw.fn.kp D_law_draw.b .nil pass0 (pa_cons (pv 0) (pa_cons (pe_callB (c_min2 rfl) (by rfl) T.n_min (by decide +kernel) (pa_cons (pv 5) (pa_cons (pe_op op_sub (pe_callB (r := rLen K) c_len (by rfl) T.n_len (by decide +kernel) (pa_cons (pv 1) pa_nil)) (pv 6)) pa_nil))) pa_nil)))))
              (pss_one
                (ps_expr (pe_bm PySem.F.plainAttrs_list PySem.F.slot_list_append PySem.F.type_list_append mt_append (pv 4) (pa_cons (pe_tup (pa_cons pe_str (pa_cons (pv 6) (pa_cons (pv 7) pa_nil)))) pa_nil))))))
              (pss_cons
                (ps_set (i := 7) sc_law_script.nd rfl (.inl rfl) (pe_op op_add pe_int (pe_call G_law_draw (hr.mono (by omega)) (by rfl) D_law_draw.g D_law_draw.fn.kp D_law_draw.b .nil pass0 (pa_cons (pv 0) (pa_cons (pe_callB (c_min2 rfl) (by rfl) T.n_min (by decide +kernel) (pa_cons (pv 5) (pa_cons pe_int pa_nil))) pa_nil)))))
              (pss_one
                (ps_expr (pe_bm PySem.F.plainAttrs_list PySem.F.slot_list_append PySem.F.type_list_append mt_append (pv 4) (pa_cons (pe_tup (pa_cons pe_str (pa_cons (pe_callTy (r := rTupOf K) c_tupOf (by rfl) T.n_tuple (by decide +kernel) (pa_cons (pe_lc (own := [("_law_k", 8)]) (g := (gName 8)) rfl sc_law_script.nd (pi_range1 (by rfl) T.n_range (pa_cons (pv 7) pa_nil)) (blkOk_by (own := [("_law_k", 8)]) (N := N_law_script) (sc := defScope s_law_script) (by decide +kernel)) (fun _ _ _ _ _ => (pg_name (i := 8) sc_law_script.nd rfl (.inl rfl))) (fun _ _ _ _ _ => pts_nil) (fun _ _ _ _ _ => (pe_ix (r := rIxL K) ix_list (pv 2) (pe_call G_law_draw (hr.mono (by omega)) (by rfl) D_law_draw.g D_law_draw.fn.kp D_law_draw.b .nil pass0 (pa_cons (pv 0) (pa_cons (pe_callB (r := rLen K) c_len (by rfl) T.n_len (by decide +kernel) (pa_cons (pv 2) pa_nil)) pa_nil))) (fun _ _ => rfl)))) pa_nil)) pa_nil))) pa_nil))))))
          (pss_one
            (ps_set (i := 5) sc_law_script.nd rfl (.inl rfl) (pe_op op_sub (pv 5) (pv 7))))))
      (pss_one
        (ps_ret (pe_callTy (r := rTupOf K) c_tupOf (by rfl) T.n_tuple (by decide +kernel) (pa_cons (pv 4) pa_nil)))))))
      , ?_⟩
    rw [show L2.start N_law_script [V.ref d, V.ref b, V.ref a, V.int (m : Int)] = [some (.ref d), some (.ref b), some (.ref a), some (.int (m : Int)), none, none, none, none, none] from rfl]
    walk_at "x"
    refine w_new fun pl H1 hpl epl k1 => ?_
    have D1 := D0.kp (M := []) (Kp.of k1) (by simp) (by simp)
    obtain ⟨nd, nc⟩ := D0.ne1 hpl
    have nap : a ≠ pl := ne_of_none hst.1 hpl
    have off : ∀ {x : Addr} {o : HO}, H x = some o → x ≠ pl := fun {x o} e => ne_of_none e hpl
    walk_at "g"
    refine w_draw D1 (by omega) (by omega) (by omega) fun r H2 hr2 D2 o2 => ?_
    walk_at "g"
    obtain ⟨⟨dx1, ed1⟩, _⟩ := D1.at
    have tup : ∀ {H' : Hp}, Kp [d, pl] H1 H' → KT H1 H' := fun {H'} k => KT.kp k (by
      intro x hx
      have hx' : x = d ∨ x = pl := by simpa using hx
      rcases hx' with rfl | rfl
      · exact ⟨_, ed1⟩
      · exact ⟨_, epl⟩)
    refine w_whileN (fun mm σ H' => ∃ (room n' : Nat) (ps : List (Addr × Pc)) (y6 y7 : Option V), σ = [some (.ref d), some (.ref b), some (.ref a), some (.int (m : Int)), some (.ref pl), some (.int (room : Int)), y6, y7, none] ∧ mm = room ∧ Deck H' d c n' ∧ n' + 9 * room ≤ n + 1 + 9 * r ∧ Kp [d, pl] H1 H' ∧ H' pl = some (.lst (ps.map fun q => .ref q.1)) ∧ (∀ q ∈ ps, PcAt H' q.1 q.2 ∧ q.2.ok ∧ q.2.fits bs.length) ∧ sizes (ps.map (·.2)) + room = r ∧ ps.length + room ≤ r) r ?_ ?_
    · exact ⟨r, n + 1, [], _, _, rfl, rfl, D2, by omega, o2.kp (by simp), o2.get nd epl, by simp, by simp [sizes], by simp⟩
    · rintro room σ H3 ⟨_, n', ps, y6, y7, rfl, rfl, D3, hn3, k3, e3, hps, hsz, hpl2⟩
      have hb3 : H3 b = some (.tup (bs.map V.str)) := tup k3 _ _ (k1 _ _ hb)
      have hst3 := hst.kp (M := []) (Kp.of k1) (by simp) |>.kp k3 (by simp [nad, nap])
      obtain ⟨ea, hne, hz5, hzl⟩ := id hst3
      have hpos := List.length_pos_iff.mpr hne
      obtain ⟨⟨dx3, ed3⟩, _⟩ := D3.at
      walk_at "g"
      refine w_ite (fun hroom => ?_) (fun hroom => ?_)
      rotate_left
      · walk_at "g"
        refine w_tupL (.of e3) fun s4 H4 hs4 e4 k4 => ?_
        have h0 : room = 0 := by omega
        subst h0
        have kk : Kp [d] H H4 := fun x o hx e => k4 _ _ (k3 _ _ (by simpa [off e] using hx) (k1 _ _ e))
        exact q H4 s4 ps ((D3.kp (M := []) (Kp.of k4) (by simp) (by simp)).mono (by omega)) kk (D0.ktK kk) ⟨e4, fun z hz => (hps z hz).1.kt (KT.of k4)⟩ ⟨fun p hp => by
          obtain ⟨z, hz, rfl⟩ := List.mem_map.mp hp
          exact (hps z hz).2.1, by omega⟩ (by omega) fun z hz => (hps z hz).2.2
      -- one piece more
      have more : ∀ (p : Addr) (pc : Pc) (n4 : Nat) (H4 H5 : Hp) (y6 y7 : Option V), Deck H4 d c n4 → n4 + 9 * (room - pc.size) ≤ n + 1 + 9 * r → Kp [d, pl] H3 H4 → PcAt H4 p pc → pc.ok → pc.fits bs.length → pc.size ≤ room → H4 pl = some (.lst (ps.map fun q => .ref q.1)) → H5 pl = some (.lst ((ps.map fun q => V.ref q.1) ++ [.ref p])) → Off pl H4 H5 →
          ∃ m', m' < room ∧ ∃ (room' n' : Nat) (ps : List (Addr × Pc)) (y6' y7' : Option V), [some (V.ref d), some (.ref b), some (.ref a), some (.int (m : Int)), some (.ref pl), some (.int ((room : Int) - (pc.size : Int))), y6, y7, none] = [some (.ref d), some (.ref b), some (.ref a), some (.int (m : Int)), some (.ref pl), some (.int (room' : Int)), y6', y7', none] ∧ m' = room' ∧ Deck H5 d c n' ∧ n' + 9 * room' ≤ n + 1 + 9 * r ∧ Kp [d, pl] H1 H5 ∧ H5 pl = some (.lst (ps.map fun q => .ref q.1)) ∧ (∀ q ∈ ps, PcAt H5 q.1 q.2 ∧ q.2.ok ∧ q.2.fits bs.length) ∧ sizes (ps.map (·.2)) + room' = r ∧ ps.length + room' ≤ r := by
        intro p pc n4 H4 H5 y6 y7 D4 hn4 k4 hp ok fit hle e4 e5 o5
        have hpos := ok.pos
        have t45 : KT H4 H5 := KT.off o5 e4
        have t34 : KT H3 H4 := KT.kp k4 (by
          intro x hx
          have hx' : x = d ∨ x = pl := by simpa using hx
          rcases hx' with rfl | rfl
          · exact ⟨_, ed3⟩
          · exact ⟨_, e3⟩)
        refine ⟨room - pc.size, by omega, room - pc.size, n4, ps ++ [(p, pc)], y6, y7, ?_, rfl, D4.kp (M := [pl]) (o5.kp (by simp)) (by simpa using nd.symm) (by simpa using nc.symm), hn4, k3.trans (k4.trans (o5.kp (by simp))), by rw [e5, List.map_append]; rfl, fun z hz => ?_, ?_, ?_⟩
        · rw [show ((room - pc.size : Nat) : Int) = (room : Int) - (pc.size : Int) by omega]
        · rcases List.mem_append.mp hz with h | h
          · exact ⟨((hps z h).1.kt t34).kt t45, (hps z h).2⟩
          · have e : z = (p, pc) := by simpa using h
            subst e
            exact ⟨hp.kt t45, ok, fit⟩
        · rw [List.map_append, show List.map (fun x : Addr × Pc => x.2) [(p, pc)] = [pc] from rfl, sizes_snoc]
          omega
        · rw [List.length_append]
          simp only [List.length_cons, List.length_nil]
          omega
      have hpsl : ps.length ≤ 40 := by omega
      refine w_turn ?_
      refine w_seqJ (fun σ' H' => ∃ (p : Addr) (pc : Pc) (n4 : Nat) (H4 : Hp) (y6 : Option V), σ' = [some (.ref d), some (.ref b), some (.ref a), some (.int (m : Int)), some (.ref pl), some (.int (room : Int)), y6, some (.int (pc.size : Int)), none] ∧ Deck H4 d c n4 ∧ n4 + 9 * (room - pc.size) ≤ n + 1 + 9 * r ∧ Kp [d, pl] H3 H4 ∧ PcAt H4 p pc ∧ pc.ok ∧ pc.fits bs.length ∧ pc.size ≤ room ∧ H4 pl = some (.lst (ps.map fun q => .ref q.1)) ∧ H' pl = some (.lst ((ps.map fun q => V.ref q.1) ++ [.ref p])) ∧ Off pl H4 H') ?_ ?_
      · rintro σ' H5 ⟨p, pc, n4, H4, y6, rfl, D4, hn4, k4, hp, ok, fit, hle, e4, e5, o5⟩
        walk_at "g"
        exact more p pc n4 H4 H5 _ _ D4 hn4 k4 hp ok fit hle e4 e5 o5
      intro U hU
      walk_at "g"
      refine w_ite (fun hb0 => ?_) (fun hb0 => ?_)
      rotate_left
      · walk_at "g"
        refine w_draw D3 (by omega) (by omega) (by omega) fun r5 H5 hr5 D5 o5 => ?_
        obtain ⟨⟨dx5, ed5⟩, _⟩ := D5.at
        have hm5 : (r5 : Int) < 3 ∧ (r5 : Int) < room := by
          revert hr5
          split
          · intro h; omega
          · intro h; omega
        have k35 : Kp [d, pl] H3 H5 := Kp.refl.trans (o5.kp (by simp))
        have e5 := o5.get nd e3
        have ea5 := o5.get nad ea
        walk_at "g"
        refine lcp_gen (walk_range (lo := 0) (n := (1 + (r5 : Int)).toNat)) [d] (fun i y _ => ∃ z, y = .str z ∧ LineOk z) (fun i H' => Deck H' d c (n' + 1 + i)) (by omega) (fun _ _ _ _ _ h => h) (fun D hD i H1' o z => z.mut (D5.ne1 hD).1 (D5.ne1 hD).2) (fun _ _ _ _ => trivial) D5 ?_ (by intro x hx; have e : x = d := (by simpa using hx); subst e; exact ⟨_, ed5⟩) ?_
        · rintro i x H6 H7 R hi k6 t6 D6 ⟨rfl, rfl⟩ hR
          have ea6 := k6 _ _ (by simpa using nad) ea5
          refine w_name ⟨rfl, ?_⟩
          walk_at "g"
          refine w_draw D6 (by omega) (by rw [List.length_map]; omega) (by rw [List.length_map]; omega) fun r7 H8 hr7 D8 o8 => ?_
          obtain ⟨⟨dx6, ed6⟩, _⟩ := D6.at
          have ea8 := o8.get nad ea6
          obtain ⟨y, hy1, hy2⟩ := at_lt (xs := zs.map V.str) (i := (r7 : Int)) (by omega) hr7
          obtain ⟨z, hz, rfl⟩ := map_at hy1
          walk_at "g"
          exact hR _ _ ⟨z, rfl, hzl z (List.mem_of_getElem? hz)⟩ (o8.kp (by simp)) (KT.off o8 ed6) D8
        intro L H6 ys hyl hyp hL k6 t6 D6 eL
        obtain ⟨ls, rfl, hls⟩ := strs_of (all_at hyp)
        rw [List.length_map] at hyl
        walk_at "g"
        refine w_tupL (.of eL) fun rw8 H8 hr8 e8 k8 => ?_
        walk_at "g"
        refine w_new fun p H9 hp ep k9 => ?_
        have k69 : Same H6 H9 := Same.trans k8 k9
        have e9 : H9 pl = some (.lst (ps.map fun q => .ref q.1)) := k69 _ _ (k6 _ _ (by simpa using nd) e5)
        walk_at "g"
        refine w_app e9 (by rw [List.length_map]; exact small1000' (by omega)) fun H10 e10 o10 => ?_
        have hls1 : ls.length = 1 + r5 := by omega
        refine hU _ _ ⟨p, .put ls, _, H9, y6, ?_, (D6.kp (M := []) (Kp.of k69) (by simp) (by simp)), ?_, k35.trans ((k6.mono (by simp)).trans (Kp.of k69)), ⟨rw8, ep, k9 _ _ e8⟩, ⟨fun z => by rw [z] at hls1; simp at hls1; omega, hls⟩, trivial, ?_, e9, e10, o10⟩
        · show _ = [some (V.ref d), some (.ref b), some (.ref a), some (.int (m : Int)), some (.ref pl), some (.int (room : Int)), y6, some (.int (((Pc.put ls).size : Nat) : Int)), none]
          rw [show (((Pc.put ls).size : Nat) : Int) = 1 + (r5 : Int) by show ((ls.length : Nat) : Int) = _; omega]
        · show _ + 9 * (room - ls.length) ≤ _
          omega
        · show ls.length ≤ room
          omega
      walk_at "g"
      refine w_draw D3 (by omega) (by decide) (by decide) fun r4 H4 hr4 D4 o4 => ?_
      have e4 := o4.get nd e3
      have ea4 := o4.get nad ea
      have k34 : Kp [d, pl] H3 H4 := o4.kp (by simp)
      have hb4 := o4.tup ed3 hb3
      walk_at "g"
      refine w_ite (fun hd0 => ?_) (fun hd0 => ?_)
      rotate_left
      · walk_at "g"
        refine w_draw D4 (by omega) (by omega) (by omega) fun r5 H5 hr5 D5 o5 => ?_
        obtain ⟨⟨dx5, ed5⟩, _⟩ := D5.at
        have hm5 : (r5 : Int) < 3 ∧ (r5 : Int) < room := by
          revert hr5
          split
          · intro h; omega
          · intro h; omega
        have k35 : Kp [d, pl] H3 H5 := k34.trans (o5.kp (by simp))
        have e5 := o5.get nd e4
        have ea5 := o5.get nad ea4
        walk_at "g"
        refine lcp_gen (walk_range (lo := 0) (n := (1 + (r5 : Int)).toNat)) [d] (fun i y _ => ∃ z, y = .str z ∧ LineOk z) (fun i H' => Deck H' d c (n' + 1 + 1 + i)) (by omega) (fun _ _ _ _ _ h => h) (fun D hD i H1' o z => z.mut (D5.ne1 hD).1 (D5.ne1 hD).2) (fun _ _ _ _ => trivial) D5 ?_ (by intro x hx; have e : x = d := (by simpa using hx); subst e; exact ⟨_, ed5⟩) ?_
        · rintro i x H6 H7 R hi k6 t6 D6 ⟨rfl, rfl⟩ hR
          have ea6 := k6 _ _ (by simpa using nad) ea5
          refine w_name ⟨rfl, ?_⟩
          walk_at "g"
          refine w_draw D6 (by omega) (by rw [List.length_map]; omega) (by rw [List.length_map]; omega) fun r7 H8 hr7 D8 o8 => ?_
          obtain ⟨⟨dx6, ed6⟩, _⟩ := D6.at
          have ea8 := o8.get nad ea6
          obtain ⟨y, hy1, hy2⟩ := at_lt (xs := zs.map V.str) (i := (r7 : Int)) (by omega) hr7
          obtain ⟨z, hz, rfl⟩ := map_at hy1
          walk_at "g"
          exact hR _ _ ⟨z, rfl, hzl z (List.mem_of_getElem? hz)⟩ (o8.kp (by simp)) (KT.off o8 ed6) D8
        intro L H6 ys hyl hyp hL k6 t6 D6 eL
        obtain ⟨ls, rfl, hls⟩ := strs_of (all_at hyp)
        rw [List.length_map] at hyl
        walk_at "g"
        refine w_tupL (.of eL) fun rw8 H8 hr8 e8 k8 => ?_
        walk_at "g"
        refine w_new fun p H9 hp ep k9 => ?_
        have k69 : Same H6 H9 := Same.trans k8 k9
        have e9 : H9 pl = some (.lst (ps.map fun q => .ref q.1)) := k69 _ _ (k6 _ _ (by simpa using nd) e5)
        walk_at "g"
        refine w_app e9 (by rw [List.length_map]; exact small1000' (by omega)) fun H10 e10 o10 => ?_
        have hls1 : ls.length = 1 + r5 := by omega
        refine hU _ _ ⟨p, .put ls, _, H9, y6, ?_, (D6.kp (M := []) (Kp.of k69) (by simp) (by simp)), ?_, k35.trans ((k6.mono (by simp)).trans (Kp.of k69)), ⟨rw8, ep, k9 _ _ e8⟩, ⟨fun z => by rw [z] at hls1; simp at hls1; omega, hls⟩, trivial, ?_, e9, e10, o10⟩
        · show _ = [some (V.ref d), some (.ref b), some (.ref a), some (.int (m : Int)), some (.ref pl), some (.int (room : Int)), y6, some (.int (((Pc.put ls).size : Nat) : Int)), none]
          rw [show (((Pc.put ls).size : Nat) : Int) = 1 + (r5 : Int) by show ((ls.length : Nat) : Int) = _; omega]
        · show _ + 9 * (room - ls.length) ≤ _
          omega
        · show ls.length ≤ room
          omega
      rw [List.length_map] at hb0
      walk_at "g"
      refine w_draw D4 (by omega) (by rw [List.length_map]; omega) (by rw [List.length_map]; omega) fun r5 H5 hr5 D5 o5 => ?_
      rw [List.length_map] at hr5
      have e5 := o5.get nd e4
      have k35 : Kp [d, pl] H3 H5 := k34.trans (o5.kp (by simp))
      obtain ⟨⟨dx4, ed4⟩, _⟩ := D4.at
      have hb5 := o5.tup ed4 hb4
      walk_at "g"
      rw [List.length_map]
      refine w_draw D5 (by omega) (by split <;> omega) (by split <;> omega) fun r6 H6 hr6 D6 o6 => ?_
      have hm6 : (r6 : Int) < room ∧ (r6 : Int) + (r5 : Int) < bs.length := by
        revert hr6
        split
        · intro h; omega
        · intro h; omega
      have e6 := o6.get nd e5
      walk_at "g"
      refine w_new fun p H7 hp ep k7 => ?_
      have e7 := k7 _ _ e6
      walk_at "g"
      refine w_app e7 (by rw [List.length_map]; exact small1000' (by omega)) fun H8 e8 o8 => ?_
      refine hU _ _ ⟨p, .take r5 (1 + r6), _, H7, some (.int (r5 : Int)), ?_, D6.kp (M := []) (Kp.of k7) (by simp) (by simp), ?_, k35.trans ((o6.kp (by simp)).trans (Kp.of k7)), ?_, by show 1 ≤ 1 + r6; omega, by show r5 + (1 + r6) ≤ bs.length; omega, ?_, e7, e8, o8⟩
      · show _ = [some (V.ref d), some (.ref b), some (.ref a), some (.int (m : Int)), some (.ref pl), some (.int (room : Int)), some (.int (r5 : Int)), some (.int ((1 + r6 : Nat) : Int)), none]
        rw [show ((1 + r6 : Nat) : Int) = 1 + (r6 : Int) by omega]
      · show _ + 9 * (room - (1 + r6)) ≤ _
        omega
      · show H7 p = some (.tup [.str "take", .int (r5 : Int), .int ((1 + r6 : Nat) : Int)])
        rw [show ((1 + r6 : Nat) : Int) = 1 + (r6 : Int) by omega]
        exact ep
      · show 1 + r6 ≤ room
        omega
end
theorem drop_take_snoc {α : Type} {l : List α} {b k : Nat} {x : α} (h : l[b + k]? = some x) : (l.drop b).take (k + 1) = (l.drop b).take k ++ [x] := by
  rw [List.take_add_one, List.getElem?_drop, h]
  rfl
section
variable {P : Program} {w : World} {K : PySem.W.Frag} {mg : Str → Option Value} {base : Heap}
theorem ok_made {f : Addr} {fd : FuncData} (T : Txt K mg) (F : Fun K "_law_made" "_law_made" s_law_made f fd) : FnOk P w K mg base CX0 1 f fd ["_law_base", "_law_pieces"] spMade := by
  refine F.ok sc_law_made (fun vs H Q E h => ?_) (fun cdv A outer s H vs Q E hr h => ?_)
  · obtain ⟨b, s, bs, ps, rfl, _⟩ := h
    rfl
  · obtain ⟨b, s', bs, ps, rfl, hb, hbl, hS, hO, hf, q⟩ := h
    refine ⟨_,
      (pss_cons
        (ps_set (i := 2) sc_law_made.nd rfl (.inl rfl) (pe_lst pa_nil))
      (pss_cons
        (ps_for PassesOwn.never rfl (pi_tup (pv 1)) (pg_name (i := 3) sc_law_made.nd rfl (.inl rfl))
          (pss_one
            (ps_if (pt_cmpR op_eq (pe_ix (r := rIxT K) ix_tup (pv 3) pe_int (fun _ _ => rfl)) pe_str (nomark _))
              (pss_one
                (ps_for PassesOwn.never rfl (pi_range1 (by rfl) T.n_range (pa_cons (pe_ix (r := rIxT K) ix_tup (pv 3) pe_int (fun _ _ => rfl)) pa_nil)) (pg_name (i := 4) sc_law_made.nd rfl (.inl rfl))
                  (pss_one
                    (ps_expr (pe_bm PySem.F.plainAttrs_list PySem.F.slot_list_append PySem.F.type_list_append mt_append (pv 2) (pa_cons (pe_ix (r := rIxT K) ix_tup (pv 0) (pe_op op_add (pe_ix (r := rIxT K) ix_tup (pv 3) pe_int (fun _ _ => rfl)) (pv 4)) (fun _ _ => rfl)) pa_nil))))))
              (pss_one
                (ps_for PassesOwn.never rfl (pi_tup (pe_ix (r := rIxT K) ix_tup (pv 3) pe_int (fun _ _ => rfl))) (pg_name (i := 5) sc_law_made.nd rfl (.inl rfl))
                  (pss_one
                    (ps_expr (pe_bm PySem.F.plainAttrs_list PySem.F.slot_list_append PySem.F.type_list_append mt_append (pv 2) (pa_cons (pv 5) pa_nil)))))))))
      (pss_one
        (ps_ret (pe_callTy (r := rTupOf K) c_tupOf (by rfl) T.n_tuple (by decide +kernel) (pa_cons (pv 2) pa_nil))))))
      , ?_⟩
    rw [show L2.start N_law_made [V.ref b, V.ref s'] = [some (.ref b), some (.ref s'), none, none, none, none] from rfl]
    walk_at "x"
    refine w_new fun ml H1 hml eml k1 => ?_
    have off : ∀ {x : Addr} {o : HO}, H x = some o → x ∉ [ml] := fun {x o} e => by simpa using ne_of_none e hml
    have st1 := k1 _ _ hS.at'
    have b1 : H1 b = some (.tup (bs.map V.str)) := k1 _ _ hb
    walk_at "g"
    refine lp_tup (xs := ps.map fun q => .ref q.1) (fun i σ H' => ∃ (y3 y4 y5 : Option V), σ = [some (.ref b), some (.ref s'), some (.ref ml), y3, y4, y5] ∧ Kp [ml] H1 H' ∧ H' ml = some (.lst ((makes bs ((ps.take i).map (·.2))).map V.str))) ?_ ?_ ?_ ?_
    · exact ⟨_, _, _, rfl, Kp.refl, eml⟩
    · rintro i σ H' _ ⟨_, _, _, _, k, _⟩
      exact .of (k _ _ (off hS.at') st1)
    · rintro i y σ H2 hy ⟨y3, y4, y5, rfl, k2, e2⟩
      obtain ⟨z, hz, rfl⟩ := map_at hy
      have hzm := List.mem_of_getElem? hz
      have kt2 : KT H1 H2 := KT.kp k2 (by simp [eml])
      have hpc := (hS.pc z hzm).kt ((KT.of k1).trans kt2)
      have tk : (ps.take (i + 1)).map (·.2) = (ps.take i).map (·.2) ++ [z.2] := by rw [take_at hz, List.map_append]; rfl
      have hlen : (makes bs ((ps.take i).map (·.2))).length ≤ 40 := by
        rw [makes_len fun p hp => by
          obtain ⟨q', hq', rfl⟩ := List.mem_map.mp hp
          exact hf q' (List.mem_of_mem_take hq')]
        have := sizes_take (ps.map (·.2)) i
        rw [← List.map_take] at this
        have := hO.few
        omega
      have hsz : z.2.size ≤ 40 := by
        have h1 : z.2.size ≤ sizes (ps.map (·.2)) := le_sum (List.mem_map_of_mem (f := Pc.size) (List.mem_map_of_mem (f := fun q : Addr × Pc => q.2) hzm))
        have := hO.few
        omega
      have b2 := kt2 _ _ b1
      obtain ⟨za, zp⟩ := z
      cases zp with
      | take u m =>
        have hpc' : H2 za = some (.tup [.str "take", .int (u : Int), .int (m : Int)]) := hpc
        have hfit : u + m ≤ bs.length := hf _ hzm
        have hm40 : m ≤ 40 := hsz
        walk_at "g"
        refine w_yes rfl ?_
        walk_at "g"
        refine lp_range (fun k σ H' => ∃ (y4 : Option V), σ = [some (.ref b), some (.ref s'), some (.ref ml), some (.ref za), y4, y5] ∧ Kp [ml] H1 H' ∧ H' ml = some (.lst ((makes bs ((ps.take i).map (·.2)) ++ (bs.drop u).take k).map V.str))) ⟨_, rfl, k2, by rw [List.take_zero, List.append_nil]; exact e2⟩ ?_ ?_
        · rintro k σ H3 hk ⟨y4, rfl, k3, e3⟩
          have hk' : k < m := by omega
          have kt3 : KT H1 H3 := KT.kp k3 (by simp [eml])
          have hpc3 : H3 za = some (.tup [.str "take", .int (u : Int), .int (m : Int)]) := kt3 _ _ (k1 _ _ (hS.pc _ hzm))
          have b3 := kt3 _ _ b1
          have hat : (bs.map V.str)[u + k]? = some (.str bs[u + k]) := by rw [List.getElem?_map, List.getElem?_eq_getElem (by omega)]; rfl
          have at1 : atI (bs.map V.str) ((u : Int) + (0 + (k : Int))) = some (.str bs[u + k]) := by
            have := atI_nat hat
            rw [show ((u + k : Nat) : Int) = (u : Int) + (0 + (k : Int)) by omega] at this
            exact this
          walk_at "g"
          refine w_app e3 (by rw [List.length_map, List.length_append, List.length_take]; exact small1000' (by omega)) fun H4 e4 o4 => ?_
          refine ⟨_, rfl, k3.trans (o4.kp (by simp)), ?_⟩
          rw [e4, drop_take_snoc (List.getElem?_eq_getElem (show u + k < bs.length by omega)), ← List.append_assoc, List.map_append (l₂ := [_])]
          rfl
        · rintro σ H3 ⟨y4, rfl, k3, e3⟩
          refine ⟨_, _, _, rfl, k3, ?_⟩
          rw [show (m : Int).toNat = m by omega] at e3
          rw [e3, tk, makes_snoc]
          rfl
      | put ls =>
        obtain ⟨r, hpc1, hpc2⟩ := hpc
        have hpc2' : H2 r = some (.tup (ls.map V.str)) := hpc2
        have hl40 : ls.length ≤ 40 := hsz
        walk_at "g"
        refine w_no (by decide) ?_
        walk_at "g"
        refine lp_tup (xs := ls.map V.str) (fun k σ H' => ∃ (y5 : Option V), σ = [some (.ref b), some (.ref s'), some (.ref ml), some (.ref za), y4, y5] ∧ Kp [ml] H1 H' ∧ H' ml = some (.lst ((makes bs ((ps.take i).map (·.2)) ++ ls.take k).map V.str))) ⟨_, rfl, k2, by rw [List.take_zero, List.append_nil]; exact e2⟩ ?_ ?_ ?_
        · rintro k σ H' _ ⟨_, _, k3, _⟩
          have kt3 : KT H1 H' := KT.kp k3 (by simp [eml])
          obtain ⟨r', h1, h2⟩ := (hS.pc _ hzm).kt ((KT.of k1).trans kt3)
          obtain ⟨r'', h1', h2'⟩ := hS.pc _ hzm
          have h1a := kt2 _ _ (k1 _ _ h1')
          rw [hpc1] at h1a
          have e : r = r'' := by simpa using h1a
          subst e
          exact .of (kt3 _ _ (k1 _ _ h2'))
        · rintro k x σ H3 hx ⟨y5, rfl, k3, e3⟩
          obtain ⟨zl, hzl, rfl⟩ := map_at hx
          walk_at "g"
          refine w_app e3 (by rw [List.length_map, List.length_append, List.length_take]; exact small1000' (by omega)) fun H4 e4 o4 => ?_
          refine ⟨_, rfl, k3.trans (o4.kp (by simp)), ?_⟩
          rw [e4, take_at hzl, ← List.append_assoc, List.map_append (l₂ := [_])]
          rfl
        · rintro σ H3 ⟨y5, rfl, k3, e3⟩
          refine ⟨_, _, _, rfl, k3, ?_⟩
          rw [List.length_map, List.take_length] at e3
          rw [e3, tk, makes_snoc]
          rfl
    · rintro σ H2 ⟨y3, y4, y5, rfl, k2, e2⟩
      rw [List.length_map, List.take_length] at e2
      walk_at "g"
      refine w_tupL (.of e2) fun r H3 hr3 e3 k3 => ?_
      exact q H3 r (fun x o e => k3 _ _ (k2 _ _ (off e) (k1 _ _ e))) e3
end
section
variable {P : Program} {w : World} {K : PySem.W.Frag} {mg : Str → Option Value} {base : Heap}
theorem ok_cost {f : Addr} {fd : FuncData} (T : Txt K mg) (F : Fun K "_law_cost" "_law_cost" s_law_cost f fd) : FnOk P w K mg base CX0 1 f fd ["_law_pieces", "_law_by_take", "_law_by_put"] spCost := by
  refine F.ok sc_law_cost (fun vs H Q E h => ?_) (fun cdv A outer s H vs Q E hr h => ?_)
  · obtain ⟨s, t, p, ps, rfl, _⟩ := h
    rfl
  · obtain ⟨s', t, p, ps, rfl, hp0, hp1, hS, q⟩ := h
    refine ⟨_,
      (pss_cons
        (ps_set (i := 3) sc_law_cost.nd rfl (.inl rfl) pe_int)
      (pss_cons
        (ps_for PassesOwn.never rfl (pi_tup (pv 0)) (pg_name (i := 4) sc_law_cost.nd rfl (.inl rfl))
          (pss_one
            (ps_if (pt_cmpR op_eq (pe_ix (r := rIxT K) ix_tup (pv 4) pe_int (fun _ _ => rfl)) pe_str (nomark _))
              (pss_one
                (ps_set (i := 3) sc_law_cost.nd rfl (.inl rfl) (pe_op op_add (pv 3) (pv 1))))
              (pss_one
                (ps_set (i := 3) sc_law_cost.nd rfl (.inl rfl) (pe_op op_add (pv 3) (pe_op op_mul (pv 2) (pe_callB (r := rLen K) c_len (by rfl) T.n_len (by decide +kernel) (pa_cons (pe_ix (r := rIxT K) ix_tup (pv 4) pe_int (fun _ _ => rfl)) pa_nil)))))))))
      (pss_one
        (ps_ret (pv 3)))))
      , ?_⟩
    rw [show L2.start N_law_cost [V.ref s', V.int t, V.int p] = [some (.ref s'), some (.int t), some (.int p), none, none] from rfl]
    have st := hS.at'
    walk_at "x"
    refine lp_tup (xs := ps.map fun q => .ref q.1) (fun i σ H' => H' = H ∧ ∃ y4 : Option V, σ = [some (.ref s'), some (.int t), some (.int p), some (.int (costs t p ((ps.take i).map (·.2)))), y4]) ⟨rfl, _, rfl⟩ ?_ ?_ ?_
    · rintro i σ H' _ ⟨rfl, _⟩
      exact .of st
    · rintro i y σ H' hy ⟨rfl, y4, rfl⟩
      obtain ⟨z, hz, rfl⟩ := map_at hy
      have hzm := List.mem_of_getElem? hz
      have hpc := hS.pc z hzm
      have tk : (ps.take (i + 1)).map (·.2) = (ps.take i).map (·.2) ++ [z.2] := by rw [take_at hz, List.map_append]; rfl
      obtain ⟨za, zp⟩ := z
      cases zp with
      | take u m =>
        have hpc' : H' za = some (.tup [.str "take", .int (u : Int), .int (m : Int)]) := hpc
        walk_at "g"
        refine w_yes rfl ?_
        walk_at "g"
        refine ⟨rfl, some (.ref za), ?_⟩
        rw [tk, costs_snoc]
        rfl
      | put ls =>
        obtain ⟨r, hpc1, hpc2⟩ := hpc
        have hpc2' : H' r = some (.tup (ls.map V.str)) := hpc2
        walk_at "g"
        refine w_no (by decide) ?_
        walk_at "g"
        refine ⟨rfl, some (.ref za), ?_⟩
        rw [tk, costs_snoc, List.length_map]
        rfl
    · rintro σ H' ⟨rfl, y4, rfl⟩
      rw [List.length_map, List.take_length]
      walk_at "g"
      exact q
end
/-! ### scripts joined -/
def Pc.cut (b m : Nat) : Pc → Pc
  | .take u _ => .take (u + b) m
  | .put ls => .put ((ls.drop b).take m)
def cutW (b e : Nat) : List Pc → List Pc
  | [] => []
  | p :: ps => (if b < min p.size e then [p.cut b (min p.size e - b)] else []) ++ cutW (b - p.size) (e - p.size) ps
def joinP (one : List Pc) : Pc → List Pc
  | .take u m => cutW u (u + m) one
  | .put ls => [.put ls]
def joins (one other : List Pc) : List Pc := (other.map (joinP one)).flatten
theorem cut_size {p : Pc} {b m : Nat} (h : b + m ≤ p.size) : (p.cut b m).size = m := by
  cases p with
  | take u k => rfl
  | put ls =>
    show ((ls.drop b).take m).length = m
    have h' : b + m ≤ ls.length := h
    rw [List.length_take, List.length_drop]
    omega
theorem cut_cut {p : Pc} {b m b' m' : Nat} (h : b' + m' ≤ m) : (p.cut b m).cut b' m' = p.cut (b + b') m' := by
  cases p with
  | take u k =>
    show Pc.take (u + b + b') m' = Pc.take (u + (b + b')) m'
    rw [Nat.add_assoc]
  | put ls =>
    show Pc.put ((((ls.drop b).take m).drop b').take m') = Pc.put ((ls.drop (b + b')).take m')
    rw [List.drop_take, List.drop_drop, List.take_take]
    congr 2
    omega
theorem sizes_cons (p : Pc) (ps : List Pc) : sizes (p :: ps) = p.size + sizes ps := by unfold sizes; simp
theorem sizes_app (ps qs : List Pc) : sizes (ps ++ qs) = sizes ps + sizes qs := by unfold sizes; rw [List.map_append, List.sum_append]
theorem cutW_nil : ∀ {ps : List Pc} {b e : Nat}, e ≤ b → cutW b e ps = []
  | [], _, _, _ => rfl
  | p :: ps, b, e, h => by
    rw [cutW, if_neg (by omega), cutW_nil (by omega)]
    rfl
theorem cutW_far : ∀ {ps : List Pc} {b e : Nat}, sizes ps ≤ b → cutW b e ps = []
  | [], _, _, _ => rfl
  | p :: ps, b, e, h => by
    rw [sizes_cons] at h
    rw [cutW, if_neg (by omega), cutW_far (by omega)]
    rfl
theorem cutW_app : ∀ (xs ys : List Pc) (b e : Nat), cutW b e (xs ++ ys) = cutW b e xs ++ cutW (b - sizes xs) (e - sizes xs) ys
  | [], ys, b, e => by simp [cutW, sizes]
  | p :: xs, ys, b, e => by
    rw [List.cons_append, cutW, cutW_app xs ys, cutW, List.append_assoc, sizes_cons, Nat.sub_sub, Nat.sub_sub]
theorem cutW_sizes : ∀ (ps : List Pc) (b e : Nat), sizes (cutW b e ps) = min (sizes ps) e - b
  | [], b, e => by simp [cutW, sizes]
  | p :: ps, b, e => by
    rw [cutW, sizes_app, cutW_sizes ps, sizes_cons]
    by_cases h : b < min p.size e
    · rw [if_pos h, show sizes [p.cut b (min p.size e - b)] = min p.size e - b by rw [sizes_cons, cut_size (by omega)]; simp [sizes]]
      omega
    · rw [if_neg h]
      show 0 + _ = _
      omega
theorem cutW_cutW : ∀ (ps : List Pc) (b e b' e' : Nat), cutW b' e' (cutW b e ps) = cutW (b + b') (min e (b + e')) ps
  | [], b, e, b', e' => rfl
  | p :: ps, b, e, b', e' => by
    rw [cutW, cutW_app, cutW_cutW ps, cutW]
    by_cases h : b < min p.size e
    · rw [if_pos h]
      have hs : (p.cut b (min p.size e - b)).size = min p.size e - b := cut_size (by omega)
      rw [show sizes [p.cut b (min p.size e - b)] = min p.size e - b by rw [sizes_cons, hs]; simp [sizes]]
      congr 1
      · rw [cutW, cutW, List.append_nil, hs]
        by_cases h2 : b' < min (min p.size e - b) e'
        · rw [if_pos h2, if_pos (by omega), cut_cut (by omega)]
          congr 2
          omega
        · rw [if_neg h2, if_neg (by omega)]
      · by_cases h3 : p.size ≤ e
        · congr 1
          · omega
          · omega
        · rw [cutW_nil (by omega), cutW_nil (by omega)]
    · rw [if_neg h, if_neg (by omega), List.nil_append]
      show cutW b' e' [] ++ _ = _
      rw [show cutW b' e' [] = [] from rfl, List.nil_append, show sizes [] = 0 from rfl, Nat.sub_zero, Nat.sub_zero]
      by_cases h3 : p.size ≤ b
      · congr 1
        · omega
        · omega
      · rw [cutW_nil (by omega), cutW_nil (by omega)]
theorem cutW_all : ∀ (ps : List Pc), cutW 0 (sizes ps) ps = ps.filter fun p => decide (0 < p.size)
  | [] => rfl
  | p :: ps => by
    rw [cutW, sizes_cons, Nat.zero_sub, Nat.add_sub_cancel_left, cutW_all ps, List.filter_cons]
    by_cases h : 0 < p.size
    · rw [if_pos (by omega), if_pos (decide_eq_true h)]
      have e : p.cut 0 (min p.size (p.size + sizes ps) - 0) = p := by
        cases p with
        | take u m =>
          show Pc.take (u + 0) (min m (m + sizes ps) - 0) = Pc.take u m
          congr 1
          omega
        | put ls =>
          show Pc.put ((ls.drop 0).take (min ls.length (ls.length + sizes ps) - 0)) = Pc.put ls
          rw [List.drop_zero, List.take_of_length_le (by omega)]
      rw [e]
      rfl
    · rw [if_neg (by omega), if_neg (by simpa using h)]
      rfl
theorem joinP_size {one : List Pc} {p : Pc} (h : p.fits (sizes one)) : sizes (joinP one p) = p.size := by
  cases p with
  | take u m =>
    have h' : u + m ≤ sizes one := h
    show sizes (cutW u (u + m) one) = m
    rw [cutW_sizes]
    omega
  | put ls => show sizes [Pc.put ls] = ls.length; simp [sizes, Pc.size]
theorem joinP_cut {one : List Pc} {p : Pc} (b e : Nat) (h : b < min p.size e) : cutW b e (joinP one p) = joinP one (p.cut b (min p.size e - b)) := by
  cases p with
  | take u m =>
    have h' : b < min m e := h
    show cutW b e (cutW u (u + m) one) = cutW (u + b) (u + b + (min m e - b)) one
    rw [cutW_cutW]
    congr 1
    omega
  | put ls =>
    show cutW b e [Pc.put ls] = [Pc.put ((ls.drop b).take (min ls.length e - b))]
    rw [cutW, if_pos h]
    rfl
theorem joinP_cut0 {one : List Pc} {p : Pc} (b e : Nat) (hf : p.fits (sizes one)) (h : ¬ b < min p.size e) : cutW b e (joinP one p) = [] := by
  have hs := joinP_size hf
  by_cases h1 : e ≤ b
  · exact cutW_nil h1
  · exact cutW_far (by omega)
theorem joins_cons (one : List Pc) (p : Pc) (ps : List Pc) : joins one (p :: ps) = joinP one p ++ joins one ps := by unfold joins; simp
theorem joins_app (one ps qs : List Pc) : joins one (ps ++ qs) = joins one ps ++ joins one qs := by unfold joins; simp
theorem joins_size {one : List Pc} : ∀ {other : List Pc}, (∀ p ∈ other, p.fits (sizes one)) → sizes (joins one other) = sizes other
  | [], _ => rfl
  | p :: ps, h => by rw [joins_cons, sizes_app, joinP_size (h p (by simp)), joins_size fun q hq => h q (by simp [hq]), sizes_cons]
theorem cut_joins {one : List Pc} : ∀ {other : List Pc}, (∀ p ∈ other, p.fits (sizes one)) → ∀ b e, cutW b e (joins one other) = joins one (cutW b e other)
  | [], _, b, e => rfl
  | p :: ps, h, b, e => by
    have hp := h p (by simp)
    rw [joins_cons, cutW_app, joinP_size hp, cut_joins fun q hq => h q (by simp [hq]), cutW, joins_app]
    congr 1
    by_cases hb : b < min p.size e
    · rw [if_pos hb, joinP_cut b e hb]
      show _ = joins one [_]
      unfold joins
      simp
    · rw [if_neg hb, joinP_cut0 b e hp hb]
      rfl
theorem joins_assoc {one other third : List Pc} (h1 : ∀ p ∈ other, p.fits (sizes one)) : joins (joins one other) third = joins one (joins other third) := by
  induction third with
  | nil => rfl
  | cons p ps ih =>
    rw [joins_cons, joins_cons, joins_app, ih]
    congr 1
    cases p with
    | take u m => exact cut_joins h1 u (u + m)
    | put ls => rfl
/-- what is made -/
theorem make_cut {base : List Str} {p : Pc} {b m : Nat} (hf : p.fits base.length) (h : b + m ≤ p.size) : (p.cut b m).make base = ((p.make base).drop b).take m := by
  cases p with
  | take u k =>
    have h' : b + m ≤ k := h
    show (base.drop (u + b)).take m = (((base.drop u).take k).drop b).take m
    rw [List.drop_take, List.drop_drop, List.take_take]
    congr 1
    omega
  | put ls => rfl
theorem makes_app (base : List Str) (ps qs : List Pc) : makes base (ps ++ qs) = makes base ps ++ makes base qs := by unfold makes; simp
theorem makes_cons (base : List Str) (p : Pc) (ps : List Pc) : makes base (p :: ps) = p.make base ++ makes base ps := by unfold makes; simp
theorem makes_cutW {base : List Str} : ∀ {ps : List Pc}, (∀ p ∈ ps, p.fits base.length) → ∀ b e, makes base (cutW b e ps) = ((makes base ps).drop b).take (e - b)
  | [], _, b, e => by simp [cutW, makes]
  | p :: ps, h, b, e => by
    have hp := h p (by simp)
    have hl := make_len hp
    rw [cutW, makes_app, makes_cutW (fun q hq => h q (by simp [hq])), makes_cons, List.drop_append, List.take_append]
    congr 1
    · by_cases hb : b < min p.size e
      · rw [if_pos hb, makes_cons, make_cut hp (by omega)]
        show _ ++ [] = _
        rw [List.append_nil]
        by_cases h2 : p.size ≤ e
        · rw [show min p.size e - b = p.size - b by omega, List.take_of_length_le (by rw [List.length_drop]; omega), List.take_of_length_le (by rw [List.length_drop]; omega)]
        · rw [show min p.size e - b = e - b by omega]
      · rw [if_neg hb]
        show [] = _
        by_cases h2 : e ≤ b
        · rw [show e - b = 0 by omega, List.take_zero]
        · rw [List.drop_eq_nil_of_le (by omega), List.take_nil]
    · rw [hl, List.length_drop, hl]
      congr 1
      omega
theorem makes_joins {base : List Str} {one : List Pc} (h1 : ∀ p ∈ one, p.fits base.length) : ∀ {other : List Pc}, makes base (joins one other) = makes (makes base one) other
  | [] => rfl
  | p :: ps => by
    rw [joins_cons, makes_app, makes_joins h1, makes_cons]
    congr 1
    cases p with
    | take u m =>
      show makes base (cutW u (u + m) one) = ((makes base one).drop u).take m
      rw [makes_cutW h1, Nat.add_sub_cancel_left]
    | put ls =>
      show makes base [Pc.put ls] = ls
      rw [makes_cons]
      show ls ++ [] = ls
      rw [List.append_nil]
theorem cut_ok {p : Pc} {b m : Nat} (hp : p.ok) (h1 : 1 ≤ m) (h : b + m ≤ p.size) : (p.cut b m).ok := by
  cases p with
  | take u k => exact h1
  | put ls =>
    refine ⟨fun z => ?_, fun z hz => hp.2 z (List.mem_of_mem_drop (List.mem_of_mem_take hz))⟩
    have h' : b + m ≤ ls.length := h
    have := congrArg List.length z
    rw [List.length_take, List.length_drop] at this
    simp at this
    omega
theorem cut_fits {p : Pc} {b m n : Nat} (hf : p.fits n) (h : b + m ≤ p.size) : (p.cut b m).fits n := by
  cases p with
  | take u k =>
    have hf' : u + k ≤ n := hf
    have h' : b + m ≤ k := h
    show u + b + m ≤ n
    omega
  | put ls => trivial
theorem cutW_ok : ∀ {ps : List Pc} {b e : Nat}, (∀ p ∈ ps, p.ok) → ∀ q ∈ cutW b e ps, q.ok
  | [], _, _, _, q, hq => by cases hq
  | p :: ps, b, e, h, q, hq => by
    rw [cutW] at hq
    rcases List.mem_append.mp hq with hq | hq
    · by_cases hb : b < min p.size e
      · rw [if_pos hb] at hq
        have e' : q = p.cut b (min p.size e - b) := by simpa using hq
        rw [e']
        exact cut_ok (h p (by simp)) (by omega) (by omega)
      · rw [if_neg hb] at hq
        cases hq
    · exact cutW_ok (fun r hr => h r (by simp [hr])) q hq
theorem cutW_fits {n : Nat} : ∀ {ps : List Pc} {b e : Nat}, (∀ p ∈ ps, p.fits n) → ∀ q ∈ cutW b e ps, q.fits n
  | [], _, _, _, q, hq => by cases hq
  | p :: ps, b, e, h, q, hq => by
    rw [cutW] at hq
    rcases List.mem_append.mp hq with hq | hq
    · by_cases hb : b < min p.size e
      · rw [if_pos hb] at hq
        have e' : q = p.cut b (min p.size e - b) := by simpa using hq
        rw [e']
        exact cut_fits (h p (by simp)) (by omega)
      · rw [if_neg hb] at hq
        cases hq
    · exact cutW_fits (fun r hr => h r (by simp [hr])) q hq
theorem joins_ok {n : Nat} {one other : List Pc} (h1 : ∀ p ∈ one, p.ok ∧ p.fits n) (h2 : ∀ p ∈ other, p.ok) : ∀ q ∈ joins one other, q.ok ∧ q.fits n := by
  intro q hq
  obtain ⟨l, hl, hq⟩ := List.mem_flatten.mp hq
  obtain ⟨p, hp, rfl⟩ := List.mem_map.mp hl
  cases p with
  | take u m => exact ⟨cutW_ok (fun r hr => (h1 r hr).1) q hq, cutW_fits (fun r hr => (h1 r hr).2) q hq⟩
  | put ls =>
    have e : q = .put ls := by simpa [joinP] using hq
    rw [e]
    exact ⟨h2 _ hp, trivial⟩
/-! ### the least script: what stands in the base, the prices, and that none costs less -/
def cp : List Str → List Str → Nat
  | x :: xs, y :: ys => if x = y then cp xs ys + 1 else 0
  | _, _ => 0
theorem cp_nil (ys : List Str) : cp [] ys = 0 := by cases ys <;> rfl
theorem cp_nilr (xs : List Str) : cp xs [] = 0 := by cases xs <;> rfl
theorem cp_spec : ∀ (xs ys : List Str), cp xs ys ≤ xs.length ∧ cp xs ys ≤ ys.length ∧ xs.take (cp xs ys) = ys.take (cp xs ys)
  | [], ys => by rw [cp_nil]; simp
  | x :: xs, [] => by rw [cp_nilr]; simp
  | x :: xs, y :: ys => by
    obtain ⟨h1, h2, h3⟩ := cp_spec xs ys
    rw [cp]
    split
    · rename_i e
      subst e
      simp only [List.length_cons, List.take_succ_cons, h3]
      exact ⟨by omega, by omega, trivial⟩
    · simp
theorem cp_max : ∀ (xs ys : List Str) (m : Nat), m ≤ xs.length → m ≤ ys.length → xs.take m = ys.take m → m ≤ cp xs ys
  | _, _, 0, _, _, _ => Nat.zero_le _
  | [], ys, m + 1, h, _, _ => by simp at h
  | x :: xs, [], m + 1, _, h, _ => by simp at h
  | x :: xs, y :: ys, m + 1, h1, h2, h3 => by
    rw [List.take_succ_cons, List.take_succ_cons, List.cons.injEq] at h3
    simp only [List.length_cons] at h1 h2
    have := cp_max xs ys m (by omega) (by omega) h3.2
    rw [cp, if_pos h3.1]
    omega
theorem take_less {α : Type} {xs ys : List α} {m k : Nat} (h : xs.take m = ys.take m) (hk : k ≤ m) : xs.take k = ys.take k := by
  have := congrArg (List.take k) h
  rw [List.take_take, List.take_take, Nat.min_eq_left hk] at this
  exact this
/-- a stretch of m lines from place b on stands in the base at w -/
def Stands (base rows : List Str) (b w m : Nat) : Prop := w + m ≤ base.length ∧ b + m ≤ rows.length ∧ (base.drop w).take m = (rows.drop b).take m
structure LongOk (base rows : List Str) (fs : List (Nat × Nat)) : Prop where
  len : fs.length = rows.length
  st : ∀ b f, fs[b]? = some f → Stands base rows b f.2 f.1
  mx : ∀ b f, fs[b]? = some f → ∀ w m, Stands base rows b w m → m ≤ f.1
theorem stands_cp {base rows : List Str} {b w : Nat} (hw : w ≤ base.length) (hb : b ≤ rows.length) : Stands base rows b w (cp (base.drop w) (rows.drop b)) := by
  obtain ⟨h1, h2, h3⟩ := cp_spec (base.drop w) (rows.drop b)
  rw [List.length_drop] at h1 h2
  exact ⟨by omega, by omega, h3⟩
theorem stands_le {base rows : List Str} {b w m : Nat} (h : Stands base rows b w m) : m ≤ cp (base.drop w) (rows.drop b) :=
  cp_max _ _ _ (by rw [List.length_drop]; have := h.1; omega) (by rw [List.length_drop]; have := h.2.1; omega) h.2.2
theorem Stands.less {base rows : List Str} {b w m k : Nat} (h : Stands base rows b w m) (hk : k ≤ m) : Stands base rows b w k :=
  ⟨by have := h.1; omega, by have := h.2.1; omega, take_less h.2.2 hk⟩
/-- what may stand as the piece ahead of place k + 1, and its price -/
def Cand (base rows : List Str) (t p : Int) (ds : List Int) (k : Nat) (c : Int) (pc : Pc) : Prop :=
  (∃ row, rows[k]? = some row ∧ pc = .put [row] ∧ c = ds.getD k 0 + p) ∨ ∃ b w, b ≤ k ∧ pc = .take w (k + 1 - b) ∧ c = ds.getD b 0 + t ∧ Stands base rows b w (k + 1 - b)
structure DistOk (base rows : List Str) (t p : Int) (ds : List Int) (pcs : List Pc) : Prop where
  len : ds.length = pcs.length + 1
  le : pcs.length ≤ rows.length
  d0 : ds.getD 0 0 = 0
  cand : ∀ k pc, pcs[k]? = some pc → Cand base rows t p ds k (ds.getD (k + 1) 0) pc
  put : ∀ k, k < pcs.length → ds.getD (k + 1) 0 ≤ ds.getD k 0 + p
  take : ∀ k, k < pcs.length → ∀ b w, b ≤ k → Stands base rows b w (k + 1 - b) → ds.getD (k + 1) 0 ≤ ds.getD b 0 + t
theorem getD_app {ds : List Int} {c : Int} {i : Nat} (h : i < ds.length) : (ds ++ [c]).getD i 0 = ds.getD i 0 := by
  rw [List.getD_eq_getElem?_getD, List.getD_eq_getElem?_getD, List.getElem?_append_left h]
theorem getD_end {ds : List Int} {c : Int} : (ds ++ [c]).getD ds.length 0 = c := by
  rw [List.getD_eq_getElem?_getD, List.getElem?_append_right (Nat.le_refl _)]
  simp
theorem Cand.app {base rows : List Str} {t p : Int} {ds : List Int} {k : Nat} {c c' : Int} {pc : Pc} (h : Cand base rows t p ds k c pc) (hk : k < ds.length) : Cand base rows t p (ds ++ [c']) k c pc := by
  rcases h with ⟨row, h1, h2, h3⟩ | ⟨b, w, h1, h2, h3, h4⟩
  · exact .inl ⟨row, h1, h2, by rw [getD_app hk]; exact h3⟩
  · exact .inr ⟨b, w, h1, h2, by rw [getD_app (by omega)]; exact h3, h4⟩
theorem DistOk.nil (base rows : List Str) (t p : Int) : DistOk base rows t p [0] [] :=
  ⟨rfl, Nat.zero_le _, rfl, fun k pc h => by simp at h, fun k h => absurd h (by simp), fun k h => absurd h (by simp)⟩
theorem DistOk.snoc {base rows : List Str} {t p : Int} {ds : List Int} {pcs : List Pc} {c : Int} {pc : Pc} (D : DistOk base rows t p ds pcs) (hl : pcs.length < rows.length) (hc : Cand base rows t p ds pcs.length c pc) (hp : c ≤ ds.getD pcs.length 0 + p)
    (ht : ∀ b w, b ≤ pcs.length → Stands base rows b w (pcs.length + 1 - b) → c ≤ ds.getD b 0 + t) : DistOk base rows t p (ds ++ [c]) (pcs ++ [pc]) := by
  have hlen := D.len
  have hend : (ds ++ [c]).getD (pcs.length + 1) 0 = c := by rw [← hlen]; exact getD_end
  refine ⟨by simp [hlen], by simp; omega, by rw [getD_app (by omega)]; exact D.d0, ?_, ?_, ?_⟩
  · intro k x h
    by_cases hk : k < pcs.length
    · rw [List.getElem?_append_left hk] at h
      rw [getD_app (by omega)]
      exact (D.cand k x h).app (by omega)
    · have hk2 : k = pcs.length := by
        have := (List.getElem?_eq_some_iff.mp h).1
        simp at this
        omega
      subst hk2
      rw [List.getElem?_append_right (Nat.le_refl _)] at h
      have ex : pc = x := by simpa using h
      subst ex
      rw [hend]
      exact hc.app (by omega)
  · intro k hk
    rw [List.length_append, List.length_singleton] at hk
    by_cases h : k < pcs.length
    · rw [getD_app (by omega), getD_app (by omega)]
      exact D.put k h
    · have : k = pcs.length := by omega
      subst this
      rw [hend, getD_app (by omega)]
      exact hp
  · intro k hk b w hb hs
    rw [List.length_append, List.length_singleton] at hk
    by_cases h : k < pcs.length
    · rw [getD_app (by omega), getD_app (by omega)]
      exact D.take k h b w hb hs
    · have : k = pcs.length := by omega
      subst this
      rw [hend, getD_app (by omega)]
      exact ht b w hb hs
theorem costs_cons (t q : Int) (p : Pc) (ps : List Pc) : costs t q (p :: ps) = p.cost t q + costs t q ps := by unfold costs; simp
/-- no script that makes the lines costs less -/
theorem least_le {base rows : List Str} {t p : Int} {ds : List Int} {pcs : List Pc} (D : DistOk base rows t p ds pcs) (hl : pcs.length = rows.length) :
    ∀ (S : List Pc) (k : Nat), k ≤ rows.length → (∀ q ∈ S, q.ok ∧ q.fits base.length) → makes base S = rows.drop k → ds.getD rows.length 0 ≤ ds.getD k 0 + costs t p S
  | [], k, hk, _, hm => by
    have : rows.drop k = [] := hm.symm
    have := congrArg List.length this
    rw [List.length_drop, List.length_nil] at this
    have e : k = rows.length := by omega
    subst e
    show _ ≤ _ + (0 : Int)
    omega
  | q :: S, k, hk, ho, hm => by
    obtain ⟨hq, hf⟩ := ho q (by simp)
    rw [makes_cons] at hm
    have hql : (q.make base).length = q.size := by
      cases q with
      | take b m =>
        have : b + m ≤ base.length := hf
        show ((base.drop b).take m).length = m
        rw [List.length_take, List.length_drop]
        omega
      | put ls => rfl
    have hlen := congrArg List.length hm
    rw [List.length_append, List.length_drop, hql] at hlen
    have h1 : q.make base = (rows.drop k).take q.size := by
      rw [← hm, ← hql, List.take_left']
      rfl
    have h2 : makes base S = rows.drop (k + q.size) := by
      rw [← List.drop_drop, ← hm, ← hql, List.drop_left']
      rfl
    have ih := least_le D hl S (k + q.size) (by omega) (fun x hx => ho x (by simp [hx])) h2
    have step : ds.getD (k + q.size) 0 ≤ ds.getD k 0 + q.cost t p := by
      cases q with
      | take w m =>
        have hm1 : 1 ≤ m := hq
        have hf' : w + m ≤ base.length := hf
        have hs : k + (Pc.take w m).size = k + m := rfl
        have hkm : k + m ≤ rows.length := by rw [← hs]; omega
        have := D.take (k + m - 1) (by omega) k w (by omega) (by
          rw [show k + m - 1 + 1 - k = m by omega]
          exact ⟨hf', hkm, h1⟩)
        rw [show k + m - 1 + 1 = k + m by omega] at this
        exact this
      | put ls =>
        have hs : k + (Pc.put ls).size = k + ls.length := rfl
        have hkm : k + ls.length ≤ rows.length := by rw [← hs]; omega
        have it : ∀ j, j ≤ ls.length → ds.getD (k + j) 0 ≤ ds.getD k 0 + p * (j : Int) := by
          intro j
          induction j with
          | zero => intro _; simp
          | succ j ih =>
            intro hj
            have g1 := ih (by omega)
            have g2 := D.put (k + j) (by omega)
            have g3 : p * ((j + 1 : Nat) : Int) = p * (j : Int) + p := by
              rw [Int.natCast_add, Int.mul_add]
              simp
            rw [show k + (j + 1) = k + j + 1 by omega, g3]
            omega
        exact it ls.length (Nat.le_refl _)
    rw [costs_cons]
    omega
/-- where the script stands that is being put together from the end -/
structure BackOk (base rows : List Str) (t p : Int) (ds : List Int) (k : Nat) (S : List Pc) : Prop where
  ok : ∀ q ∈ S, q.ok ∧ q.fits base.length
  mks : makes base S = rows.drop k
  cost : ds.getD k 0 + costs t p S = ds.getD rows.length 0
  size : sizes S = rows.length - k
theorem BackOk.nil {base rows : List Str} {t p : Int} {ds : List Int} : BackOk base rows t p ds rows.length [] :=
  ⟨by simp, by simp [makes], by show _ + (0 : Int) = _; omega, by simp [sizes]⟩
theorem drop_cons {rows : List Str} {k : Nat} {row : Str} (h : rows[k]? = some row) : rows.drop k = row :: rows.drop (k + 1) := by
  obtain ⟨hk, rfl⟩ := List.getElem?_eq_some_iff.mp h
  exact List.drop_eq_getElem_cons hk
theorem BackOk.put {base rows : List Str} {t p : Int} {ds : List Int} {k : Nat} {S : List Pc} {row : Str} (B : BackOk base rows t p ds (k + 1) S) (hr : rows[k]? = some row) (ho : LineOk row) (hd : ds.getD (k + 1) 0 = ds.getD k 0 + p) : BackOk base rows t p ds k (.put [row] :: S) := by
  have hk := (List.getElem?_eq_some_iff.mp hr).1
  refine ⟨fun q hq => ?_, ?_, ?_, ?_⟩
  · rcases List.mem_cons.mp hq with rfl | h
    · exact ⟨⟨by simp, by simpa using ho⟩, trivial⟩
    · exact B.ok q h
  · rw [makes_cons, B.mks, drop_cons hr]
    rfl
  · have := B.cost
    have e : (Pc.put [row]).cost t p = p := by show p * (([row] : List Str).length : Int) = p; simp
    rw [costs_cons, e]
    omega
  · rw [sizes_cons, B.size]
    show 1 + _ = _
    omega
theorem BackOk.glue {base rows : List Str} {t p : Int} {ds : List Int} {k : Nat} {S : List Pc} {row : Str} {ls : List Str} (B : BackOk base rows t p ds (k + 1) (.put ls :: S)) (hr : rows[k]? = some row) (ho : LineOk row) (hd : ds.getD (k + 1) 0 = ds.getD k 0 + p) : BackOk base rows t p ds k (.put ([row] ++ ls) :: S) := by
  have hk := (List.getElem?_eq_some_iff.mp hr).1
  refine ⟨fun q hq => ?_, ?_, ?_, ?_⟩
  · rcases List.mem_cons.mp hq with rfl | h
    · refine ⟨⟨by simp, fun z hz => ?_⟩, trivial⟩
      rcases List.mem_append.mp hz with h | h
      · have : z = row := by simpa using h
        rw [this]; exact ho
      · exact (B.ok (.put ls) (by simp)).1.2 z h
    · exact B.ok q (by simp [h])
  · have := B.mks
    rw [makes_cons] at this
    rw [makes_cons, drop_cons hr, ← this]
    rfl
  · have := B.cost
    rw [costs_cons] at this
    have e1 : (Pc.put ls).cost t p = p * (ls.length : Int) := rfl
    have e : (Pc.put ([row] ++ ls)).cost t p = p * (ls.length : Int) + p := by
      show p * ((([row] ++ ls : List Str).length : Nat) : Int) = _
      rw [List.length_append, List.length_singleton, Nat.add_comm, Int.natCast_add, Int.mul_add]
      simp
    rw [costs_cons, e]
    rw [e1] at this
    omega
  · have := B.size
    rw [sizes_cons] at this
    rw [sizes_cons]
    have e1 : (Pc.put ls).size = ls.length := rfl
    have e : (Pc.put ([row] ++ ls)).size = ls.length + 1 := by show ([row] ++ ls : List Str).length = _; simp
    omega
theorem BackOk.take {base rows : List Str} {t p : Int} {ds : List Int} {k b w : Nat} {S : List Pc} (B : BackOk base rows t p ds (k + 1) S) (hb : b ≤ k) (hs : Stands base rows b w (k + 1 - b)) (hd : ds.getD (k + 1) 0 = ds.getD b 0 + t) : BackOk base rows t p ds b (.take w (k + 1 - b) :: S) := by
  have h2 := hs.2.1
  refine ⟨fun q hq => ?_, ?_, ?_, ?_⟩
  · rcases List.mem_cons.mp hq with rfl | h
    · exact ⟨by show 1 ≤ k + 1 - b; omega, hs.1⟩
    · exact B.ok q h
  · rw [makes_cons, B.mks]
    show (base.drop w).take (k + 1 - b) ++ _ = _
    rw [hs.2.2, show rows.drop (k + 1) = (rows.drop b).drop (k + 1 - b) by rw [List.drop_drop]; congr 1; omega]
    exact List.take_append_drop _ _
  · have := B.cost
    rw [costs_cons]
    show _ + (t + _) = _
    omega
  · rw [sizes_cons, B.size]
    show k + 1 - b + _ = _
    omega
/-- a script over a longer base -/
def Pc.shift (n : Nat) : Pc → Pc
  | .take b m => .take (b + n) m
  | .put ls => .put ls
theorem shift_all {base more : List Str} {t p : Int} : ∀ (S : List Pc), (∀ q ∈ S, q.ok ∧ q.fits base.length) → (∀ q ∈ S.map (Pc.shift more.length), q.ok ∧ q.fits (more ++ base).length) ∧ makes (more ++ base) (S.map (Pc.shift more.length)) = makes base S ∧ costs t p (S.map (Pc.shift more.length)) = costs t p S
  | [], _ => ⟨by simp, rfl, rfl⟩
  | q :: S, h => by
    obtain ⟨i1, i2, i3⟩ := shift_all (t := t) (p := p) S fun x hx => h x (by simp [hx])
    obtain ⟨hq, hf⟩ := h q (by simp)
    refine ⟨fun x hx => ?_, ?_, ?_⟩
    · rw [List.map_cons] at hx
      rcases List.mem_cons.mp hx with rfl | hx
      · cases q with
        | take b m =>
          have hf' : b + m ≤ base.length := hf
          exact ⟨hq, by show b + more.length + m ≤ (more ++ base).length; rw [List.length_append]; omega⟩
        | put ls => exact ⟨hq, trivial⟩
      · exact i1 x hx
    · rw [List.map_cons, makes_cons, makes_cons, i2]
      congr 1
      cases q with
      | take b m =>
        show ((more ++ base).drop (b + more.length)).take m = (base.drop b).take m
        rw [Nat.add_comm, ← List.drop_drop, List.drop_left']
        rfl
      | put ls => rfl
    · rw [List.map_cons, costs_cons, costs_cons, i3]
      congr 1
      cases q <;> rfl
theorem same_all {base more : List Str} : ∀ (S : List Pc), (∀ q ∈ S, q.ok ∧ q.fits base.length) → (∀ q ∈ S, q.ok ∧ q.fits (base ++ more).length) ∧ makes (base ++ more) S = makes base S
  | [], _ => ⟨by simp, rfl⟩
  | q :: S, h => by
    obtain ⟨i1, i2⟩ := same_all (more := more) S fun x hx => h x (by simp [hx])
    obtain ⟨hq, hf⟩ := h q (by simp)
    refine ⟨fun x hx => ?_, ?_⟩
    · rcases List.mem_cons.mp hx with rfl | hx
      · cases x with
        | take b m =>
          have hf' : b + m ≤ base.length := hf
          exact ⟨hq, by show b + m ≤ (base ++ more).length; rw [List.length_append]; omega⟩
        | put ls => exact ⟨hq, trivial⟩
      · exact i1 x hx
    · rw [makes_cons, makes_cons, i2]
      congr 1
      cases q with
      | take b m =>
        have hf' : b + m ≤ base.length := hf
        show ((base ++ more).drop b).take m = (base.drop b).take m
        rw [List.drop_append_of_le_length (by omega), List.take_append_of_le_length (by rw [List.length_drop]; omega)]
      | put ls => rfl
/-! ### the takes that stand in the base -/
section
variable {K : PySem.W.Frag} {σ : L2.St} {H : Hp} {Q : VK}
theorem w_ifx {c : TT} {t u : TE} (h : c σ H fun b H1 => if b = true then t σ H1 Q else u σ H1 Q) : tIf c t u σ H Q := h
theorem w_rep {l : Addr} {k : Int} {xs : List V} (h1 : H l = some (.lst xs)) (h2 : -(2 ^ 63) ≤ k) (h3 : k < 2 ^ 63) (h4 : xs.length * k.toNat ≤ sizeLine) (h : ∀ p H1, H p = none → H1 p = some (.lst (List.replicate k.toNat xs).flatten) → Same H H1 → Q (.ref p) H1) : rRep (.ref l) (.int k) H Q :=
  ⟨l, k, xs, rfl, rfl, h1, h2, h3, h4, fun p hp => w_new (h := h) p hp⟩
theorem w_reverse {l : Addr} {xs : List V} (h1 : H l = some (.lst xs)) (h : ∀ H1, H1 l = some (.lst xs.reverse) → Off l H H1 → Q .non H1) : rReverse (.ref l) [] H Q := ⟨l, xs, rfl, rfl, h1, h _ upd_same fun b n => upd_ne n⟩
theorem w_maxL {a : Addr} {ns : List Int} (h1 : H a = some (.lst (ns.map V.int))) (h2 : 0 < ns.length) (h : ∀ m, m ∈ ns → (∀ y, y ∈ ns → y ≤ m) → Q (.int m) H) : rMax K [V.ref a] H Q := ⟨a, ns, rfl, .of h1, h2, h⟩
theorem w_indexI {a : Addr} {ns : List Int} {m : Int} (h1 : H a = some (.lst (ns.map V.int))) (h2 : m ∈ ns) (h : ∀ j, ns[j]? = some m → Q (.int ((j : Nat) : Int)) H) : rIndex K (.ref a) [.int m] H Q := by
  have hex : ∃ j : Nat, ns[j]? = some m := List.mem_iff_getElem?.mp h2
  obtain ⟨j, hj, hmin⟩ : ∃ j : Nat, ns[j]? = some m ∧ ∀ i, i < j → ns[i]? ≠ some m := by
    obtain ⟨j, hj⟩ := hex
    induction j using Nat.strongRecOn with
    | _ j ih =>
      by_cases hc : ∃ i, i < j ∧ ns[i]? = some m
      · obtain ⟨i, hi, he⟩ := hc
        exact ih i hi he
      · exact ⟨j, hj, fun i hi he => hc ⟨i, hi, he⟩⟩
  refine ⟨a, ns.map V.int, .int m, j, .int m, rfl, rfl, .of h1, rfl, ?_, by rw [List.getElem?_map, hj]; rfl, by simp [eqV], fun i z hi hz => ?_, h j hj⟩
  · rw [List.all_map]
    exact List.all_eq_true.mpr fun x _ => rfl
  · rw [List.getElem?_map] at hz
    obtain ⟨y, hy, rfl⟩ := Option.map_eq_some_iff.mp hz
    have : y ≠ m := fun e => hmin i hi (by rw [← e]; exact hy)
    simp [eqV, this]
end
local macro_rules | `(tactic| walk_at "s") => `(tactic| with_reducible refine w_ifx ?_)
abbrev Fnd := Nat × Nat
structure FsAt (H : Hp) (l : Addr) (fs : List (Addr × Fnd)) : Prop where
  at' : H l = some (.lst (fs.map fun q => .ref q.1))
  sp : ∀ q ∈ fs, H q.1 = some (.tup [.int (q.2.1 : Int), .int (q.2.2 : Int)])
def LongAt (bs rs : List Str) (b : Nat) (f : Fnd) : Prop := Stands bs rs b f.2 f.1 ∧ ∀ w m, Stands bs rs b w m → m ≤ f.1
def cpRow (bs rs : List Str) (b : Nat) : List Int := (List.range (bs.length + 1)).map fun a => ((cp (bs.drop a) (rs.drop b) : Nat) : Int)
theorem cpRow_len (bs rs : List Str) (b : Nat) : (cpRow bs rs b).length = bs.length + 1 := by unfold cpRow; simp
theorem cpRow_at {bs rs : List Str} {b a : Nat} (h : a ≤ bs.length) : (cpRow bs rs b)[a]? = some ((cp (bs.drop a) (rs.drop b) : Nat) : Int) := by
  unfold cpRow
  rw [List.getElem?_map, List.getElem?_range (by omega)]
  rfl
theorem cpRow_end (bs rs : List Str) : (List.replicate (bs.length + 1) [V.int 0]).flatten = (cpRow bs rs rs.length).map V.int := by
  have h : ∀ n, (List.replicate n [V.int 0]).flatten = List.replicate n (V.int 0) := by
    intro n
    induction n with
    | zero => rfl
    | succ n ih => rw [List.replicate_succ, List.flatten_cons, ih]; rfl
  rw [h]
  unfold cpRow
  rw [List.map_map]
  apply List.ext_getElem?
  intro i
  by_cases hi : i < bs.length + 1
  · rw [List.getElem?_replicate, if_pos hi, List.getElem?_map, List.getElem?_range hi]
    simp [cp_nilr]
  · rw [List.getElem?_eq_none (by simp; omega), List.getElem?_eq_none (by simp; omega)]
theorem cpRow_step {bs rs : List Str} {b : Nat} {row : Str} (hr : rs[b]? = some row) : (cpRow bs rs b).map V.int = ((List.range bs.length).map fun a => V.int (if bs[a]? = some row then ((cp (bs.drop (a + 1)) (rs.drop (b + 1)) : Nat) : Int) + 1 else 0)) ++ [V.int 0] := by
  unfold cpRow
  rw [List.range_succ, List.map_append, List.map_append, List.map_map]
  congr 1
  · apply List.map_congr_left
    intro a ha
    have ha' := List.mem_range.mp ha
    show V.int ((cp (bs.drop a) (rs.drop b) : Nat) : Int) = _
    rw [drop_cons hr, List.drop_eq_getElem_cons ha', cp, List.getElem?_eq_getElem ha']
    by_cases e : bs[a] = row
    · rw [if_pos e, if_pos (by rw [e])]
      simp
    · rw [if_neg e, if_neg (fun z => e (Option.some.inj z))]
      rfl
  · show [V.int ((cp (bs.drop bs.length) (rs.drop b) : Nat) : Int)] = _
    rw [List.drop_length, cp_nil]
    rfl
theorem cpRow_long {bs rs : List Str} {b j : Nat} {m : Int} (hb : b ≤ rs.length) (hm : ∀ y, y ∈ cpRow bs rs b → y ≤ m) (hj : (cpRow bs rs b)[j]? = some m) : ∃ k : Nat, m = (k : Int) ∧ LongAt bs rs b (k, j) := by
  have hjl := (List.getElem?_eq_some_iff.mp hj).1
  rw [cpRow_len] at hjl
  rw [cpRow_at (by omega)] at hj
  have hk := (Option.some.inj hj).symm
  refine ⟨_, hk, stands_cp (by omega) hb, fun w k hs => ?_⟩
  have h1 := stands_le hs
  have hw := hs.1
  have h2 := hm _ (List.mem_of_getElem? (cpRow_at (bs := bs) (rs := rs) (b := b) (a := w) (by omega)))
  show k ≤ cp (bs.drop j) (rs.drop b)
  omega
def spLongest : Sp := fun vs H Q _ => ∃ (b r : Addr) (bs rs : List Str), vs = [.ref b, .ref r] ∧ RwAt H b bs ∧ RwAt H r rs ∧ bs.length ≤ 100 ∧ rs.length ≤ 100 ∧ ∀ (H' : Hp) (l : Addr) (fs : List (Addr × Fnd)), Same H H' → FsAt H' l fs → LongOk bs rs (fs.map (·.2)) → Q (.ref l) H'
section
variable {P : Program} {w : World} {K : PySem.W.Frag} {mg : Str → Option Value} {base : Heap}
theorem ok_longest {f : Addr} {fd : FuncData} (T : Txt K mg) (F : Fun K "longest_takes" "longest_takes" s_longest_takes f fd) : FnOk P w K mg base CX0 1 f fd ["base", "rows"] spLongest := by
  refine F.ok sc_longest_takes (fun vs H Q E h => ?_) (fun cdv A outer s H vs Q E hr h => ?_)
  · obtain ⟨b, r, bs, rs, rfl, _⟩ := h
    rfl
  · obtain ⟨b, r, bs, rs, rfl, hb, hr', hbl, hrl, q⟩ := h
    have hb' : H b = some (.tup (bs.map V.str)) := hb
    have hr0 : H r = some (.tup (rs.map V.str)) := hr'
    refine ⟨_,
      (pss_cons
        (ps_set (i := 2) sc_longest_takes.nd rfl (.inl rfl) (pe_lst pa_nil))
      (pss_cons
        (ps_set (i := 3) sc_longest_takes.nd rfl (.inr rfl) (pe_op op_rep (pe_lst (pa_cons pe_int pa_nil)) (pe_op op_add (pe_callB (r := rLen K) c_len (by rfl) T.n_len (by decide +kernel) (pa_cons (pv 0) pa_nil)) pe_int)))
      (pss_cons
        (ps_for PassesOwn.never rfl (pi_tup (pe_revT (pv 1) (pe_un un_neg pe_int))) (pg_name (i := 4) sc_longest_takes.nd rfl (.inr rfl))
          (pss_cons
            (ps_set (i := 5) sc_longest_takes.nd rfl (.inl rfl) (pe_op op_cat (pe_lc (own := [("at", 7)]) (g := (gName 7)) rfl sc_longest_takes.nd (pi_range1 (by rfl) T.n_range (pa_cons (pe_callB (r := rLen K) c_len (by rfl) T.n_len (by decide +kernel) (pa_cons (pv 0) pa_nil)) pa_nil)) (blkOk_by (own := [("at", 7)]) (N := N_longest_takes) (sc := defScope s_longest_takes) (by decide +kernel)) (fun _ _ _ _ _ => (pg_name (i := 7) sc_longest_takes.nd rfl (.inl rfl))) (fun _ _ _ _ _ => pts_nil) (fun _ _ _ _ _ => (pe_ifExp (pt_cmpR op_eq (pe_ix (r := rIxT K) ix_tup (pv 0) (pv 7) (fun _ _ => rfl)) (pv 4) (nomark _)) (pe_op op_add (pe_ix (r := rIxL K) ix_list (pv 3) (pe_op op_add (pv 7) pe_int) (fun _ _ => rfl)) pe_int) pe_int))) (pe_lst (pa_cons pe_int pa_nil))))
          (pss_cons
            (ps_set (i := 6) sc_longest_takes.nd rfl (.inl rfl) (pe_callB (r := rMax K) (cr_max rfl) (by rfl) T.n_max (by decide +kernel) (pa_cons (pv 5) pa_nil)))
          (pss_cons
            (ps_expr (pe_bm PySem.F.plainAttrs_list PySem.F.slot_list_append PySem.F.type_list_append mt_append (pv 2) (pa_cons (pe_tup (pa_cons (pv 6) (pa_cons (pe_bm PySem.F.plainAttrs_list PySem.F.slot_list_index PySem.F.type_list_index mt_index (pv 5) (pa_cons (pv 6) pa_nil)) pa_nil))) pa_nil)))
          (pss_one
            (ps_set (i := 3) sc_longest_takes.nd rfl (.inr rfl) (pv 5)))))))
      (pss_cons
        (ps_expr (pe_bm0 PySem.F.plainAttrs_list PySem.F.slot_list_reverse PySem.F.type_list_reverse mt_reverse (pv 2)))
      (pss_one
        (ps_ret (pv 2)))))))
      , ?_⟩
    rw [show L2.start N_longest_takes [V.ref b, V.ref r] = [some (.ref b), some (.ref r), none, none, none, none, none, none] from rfl]
    walk_at "x"
    refine w_new fun fl H1 hfl efl k1 => ?_
    have hb1 := k1 _ _ hb'
    have hr1 := k1 _ _ hr0
    walk_at "g"
    refine w_new fun zl H2 hzl ezl k2 => ?_
    have hb2 := k2 _ _ hb1
    have hr2 := k2 _ _ hr1
    walk_at "g"
    refine w_rep ezl (by simp only [List.length_map]; omega) (by simp only [List.length_map]; omega) (by simp only [List.length_map, List.length_cons, List.length_nil]; exact small2000 (by omega)) fun bh H3 hbh ebh k3 => ?_
    rw [List.length_map, show (((bs.length : Nat) : Int) + 1).toNat = bs.length + 1 by omega, cpRow_end bs rs] at ebh
    have hr3 := k3 _ _ hr2
    have efl3 := k3 _ _ (k2 _ _ efl)
    walk_at "g"
    refine w_revT' hr3 fun rv H4 hrv erv k4 => ?_
    rw [← List.map_reverse] at erv
    have k14 := Same.trans k2 (Same.trans k3 k4)
    have off : ∀ {x : Addr} {o : HO}, H x = some o → x ∉ [fl] := fun {x o} e => by simpa using ne_of_none e hfl
    have nrv : rv ∉ [fl] := by simpa using (ne_of_none efl3 hrv).symm
    walk_at "g"
    refine lp_tup (xs := rs.reverse.map V.str) (fun i σ H' => ∃ (y4 y5 y6 : Option V) (bh : Addr) (fs : List (Addr × Fnd)), σ = [some (.ref b), some (.ref r), some (.ref fl), some (.ref bh), y4, y5, y6, none] ∧ Kp [fl] H4 H' ∧ bh ≠ fl ∧ H' bh = some (.lst ((cpRow bs rs (rs.length - i)).map V.int)) ∧ FsAt H' fl fs ∧ fs.length = i ∧ ∀ j f, fs[j]? = some f → LongAt bs rs (rs.length - 1 - j) f.2) ?_ ?_ ?_ ?_
    · exact ⟨_, _, _, bh, [], rfl, Kp.refl, (ne_of_none (k2 _ _ efl) hbh).symm, by rw [Nat.sub_zero]; exact k4 _ _ ebh, ⟨k4 _ _ efl3, by simp⟩, rfl, fun j f h => by simp at h⟩
    · rintro i σ H' _ ⟨_, _, _, _, _, _, k, _⟩
      exact .of (k _ _ nrv erv)
    · rintro i y σ H5 hy ⟨y4, y5, y6, bh, fs, rfl, k5, nbh, eb5, hfs, hfl', hlo⟩
      obtain ⟨row, hrow, rfl⟩ := map_at hy
      have hil : i < rs.length := by
        have := (List.getElem?_eq_some_iff.mp hrow).1
        simpa using this
      rw [List.getElem?_reverse hil] at hrow
      have hrow' : rs[rs.length - (i + 1)]? = some row := by rw [← hrow]; congr 1; omega
      have kt5 : KT H4 H5 := KT.kp k5 (by simp [k14 _ _ efl])
      have hb5 := kt5 _ _ (k14 _ _ hb1)
      have efs := hfs.at'
      walk_at "g"
      try refine w_rng1' (by simp only [List.length_map]; omega) (by simp only [List.length_map]; omega) ?_
      refine lcp_map (walk_range (lo := 0) (n := (((bs.map V.str).length : Nat) : Int).toNat)) [] ((List.range bs.length).map fun a => V.int (if bs[a]? = some row then ((cp (bs.drop (a + 1)) (rs.drop (rs.length - (i + 1) + 1)) : Nat) : Int) + 1 else 0)) (by simp) (by simp; omega) (fun _ _ => trivial) ?_ (by simp) ?_
      · rintro a x H6 H7 R ha k6 ⟨rfl, rfl⟩ hR
        have ha' : a < bs.length := by simpa using ha
        have s6 : Same H5 H7 := Kp.same k6
        have hb6 := s6 _ _ hb5
        have eb6 := s6 _ _ eb5
        have at1 : atI (bs.map V.str) (0 + (a : Int)) = some (.str bs[a]) := by
          rw [Int.zero_add]
          exact atI_nat (by rw [List.getElem?_map, List.getElem?_eq_getElem ha']; rfl)
        have at2 : atI ((cpRow bs rs (rs.length - i)).map V.int) (0 + (a : Int) + 1) = some (.int ((cp (bs.drop (a + 1)) (rs.drop (rs.length - (i + 1) + 1)) : Nat) : Int)) := by
          rw [show (0 : Int) + (a : Int) + 1 = ((a + 1 : Nat) : Int) by omega, show rs.length - (i + 1) + 1 = rs.length - i by omega]
          exact atI_nat (by rw [List.getElem?_map, cpRow_at (by omega)]; rfl)
        have hg : ((List.range bs.length).map fun a => V.int (if bs[a]? = some row then ((cp (bs.drop (a + 1)) (rs.drop (rs.length - (i + 1) + 1)) : Nat) : Int) + 1 else 0))[a]? = some (V.int (if bs[a] = row then ((cp (bs.drop (a + 1)) (rs.drop (rs.length - (i + 1) + 1)) : Nat) : Int) + 1 else 0)) := by
          rw [List.getElem?_map, List.getElem?_range ha']
          show some (V.int (if bs[a]? = some row then _ else _)) = _
          rw [List.getElem?_eq_getElem ha']
          simp only [Option.some.injEq]
        refine w_name ⟨rfl, ?_⟩
        walk_at "g"
        refine w_ite (fun he => ?_) (fun he => ?_)
        · walk_at "g"
          exact hR _ _ (by rw [hg, if_pos he]) Kp.refl
        · walk_at "g"
          exact hR _ _ (by rw [hg, if_neg he]) Kp.refl
      · intro L H6 hL k6 eL
        have s6 : Same H5 H6 := Kp.same k6
        walk_at "g"
        refine w_new fun z0 H7 hz0 ez0 k7 => ?_
        walk_at "g"
        refine w_cat (k7 _ _ eL) ez0 (by simp only [List.length_map, List.length_range, List.length_cons, List.length_nil]; exact small2000 (by omega)) fun he H8 hhe ehe k8 => ?_
        rw [← cpRow_step hrow'] at ehe
        have s8 : Same H5 H8 := Same.trans s6 (Same.trans k7 k8)
        have efs8 := s8 _ _ efs
        walk_at "g"
        refine w_maxL ehe (by rw [cpRow_len]; omega) fun m hm1 hm2 => ?_
        walk_at "g"
        refine w_indexI ehe hm1 fun j hj => ?_
        obtain ⟨kk, rfl, hlong⟩ := cpRow_long (by omega) hm2 hj
        walk_at "g"
        refine w_new fun p H9 hp ep k9 => ?_
        have e9 := k9 _ _ (s8 _ _ efs)
        have ehe9 := k9 _ _ ehe
        walk_at "g"
        refine w_app e9 (by rw [List.length_map]; exact small1000' (by omega)) fun HA eA oA => ?_
        have t9A : KT H9 HA := KT.off oA e9
        have nhe : he ≠ fl := (ne_of_none (k7 _ _ (s6 _ _ efs)) hhe).symm
        walk_at "g"
        refine ⟨_, _, _, he, fs ++ [(p, (kk, j))], rfl, k5.trans ((Kp.of (Same.trans s8 k9)).trans (oA.kp (by simp))), nhe, oA.get nhe ehe9, ⟨by rw [eA, List.map_append]; rfl, fun x hx => ?_⟩, by rw [List.length_append, hfl']; rfl, fun j' f' hf' => ?_⟩
        · rcases List.mem_append.mp hx with h | h
          · exact t9A _ _ (k9 _ _ (s8 _ _ (hfs.sp x h)))
          · have ex : x = (p, (kk, j)) := by simpa using h
            subst ex
            exact t9A _ _ ep
        · by_cases hj' : j' < fs.length
          · rw [List.getElem?_append_left hj'] at hf'
            exact hlo j' f' hf'
          · have hj2 : j' = fs.length := by
              have := (List.getElem?_eq_some_iff.mp hf').1
              simp at this
              omega
            subst hj2
            rw [List.getElem?_append_right (Nat.le_refl _)] at hf'
            have ex : (p, (kk, j)) = f' := by simpa using hf'
            subst ex
            rw [hfl', show rs.length - 1 - i = rs.length - (i + 1) by omega]
            exact hlong
    · rintro σ H5 ⟨y4, y5, y6, bh, fs, rfl, k5, nbh, eb5, hfs, hfl', hlo⟩
      rw [List.length_map, List.length_reverse] at hfl'
      have efs := hfs.at'
      walk_at "g"
      refine w_reverse efs fun H6 e6 o6 => ?_
      have t56 : KT H5 H6 := KT.off o6 efs
      walk_at "g"
      refine q H6 fl fs.reverse (fun x o ex => o6.get (by simpa using off ex) (k5 _ _ (off ex) (k14 _ _ (k1 _ _ ex)))) ⟨by rw [e6, List.map_reverse], fun x hx => t56 _ _ (hfs.sp x (List.mem_reverse.mp hx))⟩ ?_
      have key : ∀ b' f', (fs.reverse.map (·.2))[b']? = some f' → LongAt bs rs b' f' := fun b' f' h => by
        rw [List.getElem?_map] at h
        obtain ⟨z, hz, rfl⟩ := Option.map_eq_some_iff.mp h
        have hbl' : b' < fs.length := by
          have := (List.getElem?_eq_some_iff.mp hz).1
          simpa using this
        rw [List.getElem?_reverse hbl'] at hz
        have := hlo _ _ hz
        rw [show rs.length - 1 - (fs.length - 1 - b') = b' by omega] at this
        exact this
      exact ⟨by simp [hfl'], fun b' f' h => (key b' f' h).1, fun b' f' h => (key b' f' h).2⟩
end
/-! ### the script put together from its end -/
def pcD : Pc → PyData
  | .take b m => .tuple [.str (Str.ofString "take"), .int (b : Int), .int (m : Int)]
  | .put ls => .tuple [.str (Str.ofString "put"), .tuple (ls.map .str)]
theorem dp_strs {K : PySem.W.Frag} {H : Hp} : ∀ ls : List Str, DpAll K H (ls.map V.str) (ls.map .str)
  | [] => .nil
  | z :: ls => .cons (.str z) (dp_strs ls)
theorem PcAt.dp {K : PySem.W.Frag} {H : Hp} {a : Addr} {p : Pc} (h : PcAt H a p) : Dp K H (.ref a) (pcD p) := by
  cases p with
  | take b m => exact .tup (.of h) (.cons (.str _) (.cons (.int _) (.cons (.int _) .nil)))
  | put ls =>
    obtain ⟨r, h1, h2⟩ := h
    exact .tup (.of h1) (.cons (.str _) (.cons (.tup (.of h2) (dp_strs ls)) .nil))
theorem dp_pcs {K : PySem.W.Frag} {H : Hp} : ∀ {ps : List (Addr × Pc)}, (∀ q ∈ ps, PcAt H q.1 q.2) → DpAll K H (ps.map fun q => .ref q.1) (ps.map fun q => pcD q.2)
  | [], _ => .nil
  | q :: ps, h => .cons (h q (by simp)).dp (dp_pcs fun x hx => h x (by simp [hx]))
theorem sg_small : ∀ c ∈ SG.cps.toList, c < 0x110000 := by decide +kernel
theorem line_str {z : Str} (h : LineOk z) : PyData.strOk z = true := by
  unfold PyData.strOk
  rw [Array.all_eq_true_iff_forall_mem]
  intro c hc
  exact decide_eq_true (sg_small c (h.2 c (by simpa using hc)))
theorem lay_strs : ∀ {ls : List Str}, (∀ z ∈ ls, LineOk z) → PyData.canLayAll0 (ls.map .str) = true ∧ PyData.depthAll (ls.map .str) = 0
  | [], _ => ⟨rfl, rfl⟩
  | z :: ls, h => by
    obtain ⟨h1, h2⟩ := lay_strs (ls := ls) fun x hx => h x (by simp [hx])
    have hz := line_str (h z (by simp))
    simp only [List.map_cons, PyData.canLayAll0, PyData.depthAll, PyData.canLay0, PyData.depth, h1, h2, hz]
    exact ⟨rfl, rfl⟩
theorem lay_pc {p : Pc} (h : p.ok) : PyData.canLay0 (pcD p) = true ∧ PyData.depth (pcD p) ≤ 2 := by
  cases p with
  | take b m =>
    have hp : PyData.strOk (Str.ofString "take") = true := by decide +kernel
    simp only [pcD, PyData.canLay0, PyData.canLayAll0, PyData.depth, PyData.depthAll, hp]
    exact ⟨rfl, by decide⟩
  | put ls =>
    obtain ⟨h1, h2⟩ := lay_strs h.2
    have hp : PyData.strOk (Str.ofString "put") = true := by decide +kernel
    simp only [pcD, PyData.canLay0, PyData.canLayAll0, PyData.depth, PyData.depthAll, h1, h2, hp]
    exact ⟨rfl, by decide⟩
theorem lay_pcs : ∀ {ps : List (Addr × Pc)}, (∀ q ∈ ps, q.2.ok) → PyData.canLayAll0 (ps.map fun q => pcD q.2) = true ∧ PyData.depthAll (ps.map fun q => pcD q.2) ≤ 2
  | [], _ => ⟨rfl, by simp [PyData.depthAll]⟩
  | q :: ps, h => by
    obtain ⟨h1, h2⟩ := lay_pcs (ps := ps) fun x hx => h x (by simp [hx])
    obtain ⟨g1, g2⟩ := lay_pc (h q (by simp))
    simp only [List.map_cons, PyData.canLayAll0, PyData.depthAll, h1, g1]
    exact ⟨rfl, by omega⟩
theorem w_neNil {K : PySem.W.Frag} {H : Hp} {Q : VK} {a z : Addr} {ps : List (Addr × Pc)} (h1 : H a = some (.lst (ps.map fun q => .ref q.1))) (h2 : ∀ q ∈ ps, PcAt H q.1 q.2 ∧ q.2.ok) (h3 : H z = some (.lst [])) (h : Q (.bl (!ps.isEmpty)) H) : rNeD K (.ref a) (.ref z) H Q := by
  obtain ⟨g1, g2⟩ := lay_pcs fun q hq => (h2 q hq).2
  refine ⟨.list (ps.map fun q => pcD q.2), .list [], .lst (.of h1) (dp_pcs fun q hq => (h2 q hq).1), .lst (.of h3) .nil, ?_, by decide, ?_⟩
  · unfold SeqAt.shaped
    rw [Bool.and_eq_true_iff]
    refine ⟨by rw [PyData.canLay0]; exact g1, decide_eq_true ?_⟩
    rw [PyData.depth]
    omega
  · have e : PyData.eqv (.list (ps.map fun q => pcD q.2)) (.list []) = ps.isEmpty := by
      cases ps with
      | nil => rfl
      | cons q ps => rfl
    rw [e]
    exact h
theorem strs_eqv : ∀ ls : List Str, PyData.eqvAll (ls.map .str) (ls.map .str) = true
  | [] => rfl
  | z :: ls => by
    rw [List.map_cons, PyData.eqvAll, PyData.eqv, strs_eqv ls]
    simp
theorem w_neRows {K : PySem.W.Frag} {H : Hp} {Q : VK} {a z : Addr} {ls : List Str} (h1 : RwAt H a ls) (h2 : RwAt H z ls) (ho : ∀ x ∈ ls, LineOk x) (h : Q (.bl false) H) : rNeD K (.ref a) (.ref z) H Q := by
  obtain ⟨g1, g2⟩ := lay_strs ho
  have sh : SeqAt.shaped (.tuple (ls.map .str)) = true := by
    unfold SeqAt.shaped
    rw [Bool.and_eq_true_iff]
    refine ⟨by rw [PyData.canLay0]; exact g1, decide_eq_true ?_⟩
    rw [PyData.depth]
    omega
  refine ⟨.tuple (ls.map .str), .tuple (ls.map .str), .tup (.of h1) (dp_strs ls), .tup (.of h2) (dp_strs ls), sh, sh, ?_⟩
  have e : PyData.eqv (.tuple (ls.map .str)) (.tuple (ls.map .str)) = true := by rw [PyData.eqv]; exact strs_eqv ls
  rw [e]
  exact h
theorem atI_last {ns : List Int} {k : Nat} (h : ns.length = k + 1) : atI (ns.map V.int) (-1) = some (.int (ns.getD k 0)) := by
  have hk : ns[k]? = some (ns.getD k 0) := by
    rw [List.getD_eq_getElem?_getD, List.getElem?_eq_getElem (by omega)]
    rfl
  unfold atI ixN
  rw [List.length_map, h, if_neg (by omega), if_pos (by omega)]
  show (ns.map V.int)[((-1 : Int) + ((k + 1 : Nat) : Int)).toNat]? = _
  rw [show ((-1 : Int) + ((k + 1 : Nat) : Int)).toNat = k by omega, List.getElem?_map, hk]
  rfl
theorem getD_at {ns : List Int} {k : Nat} (h : k < ns.length) : ns[k]? = some (ns.getD k 0) := by
  rw [List.getD_eq_getElem?_getD, List.getElem?_eq_getElem h]
  rfl
theorem make_lines {bs : List Str} (hb : ∀ z ∈ bs, LineOk z) {ps : List Pc} (ho : ∀ p ∈ ps, p.ok) : ∀ z ∈ makes bs ps, LineOk z := by
  intro z hz
  unfold makes at hz
  obtain ⟨l, hl, hz⟩ := List.mem_flatten.mp hz
  obtain ⟨p, hp, rfl⟩ := List.mem_map.mp hl
  have hpo := ho p hp
  cases p with
  | take b m => exact hb z (List.mem_of_mem_drop (List.mem_of_mem_take hz))
  | put ls => exact hpo.2 z hz
theorem fits_all {n : Nat} {qs : List (Addr × Pc)} (h : ∀ q ∈ qs, q.2.fits n) : ∀ p ∈ qs.map (·.2), p.fits n := fun p hp => by
  obtain ⟨q, hq, rfl⟩ := List.mem_map.mp hp
  exact h q hq
theorem fits_all' {n : Nat} {qs : List (Addr × Pc)} (h : ∀ p ∈ qs.map (·.2), p.fits n) : ∀ q ∈ qs, q.2.fits n := fun q hq => h _ (List.mem_map_of_mem hq)
/-! ### data whose texts are short and hold no sign number 37 -/
def TxtOk (B : Nat) (z : Str) : Prop := z.length ≤ B ∧ ∀ c ∈ z.cps.toList, c ≠ 37
inductive DatX (B : Nat) (H : Hp) : V → Prop where
  | leaf {x : V} {a : String} (t : Ty H x a) (h : a ≠ "tuple") (z : ∀ z, x = .str z → TxtOk B z) : DatX B H x
  | tup {p : Addr} {xs : List V} (e : H p = some (.tup xs)) (l : xs.length ≤ B) (h : ∀ y ∈ xs, DatX B H y) : DatX B H (.ref p)
theorem DatX.int {B : Nat} {H : Hp} {i : Int} : DatX B H (.int i) := .leaf (.int i) (by decide) fun z e => by cases e
theorem DatX.txt {B : Nat} {H : Hp} {z : Str} (h : TxtOk B z) : DatX B H (.str z) := .leaf (.str z) (by decide) fun z' e => by cases e; exact h
theorem DatX.isT {B : Nat} {H : Hp} {z : Str} (h : DatX B H (.str z)) : TxtOk B z := by
  cases h with
  | leaf _ _ hz => exact hz z rfl
theorem DatX.ty {B : Nat} {H : Hp} {x : V} (h : DatX B H x) : ∃ a, Ty H x a := by
  cases h with
  | leaf t _ _ => exact ⟨_, t⟩
  | tup e _ _ => exact ⟨_, .tup e⟩
theorem DatX.kd {B : Nat} {H H' : Hp} {x : V} (h : DatX B H x) (k : KD H H') : DatX B H' x := by
  induction h with
  | leaf t h z => exact .leaf (t.kd k) h z
  | tup e l _ ih => exact .tup (k.t _ _ e) l fun y hy => ih y hy
theorem DatX.mono {B C : Nat} (hB : B ≤ C) {H : Hp} {x : V} (h : DatX B H x) : DatX C H x := by
  induction h with
  | leaf t h z => exact .leaf t h fun z' e => ⟨Nat.le_trans (z z' e).1 hB, (z z' e).2⟩
  | tup e l _ ih => exact .tup e (Nat.le_trans l hB) fun y hy => ih y hy
theorem DatX.cases {B : Nat} {H : Hp} {x : V} (h : DatX B H x) : (∃ a, Ty H x a ∧ a ≠ "tuple") ∨ ∃ (p : Addr) (xs : List V), x = .ref p ∧ H p = some (.tup xs) ∧ xs.length ≤ B ∧ ∀ y ∈ xs, DatX B H y := by
  cases h with
  | leaf t h _ => exact .inl ⟨_, t, h⟩
  | tup e l h => exact .inr ⟨_, _, rfl, e, l, h⟩
theorem DatX.datT {B : Nat} {H : Hp} {x : V} (h : DatX B H x) : DatT B H x := by
  induction h with
  | leaf t h z => exact .leaf t h fun z' e => (z z' e).1
  | tup e l _ ih => exact .tup e l ih
section
variable {K : PySem.W.Frag} {H : Hp} {Q : VK}
/-- new things in turn: the deck, those that were made, what stood at H0 -/
theorem x_newD {H0 : Hp} {d c : Addr} {n B : Nat} {L xs : List V} (D : Deck H d c n) (hL : ∀ y ∈ L, DatX B H y) (kk : Same H0 H) (hx : ∀ y ∈ xs, DatX B H y) (hl : xs.length ≤ B) (h : ∀ p H', Deck H' d c n → (∀ y ∈ V.ref p :: L, DatX B H' y) → Same H0 H' → H' p = some (.tup xs) → Q (.ref p) H') : Nw (.tup xs) H Q := by
  refine w_new fun p H' hp e k => h p H' (D.kp (M := []) (Kp.of k) (by simp) (by simp)) (fun y hy => ?_) (Same.trans kk k) e
  rcases List.mem_cons.mp hy with rfl | hy
  · exact .tup e hl fun y hy => (hx y hy).kd (KD.of k)
  · exact (hL y hy).kd (KD.of k)
theorem x_newLD {H0 : Hp} {d c : Addr} {n B : Nat} {L xs : List V} (D : Deck H d c n) (hL : ∀ y ∈ L, DatX B H y) (kk : Same H0 H) (hl : xs.length ≤ 1) (h : ∀ p H', Deck H' d c n → (∀ y ∈ V.ref p :: L, DatX B H' y) → Same H0 H' → Q (.ref p) H') : Nw (.lst xs) H Q := by
  refine w_new fun p H' hp e k => h p H' (D.kp (M := []) (Kp.of k) (by simp) (by simp)) (fun y hy => ?_) (Same.trans kk k)
  rcases List.mem_cons.mp hy with rfl | hy
  · exact .leaf (.lst e) (by decide) fun z q => by cases q
  · exact (hL y hy).kd (KD.of k)
theorem x_newB {H0 : Hp} {d c : Addr} {n B : Nat} {L xs : List V} (D : Deck H d c n) (hL : ∀ y ∈ L, DatX B H y) (kk : Same H0 H) (hx : ∀ y ∈ xs, DatX B H y) (h : ∀ p H', Deck H' d c n → (∀ y ∈ xs, DatX B H' y) → H' p = some (.lst xs) → Same H0 H' → Q (.ref p) H') : Nw (.lst xs) H Q :=
  w_new fun p H' hp e k => h p H' (D.kp (M := []) (Kp.of k) (by simp) (by simp)) (fun y hy => (hx y hy).kd (KD.of k)) e (Same.trans kk k)
theorem x_newKD {H0 : Hp} {d c : Addr} {n B : Nat} {L : List V} {kvs : List (Key × V)} (D : Deck H d c n) (hL : ∀ y ∈ L, DatX B H y) (kk : Same H0 H) (h : ∀ p H', Deck H' d c n → (∀ y ∈ V.ref p :: L, DatX B H' y) → Same H0 H' → Q (.ref p) H') : Nw (.dK kvs) H Q := by
  refine w_new fun p H' hp e k => h p H' (D.kp (M := []) (Kp.of k) (by simp) (by simp)) (fun y hy => ?_) (Same.trans kk k)
  rcases List.mem_cons.mp hy with rfl | hy
  · exact .leaf (.dK e) (by decide) fun z q => by cases q
  · exact (hL y hy).kd (KD.of k)
theorem x_dispD {σ : L2.St} {H0 : Hp} {d c : Addr} {n B : Nat} {L : List V} {k : Int} {v : V} (D : Deck H d c n) (hL : ∀ y ∈ L, DatX B H y) (kk : Same H0 H) (h : ∀ p H', Deck H' d c n → (∀ y ∈ V.ref p :: L, DatX B H' y) → Same H0 H' → Q (.ref p) H') : tDisp [(tC (.int k), tC v)] σ H Q := by
  refine w_disp fun p H1 hp e1 k1 => ?_
  refine w_pair (w_c (w_c (w_pnil ?_)))
  refine w_dispE [(Sum.inl k, v)] e1 rfl (show (1 : Nat) ≤ 15 by decide) fun H2 e2 o2 => ?_
  have k2 : Same H H2 := fun b o e => o2.get (ne_of_none e hp) (k1 _ _ e)
  refine h p H2 (D.kp (M := []) (Kp.of k2) (by simp) (by simp)) (fun y hy => ?_) (Same.trans kk k2)
  rcases List.mem_cons.mp hy with rfl | hy
  · exact .leaf (.dK e2) (by decide) fun z q => by cases q
  · exact (hL y hy).kd (KD.of k2)
end
def spWholeG : Sp := fun vs H Q _ => ∃ (x : V) (a : String), vs = [x] ∧ Ty H x a ∧ Q (.bl (decide (a = "int"))) H
/-! is it an int, is it a tuple of rising ints: of a thing of any kind (@F@) -/
section
variable {P : Program} {w : World} {K : PySem.W.Frag} {mg : Str → Option Value} {base : Heap}
theorem ok_law_intG {f : Addr} {fd : FuncData} (T : Txt K mg) (F : Fun K "_law_int" "_law_int" s_law_int f fd) : FnOk P w K mg base CX0 1 f fd ["_law_thing"] spWholeG := by
  refine F.ok sc_law_int (fun vs H Q E h => ?_) (fun cdv A outer s H vs Q E hr h => ?_)
  · obtain ⟨x, a, rfl, _⟩ := h
    rfl
  · obtain ⟨x, a, rfl, t, q⟩ := h
    refine ⟨_,
      (pss_one
        (ps_ret (pe_and (pe_callB (r := rIsi K) call_isi (by rfl) T.n_isinstance (by decide +kernel) (pa_cons (pv 0) (pa_cons (pe_bltn (v := .ty "int") (u := .type "int") (by rfl) T.n_int (by decide +kernel) rfl) pa_nil))) (pe_one (pe_not (pe_callB (r := rIsi K) call_isi (by rfl) T.n_isinstance (by decide +kernel) (pa_cons (pv 0) (pa_cons (pe_bltn (v := .ty "bool") (u := .type "bool") (by rfl) T.n_bool (by decide +kernel) rfl) pa_nil))))))))
      , ?_⟩
    rw [show L2.start N_law_int [x] = [some x] from rfl]
    walk_at "x"
    refine w_isInt t ?_
    walk_at "g"
    refine w_itB (fun hb => ?_) (fun hb => ?_)
    · walk_at "g"
      refine w_isBool t ?_
      walk_at "g"
      by_cases e : a = "bool"
      · rw [decide_eq_true e]
        rw [decide_eq_false (fun z : a = "int" => by rw [z] at e; exact absurd e (by decide))] at q
        exact q
      · rw [decide_eq_false e]
        rw [decide_eq_false e, Bool.or_false] at hb
        rw [hb] at q
        exact q
    · walk_at "g"
      rw [decide_eq_false (fun z : a = "int" => by rw [decide_eq_true z] at hb; cases hb)] at q
      exact q
end
/-! ### the law's own looks, at data of any kind -/
def spLineX : Sp := fun vs H Q _ => ∃ (x : V) (B : Nat), vs = [x] ∧ DatX B H x ∧ B ≤ 1000 ∧ (∀ z, x = .str z → LineOk z → Q (.bl true) H) ∧ ((∀ z, x = .str z → ¬ LineOk z) → Q (.bl false) H)
def spSizeX : Sp := fun vs H Q _ => ∃ (x : V) (B : Nat), vs = [x] ∧ DatX B H x ∧ B ≤ 1000 ∧ (∀ p, PcV H x p → Q (.int (p.size : Int)) H) ∧ ((∀ p, ¬ PcV H x p) → Q (.int 0) H)
def spLScriptX : Sp := fun vs H Q _ => ∃ (x : V) (B : Nat), vs = [x] ∧ DatX B H x ∧ B ≤ 1000 ∧ (∀ ps, ScV H x ps → Q (.bl true) H) ∧ ((∀ ps, ¬ ScV H x ps) → Q (.bl false) H)
def FitV (H : Hp) (x : V) (n : Nat) (ps : List (Addr × Pc)) : Prop := ScV H x ps ∧ ∀ q ∈ ps, q.2.fits n
def spLFitsX : Sp := fun vs H Q _ => ∃ (b : Addr) (bs : List Str) (x : V) (B : Nat), vs = [.ref b, x] ∧ RwAt H b bs ∧ bs.length ≤ 1000 ∧ DatX B H x ∧ B ≤ 1000 ∧ (∀ ps, FitV H x bs.length ps → Q (.bl true) H) ∧ ((∀ ps, ¬ FitV H x bs.length ps) → Q (.bl false) H)
theorem one_lt (a b : Nat) : ([a] < [b]) ↔ a < b := by
  constructor
  · intro h
    cases h with
    | rel h => exact h
    | cons h => cases h
  · exact fun h => .rel h
theorem sg_all : ∀ c, c < 127 → 32 ≤ c → c ≠ 37 → c ∈ SG.cps.toList := by decide +kernel
theorem sg_low : ∀ c ∈ SG.cps.toList, 32 ≤ c ∧ c < 127 := by decide +kernel
theorem sg_iff {c : Nat} (h : c ≠ 37) : c ∈ SG.cps.toList ↔ ¬ ([c] < (Str.ofString " ").cps.toList) ∧ ¬ ((Str.ofString "~").cps.toList < [c]) := by
  rw [show (Str.ofString " ").cps.toList = [32] from rfl, show (Str.ofString "~").cps.toList = [126] from rfl, one_lt, one_lt]
  constructor
  · intro hc
    have := sg_low c hc
    omega
  · rintro ⟨h1, h2⟩
    exact sg_all c (by omega) (by omega) h
theorem pcv_leaf {H : Hp} {x : V} {a : String} {p : Pc} (t : Ty H x a) (hne : a ≠ "tuple") : ¬ PcV H x p := by
  rintro ⟨b, rfl, h, _⟩
  cases p with
  | take u m => exact hne (t.ofTup h)
  | put ls =>
    obtain ⟨r, h1, _⟩ := h
    exact hne (t.ofTup h1)
theorem pcv_tup {H : Hp} {a : Addr} {xs : List V} {p : Pc} (ea : H a = some (.tup xs)) (h : PcV H (.ref a) p) : (∃ b m : Nat, xs = [.str "take", .int (b : Int), .int (m : Int)] ∧ p = .take b m ∧ 1 ≤ m) ∨ ∃ r ls, xs = [.str "put", .ref r] ∧ p = .put ls ∧ RwAt H r ls ∧ ls ≠ [] ∧ ∀ z ∈ ls, LineOk z := by
  obtain ⟨a', e, h, hok⟩ := h
  cases e
  cases p with
  | take b m =>
    have e := Option.some.inj (ea.symm.trans h)
    injection e with e
    exact .inl ⟨b, m, e, rfl, hok⟩
  | put ls =>
    obtain ⟨r, h1, h2⟩ := h
    have e := Option.some.inj (ea.symm.trans h1)
    injection e with e
    exact .inr ⟨r, ls, e, rfl, h2, hok.1, hok.2⟩
theorem pcs_det {H : Hp} : ∀ (l l' : List (Addr × Pc)), (l.map fun q => V.ref q.1) = (l'.map fun q => V.ref q.1) → (∀ q ∈ l, PcAt H q.1 q.2) → (∀ q ∈ l', PcAt H q.1 q.2) → l = l'
  | [], l', h, _, _ => by cases l' with | nil => rfl | cons _ _ => simp at h
  | x :: l, l', h, hx, hx' => by
    cases l' with
    | nil => simp at h
    | cons x' l' =>
      rw [List.map_cons, List.map_cons, List.cons.injEq] at h
      have e1 : x.1 = x'.1 := V.ref.inj h.1
      have p1 := hx x (by simp)
      rw [e1] at p1
      have e2 := p1.det (hx' x' (by simp))
      rw [pcs_det l l' h.2 (fun q hq => hx q (by simp [hq])) (fun q hq => hx' q (by simp [hq]))]
      rw [show x = x' from Prod.ext e1 e2]
theorem scv_tup {H : Hp} {a : Addr} {xs : List V} {ps : List (Addr × Pc)} (ea : H a = some (.tup xs)) (h : ScV H (.ref a) ps) : xs = (ps.map fun q => .ref q.1) ∧ (∀ q ∈ ps, PcAt H q.1 q.2) ∧ ScOk (ps.map (·.2)) := by
  obtain ⟨s', e, h, ok⟩ := h
  cases e
  have e := Option.some.inj (ea.symm.trans h.at')
  injection e with e
  exact ⟨e, h.pc, ok⟩
theorem scv_det {H : Hp} {x : V} {ps qs : List (Addr × Pc)} (h : ScV H x ps) (h' : ScV H x qs) : ps = qs := by
  obtain ⟨s, rfl, h1, ok⟩ := h
  obtain ⟨e, h2, _⟩ := scv_tup h1.at' h'
  exact pcs_det _ _ e h1.pc h2
theorem scv_leaf {H : Hp} {x : V} {a : String} {ps : List (Addr × Pc)} (t : Ty H x a) (hne : a ≠ "tuple") : ¬ ScV H x ps := by
  rintro ⟨s, rfl, h, _⟩
  exact hne (t.ofTup h.at')
theorem PcV.kt {H H' : Hp} {x : V} {p : Pc} (h : PcV H x p) (k : KT H H') : PcV H' x p := by
  obtain ⟨a, e, h1, h2⟩ := h
  exact ⟨a, e, h1.kt k, h2⟩
theorem ScV.kt {H H' : Hp} {x : V} {ps : List (Addr × Pc)} (h : ScV H x ps) (k : KT H H') : ScV H' x ps := by
  obtain ⟨a, e, h1, h2⟩ := h
  exact ⟨a, e, h1.kt k, h2⟩
theorem DatX.backK {B : Nat} {H H1 : Hp} {a : Addr} {xs : List V} (d : DatX B H (.ref a)) (k : KD H H1) (e : H1 a = some (.tup xs)) : H a = some (.tup xs) ∧ ∀ y ∈ xs, DatX B H y := by
  rcases d.cases with ⟨s, t, hne⟩ | ⟨p, ys, e1, e2, _, h2⟩
  · exact absurd ((t.kd k).ofTup e) hne
  · cases e1
    have z := k.t _ _ e2
    rw [e] at z
    cases z
    exact ⟨e2, h2⟩
theorem PcAt.back {B : Nat} {H H1 : Hp} {a : Addr} {p : Pc} (d : DatX B H (.ref a)) (k : KD H H1) (h : PcAt H1 a p) : PcAt H a p := by
  cases p with
  | take u m => exact (d.backK k h).1
  | put ls =>
    obtain ⟨r, h1, h2⟩ := h
    obtain ⟨e1, d1⟩ := d.backK k h1
    exact ⟨r, e1, ((d1 (.ref r) (by simp)).backK k h2).1⟩
theorem ScV.back {B : Nat} {H H1 : Hp} {x : V} {ps : List (Addr × Pc)} (d : DatX B H x) (k : KD H H1) (h : ScV H1 x ps) : ScV H x ps := by
  obtain ⟨s, rfl, h1, h2⟩ := h
  obtain ⟨e1, d1⟩ := d.backK k h1.at'
  exact ⟨s, rfl, ⟨e1, fun q hq => (h1.pc q hq).back (d1 _ (List.mem_map.mpr ⟨q, hq, rfl⟩)) k⟩, h2⟩
section
variable {P : Program} {w : World} {K : PySem.W.Frag} {mg : Str → Option Value} {base : Heap}
theorem ok_lineX {f : Addr} {fd : FuncData} (T : Txt K mg) (F : Fun K "_law_is_line" "_law_is_line" s_law_is_line f fd) : FnOk P w K mg base CX0 1 f fd ["_law_thing"] spLineX := by
  refine F.ok sc_law_is_line (fun vs H Q E h => ?_) (fun cdv A outer s H vs Q E hr h => ?_)
  · obtain ⟨x, B, rfl, _⟩ := h
    rfl
  · obtain ⟨x, B, rfl, hd, hB, q1, q2⟩ := h
    obtain ⟨a, t⟩ := hd.ty
    refine ⟨_,
      (pss_cons
        (ps_if (PW.pt (pw_or (pt_not (pt_val (pe_callB (r := rIsi K) call_isi (by rfl) T.n_isinstance (by decide +kernel) (pa_cons (pv 0) (pa_cons (pe_bltn (v := .ty "str") (u := .type "str") (by rfl) T.n_str (by decide +kernel) rfl) pa_nil))))) (pw_or1 (pt_cmpR op_gt (pe_callB c_lenS (by rfl) T.n_len (by decide +kernel) (pa_cons (pv 0) pa_nil)) pe_int (nomark _)))))
          (pss_one
            (ps_ret pe_bl))
          pss_nil)
      (pss_cons
        (ps_for PassesOwn.never rfl (pi_str (pv 0)) (pg_name (i := 1) sc_law_is_line.nd rfl (.inl rfl))
          (pss_one
            (ps_if (PW.pt (pw_or (pt_cmpR o_ltS (pv 1) pe_str (nomark _)) (pw_or1 (pt_cmpR o_gtS (pv 1) pe_str (nomark _)))))
              (pss_one
                (ps_ret pe_bl))
              pss_nil)))
      (pss_one
        (ps_ret pe_bl))))
      , ?_⟩
    rw [show L2.start N_law_is_line [x] = [some x, none] from rfl]
    refine w_seq ?_
    walk_at "x"
    refine w_isStr t ?_
    walk_at "g"
    refine w_itN (fun hs => ?_) (fun hs => ?_)
    · walk_at "g"
      exact q2 fun z e => by subst e; exact absurd t.ofStr hs
    obtain ⟨z, rfl⟩ := t.isStr hs
    have hz := hd.isT
    walk_at "g"
    refine w_lenS (ln_size (B := 1000) (by omega) (Nat.le_trans hz.1 hB)) ?_
    walk_at "g"
    refine w_ite (fun h40 => ?_) (fun h40 => ?_)
    · walk_at "g"
      exact q2 fun z' e hl => by cases e; have := hl.1; omega
    have no : (∃ c ∈ z.cps.toList, c ∉ SG.cps.toList) → Q (.bl false) H := fun ⟨c, hc, hn⟩ => q2 fun z' e hl => by cases e; exact hn (hl.2 c hc)
    walk_at "g"
    refine lp_it (walk_str z) (fun i σ H' => H' = H ∧ (∃ y : Option V, σ = [some (.str z), y]) ∧ ∀ c ∈ z.cps.toList.take i, c ∈ SG.cps.toList) ⟨rfl, ⟨_, rfl⟩, by simp⟩ (fun _ _ _ _ _ => trivial) ?_ ?_
    · rintro i x σ H1 H2 hi ⟨rfl, ⟨y, rfl⟩, hall⟩ ⟨rfl, c, hc, rfl⟩
      have hc' : z.cps.toList[i]? = some c := by rw [Array.getElem?_toList]; exact hc
      have hcm := List.mem_of_getElem? hc'
      have hiff := sg_iff (hz.2 c hcm)
      walk_at "g"
      refine w_ite (fun h1 => ?_) (fun h1 => ?_)
      · walk_at "g"
        exact no ⟨c, hcm, fun h => (hiff.mp h).1 h1⟩
      walk_at "g"
      refine w_ite (fun h2 => ?_) (fun h2 => ?_)
      · walk_at "g"
        exact no ⟨c, hcm, fun h => (hiff.mp h).2 h2⟩
      walk_at "g"
      refine ⟨rfl, ⟨_, rfl⟩, fun c' h' => ?_⟩
      rw [take_at hc'] at h'
      rcases List.mem_append.mp h' with h | h
      · exact hall c' h
      · have e : c' = c := by simpa using h
        subst e
        exact hiff.mpr ⟨h1, h2⟩
    · rintro σ H1 ⟨rfl, ⟨y, rfl⟩, hall⟩
      walk_at "g"
      refine q1 z rfl ⟨by omega, fun c hc => hall c ?_⟩
      rw [List.take_of_length_le (by simp)]
      exact hc
theorem ok_sizeX {f fL fI : Addr} {fd fdL fdI : FuncData} (T : Txt K mg) (F : Fun K "_law_size" "_law_size" s_law_size f fd) (D_law_is_line : Df K mg "_law_is_line" s_law_is_line ["_law_thing"] fL fdL) (D_law_int : Df K mg "_law_int" s_law_int ["_law_thing"] fI fdI) : FnOk P w K mg base CX0 2 f fd ["_law_piece"] spSizeX := by
  have G_law_is_line : FnOk P w K mg base CX0 1 fL fdL ["_law_thing"] spLineX := ok_lineX T D_law_is_line.fn
  have G_law_int : FnOk P w K mg base CX0 1 fI fdI ["_law_thing"] spWholeG := ok_law_intG T D_law_int.fn
  refine F.ok sc_law_size (fun vs H Q E h => ?_) (fun cdv A outer s H vs Q E hr h => ?_)
  · obtain ⟨x, B, rfl, _⟩ := h
    rfl
  · obtain ⟨x, B, rfl, hd, hB, q1, q2⟩ := h
    refine ⟨_,
      (pss_cons
        (ps_if (PW.pt (pw_or (pt_not (pt_val (pe_callB (r := rIsi K) call_isi (by rfl) T.n_isinstance (by decide +kernel) (pa_cons (pv 0) (pa_cons (pe_bltn (v := .ty "tuple") (u := .type "tuple") (by rfl) T.n_tuple (by decide +kernel) rfl) pa_nil))))) (pw_or (pt_cmpR op_lt (pe_callB (r := rLen K) c_len (by rfl) T.n_len (by decide +kernel) (pa_cons (pv 0) pa_nil)) pe_int (nomark _)) (pw_or1 (pt_not (pt_val (pe_callB (r := rIsi K) call_isi (by rfl) T.n_isinstance (by decide +kernel) (pa_cons (pe_ix (r := rIxT K) ix_tup (pv 0) pe_int (fun _ _ => rfl)) (pa_cons (pe_bltn (v := .ty "str") (u := .type "str") (by rfl) T.n_str (by decide +kernel) rfl) pa_nil)))))))))
          (pss_one
            (ps_ret pe_int))
          pss_nil)
      (pss_cons
        (ps_if (PW.pt (pw_and (pt_cmpR op_eq (pe_ix (r := rIxT K) ix_tup (pv 0) pe_int (fun _ _ => rfl)) pe_str (nomark _)) (pw_and (pt_cmpR op_eq (pe_callB (r := rLen K) c_len (by rfl) T.n_len (by decide +kernel) (pa_cons (pv 0) pa_nil)) pe_int (nomark _)) (pw_and (pt_val (pe_call G_law_int (hr.mono (by omega)) (by rfl) D_law_int.g D_law_int.fn.kp D_law_int.b .nil pass0 (pa_cons (pe_ix (r := rIxT K) ix_tup (pv 0) pe_int (fun _ _ => rfl)) pa_nil))) (pw_and1 (pt_val (pe_call G_law_int (hr.mono (by omega)) (by rfl) D_law_int.g D_law_int.fn.kp D_law_int.b .nil pass0 (pa_cons (pe_ix (r := rIxT K) ix_tup (pv 0) pe_int (fun _ _ => rfl)) pa_nil))))))))
          (pss_cons
            (ps_if (PW.pt (pw_and (pt_cmpR op_ge (pe_ix (r := rIxT K) ix_tup (pv 0) pe_int (fun _ _ => rfl)) pe_int (nomark _)) (pw_and1 (pt_cmpR op_ge (pe_ix (r := rIxT K) ix_tup (pv 0) pe_int (fun _ _ => rfl)) pe_int (nomark _)))))
              (pss_one
                (ps_ret (pe_ix (r := rIxT K) ix_tup (pv 0) pe_int (fun _ _ => rfl))))
              pss_nil)
          (pss_one
            (ps_ret pe_int)))
          pss_nil)
      (pss_cons
        (ps_if (PW.pt (pw_or (pt_cmpR op_ne (pe_ix (r := rIxT K) ix_tup (pv 0) pe_int (fun _ _ => rfl)) pe_str (nomark _)) (pw_or (pt_cmpR op_ne (pe_callB (r := rLen K) c_len (by rfl) T.n_len (by decide +kernel) (pa_cons (pv 0) pa_nil)) pe_int (nomark _)) (pw_or1 (pt_not (pt_val (pe_callB (r := rIsi K) call_isi (by rfl) T.n_isinstance (by decide +kernel) (pa_cons (pe_ix (r := rIxT K) ix_tup (pv 0) pe_int (fun _ _ => rfl)) (pa_cons (pe_bltn (v := .ty "tuple") (u := .type "tuple") (by rfl) T.n_tuple (by decide +kernel) rfl) pa_nil)))))))))
          (pss_one
            (ps_ret pe_int))
          pss_nil)
      (pss_cons
        (ps_for PassesOwn.never rfl (pi_tup (pe_ix (r := rIxT K) ix_tup (pv 0) pe_int (fun _ _ => rfl))) (pg_name (i := 1) sc_law_size.nd rfl (.inl rfl))
          (pss_one
            (ps_if (pt_not (pt_val (pe_call G_law_is_line (hr.mono (by omega)) (by rfl) D_law_is_line.g D_law_is_line.fn.kp D_law_is_line.b .nil pass0 (pa_cons (pv 1) pa_nil))))
              (pss_one
                (ps_ret pe_int))
              pss_nil)))
      (pss_one
        (ps_ret (pe_callB (r := rLen K) c_len (by rfl) T.n_len (by decide +kernel) (pa_cons (pe_ix (r := rIxT K) ix_tup (pv 0) pe_int (fun _ _ => rfl)) pa_nil))))))))
      , ?_⟩
    rw [show L2.start N_law_size [x] = [some x, none] from rfl]
    refine w_seq ?_
    walk_at "x"
    rcases hd.cases with ⟨ay, ty, hne⟩ | ⟨a, xs, rfl, ea, hxB, hxs⟩
    · refine w_isTup ty ?_
      rw [decide_eq_false hne]
      walk_at "g"
      exact q2 fun p => pcv_leaf ty hne
    walk_at "g"
    refine w_ite (fun h2 => ?_) (fun h2 => ?_)
    · walk_at "g"
      refine q2 fun p hp => ?_
      rcases pcv_tup ea hp with ⟨b, m, e, _⟩ | ⟨r, ls, e, _⟩
      · rw [e] at h2
        simp only [List.length_cons, List.length_nil] at h2
        omega
      · rw [e] at h2
        simp only [List.length_cons, List.length_nil] at h2
        omega
    obtain ⟨x0, x1, xr, rfl⟩ : ∃ x0 x1 xr, xs = x0 :: x1 :: xr := by
      match xs, h2 with
      | [], h => exact absurd (by simp) h
      | [_], h => exact absurd (by simp) h
      | x0 :: x1 :: xr, _ => exact ⟨x0, x1, xr, rfl⟩
    obtain ⟨a0, t0⟩ := (hxs x0 (by simp)).ty
    obtain ⟨a1, t1⟩ := (hxs x1 (by simp)).ty
    have at0 : atI (x0 :: x1 :: xr) 0 = some x0 := atI_nat (j := 0) rfl
    have at1 : atI (x0 :: x1 :: xr) 1 = some x1 := atI_nat (j := 1) rfl
    walk_at "g"
    refine w_isStr t0 ?_
    walk_at "g"
    refine w_itN (fun hs => ?_) (fun hs => ?_)
    · walk_at "g"
      refine q2 fun p hp => ?_
      rcases pcv_tup ea hp with ⟨b, m, e, _⟩ | ⟨r, ls, e, _⟩
      · rw [(List.cons.inj e).1] at t0; exact hs t0.ofStr
      · rw [(List.cons.inj e).1] at t0; exact hs t0.ofStr
    obtain ⟨wd, rfl⟩ := t0.isStr hs
    walk_at "g"
    refine w_seqJ (fun σ' H' => σ' = [some (.ref a), none] ∧ H' = H ∧ ∀ b m : Nat, ¬ PcV H (.ref a) (.take b m)) ?_ ?_
    rotate_left
    · intro U hU
      have out : (∀ b m : Nat, ¬ (wd = "take" ∧ x1 = .int (b : Int) ∧ xr = [.int (m : Int)])) → U [some (.ref a), none] H := fun h => hU _ _ ⟨rfl, rfl, fun b m hp => by
        rcases pcv_tup ea hp with ⟨b', m', e, _⟩ | ⟨r, ls, _, e, _⟩
        · refine h b' m' ⟨V.str.inj (List.cons.inj e).1, (List.cons.inj (List.cons.inj e).2).1, (List.cons.inj (List.cons.inj e).2).2⟩
        · cases e⟩
      walk_at "g"
      refine w_ite (fun h1 => ?_) (fun h1 => ?_)
      rotate_left
      · walk_at "g"
        exact out fun b m z => h1 z.1
      walk_at "g"
      refine w_ite (fun h3 => ?_) (fun h3 => ?_)
      rotate_left
      · walk_at "g"
        exact out fun b m z => h3 (by rw [z.2.2]; rfl)
      obtain ⟨x2, rfl⟩ : ∃ x2, xr = [x2] := by
        match xr, h3 with
        | [x2], _ => exact ⟨x2, rfl⟩
        | [], h => simp only [List.length_cons, List.length_nil] at h; omega
        | _ :: _ :: _, h => simp only [List.length_cons] at h; omega
      subst h1
      obtain ⟨a2, t2⟩ := (hxs x2 (by simp)).ty
      have at2 : atI [V.str "take", x1, x2] 2 = some x2 := atI_nat (j := 2) rfl
      walk_at "g"
      refine ⟨x1, a1, rfl, t1, ?_⟩
      walk_at "g"
      refine w_ite (fun hi1 => ?_) (fun hi1 => ?_)
      rotate_left
      · walk_at "g"
        exact out fun b m z => hi1 (by rw [z.2.1] at t1; exact t1.ofInt)
      walk_at "g"
      refine ⟨x2, a2, rfl, t2, ?_⟩
      walk_at "g"
      refine w_ite (fun hi2 => ?_) (fun hi2 => ?_)
      rotate_left
      · walk_at "g"
        exact out fun b m z => hi2 (by
          have e : x2 = .int (m : Int) := by simpa using z.2.2
          rw [e] at t2
          exact t2.ofInt)
      obtain ⟨i, rfl⟩ := t1.isInt hi1
      obtain ⟨j, rfl⟩ := t2.isInt hi2
      have bad : ¬ (0 ≤ i ∧ 1 ≤ j) → ∀ p, ¬ PcV H (.ref a) p := fun h p hp => by
        rcases pcv_tup ea hp with ⟨b', m', e, _, hm⟩ | ⟨r, ls, e, _⟩
        · have e1 : i = (b' : Int) := by simpa using (List.cons.inj (List.cons.inj e).2).1
          have e2 : j = (m' : Int) := by simpa using (List.cons.inj (List.cons.inj (List.cons.inj e).2).2).1
          exact h ⟨by omega, by omega⟩
        · have := congrArg List.length e
          simp at this
      walk_at "g"
      refine w_seq ?_
      walk_at "g"
      refine w_ite (fun h4 => ?_) (fun h4 => ?_)
      rotate_left
      · walk_at "g"
        exact q2 (bad fun z => h4 z.1)
      walk_at "g"
      refine w_ite (fun h5 => ?_) (fun h5 => ?_)
      rotate_left
      · walk_at "g"
        exact q2 (bad fun z => h5 z.2)
      walk_at "g"
      have := q1 (.take i.toNat j.toNat) ⟨a, rfl, by
        show H a = some (.tup [.str "take", .int ((i.toNat : Nat) : Int), .int ((j.toNat : Nat) : Int)])
        rw [Int.toNat_of_nonneg (by omega), Int.toNat_of_nonneg (by omega)]
        exact ea, by show 1 ≤ j.toNat; omega⟩
      rw [show ((Pc.take i.toNat j.toNat).size : Int) = j by show ((j.toNat : Nat) : Int) = j; omega] at this
      exact this
    rintro σ' H' ⟨rfl, rfl, hnt⟩
    have no2 : (∀ r ls, x1 = .ref r → xr = [] → wd = "put" → RwAt H' r ls → (∀ z ∈ ls, LineOk z) → ls = []) → Q (.int 0) H' := fun hn => q2 fun p hp => by
      rcases pcv_tup ea hp with ⟨b', m', e, e', _⟩ | ⟨r, ls, e, _, h1, h2, h3⟩
      · rw [e'] at hp
        exact hnt _ _ hp
      · exact h2 (hn r ls (List.cons.inj (List.cons.inj e).2).1 (List.cons.inj (List.cons.inj e).2).2 (V.str.inj (List.cons.inj e).1) h1 h3)
    refine w_seq ?_
    walk_at "g"
    refine w_itN (fun h1 => ?_) (fun h1 => ?_)
    · walk_at "g"
      exact no2 fun r ls _ _ e => absurd e h1
    walk_at "g"
    refine w_itN (fun h3 => ?_) (fun h3 => ?_)
    · walk_at "g"
      exact no2 fun r ls _ e => by subst e; exact absurd rfl h3
    obtain rfl : xr = [] := by
      cases xr with
      | nil => rfl
      | cons _ _ => simp only [List.length_cons] at h3; omega
    subst h1
    walk_at "g"
    rcases (hxs x1 (by simp)).cases with ⟨ay, ty, hne⟩ | ⟨b, ys, rfl, eb, hyB, hys⟩
    · refine w_isTup ty ?_
      rw [decide_eq_false hne]
      walk_at "g"
      exact no2 fun r ls e _ _ hr' => by
        subst e
        exact absurd (ty.ofTup hr') hne
    walk_at "g"
    refine lp_tup (xs := ys) (fun i σ H1 => H1 = H' ∧ (∃ y : Option V, σ = [some (.ref a), y]) ∧ ∀ y ∈ ys.take i, ∃ z, y = .str z ∧ LineOk z) ⟨rfl, ⟨_, rfl⟩, by simp⟩ (fun i σ H1 _ ⟨e, _⟩ => by rw [e]; exact .of eb) ?_ ?_
    · rintro i y σ H1 hy ⟨rfl, ⟨y', rfl⟩, hall⟩
      have hym := List.mem_of_getElem? hy
      walk_at "g"
      refine ⟨y, B, rfl, hys y hym, hB, fun z e hl => ?_, fun hn => ?_⟩
      · walk_at "g"
        refine ⟨rfl, ⟨_, rfl⟩, fun u hu => ?_⟩
        rw [take_at hy] at hu
        rcases List.mem_append.mp hu with h | h
        · exact hall u h
        · have e' : u = y := by simpa using h
          subst e'
          exact ⟨z, e, hl⟩
      · walk_at "g"
        refine no2 fun r ls e _ _ hr' hlo => ?_
        cases e
        have e2 := Option.some.inj (eb.symm.trans hr')
        injection e2 with e2
        rw [e2] at hym
        obtain ⟨z, hz, rfl⟩ := List.mem_map.mp hym
        exact absurd (hlo z hz) (hn z rfl)
    · rintro σ H1 ⟨rfl, ⟨y', rfl⟩, hall⟩
      rw [List.take_length] at hall
      obtain ⟨ls, rfl, hlo⟩ := strs_of hall
      walk_at "g"
      by_cases h0 : ls = []
      · subst h0
        refine no2 fun r ls' e _ _ hr' _ => ?_
        cases e
        have e2 := Option.some.inj (eb.symm.trans hr')
        injection e2 with e2
        cases ls' with
        | nil => rfl
        | cons _ _ => simp at e2
      · have := q1 (.put ls) ⟨a, rfl, ⟨b, ea, eb⟩, h0, hlo⟩
        rw [show ((Pc.put ls).size : Int) = ((ls.map V.str).length : Int) by show ((ls.length : Nat) : Int) = _; rw [List.length_map]] at this
        exact this
theorem ok_lscriptX {f fS fL fI : Addr} {fd fdS fdL fdI : FuncData} (T : Txt K mg) (F : Fun K "_law_is_script" "_law_is_script" s_law_is_script f fd) (D_law_size : Df K mg "_law_size" s_law_size ["_law_piece"] fS fdS) (D_law_is_line : Df K mg "_law_is_line" s_law_is_line ["_law_thing"] fL fdL) (D_law_int : Df K mg "_law_int" s_law_int ["_law_thing"] fI fdI) : FnOk P w K mg base CX0 3 f fd ["_law_thing"] spLScriptX := by
  have G_law_size : FnOk P w K mg base CX0 2 fS fdS ["_law_piece"] spSizeX := ok_sizeX T D_law_size.fn D_law_is_line D_law_int
  refine F.ok sc_law_is_script (fun vs H Q E h => ?_) (fun cdv A outer s H vs Q E hr h => ?_)
  · obtain ⟨x, B, rfl, _⟩ := h
    rfl
  · obtain ⟨x, B, rfl, hd, hB, q1, q2⟩ := h
    refine ⟨_,
      (pss_cons
        (ps_if (pt_not (pt_val (pe_callB (r := rIsi K) call_isi (by rfl) T.n_isinstance (by decide +kernel) (pa_cons (pv 0) (pa_cons (pe_bltn (v := .ty "tuple") (u := .type "tuple") (by rfl) T.n_tuple (by decide +kernel) rfl) pa_nil)))))
          (pss_one
            (ps_ret pe_bl))
          pss_nil)
      (pss_cons
        (ps_set (i := 1) sc_law_is_script.nd rfl (.inl rfl) pe_int)
      (pss_cons
        (ps_for PassesOwn.never rfl (pi_tup (pv 0)) (pg_name (i := 2) sc_law_is_script.nd rfl (.inl rfl))
          (pss_cons
            (ps_if (pt_cmpR op_eq (pe_call G_law_size (hr.mono (by omega)) (by rfl) D_law_size.g D_law_size.fn.kp D_law_size.b .nil pass0 (pa_cons (pv 2) pa_nil)) pe_int (nomark _))
              (pss_one
                (ps_ret pe_bl))
              pss_nil)
          (pss_one
            (ps_set (i := 1) sc_law_is_script.nd rfl (.inl rfl) (pe_op op_add (pv 1) (pe_call G_law_size (hr.mono (by omega)) (by rfl) D_law_size.g D_law_size.fn.kp D_law_size.b .nil pass0 (pa_cons (pv 2) pa_nil)))))))
      (pss_one
        (ps_ret (pe_cmpR op_le (pv 1) pe_int (nomark _)))))))
      , ?_⟩
    rw [show L2.start N_law_is_script [x] = [some x, none, none] from rfl]
    refine w_seq ?_
    walk_at "x"
    rcases hd.cases with ⟨ay, ty, hne⟩ | ⟨a, xs, rfl, ea, hxB, hxs⟩
    · refine w_isTup ty ?_
      rw [decide_eq_false hne]
      walk_at "g"
      exact q2 fun ps => scv_leaf ty hne
    walk_at "g"
    refine lp_tup (xs := xs) (fun i σ H' => H' = H ∧ ∃ (y2 : Option V) (ps : List (Addr × Pc)), σ = [some (.ref a), some (.int (sizes (ps.map (·.2)) : Int)), y2] ∧ xs.take i = ps.map (fun q => .ref q.1) ∧ (∀ q ∈ ps, PcAt H q.1 q.2 ∧ q.2.ok)) ⟨rfl, _, [], rfl, rfl, by simp⟩ (fun i σ H1 _ ⟨e, _⟩ => by rw [e]; exact .of ea) ?_ ?_
    · rintro i y σ H1 hy ⟨rfl, y2, ps, rfl, htk, hpc⟩
      have hym := List.mem_of_getElem? hy
      refine w_name ?_
      dsimp only [List.set_cons_zero, List.set_cons_succ]
      refine w_seq ?_
      walk_at "g"
      refine ⟨y, B, rfl, hxs y hym, hB, fun p hp => ?_, fun hn => ?_⟩
      · have hpos := hp.choose_spec.2.2.pos
        walk_at "g"
        refine w_no (by omega) ?_
        walk_at "g"
        refine ⟨y, B, rfl, hxs y hym, hB, fun p' hp' => ?_, fun hn => absurd hp (hn p)⟩
        obtain ⟨b1, rfl, h1, ok1⟩ := hp
        have e : p' = p := by
          obtain ⟨b2, e2, h2, _⟩ := hp'
          cases e2
          exact h2.det h1
        subst e
        walk_at "g"
        refine ⟨rfl, some (.ref b1), ps ++ [(b1, p')], ?_, ?_, fun q hq => ?_⟩
        · rw [List.map_append, show List.map (fun x : Addr × Pc => x.2) [(b1, p')] = [p'] from rfl, sizes_snoc]
          simp
        · rw [take_at hy, htk, List.map_append]
          rfl
        · rcases List.mem_append.mp hq with h | h
          · exact hpc q h
          · have e : q = (b1, p') := by simpa using h
            subst e
            exact ⟨h1, ok1⟩
      · walk_at "g"
        refine w_yes rfl ?_
        walk_at "g"
        refine q2 fun ps' h => ?_
        obtain ⟨e, h1, h2⟩ := scv_tup ea h
        rw [e] at hym
        obtain ⟨q, hq, rfl⟩ := List.mem_map.mp hym
        exact hn q.2 ⟨q.1, rfl, h1 q hq, h2.ok _ (List.mem_map_of_mem hq)⟩
    · rintro σ H1 ⟨rfl, y2, ps, rfl, htk, hpc⟩
      rw [List.take_length] at htk
      have hps : ∀ p ∈ ps.map (·.2), p.ok := fun p hp => by
        obtain ⟨q, hq, rfl⟩ := List.mem_map.mp hp
        exact (hpc q hq).2
      walk_at "g"
      by_cases h40 : sizes (ps.map (·.2)) ≤ 40
      · rw [decide_eq_true (show (sizes (ps.map (·.2)) : Int) ≤ 40 by omega)]
        exact q1 ps ⟨a, rfl, ⟨by rw [← htk]; exact ea, fun q hq => (hpc q hq).1⟩, hps, h40⟩
      · rw [decide_eq_false (show ¬ (sizes (ps.map (·.2)) : Int) ≤ 40 by omega)]
        refine q2 fun ps' h => ?_
        obtain ⟨e, h1, h2⟩ := scv_tup ea h
        rw [htk] at e
        have := pcs_det _ _ e (fun q hq => (hpc q hq).1) h1
        subst this
        exact h40 h2.few
theorem ok_lfitsX {f fC fS fL fI : Addr} {fd fdC fdS fdL fdI : FuncData} (T : Txt K mg) (F : Fun K "_law_fits" "_law_fits" s_law_fits f fd) (D_law_is_script : Df K mg "_law_is_script" s_law_is_script ["_law_thing"] fC fdC) (D_law_size : Df K mg "_law_size" s_law_size ["_law_piece"] fS fdS) (D_law_is_line : Df K mg "_law_is_line" s_law_is_line ["_law_thing"] fL fdL) (D_law_int : Df K mg "_law_int" s_law_int ["_law_thing"] fI fdI) : FnOk P w K mg base CX0 4 f fd ["_law_base", "_law_thing"] spLFitsX := by
  have G_law_is_script : FnOk P w K mg base CX0 3 fC fdC ["_law_thing"] spLScriptX := ok_lscriptX T D_law_is_script.fn D_law_size D_law_is_line D_law_int
  refine F.ok sc_law_fits (fun vs H Q E h => ?_) (fun cdv A outer s H vs Q E hr h => ?_)
  · obtain ⟨b, bs, x, B, rfl, _⟩ := h
    rfl
  · obtain ⟨b, bs, x, B, rfl, hb, hbl, hd, hB, q1, q2⟩ := h
    have hb' : H b = some (.tup (bs.map V.str)) := hb
    refine ⟨_,
      (pss_cons
        (ps_if (pt_not (pt_val (pe_call G_law_is_script (hr.mono (by omega)) (by rfl) D_law_is_script.g D_law_is_script.fn.kp D_law_is_script.b .nil pass0 (pa_cons (pv 1) pa_nil))))
          (pss_one
            (ps_ret pe_bl))
          pss_nil)
      (pss_cons
        (ps_for PassesOwn.never rfl (pi_tup (pv 1)) (pg_name (i := 2) sc_law_fits.nd rfl (.inl rfl))
          (pss_one
            (ps_if (PW.pt (pw_and (pt_cmpR op_eq (pe_ix (r := rIxT K) ix_tup (pv 2) pe_int (fun _ _ => rfl)) pe_str (nomark _)) (pw_and1 (pt_cmpR op_gt (pe_op op_add (pe_ix (r := rIxT K) ix_tup (pv 2) pe_int (fun _ _ => rfl)) (pe_ix (r := rIxT K) ix_tup (pv 2) pe_int (fun _ _ => rfl))) (pe_callB (r := rLen K) c_len (by rfl) T.n_len (by decide +kernel) (pa_cons (pv 0) pa_nil)) (nomark _)))))
              (pss_one
                (ps_ret pe_bl))
              pss_nil)))
      (pss_one
        (ps_ret pe_bl))))
      , ?_⟩
    rw [show L2.start N_law_fits [V.ref b, x] = [some (.ref b), some x, none] from rfl]
    refine w_seq ?_
    walk_at "x"
    refine ⟨x, B, rfl, hd, hB, fun ps hps => ?_, fun hn => ?_⟩
    rotate_left
    · walk_at "g"
      exact q2 fun ps h => hn ps h.1
    have hps' := hps
    obtain ⟨s', rfl, hS, hO⟩ := hps
    have st := hS.at'
    have bad : (∃ q ∈ ps, ¬ q.2.fits bs.length) → Q (.bl false) H := fun ⟨q, hq, hn⟩ => q2 fun ps' h => by
      rw [scv_det h.1 hps'] at h
      exact hn (h.2 q hq)
    walk_at "g"
    refine lp_tup (xs := ps.map fun q => .ref q.1) (fun i σ H' => H' = H ∧ (∃ y : Option V, σ = [some (.ref b), some (.ref s'), y]) ∧ ∀ q ∈ ps.take i, q.2.fits bs.length) ⟨rfl, ⟨_, rfl⟩, by simp⟩ ?_ ?_ ?_
    · rintro i σ H' _ ⟨rfl, _⟩
      exact .of st
    · rintro i y σ H' hy ⟨rfl, ⟨y2, rfl⟩, hall⟩
      obtain ⟨z, hz, rfl⟩ := map_at hy
      have hzm := List.mem_of_getElem? hz
      have hpc := hS.pc z hzm
      have more : z.2.fits bs.length → ∀ q ∈ ps.take (i + 1), q.2.fits bs.length := fun hf q hq => by
        rw [take_at hz] at hq
        rcases List.mem_append.mp hq with h | h
        · exact hall q h
        · have e : q = z := by simpa using h
          subst e
          exact hf
      obtain ⟨za, zp⟩ := z
      cases zp with
      | take u m =>
        have hpc' : H' za = some (.tup [.str "take", .int (u : Int), .int (m : Int)]) := hpc
        walk_at "g"
        refine w_yes rfl ?_
        walk_at "g"
        refine w_ite (fun h1 => ?_) (fun h1 => ?_)
        · walk_at "g"
          refine bad ⟨_, hzm, fun h => ?_⟩
          have h' : u + m ≤ bs.length := h
          rw [List.length_map] at h1
          omega
        · walk_at "g"
          refine ⟨rfl, ⟨_, rfl⟩, more ?_⟩
          show u + m ≤ bs.length
          rw [List.length_map] at h1
          omega
      | put ls =>
        obtain ⟨r, hpc1, hpc2⟩ := id hpc
        walk_at "g"
        refine w_no (by decide) ?_
        walk_at "g"
        exact ⟨rfl, ⟨_, rfl⟩, more trivial⟩
    · rintro σ H' ⟨rfl, ⟨y2, rfl⟩, hall⟩
      walk_at "g"
      rw [List.length_map, List.take_length] at hall
      exact q1 ps ⟨hps', hall⟩
end
/-! ### done, price, joined with the refusal -/
def spDoneX (C : Addr) : Sp := fun vs H Q E => ∃ (b : Addr) (bs : List Str) (x : V) (B : Nat), vs = [.ref b, x] ∧ RwAt H b bs ∧ bs.length ≤ 1000 ∧ DatT B H x ∧ B ≤ 1000000 ∧
  (∀ ps, FitV H x bs.length ps → ∀ H' r, Same H H' → RwAt H' r (makes bs (ps.map (·.2))) → Q (.ref r) H') ∧ ((∀ ps, ¬ FitV H x bs.length ps) → ∀ H', Same H H' → E (.ref C) none H')
def spPriceX (C : Addr) : Sp := fun vs H Q E => ∃ (x : V) (t p : Int) (B : Nat), vs = [x, .int t, .int p] ∧ 0 ≤ p ∧ p < 2 ^ 60 ∧ DatT B H x ∧ B ≤ 1000000 ∧
  (∀ ps, ScV H x ps → ∀ H', Same H H' → Q (.int (costs t p (ps.map (·.2)))) H') ∧ ((∀ ps, ¬ ScV H x ps) → ∀ H', Same H H' → E (.ref C) none H')
/-- both, one behind the other -/
def BothV (H : Hp) (n : Nat) (x y : V) : Prop := ∃ ps qs, FitV H x n ps ∧ FitV H y (sizes (ps.map (·.2))) qs
def spJoinedX (C : Addr) : Sp := fun vs H Q E => ∃ (b : Addr) (bs : List Str) (x y : V) (B : Nat), vs = [.ref b, x, y] ∧ RwAt H b bs ∧ bs.length ≤ 1000 ∧ DatX B H x ∧ DatX B H y ∧ B ≤ 1000 ∧
  (BothV H bs.length x y → ∀ H' v, Same H H' → Q v H') ∧ (¬ BothV H bs.length x y → ∀ H', Same H H' → E (.ref C) none H')
section
variable {P : Program} {w : World} {K : PySem.W.Frag} {mg : Str → Option Value} {base : Heap}
theorem ok_doneX {f fS fM fI fT C_NoScript : Addr} {fd fdS fdM fdI fdT : FuncData} (T : Txt K mg) (F : Fun K "done" "done" s_done f fd) (D_is_script : Df K mg "is_script" s_is_script ["thing"] fS fdS) (D_made_by : Df K mg "made_by" s_made_by ["thing"] fM fdM) (D_is_int : DfD K mg "is_int" s_is_int ["thing", "least"] [.int 0] fI fdI) (D_is_text : DfD K mg "is_text" s_is_text ["thing", "most"] [.int 40] fT fdT) (X_NoScript : Exn K mg "NoScript" C_NoScript) : FnOk P w K mg base (L2.CX P w) 4 f fd ["base", "script"] (spDoneX C_NoScript) := by
  have G_is_script : FnOk P w K mg base CX0 3 fS fdS ["thing"] spIsScript := ok_isscript T D_is_script.fn D_made_by D_is_int D_is_text
  refine F.okX sc_done (fun vs H Q E h => ?_) (fun cdv A outer s H vs Q E hr h => ?_)
  · obtain ⟨b, bs, x, B, rfl, _⟩ := h
    rfl
  · obtain ⟨b, bs, x, B, rfl, hb, hbl, hdx, hB, q1, q2⟩ := h
    refine ⟨_,
      (pss_cons
        (ps_if (pt_not (pt_val (pe_call G_is_script (hr.mono (by omega)) (by rfl) D_is_script.g D_is_script.fn.kp D_is_script.b .nil pass0 (pa_cons (pv 1) pa_nil))))
          (pss_one
            (ps_raise rfl (takes_of rfl rfl rfl rfl) (pmk_own PySem.F.excBase_ValueError X_NoScript.x X_NoScript.g X_NoScript.k (raises_own X_NoScript.b X_NoScript.t) rfl)))
          pss_nil)
      (pss_cons
        (ps_set (i := 2) sc_done.nd rfl (.inl rfl) (pe_lst pa_nil))
      (pss_cons
        (ps_for (passes_of rfl) rfl (pi_tup (pv 1)) (pg_star (j := 1) rfl (pgs_cons (pg_name (i := 3) sc_done.nd rfl (.inl rfl)) (pgs_star (pg_name (i := 4) sc_done.nd rfl (.inl rfl)) pgs_nil)))
          (pss_one
            (ps_if (pt_cmpR op_eq (pv 3) pe_str (nomark _))
              (pss_cons
                (ps_asg (pv 4) (pg_lst (n := 2) rfl (pgs_cons (pg_name (i := 5) sc_done.nd rfl (.inl rfl)) (pgs_cons (pg_name (i := 6) sc_done.nd rfl (.inl rfl)) pgs_nil))))
              (pss_cons
                (ps_if (pt_cmpR op_gt (pe_op op_add (pv 5) (pv 6)) (pe_callB (r := rLen K) c_len (by rfl) T.n_len (by decide +kernel) (pa_cons (pv 0) pa_nil)) (nomark _))
                  (pss_one
                    (ps_raise rfl (takes_of rfl rfl rfl rfl) (pmk_own PySem.F.excBase_ValueError X_NoScript.x X_NoScript.g X_NoScript.k (raises_own X_NoScript.b X_NoScript.t) rfl)))
                  pss_nil)
              (pss_one
                (ps_expr (pe_bm PySem.F.plainAttrs_list PySem.F.slot_list_extend PySem.F.type_list_extend mt_extT (pv 2) (pa_cons (pe_slice sl_tupA (pv 0) (po_some (pv 5)) (po_some (pe_op op_add (pv 5) (pv 6)))) pa_nil))))))
              (pss_one
                (ps_expr (pe_bm PySem.F.plainAttrs_list PySem.F.slot_list_extend PySem.F.type_list_extend mt_extT (pv 2) (pa_cons (pe_ix (r := rIxL K) ix_list (pv 4) pe_int (fun _ _ => rfl)) pa_nil)))))))
      (pss_one
        (ps_ret (pe_callTy (r := rTupOf K) c_tupOf (by rfl) T.n_tuple (by decide +kernel) (pa_cons (pv 2) pa_nil)))))))
      , ?_⟩
    rw [show L2.start N_done [V.ref b, x] = [some (.ref b), some x, none, none, none, none, none] from rfl]
    refine w_seq ?_
    walk_at "x"
    refine ⟨x, B, rfl, hdx, hB, fun ps hps H1 k1 => ?_, fun hn H1 k1 => ?_⟩
    rotate_left
    · walk_at "g"
      exact q2 (fun ps h => hn ps h.1) _ k1
    have hps' := hps
    obtain ⟨s', rfl, hS, hO⟩ := hps
    have bad : ∀ H', Same H H' → (∃ q ∈ ps, ¬ q.2.fits bs.length) → E (.ref C_NoScript) none H' := fun H' k ⟨z, hz, hn⟩ => q2 (fun ps' h => by
      rw [scv_det h.1 hps'] at h
      exact hn (h.2 z hz)) H' k
    walk_at "g"
    refine w_new fun rw' H2 hrw erw k2 => ?_
    have k02 := Same.trans k1 k2
    have off : ∀ {x : Addr} {o : HO}, H1 x = some o → x ∉ [rw'] := fun {x o} e => by simpa using ne_of_none e hrw
    have st2 := k02 _ _ hS.at'
    have b2 : H2 b = some (.tup (bs.map V.str)) := k02 _ _ hb
    walk_at "g"
    refine lp_tup (xs := ps.map fun q => .ref q.1) (fun i σ H' => ∃ (y3 y4 y5 y6 : Option V), σ = [some (.ref b), some (.ref s'), some (.ref rw'), y3, y4, y5, y6] ∧ Kp [rw'] H2 H' ∧ H' rw' = some (.lst ((makes bs ((ps.take i).map (·.2))).map V.str)) ∧ ∀ q ∈ ps.take i, q.2.fits bs.length) ?_ ?_ ?_ ?_
    · exact ⟨_, _, _, _, rfl, Kp.refl, erw, by simp⟩
    · rintro i σ H' _ ⟨_, _, _, _, _, k, _⟩
      exact .of (k _ _ (off (k1 _ _ hS.at')) st2)
    · rintro i y σ H3 hy ⟨y3, y4, y5, y6, rfl, k3, e3, hf⟩
      obtain ⟨z, hz, rfl⟩ := map_at hy
      have hzm := List.mem_of_getElem? hz
      have hzo := hO.ok _ (List.mem_map_of_mem (f := fun q : Addr × Pc => q.2) hzm)
      have kt3 : KT H2 H3 := KT.kp k3 (by simp [erw])
      have hpc := (hS.pc z hzm).kt ((KT.of k02).trans kt3)
      have b3 := kt3 _ _ b2
      have tk : (ps.take (i + 1)).map (·.2) = (ps.take i).map (·.2) ++ [z.2] := by rw [take_at hz, List.map_append]; rfl
      have more : z.2.fits bs.length → ∀ q ∈ ps.take (i + 1), q.2.fits bs.length := fun h1 q hq => by
        rw [take_at hz] at hq
        rcases List.mem_append.mp hq with h | h
        · exact hf q h
        · have e : q = z := by simpa using h
          subst e
          exact h1
      have hlen : (makes bs ((ps.take i).map (·.2))).length ≤ 40 := by
        rw [makes_len fun p hp => by
          obtain ⟨q', hq', rfl⟩ := List.mem_map.mp hp
          exact hf q' hq']
        have := sizes_take (ps.map (·.2)) i
        rw [← List.map_take] at this
        have := hO.few
        omega
      have k03 : Same H H3 := fun x o e => k3 _ _ (off (k1 _ _ e)) (k02 _ _ e)
      obtain ⟨za, zp⟩ := z
      cases zp with
      | take u m =>
        have hpc' : H3 za = some (.tup [.str "take", .int (u : Int), .int (m : Int)]) := hpc
        refine w_gstar (.of hpc') (by simp) fun L H4 hL eL k4 => ?_
        have eL' : H4 L = some (.lst [.int (u : Int), .int (m : Int)]) := eL
        show gCons _ _ [V.str "take", .ref L] _ _ _
        have e4 := k4 _ _ e3
        have b4 := k4 _ _ b3
        walk_at "g"
        refine w_yes rfl ?_
        walk_at "g"
        refine w_seq ?_
        walk_at "g"
        refine w_ite (fun hbad => ?_) (fun hfit' => ?_)
        · walk_at "g"
          refine bad _ (Same.trans k03 k4) ⟨_, hzm, fun h => ?_⟩
          have h' : u + m ≤ bs.length := h
          rw [List.length_map] at hbad
          omega
        have hfit : u + m ≤ bs.length := by
          rw [List.length_map] at hfit'
          omega
        walk_at "g"
        refine w_slAt b4 fun sl H5 e5 k5 => ?_
        have e4' := k5 _ _ e4
        rw [cut_strs bs hfit] at e5
        walk_at "g"
        refine w_extT e4' e5 (by rw [List.length_map, List.length_map, List.length_take, List.length_drop]; exact small2000 (by omega)) fun H6 e6 o6 => ?_
        refine ⟨_, _, _, _, rfl, k3.trans ((Kp.of (Same.trans k4 k5)).trans (o6.kp (by simp))), ?_, more hfit⟩
        rw [e6, tk, makes_snoc, List.map_append]
        rfl
      | put ls =>
        obtain ⟨r, hpc1, hpc2⟩ := hpc
        refine w_gstar (.of hpc1) (by simp) fun L H4 hL eL k4 => ?_
        have eL' : H4 L = some (.lst [.ref r]) := eL
        show gCons _ _ [V.str "put", .ref L] _ _ _
        have e4 := k4 _ _ e3
        have r4 := k4 _ _ hpc2
        have hls : ls.length ≤ 40 := by
          have h1 : (Pc.put ls).size ≤ sizes (ps.map (·.2)) := le_sum (List.mem_map_of_mem (f := Pc.size) (List.mem_map_of_mem (f := fun q : Addr × Pc => q.2) hzm))
          have h2 : ls.length ≤ sizes (ps.map (·.2)) := h1
          have := hO.few
          omega
        have at0 : atI [V.ref r] 0 = some (.ref r) := atI_nat (j := 0) rfl
        walk_at "g"
        refine w_no (by decide) ?_
        walk_at "g"
        refine w_extT e4 r4 (by rw [List.length_map, List.length_map]; exact small2000 (by omega)) fun H6 e6 o6 => ?_
        refine ⟨_, _, _, _, rfl, k3.trans ((Kp.of k4).trans (o6.kp (by simp))), ?_, more trivial⟩
        rw [e6, tk, makes_snoc, List.map_append]
        rfl
    · rintro σ H3 ⟨y3, y4, y5, y6, rfl, k3, e3, hf⟩
      rw [List.length_map, List.take_length] at e3 hf
      walk_at "g"
      refine w_tupL (.of e3) fun r H4 hr4 e4 k4 => ?_
      exact q1 ps ⟨hps', hf⟩ H4 r (fun x o e => k4 _ _ (k3 _ _ (off (k1 _ _ e)) (k02 _ _ e))) e4
end
def StandsIn (bs xs : List Str) : Prop := ∃ w, w + xs.length ≤ bs.length ∧ (bs.drop w).take xs.length = xs
theorem standsIn {bs rs : List Str} {b e : Nat} (h : b ≤ e) (he : e ≤ rs.length) : StandsIn bs ((rs.drop b).take (e - b)) ↔ ∃ w, Stands bs rs b w (e - b) := by
  have hl : ((rs.drop b).take (e - b)).length = e - b := by rw [List.length_take, List.length_drop]; omega
  unfold StandsIn
  rw [hl]
  exact ⟨fun ⟨w, h1, h2⟩ => ⟨w, h1, by omega, h2⟩, fun ⟨w, h1, _, h2⟩ => ⟨w, h1, h2⟩⟩
theorem strs_eqvG : ∀ ls xs : List Str, PyData.eqvAll (ls.map .str) (xs.map .str) = decide (ls = xs)
  | [], [] => rfl
  | [], x :: xs => by simp [PyData.eqvAll]
  | z :: ls, [] => by simp [PyData.eqvAll]
  | z :: ls, x :: xs => by
    rw [List.map_cons, List.map_cons, PyData.eqvAll, PyData.eqv, strs_eqvG ls xs]
    by_cases h1 : z = x
    · subst h1
      simp
    · simp [h1]
theorem rows_shaped {ls : List Str} (ho : ∀ x ∈ ls, LineOk x) : SeqAt.shaped (.tuple (ls.map .str)) = true := by
  obtain ⟨g1, g2⟩ := lay_strs ho
  unfold SeqAt.shaped
  rw [Bool.and_eq_true_iff]
  refine ⟨by rw [PyData.canLay0]; exact g1, decide_eq_true ?_⟩
  rw [PyData.depth]
  omega
theorem w_eqRowsG {K : PySem.W.Frag} {H : Hp} {Q : VK} {a z : Addr} {ls xs : List Str} (h1 : RwAt H a ls) (h2 : RwAt H z xs) (ho : ∀ x ∈ ls, LineOk x) (hx : ∀ x ∈ xs, LineOk x) (h : Q (.bl (decide (ls = xs))) H) : rEqD K (.ref a) (.ref z) H Q := by
  refine ⟨.tuple (ls.map .str), .tuple (xs.map .str), .tup (.of h1) (dp_strs ls), .tup (.of h2) (dp_strs xs), rows_shaped ho, rows_shaped hx, ?_⟩
  have e : PyData.eqv (.tuple (ls.map .str)) (.tuple (xs.map .str)) = decide (ls = xs) := by rw [PyData.eqv]; exact strs_eqvG ls xs
  rw [e]
  exact h
def spStands : Sp := fun vs H Q _ => ∃ (b r : Addr) (bs xs : List Str), vs = [.ref b, .ref r] ∧ RwAt H b bs ∧ bs.length ≤ 1000 ∧ RwAt H r xs ∧ xs.length ≤ 1000 ∧ (∀ z ∈ bs, LineOk z) ∧ (∀ z ∈ xs, LineOk z) ∧ (StandsIn bs xs → ∀ H', Same H H' → Q (.bl true) H') ∧ (¬ StandsIn bs xs → ∀ H', Same H H' → Q (.bl false) H')
section
variable {P : Program} {w : World} {K : PySem.W.Frag} {mg : Str → Option Value} {base : Heap}
theorem ok_stands {f : Addr} {fd : FuncData} (T : Txt K mg) (F : Fun K "_law_stands" "_law_stands" s_law_stands f fd) : FnOk P w K mg base CX0 1 f fd ["_law_base", "_law_part"] spStands := by
  refine F.ok sc_law_stands (fun vs H Q E h => ?_) (fun cdv A outer s H vs Q E hr h => ?_)
  · obtain ⟨b, r, bs, xs, rfl, _⟩ := h
    rfl
  · obtain ⟨b, r, bs, xs, rfl, hb, hbl, hr', hxl, hbo, hxo, q1, q2⟩ := h
    have hb' : H b = some (.tup (bs.map V.str)) := hb
    have hr0 : H r = some (.tup (xs.map V.str)) := hr'
    refine ⟨_,
      (pss_cons
        (ps_for PassesOwn.never rfl (pi_range1 (by rfl) T.n_range (pa_cons (pe_op op_add (pe_op op_sub (pe_callB (r := rLen K) c_len (by rfl) T.n_len (by decide +kernel) (pa_cons (pv 0) pa_nil)) (pe_callB (r := rLen K) c_len (by rfl) T.n_len (by decide +kernel) (pa_cons (pv 1) pa_nil))) pe_int) pa_nil)) (pg_name (i := 2) sc_law_stands.nd rfl (.inl rfl))
          (pss_one
            (ps_if (pt_cmpR (r := rEqD K) (op_eqD hr.units) (pe_slice sl_tupA (pv 0) (po_some (pv 2)) (po_some (pe_op op_add (pv 2) (pe_callB (r := rLen K) c_len (by rfl) T.n_len (by decide +kernel) (pa_cons (pv 1) pa_nil))))) (pv 1) (nomark _))
              (pss_one
                (ps_ret pe_bl))
              pss_nil)))
      (pss_one
        (ps_ret pe_bl)))
      , ?_⟩
    rw [show L2.start N_law_stands [V.ref b, V.ref r] = [some (.ref b), some (.ref r), none] from rfl]
    walk_at "x"
    try refine w_rng1' (by simp only [List.length_map]; omega) (by simp only [List.length_map]; omega) ?_
    refine lp_range (fun i σ H' => Same H H' ∧ (∃ (y : Option V), σ = [some (.ref b), some (.ref r), y]) ∧ ∀ w, w < i → ¬ (bs.drop w).take xs.length = xs) ⟨fun _ _ e => e, ⟨_, rfl⟩, fun w h => absurd h (Nat.not_lt_zero _)⟩ ?_ ?_
    · rintro i σ H1 hi ⟨k1, ⟨y, rfl⟩, hno⟩
      have hi' : i + xs.length ≤ bs.length := by
        simp only [List.length_map] at hi
        omega
      have hb1 := k1 _ _ hb'
      have hr1 := k1 _ _ hr0
      walk_at "g"
      refine w_slAt hb1 fun sl H2 e2 k2 => ?_
      rw [show (0 : Int) + (i : Int) = (i : Int) by omega, List.length_map, cut_strs bs hi'] at e2
      have k02 := Same.trans k1 k2
      walk_at "g"
      refine w_eqRowsG e2 (k02 _ _ hr') (fun z hz => hbo z (List.mem_of_mem_drop (List.mem_of_mem_take hz))) hxo ?_
      walk_at "g"
      refine w_ite (fun he => ?_) (fun he => ?_)
      · walk_at "g"
        exact q1 ⟨i, hi', he⟩ H2 k02
      · walk_at "g"
        refine ⟨k02, ⟨_, rfl⟩, fun w hw => ?_⟩
        by_cases hwi : w < i
        · exact hno w hwi
        · have : w = i := by omega
          subst this
          exact he
    · rintro σ H1 ⟨k1, ⟨y, rfl⟩, hno⟩
      walk_at "g"
      refine q2 (fun ⟨w, h1, h2⟩ => hno w ?_ h2) H1 k1
      simp only [List.length_map]
      omega
end
local macro_rules | `(tactic| walk_at "e1") => `(tactic| first | exact DatX.int | exact DatX.leaf .non (by decide) (fun z q => by cases q) | exact DatX.leaf (.bl _) (by decide) (fun z q => by cases q) | exact DatX.txt ⟨by decide +kernel, by decide +kernel⟩ | (refine (by assumption : ∀ y ∈ (_ : List V), DatX _ _ y) _ ?_; simp))
local macro_rules | `(tactic| walk_at "el") => `(tactic| repeat (first | exact List.forall_mem_nil _ | refine List.forall_mem_cons.mpr ⟨by walk_at "e1", ?_⟩))
local macro_rules | `(tactic| walk_at "od") => `(tactic| repeat (first | walk_at "s" | refine w_repS (by decide) (by decide) (by decide) ?_ | refine x_newLD (by assumption) (by assumption) (by assumption) (by simp only [List.length_cons, List.length_nil]; decide) (fun p H' D hL kk => ?_) | refine x_newKD (by assumption) (by assumption) (by assumption) (fun p H' D hL kk => ?_) | refine x_dispD (by assumption) (by assumption) (by assumption) (fun p H' D hL kk => ?_) | refine x_newD (by assumption) (by assumption) (by assumption) (by walk_at "el") (by simp only [List.length_cons, List.length_nil]; decide) (fun p H' D hL kk ex => ?_)))
theorem rep_dat {H : Hp} {B : Nat} {v : V} (h : DatX B H v) (n : Nat) : ∀ y ∈ (List.replicate n [v]).flatten, DatX B H y := fun y hy => by
  obtain ⟨l, hl, hy⟩ := List.mem_flatten.mp hy
  obtain ⟨_, rfl⟩ := List.mem_replicate.mp hl
  have e : y = v := by simpa using hy
  subst e
  exact h
def spOdd : Sp := fun vs H Q _ => ∃ (d c : Addr) (n : Nat), vs = [.ref d] ∧ Deck H d c n ∧ n + 1 ≤ MOSTD ∧ ∀ H' y, Deck H' d c (n + 1) → KX d H H' → DatX 41 H' y → Q y H'
section
variable {P : Program} {w : World} {K : PySem.W.Frag} {mg : Str → Option Value} {base : Heap}
theorem ok_odd {f fM fD : Addr} {fd fdM fdD : FuncData} (T : Txt K mg) (F : Fun K "_law_odd" "_law_odd" s_law_odd f fd) (D_law_mixed : Df K mg "_law_mixed" s_law_mixed ["_law_cell", "_law_turn"] fM fdM)
    (D_law_draw : Df K mg "_law_draw" s_law_draw ["_law_deck_here", "_law_many"] fD fdD) : FnOk P w K mg base CX0 3 f fd ["_law_deck_here"] spOdd := by
  have G_law_draw : FnOk P w K mg base CX0 2 fD fdD ["_law_deck_here", "_law_many"] spDraw := ok_draw T D_law_draw.fn D_law_mixed
  refine F.ok sc_law_odd (fun vs H Q E h => ?_) (fun cdv A outer s H vs Q E hr h => ?_)
  · obtain ⟨d, c, n, rfl, _⟩ := h
    rfl
  · obtain ⟨d, c, n, rfl, D0, hn, q⟩ := h
    have hu := hu_of hr
    refine ⟨_,
      (pss_cons
        (ps_set (i := 1) sc_law_odd.nd rfl (.inl rfl) (pe_lst (pa_cons pe_non (pa_cons pe_bl (pa_cons pe_bl (pa_cons (pe_un un_neg pe_int) (pa_cons pe_int (pa_cons pe_int (pa_cons pe_int (pa_cons pe_int (pa_cons pe_int (pa_cons pe_int (pa_cons (pe_op op_pow pe_int pe_int) (pa_cons pe_str (pa_cons pe_str (pa_cons pe_str (pa_cons pe_str (pa_cons (pe_tup pa_nil) (pa_cons (pe_lst pa_nil) (pa_cons pe_dnewK (pa_cons (pe_tup (pa_cons pe_int pa_nil)) (pa_cons (pe_tup (pa_cons pe_int (pa_cons pe_int pa_nil))) (pa_cons (pe_lst (pa_cons pe_int pa_nil)) pa_nil)))))))))))))))))))))))
      (pss_cons
        (ps_set (i := 1) sc_law_odd.nd rfl (.inl rfl) (pe_op op_cat (pv 1) (pe_lst (pa_cons (pe_tup (pa_cons (pe_tup pa_nil) pa_nil)) (pa_cons (pe_tup (pa_cons (pe_tup pa_nil) (pa_cons (pe_tup pa_nil) pa_nil))) (pa_cons (pe_tup (pa_cons pe_str pa_nil)) (pa_cons (pe_lst (pa_cons pe_str pa_nil)) (pa_cons (pe_tup (pa_cons (pe_op op_repS pe_str pe_int) pa_nil)) (pa_cons (pe_tup (pa_cons pe_str pa_nil)) (pa_cons (pe_op (r := rRepT K) op_repT (pe_tup (pa_cons pe_str pa_nil)) pe_int) (pa_cons (pe_tup (pa_cons pe_int pa_nil)) (pa_cons (pe_tup (pa_cons pe_non pa_nil)) (pa_cons (pe_disp (pps_cons pe_int pe_int pps_nil) (by rfl) (by rfl) (fun z => by cases z) (by decide)) pa_nil)))))))))))))
      (pss_cons
        (ps_set (i := 1) sc_law_odd.nd rfl (.inl rfl) (pe_op op_cat (pv 1) (pe_lst (pa_cons (pe_tup (pa_cons pe_str (pa_cons pe_int (pa_cons pe_int pa_nil)))) (pa_cons (pe_tup (pa_cons pe_str (pa_cons pe_int (pa_cons pe_int pa_nil)))) (pa_cons (pe_tup (pa_cons pe_str (pa_cons (pe_un un_neg pe_int) (pa_cons pe_int pa_nil)))) (pa_cons (pe_tup (pa_cons pe_str (pa_cons pe_bl (pa_cons pe_int pa_nil)))) (pa_cons (pe_tup (pa_cons pe_str (pa_cons pe_int (pa_cons pe_int (pa_cons pe_int pa_nil))))) (pa_cons (pe_tup (pa_cons pe_str (pa_cons pe_int pa_nil))) pa_nil)))))))))
      (pss_cons
        (ps_set (i := 1) sc_law_odd.nd rfl (.inl rfl) (pe_op op_cat (pv 1) (pe_lst (pa_cons (pe_tup (pa_cons pe_str (pa_cons (pe_tup pa_nil) pa_nil))) (pa_cons (pe_tup (pa_cons pe_str (pa_cons (pe_tup (pa_cons pe_str pa_nil)) pa_nil))) (pa_cons (pe_tup (pa_cons pe_str (pa_cons pe_str pa_nil))) (pa_cons (pe_tup (pa_cons pe_str pa_nil)) (pa_cons (pe_tup (pa_cons pe_str (pa_cons (pe_tup (pa_cons pe_int pa_nil)) pa_nil))) (pa_cons (pe_tup (pa_cons pe_str (pa_cons pe_int (pa_cons pe_int pa_nil)))) (pa_cons (pe_tup (pa_cons pe_str (pa_cons (pe_tup (pa_cons pe_int pa_nil)) pa_nil))) pa_nil))))))))))
      (pss_cons
        (ps_set (i := 1) sc_law_odd.nd rfl (.inl rfl) (pe_op op_cat (pv 1) (pe_lst (pa_cons (pe_tup (pa_cons pe_str (pa_cons (pe_tup pa_nil) (pa_cons (pe_tup pa_nil) pa_nil)))) (pa_cons (pe_tup (pa_cons pe_str (pa_cons (pe_tup (pa_cons pe_int pa_nil)) (pa_cons (pe_tup pa_nil) pa_nil)))) (pa_cons (pe_tup (pa_cons pe_int (pa_cons pe_int (pa_cons pe_non pa_nil)))) (pa_cons (pe_tup (pa_cons pe_int (pa_cons pe_non (pa_cons pe_int pa_nil)))) (pa_cons (pe_tup (pa_cons (pe_tup (pa_cons (pe_tup (pa_cons (pe_tup (pa_cons (pe_tup (pa_cons (pe_tup (pa_cons (pe_tup (pa_cons (pe_tup (pa_cons (pe_tup (pa_cons (pe_tup (pa_cons pe_int pa_nil)) pa_nil)) pa_nil)) pa_nil)) pa_nil)) pa_nil)) pa_nil)) pa_nil)) pa_nil)) pa_nil)) pa_nil))))))))
      (pss_one
        (ps_ret (pe_ix (r := rIxL K) ix_list (pv 1) (pe_call G_law_draw (hr.mono (by omega)) (by rfl) D_law_draw.g D_law_draw.fn.kp D_law_draw.b .nil pass0 (pa_cons (pv 0) (pa_cons (pe_callB (r := rLen K) c_len (by rfl) T.n_len (by decide +kernel) (pa_cons (pv 1) pa_nil)) pa_nil))) (fun _ _ => rfl)))))))))
      , ?_⟩
    rw [show L2.start N_law_odd [V.ref d] = [some (.ref d), none] from rfl]
    have hL0 : ∀ y ∈ ([] : List V), DatX 41 H y := by simp
    have kk0 : Same H H := fun _ _ z => z
    walk_at "x"
    walk_at "od"
    refine x_newB (by assumption) (by assumption) (by assumption) (by walk_at "el") fun l1 H1 D1 hx1 e1 kA => ?_
    clear hL0 kk0
    generalize hg1 : ([_, _, _, _, _, _, _, _, _, _, _, _, _, _, _, _, _, _, _, _, _] : List V) = big1 at e1 hx1
    have hb1 : big1.length = 21 := by rw [← hg1]; rfl
    have hL2 : ∀ y ∈ ([] : List V), DatX 41 H1 y := by simp
    have kk2 : Same H1 H1 := fun _ _ z => z
    walk_at "od"
    refine w_repT (by assumption) (by simp) (by decide) (by decide) (by simp) ?_
    refine x_newD (by assumption) (by assumption) (by assumption) (rep_dat (.txt ⟨by decide +kernel, by decide +kernel⟩) _) (by decide) (fun p H' D hL kk ex => ?_)
    walk_at "od"
    refine x_newB (H0 := H1) (by assumption) (by assumption) (by assumption) (by walk_at "el") fun m2 G2 E2 hy2 f2 kB2 => ?_
    have ee2 := kB2 _ _ e1
    have hz2 := fun y hy => (hx1 y hy).kd (KD.of kB2)
    walk_at "g"
    refine w_cat ee2 f2 (by rw [hb1]; simp only [List.length_cons, List.length_nil]; decide) fun l2 H2 h2 e2 k2 => ?_
    have hx2 : ∀ y ∈ _, DatX 41 H2 y := fun y hy => ((List.mem_append.mp hy).elim (hz2 y) (hy2 y)).kd (KD.of k2)
    have D2 := E2.kp (M := []) (Kp.of k2) (by simp) (by simp)
    have kA2 := Same.trans kA (Same.trans kB2 k2)
    have nl2 := E2.ne1 h2
    generalize hg2 : (big1 ++ [_, _, _, _, _, _, _, _, _, _] : List V) = big2 at e2 hx2
    have hb2 : big2.length = 31 := by rw [← hg2, List.length_append, hb1]; rfl
    clear E2 hy2 f2 ee2 hz2 hL2 kk2 D1 hx1
    walk_at "g"
    have hL3 : ∀ y ∈ ([] : List V), DatX 41 H2 y := by simp
    have kk3 : Same H2 H2 := fun _ _ z => z
    walk_at "od"
    refine x_newB (H0 := H2) (by assumption) (by assumption) (by assumption) (by walk_at "el") fun m3 G3 E3 hy3 f3 kB3 => ?_
    have ee3 := kB3 _ _ e2
    have hz3 := fun y hy => (hx2 y hy).kd (KD.of kB3)
    walk_at "g"
    refine w_cat ee3 f3 (by rw [hb2]; simp only [List.length_cons, List.length_nil]; decide) fun l3 H3 h3 e3 k3 => ?_
    have hx3 : ∀ y ∈ _, DatX 41 H3 y := fun y hy => ((List.mem_append.mp hy).elim (hz3 y) (hy3 y)).kd (KD.of k3)
    have D3 := E3.kp (M := []) (Kp.of k3) (by simp) (by simp)
    have kA3 := Same.trans kA2 (Same.trans kB3 k3)
    have nl3 := E3.ne1 h3
    generalize hg3 : (big2 ++ [_, _, _, _, _, _] : List V) = big3 at e3 hx3
    have hb3 : big3.length = 37 := by rw [← hg3, List.length_append, hb2]; rfl
    clear E3 hy3 f3 ee3 hz3 hL3 kk3 D2 hx2
    walk_at "g"
    have hL4 : ∀ y ∈ ([] : List V), DatX 41 H3 y := by simp
    have kk4 : Same H3 H3 := fun _ _ z => z
    walk_at "od"
    refine x_newB (H0 := H3) (by assumption) (by assumption) (by assumption) (by walk_at "el") fun m4 G4 E4 hy4 f4 kB4 => ?_
    have ee4 := kB4 _ _ e3
    have hz4 := fun y hy => (hx3 y hy).kd (KD.of kB4)
    walk_at "g"
    refine w_cat ee4 f4 (by rw [hb3]; simp only [List.length_cons, List.length_nil]; decide) fun l4 H4 h4 e4 k4 => ?_
    have hx4 : ∀ y ∈ _, DatX 41 H4 y := fun y hy => ((List.mem_append.mp hy).elim (hz4 y) (hy4 y)).kd (KD.of k4)
    have D4 := E4.kp (M := []) (Kp.of k4) (by simp) (by simp)
    have kA4 := Same.trans kA3 (Same.trans kB4 k4)
    have nl4 := E4.ne1 h4
    generalize hg4 : (big3 ++ [_, _, _, _, _, _, _] : List V) = big4 at e4 hx4
    have hb4 : big4.length = 44 := by rw [← hg4, List.length_append, hb3]; rfl
    clear E4 hy4 f4 ee4 hz4 hL4 kk4 D3 hx3
    walk_at "g"
    have hL5 : ∀ y ∈ ([] : List V), DatX 41 H4 y := by simp
    have kk5 : Same H4 H4 := fun _ _ z => z
    walk_at "od"
    refine x_newB (H0 := H4) (by assumption) (by assumption) (by assumption) (by walk_at "el") fun m5 G5 E5 hy5 f5 kB5 => ?_
    have ee5 := kB5 _ _ e4
    have hz5 := fun y hy => (hx4 y hy).kd (KD.of kB5)
    walk_at "g"
    refine w_cat ee5 f5 (by rw [hb4]; simp only [List.length_cons, List.length_nil]; decide) fun l5 H5 h5 e5 k5 => ?_
    have hx5 : ∀ y ∈ _, DatX 41 H5 y := fun y hy => ((List.mem_append.mp hy).elim (hz5 y) (hy5 y)).kd (KD.of k5)
    have D5 := E5.kp (M := []) (Kp.of k5) (by simp) (by simp)
    have kA5 := Same.trans kA4 (Same.trans kB5 k5)
    have nl5 := E5.ne1 h5
    generalize hg5 : (big4 ++ [_, _, _, _, _] : List V) = big5 at e5 hx5
    have hb5 : big5.length = 49 := by rw [← hg5, List.length_append, hb4]; rfl
    clear E5 hy5 f5 ee5 hz5 hL5 kk5 D4 hx4
    walk_at "g"
    refine w_draw D5 (by omega) (by omega) (by omega) fun r H6 hr6 D6 o6 => ?_
    have e6 := o6.get nl5.1 e5
    obtain ⟨y, hy1, hy2⟩ := at_lt (xs := big5) (i := (r : Int)) (by omega) hr6
    walk_at "g"
    exact q H6 y D6 ((KX.of kA5).trans (D5.kx D6 o6)) ((hx5 y (List.mem_of_getElem? hy1)).kd (D5.kd D6 o6))
end
abbrev AZ : Str := Str.ofString "abcdefghijklmnopqrstuvwxyz"
theorem az_ok : ∀ c ∈ AZ.cps.toList, c ≠ 37 := by decide +kernel
theorem w_slS {H : Hp} {Q : VK} {z : Str} {lo hi : Option Int} (h1 : z.length ≤ sizeLine) (h : Q (.str (cutS z lo hi)) H) : rSlS (.str z) lo hi H Q := ⟨z, rfl, h1, h⟩
theorem str_len (x y : Str) : (x ++ y).length = x.length + y.length := by
  show (x.cps ++ y.cps).size = _
  rw [Array.size_append]
  rfl
theorem str_mem {x y : Str} {c : Nat} (h : c ∈ (x ++ y).cps.toList) : c ∈ x.cps.toList ∨ c ∈ y.cps.toList := by
  have h' : c ∈ (x.cps ++ y.cps).toList := h
  rw [Array.toList_append] at h'
  exact List.mem_append.mp h'
theorem cutS_mem {z : Str} {lo hi : Option Int} {c : Nat} (h : c ∈ (cutS z lo hi).cps.toList) : c ∈ z.cps.toList := by
  unfold cutS at h
  exact List.mem_of_mem_drop (List.mem_of_mem_take h)
theorem mid_ok {B : Nat} {z : Str} {ch : Nat} (h : TxtOk B z) (hc : ch ≠ 37) : TxtOk (B + 1) (cutS z none (some 1) ++ (⟨#[ch]⟩ : Str) ++ cutS z (some 1) none) := by
  constructor
  · rw [str_len, str_len]
    have h1 : (cutS z none (some 1)).length ≤ min 1 z.length := by
      show ((z.cps.toList.drop 0).take (min 1 z.length - 0)).toArray.size ≤ _
      rw [List.size_toArray, List.length_take]
      omega
    have h2 : (cutS z (some 1) none).length ≤ z.length - min 1 z.length := by
      show ((z.cps.toList.drop (min 1 z.length)).take (z.length - min 1 z.length)).toArray.size ≤ _
      rw [List.size_toArray, List.length_take]
      omega
    have h3 : (⟨#[ch]⟩ : Str).length = 1 := rfl
    have := h.1
    omega
  · intro c hm
    rcases str_mem hm with hm | hm
    · rcases str_mem hm with hm | hm
      · exact h.2 c (cutS_mem hm)
      · have e : c = ch := by simpa using hm
        subst e
        exact hc
    · exact h.2 c (cutS_mem hm)
def spBent (k : Nat) : Sp := fun vs H Q _ => ∃ (d c : Addr) (n B : Nat) (x : V), vs = [.ref d, x, .int (k : Int)] ∧ Deck H d c n ∧ n + 4 * (k + 1) ≤ MOSTD ∧ DatX B H x ∧ 41 ≤ B ∧ B ≤ 1000 ∧ ∀ H' y, Deck H' d c (n + 4 * (k + 1)) → KX d H H' → DatX (B + 1) H' y → Q y H'
theorem cut_mem {xs : List V} {lo hi : Option Int} {y : V} (h : y ∈ cutV xs lo hi) : y ∈ xs := by
  unfold cutV at h
  exact List.mem_of_mem_drop (List.mem_of_mem_take h)
theorem cut_to (xs : List V) {i : Int} (h : 0 ≤ i) : (cutV xs none (some i)).length ≤ i.toNat := by
  show ((xs.drop 0).take ((if i < 0 then (i + (xs.length : Int)).toNat else min i.toNat xs.length) - 0)).length ≤ i.toNat
  rw [if_neg (by omega), List.length_take]
  omega
theorem cut_from (xs : List V) {i : Int} (h : 0 ≤ i) : (cutV xs (some i) none).length ≤ xs.length - i.toNat := by
  show ((xs.drop (if i < 0 then (i + (xs.length : Int)).toNat else min i.toNat xs.length)).take (xs.length - (if i < 0 then (i + (xs.length : Int)).toNat else min i.toNat xs.length))).length ≤ _
  rw [if_neg (by omega), List.length_take, List.length_drop]
  omega
theorem cut_some (xs : List V) {i j : Int} (h : 0 ≤ i) (h2 : 0 ≤ j) : (cutV xs (some i) (some j)).length ≤ j.toNat - i.toNat := by
  show ((xs.drop (if i < 0 then (i + (xs.length : Int)).toNat else min i.toNat xs.length)).take ((if j < 0 then (j + (xs.length : Int)).toNat else min j.toNat xs.length) - (if i < 0 then (i + (xs.length : Int)).toNat else min i.toNat xs.length))).length ≤ _
  rw [if_neg (by omega), if_neg (by omega), List.length_take, List.length_drop]
  omega
section
variable {P : Program} {w : World} {K : PySem.W.Frag} {mg : Str → Option Value} {base : Heap}
theorem ok_bent {f fM fD fI fO : Addr} {fd fdM fdD fdI fdO : FuncData} (T : Txt K mg) (D_law_bent : Df K mg "_law_bent" s_law_bent ["_law_deck_here", "_law_thing", "_law_deep_in"] f fd) (D_law_mixed : Df K mg "_law_mixed" s_law_mixed ["_law_cell", "_law_turn"] fM fdM)
    (D_law_draw : Df K mg "_law_draw" s_law_draw ["_law_deck_here", "_law_many"] fD fdD) (D_law_int : Df K mg "_law_int" s_law_int ["_law_thing"] fI fdI) (D_law_odd : Df K mg "_law_odd" s_law_odd ["_law_deck_here"] fO fdO) : ∀ k : Nat, FnOk P w K mg base CX0 (k + 4) f fd ["_law_deck_here", "_law_thing", "_law_deep_in"] (spBent k) := by
  intro k
  have G_law_draw : FnOk P w K mg base CX0 2 fD fdD ["_law_deck_here", "_law_many"] spDraw := ok_draw T D_law_draw.fn D_law_mixed
  have G_law_int : FnOk P w K mg base CX0 1 fI fdI ["_law_thing"] spWholeG := ok_law_intG T D_law_int.fn
  have G_law_odd : FnOk P w K mg base CX0 3 fO fdO ["_law_deck_here"] spOdd := ok_odd T D_law_odd.fn D_law_mixed D_law_draw
  have lsz : ∀ m : Nat, m ≤ 3000 → m ≤ sizeLine := fun m hm => Nat.le_trans hm (by decide)
  induction k with
  | zero =>
    refine D_law_bent.fn.ok sc_law_bent (fun vs H Q E h => ?_) (fun cdv A outer s H vs Q E hr h => ?_)
    · obtain ⟨d, c, n, B, x, rfl, _⟩ := h
      rfl
    · obtain ⟨d, c, n, B, x, rfl, D0, hn, hx, hB4, hB, q⟩ := h
      refine ⟨_,
      (pss_cons
        (ps_set (i := 3) sc_law_bent.nd rfl (.inl rfl) (pe_call G_law_draw (hr.mono (by omega)) (by rfl) D_law_draw.g D_law_draw.fn.kp D_law_draw.b .nil pass0 (pa_cons (pv 0) (pa_cons pe_int pa_nil))))
      (pss_cons
        (ps_if (PW.pt (pw_or (pt_cmpR op_eq (pv 2) pe_int (nomark _)) (pw_or (pt_cmpR op_eq (pv 3) pe_int (nomark _)) (pw_or1 (pt_not (pt_val (pe_callB (r := rIsi K) call_isi (by rfl) T.n_isinstance (by decide +kernel) (pa_cons (pv 1) (pa_cons (pe_bltn (v := .ty "tuple") (u := .type "tuple") (by rfl) T.n_tuple (by decide +kernel) rfl) pa_nil)))))))))
          (pss_cons
            (ps_if (PW.pt (pw_and (pt_val (pe_call G_law_int (hr.mono (by omega)) (by rfl) D_law_int.g D_law_int.fn.kp D_law_int.b .nil pass0 (pa_cons (pv 1) pa_nil))) (pw_and1 (pt_cmpR op_gt (pv 3) pe_int (nomark _)))))
              (pss_one
                (ps_ret (pe_op op_add (pv 1) (pe_ix (r := rIxL K) ix_list (pe_lst (pa_cons (pe_un un_neg pe_int) (pa_cons pe_int (pa_cons pe_int (pa_cons (pe_un un_neg pe_int) (pa_cons (pe_op op_sub (pe_un un_neg (pv 1)) pe_int) (pa_cons pe_int pa_nil))))))) (pe_call G_law_draw (hr.mono (by omega)) (by rfl) D_law_draw.g D_law_draw.fn.kp D_law_draw.b .nil pass0 (pa_cons (pv 0) (pa_cons pe_int pa_nil))) (fun _ _ => rfl)))))
              pss_nil)
          (pss_cons
            (ps_if (PW.pt (pw_and (pt_val (pe_callB (r := rIsi K) call_isi (by rfl) T.n_isinstance (by decide +kernel) (pa_cons (pv 1) (pa_cons (pe_bltn (v := .ty "str") (u := .type "str") (by rfl) T.n_str (by decide +kernel) rfl) pa_nil)))) (pw_and1 (pt_cmpR op_gt (pv 3) pe_int (nomark _)))))
              (pss_one
                (ps_ret (pe_op o_addS (pe_op o_addS (pe_slice sl_str (pv 1) po_none (po_some pe_int)) (pe_ix ix_str pe_str (pe_call G_law_draw (hr.mono (by omega)) (by rfl) D_law_draw.g D_law_draw.fn.kp D_law_draw.b .nil pass0 (pa_cons (pv 0) (pa_cons pe_int pa_nil))) (fun _ _ => rfl))) (pe_slice sl_str (pv 1) (po_some pe_int) po_none))))
              pss_nil)
          (pss_one
            (ps_ret (pe_call G_law_odd (hr.mono (by omega)) (by rfl) D_law_odd.g D_law_odd.fn.kp D_law_odd.b .nil pass0 (pa_cons (pv 0) pa_nil))))))
          pss_nil)
      pss_never))
        , ?_⟩
      rw [show L2.start N_law_bent [V.ref d, x, V.int ((0 : Nat) : Int)] = [some (.ref d), some x, some (.int ((0 : Nat) : Int)), none, none] from rfl]
      walk_at "x"
      refine w_draw D0 (by omega) (by decide) (by decide) fun r H1 hr1 D1 o1 => ?_
      have kd1 := D0.kx D1 o1
      have hx1 := hx.kd kd1.toKD
      obtain ⟨ax, tx⟩ := hx1.ty
      walk_at "g"
      refine w_seq ?_
      walk_at "g"
      refine w_yes rfl ?_
      walk_at "g"
      refine w_seq ?_
      walk_at "g"
      refine ⟨x, ax, rfl, tx, ?_⟩
      walk_at "g"
      refine w_ite (fun hi => ?_) (fun hi => ?_)
      · obtain ⟨i, rfl⟩ := tx.isInt hi
        walk_at "g"
        refine w_ite (fun hr2 => ?_) (fun hr2 => ?_)
        · walk_at "g"
          refine w_new fun l H2 hl2 e2 k2 => ?_
          have D2 := D1.kp (M := []) (Kp.of k2) (by simp) (by simp)
          obtain ⟨nld, _⟩ := D1.ne1 hl2
          walk_at "g"
          refine w_draw D2 (by omega) (by decide) (by decide) fun r2 H3 hr3 D3 o3 => ?_
          have e3 := o3.get nld e2
          have hall : ∀ y ∈ ([V.int (-1), V.int 1, V.int 2, V.int (-2), V.int (-i - 1), V.int 40] : List V), ∃ z, y = .int z := by
            intro y hy
            simp only [List.mem_cons, List.not_mem_nil, or_false] at hy
            rcases hy with rfl | rfl | rfl | rfl | rfl | rfl <;> exact ⟨_, rfl⟩
          obtain ⟨y, hy1, hy2⟩ := at_lt (xs := ([V.int (-1), V.int 1, V.int 2, V.int (-2), V.int (-i - 1), V.int 40] : List V)) (i := (r2 : Int)) (by omega) hr3
          obtain ⟨z, rfl⟩ := hall y (List.mem_of_getElem? hy1)
          walk_at "g"
          exact q H3 _ (D3.mono (by omega)) (kd1.trans ((KX.of k2).trans (D2.kx D3 o3))) DatX.int
        · walk_at "g"
          refine w_seq ?_
          walk_at "g"
          refine ⟨d, c, _, rfl, D1, by omega, fun H2 y D2 k2 hy => q H2 y (D2.mono (by omega)) (kd1.trans k2) (hy.mono (by omega))⟩
      · walk_at "g"
        refine w_seq ?_
        walk_at "g"
        refine w_isStr tx ?_
        walk_at "g"
        refine w_ite (fun hs => ?_) (fun hs => ?_)
        · obtain ⟨z, rfl⟩ := tx.isStr hs
          have hz := hx1.isT
          walk_at "g"
          refine w_ite (fun hr4 => ?_) (fun hr4 => ?_)
          · walk_at "g"
            refine w_slS (lsz _ (by have := hz.1; omega)) ?_
            walk_at "g"
            refine w_draw D1 (by omega) (by decide) (by decide) fun r2 H3 hr3 D3 o3 => ?_
            obtain ⟨ch, hc1, hc2⟩ := at_lt (xs := AZ.cps.toList) (i := (r2 : Int)) (by omega) (by rw [show AZ.cps.toList.length = 26 from rfl]; exact hr3)
            walk_at "g"
            refine w_ixS (by decide) hc2 ?_
            have hm := mid_ok hz (az_ok ch (List.mem_of_getElem? hc1))
            have hl1 := hm.1
            walk_at "g"
            refine w_addS (lsz _ (by have := cutS_length z none (some 1); have := hz.1; show _ + 1 ≤ 3000; omega)) ?_
            walk_at "g"
            refine w_slS (lsz _ (by have := hz.1; omega)) ?_
            walk_at "g"
            refine w_addS (lsz _ (by rw [str_len] at hl1; omega)) ?_
            exact q H3 _ (D3.mono (by omega)) (kd1.trans (D1.kx D3 o3)) (.txt hm)
          · walk_at "g"
            refine ⟨d, c, _, rfl, D1, by omega, fun H2 y D2 k2 hy => q H2 y (D2.mono (by omega)) (kd1.trans k2) (hy.mono (by omega))⟩
        · walk_at "g"
          refine ⟨d, c, _, rfl, D1, by omega, fun H2 y D2 k2 hy => q H2 y (D2.mono (by omega)) (kd1.trans k2) (hy.mono (by omega))⟩
  | succ k ih =>
    have G_law_bent := ih
    refine D_law_bent.fn.ok sc_law_bent (fun vs H Q E h => ?_) (fun cdv A outer s H vs Q E hr h => ?_)
    · obtain ⟨d, c, n, B, x, rfl, _⟩ := h
      rfl
    · obtain ⟨d, c, n, B, x, rfl, D0, hn, hx, hB4, hB, q⟩ := h
      refine ⟨_,
      (pss_cons
        (ps_set (i := 3) sc_law_bent.nd rfl (.inl rfl) (pe_call G_law_draw (hr.mono (by omega)) (by rfl) D_law_draw.g D_law_draw.fn.kp D_law_draw.b .nil pass0 (pa_cons (pv 0) (pa_cons pe_int pa_nil))))
      (pss_cons
        (ps_if (PW.pt (pw_or (pt_cmpR op_eq (pv 2) pe_int (nomark _)) (pw_or (pt_cmpR op_eq (pv 3) pe_int (nomark _)) (pw_or1 (pt_not (pt_val (pe_callB (r := rIsi K) call_isi (by rfl) T.n_isinstance (by decide +kernel) (pa_cons (pv 1) (pa_cons (pe_bltn (v := .ty "tuple") (u := .type "tuple") (by rfl) T.n_tuple (by decide +kernel) rfl) pa_nil)))))))))
          (pss_cons
            (ps_if (PW.pt (pw_and (pt_val (pe_call G_law_int (hr.mono (by omega)) (by rfl) D_law_int.g D_law_int.fn.kp D_law_int.b .nil pass0 (pa_cons (pv 1) pa_nil))) (pw_and1 (pt_cmpR op_gt (pv 3) pe_int (nomark _)))))
              (pss_one
                (ps_ret (pe_op op_add (pv 1) (pe_ix (r := rIxL K) ix_list (pe_lst (pa_cons (pe_un un_neg pe_int) (pa_cons pe_int (pa_cons pe_int (pa_cons (pe_un un_neg pe_int) (pa_cons (pe_op op_sub (pe_un un_neg (pv 1)) pe_int) (pa_cons pe_int pa_nil))))))) (pe_call G_law_draw (hr.mono (by omega)) (by rfl) D_law_draw.g D_law_draw.fn.kp D_law_draw.b .nil pass0 (pa_cons (pv 0) (pa_cons pe_int pa_nil))) (fun _ _ => rfl)))))
              pss_nil)
          (pss_cons
            (ps_if (PW.pt (pw_and (pt_val (pe_callB (r := rIsi K) call_isi (by rfl) T.n_isinstance (by decide +kernel) (pa_cons (pv 1) (pa_cons (pe_bltn (v := .ty "str") (u := .type "str") (by rfl) T.n_str (by decide +kernel) rfl) pa_nil)))) (pw_and1 (pt_cmpR op_gt (pv 3) pe_int (nomark _)))))
              (pss_one
                (ps_ret (pe_op o_addS (pe_op o_addS (pe_slice sl_str (pv 1) po_none (po_some pe_int)) (pe_ix ix_str pe_str (pe_call G_law_draw (hr.mono (by omega)) (by rfl) D_law_draw.g D_law_draw.fn.kp D_law_draw.b .nil pass0 (pa_cons (pv 0) (pa_cons pe_int pa_nil))) (fun _ _ => rfl))) (pe_slice sl_str (pv 1) (po_some pe_int) po_none))))
              pss_nil)
          (pss_one
            (ps_ret (pe_call G_law_odd (hr.mono (by omega)) (by rfl) D_law_odd.g D_law_odd.fn.kp D_law_odd.b .nil pass0 (pa_cons (pv 0) pa_nil))))))
          pss_nil)
      (pss_cons
        (ps_if (pt_cmpR op_eq (pv 3) pe_int (nomark _))
          (pss_one
            (ps_ret (pe_callTy (r := rListOf K) c_listOf (by rfl) T.n_list (by decide +kernel) (pa_cons (pv 1) pa_nil))))
          pss_nil)
      (pss_cons
        (ps_if (pt_cmpR op_eq (pe_callB (r := rLen K) c_len (by rfl) T.n_len (by decide +kernel) (pa_cons (pv 1) pa_nil)) pe_int (nomark _))
          (pss_one
            (ps_ret (pe_tup (pa_cons (pe_call G_law_odd (hr.mono (by omega)) (by rfl) D_law_odd.g D_law_odd.fn.kp D_law_odd.b .nil pass0 (pa_cons (pv 0) pa_nil)) pa_nil))))
          pss_nil)
      (pss_cons
        (ps_set (i := 4) sc_law_bent.nd rfl (.inl rfl) (pe_call G_law_draw (hr.mono (by omega)) (by rfl) D_law_draw.g D_law_draw.fn.kp D_law_draw.b .nil pass0 (pa_cons (pv 0) (pa_cons (pe_callB (r := rLen K) c_len (by rfl) T.n_len (by decide +kernel) (pa_cons (pv 1) pa_nil)) pa_nil))))
      (pss_cons
        (ps_if (pt_cmpR op_eq (pv 3) pe_int (nomark _))
          (pss_one
            (ps_ret (pe_op op_catA (pe_slice sl_tupA (pv 1) po_none (po_some (pv 4))) (pe_slice sl_tupA (pv 1) (po_some (pe_op op_add (pv 4) pe_int)) po_none))))
          pss_nil)
      (pss_cons
        (ps_if (pt_cmpR op_eq (pv 3) pe_int (nomark _))
          (pss_one
            (ps_ret (pe_op op_catA (pe_slice sl_tupA (pv 1) po_none (po_some (pe_op op_add (pv 4) pe_int))) (pe_slice sl_tupA (pv 1) (po_some (pv 4)) po_none))))
          pss_nil)
      (pss_cons
        (ps_if (pt_cmpR op_eq (pv 3) pe_int (nomark _))
          (pss_one
            (ps_ret (pe_op op_catA (pe_op op_catA (pe_op op_catA (pe_slice sl_tupA (pv 1) po_none (po_some (pv 4))) (pe_slice sl_tupA (pv 1) (po_some (pe_op op_add (pv 4) pe_int)) (po_some (pe_op op_add (pv 4) pe_int)))) (pe_tup (pa_cons (pe_ix (r := rIxT K) ix_tup (pv 1) (pv 4) (fun _ _ => rfl)) pa_nil))) (pe_slice sl_tupA (pv 1) (po_some (pe_op op_add (pv 4) pe_int)) po_none))))
          pss_nil)
      (pss_one
        (ps_ret (pe_op op_catA (pe_op op_catA (pe_slice sl_tupA (pv 1) po_none (po_some (pv 4))) (pe_tup (pa_cons (pe_call G_law_bent (hr.mono (by omega)) (by rfl) D_law_bent.g D_law_bent.fn.kp D_law_bent.b .nil pass0 (pa_cons (pv 0) (pa_cons (pe_ix (r := rIxT K) ix_tup (pv 1) (pv 4) (fun _ _ => rfl)) (pa_cons (pe_op op_sub (pv 2) pe_int) pa_nil)))) pa_nil))) (pe_slice sl_tupA (pv 1) (po_some (pe_op op_add (pv 4) pe_int)) po_none))))))))))))
        , ?_⟩
      rw [show L2.start N_law_bent [V.ref d, x, V.int ((k + 1 : Nat) : Int)] = [some (.ref d), some x, some (.int ((k + 1 : Nat) : Int)), none, none] from rfl]
      walk_at "x"
      refine w_draw D0 (by omega) (by decide) (by decide) fun r H1 hr1 D1 o1 => ?_
      have kd1 := D0.kx D1 o1
      have hx1 := hx.kd kd1.toKD
      obtain ⟨ax, tx⟩ := hx1.ty
      walk_at "g"
      refine w_seq ?_
      walk_at "g"
      refine w_no (by omega) ?_
      walk_at "g"
      refine w_ite (fun hr0 => ?_) (fun hr0 => ?_)
      · walk_at "g"
        refine w_seq ?_
        walk_at "g"
        refine ⟨x, ax, rfl, tx, ?_⟩
        walk_at "g"
        refine w_ite (fun hi => ?_) (fun hi => ?_)
        · obtain ⟨i, rfl⟩ := tx.isInt hi
          walk_at "g"
          refine w_ite (fun hr2 => ?_) (fun hr2 => ?_)
          · walk_at "g"
            refine w_new fun l H2 hl2 e2 k2 => ?_
            have D2 := D1.kp (M := []) (Kp.of k2) (by simp) (by simp)
            obtain ⟨nld, _⟩ := D1.ne1 hl2
            walk_at "g"
            refine w_draw D2 (by omega) (by decide) (by decide) fun r2 H3 hr3 D3 o3 => ?_
            have e3 := o3.get nld e2
            have hall : ∀ y ∈ ([V.int (-1), V.int 1, V.int 2, V.int (-2), V.int (-i - 1), V.int 40] : List V), ∃ z, y = .int z := by
              intro y hy
              simp only [List.mem_cons, List.not_mem_nil, or_false] at hy
              rcases hy with rfl | rfl | rfl | rfl | rfl | rfl <;> exact ⟨_, rfl⟩
            obtain ⟨y, hy1, hy2⟩ := at_lt (xs := ([V.int (-1), V.int 1, V.int 2, V.int (-2), V.int (-i - 1), V.int 40] : List V)) (i := (r2 : Int)) (by omega) hr3
            obtain ⟨z, rfl⟩ := hall y (List.mem_of_getElem? hy1)
            walk_at "g"
            exact q H3 _ (D3.mono (by omega)) (kd1.trans ((KX.of k2).trans (D2.kx D3 o3))) DatX.int
          · walk_at "g"
            refine w_seq ?_
            walk_at "g"
            refine ⟨d, c, _, rfl, D1, by omega, fun H2 y D2 k2 hy => q H2 y (D2.mono (by omega)) (kd1.trans k2) (hy.mono (by omega))⟩
        · walk_at "g"
          refine w_seq ?_
          walk_at "g"
          refine w_isStr tx ?_
          walk_at "g"
          refine w_ite (fun hs => ?_) (fun hs => ?_)
          · obtain ⟨z, rfl⟩ := tx.isStr hs
            have hz := hx1.isT
            walk_at "g"
            refine w_ite (fun hr4 => ?_) (fun hr4 => ?_)
            · walk_at "g"
              refine w_slS (lsz _ (by have := hz.1; omega)) ?_
              walk_at "g"
              refine w_draw D1 (by omega) (by decide) (by decide) fun r2 H3 hr3 D3 o3 => ?_
              obtain ⟨ch, hc1, hc2⟩ := at_lt (xs := AZ.cps.toList) (i := (r2 : Int)) (by omega) (by rw [show AZ.cps.toList.length = 26 from rfl]; exact hr3)
              walk_at "g"
              refine w_ixS (by decide) hc2 ?_
              have hm := mid_ok hz (az_ok ch (List.mem_of_getElem? hc1))
              have hl1 := hm.1
              walk_at "g"
              refine w_addS (lsz _ (by have := cutS_length z none (some 1); have := hz.1; show _ + 1 ≤ 3000; omega)) ?_
              walk_at "g"
              refine w_slS (lsz _ (by have := hz.1; omega)) ?_
              walk_at "g"
              refine w_addS (lsz _ (by rw [str_len] at hl1; omega)) ?_
              exact q H3 _ (D3.mono (by omega)) (kd1.trans (D1.kx D3 o3)) (.txt hm)
            · walk_at "g"
              refine ⟨d, c, _, rfl, D1, by omega, fun H2 y D2 k2 hy => q H2 y (D2.mono (by omega)) (kd1.trans k2) (hy.mono (by omega))⟩
          · walk_at "g"
            refine ⟨d, c, _, rfl, D1, by omega, fun H2 y D2 k2 hy => q H2 y (D2.mono (by omega)) (kd1.trans k2) (hy.mono (by omega))⟩
      walk_at "g"
      rcases hx1.cases with ⟨a', ta, hne⟩ | ⟨p, xs, rfl, ep, hxl, hxs⟩
      · refine w_isTup ta ?_
        rw [decide_eq_false hne]
        walk_at "g"
        refine w_seq ?_
        walk_at "g"
        refine ⟨x, ax, rfl, tx, ?_⟩
        walk_at "g"
        refine w_ite (fun hi => ?_) (fun hi => ?_)
        · obtain ⟨i, rfl⟩ := tx.isInt hi
          walk_at "g"
          refine w_ite (fun hr2 => ?_) (fun hr2 => ?_)
          · walk_at "g"
            refine w_new fun l H2 hl2 e2 k2 => ?_
            have D2 := D1.kp (M := []) (Kp.of k2) (by simp) (by simp)
            obtain ⟨nld, _⟩ := D1.ne1 hl2
            walk_at "g"
            refine w_draw D2 (by omega) (by decide) (by decide) fun r2 H3 hr3 D3 o3 => ?_
            have e3 := o3.get nld e2
            have hall : ∀ y ∈ ([V.int (-1), V.int 1, V.int 2, V.int (-2), V.int (-i - 1), V.int 40] : List V), ∃ z, y = .int z := by
              intro y hy
              simp only [List.mem_cons, List.not_mem_nil, or_false] at hy
              rcases hy with rfl | rfl | rfl | rfl | rfl | rfl <;> exact ⟨_, rfl⟩
            obtain ⟨y, hy1, hy2⟩ := at_lt (xs := ([V.int (-1), V.int 1, V.int 2, V.int (-2), V.int (-i - 1), V.int 40] : List V)) (i := (r2 : Int)) (by omega) hr3
            obtain ⟨z, rfl⟩ := hall y (List.mem_of_getElem? hy1)
            walk_at "g"
            exact q H3 _ (D3.mono (by omega)) (kd1.trans ((KX.of k2).trans (D2.kx D3 o3))) DatX.int
          · walk_at "g"
            refine w_seq ?_
            walk_at "g"
            refine ⟨d, c, _, rfl, D1, by omega, fun H2 y D2 k2 hy => q H2 y (D2.mono (by omega)) (kd1.trans k2) (hy.mono (by omega))⟩
        · walk_at "g"
          refine w_seq ?_
          walk_at "g"
          refine w_isStr tx ?_
          walk_at "g"
          refine w_ite (fun hs => ?_) (fun hs => ?_)
          · obtain ⟨z, rfl⟩ := tx.isStr hs
            have hz := hx1.isT
            walk_at "g"
            refine w_ite (fun hr4 => ?_) (fun hr4 => ?_)
            · walk_at "g"
              refine w_slS (lsz _ (by have := hz.1; omega)) ?_
              walk_at "g"
              refine w_draw D1 (by omega) (by decide) (by decide) fun r2 H3 hr3 D3 o3 => ?_
              obtain ⟨ch, hc1, hc2⟩ := at_lt (xs := AZ.cps.toList) (i := (r2 : Int)) (by omega) (by rw [show AZ.cps.toList.length = 26 from rfl]; exact hr3)
              walk_at "g"
              refine w_ixS (by decide) hc2 ?_
              have hm := mid_ok hz (az_ok ch (List.mem_of_getElem? hc1))
              have hl1 := hm.1
              walk_at "g"
              refine w_addS (lsz _ (by have := cutS_length z none (some 1); have := hz.1; show _ + 1 ≤ 3000; omega)) ?_
              walk_at "g"
              refine w_slS (lsz _ (by have := hz.1; omega)) ?_
              walk_at "g"
              refine w_addS (lsz _ (by rw [str_len] at hl1; omega)) ?_
              exact q H3 _ (D3.mono (by omega)) (kd1.trans (D1.kx D3 o3)) (.txt hm)
            · walk_at "g"
              refine ⟨d, c, _, rfl, D1, by omega, fun H2 y D2 k2 hy => q H2 y (D2.mono (by omega)) (kd1.trans k2) (hy.mono (by omega))⟩
          · walk_at "g"
            refine ⟨d, c, _, rfl, D1, by omega, fun H2 y D2 k2 hy => q H2 y (D2.mono (by omega)) (kd1.trans k2) (hy.mono (by omega))⟩
      walk_at "g"
      refine w_seq ?_
      walk_at "g"
      refine w_ite (fun hr1' => ?_) (fun hr1' => ?_)
      · walk_at "g"
        refine w_listT (.of ep) fun l H2 hl2 e2 k2 => ?_
        exact q H2 _ ((D1.kp (M := []) (Kp.of k2) (by simp) (by simp)).mono (by omega)) (kd1.trans (KX.of k2)) (.leaf (.lst e2) (by decide) fun z q => by cases q)
      walk_at "g"
      refine w_seq ?_
      walk_at "g"
      refine w_ite (fun hl0 => ?_) (fun hl0 => ?_)
      · walk_at "g"
        refine ⟨d, c, _, rfl, D1, by omega, fun H2 y D2 k2 hy => ?_⟩
        walk_at "g"
        refine w_new fun o H3 ho e3 k3 => ?_
        refine q H3 _ ((D2.kp (M := []) (Kp.of k3) (by simp) (by simp)).mono (by omega)) (kd1.trans (k2.trans (KX.of k3))) (.tup e3 (by simp only [List.length_cons, List.length_nil]; omega) fun z hz => ?_)
        have e : z = y := by simpa using hz
        subst e
        exact (hy.kd (KD.of k3)).mono (by omega)
      walk_at "g"
      refine w_draw D1 (by omega) (by omega) (by omega) fun at' H2 hat D2 o2 => ?_
      have kd2 := D1.kx D2 o2
      have ep2 := kd2.t _ _ ep
      have hxs2 : ∀ y ∈ xs, DatX (B + 1) H2 y := fun y hy => ((hxs y hy).kd kd2).mono (by omega)
      have hat' : at' < xs.length := by omega
      walk_at "g"
      refine w_seq ?_
      walk_at "g"
      refine w_ite (fun hr2 => ?_) (fun hr2 => ?_)
      · walk_at "g"
        refine w_slAt ep2 fun a1 H3 e3 k3 => ?_
        have ep3 := k3 _ _ ep2
        walk_at "g"
        refine w_slAt ep3 fun a2 H4 e4 k4 => ?_
        have e3' := k4 _ _ e3
        have l1 := cut_to xs (i := (at' : Int)) (by omega)
        have l2 := cut_from xs (i := (at' : Int) + 1) (by omega)
        walk_at "g"
        refine w_catAt e3' e4 (lsz _ (by omega)) fun a3 H5 e5 k5 => ?_
        have k25 : Same H2 H5 := Same.trans k3 (Same.trans k4 k5)
        refine q H5 _ ((D2.kp (M := []) (Kp.of k25) (by simp) (by simp)).mono (by omega)) (kd1.trans (kd2.trans (KX.of k25))) (.tup e5 (by rw [List.length_append]; omega) fun z hz => ?_)
        rcases List.mem_append.mp hz with h | h
        · exact (hxs2 z (cut_mem h)).kd (KD.of k25)
        · exact (hxs2 z (cut_mem h)).kd (KD.of k25)
      walk_at "g"
      refine w_seq ?_
      walk_at "g"
      refine w_ite (fun hr3 => ?_) (fun hr3 => ?_)
      · walk_at "g"
        refine w_slAt ep2 fun a1 H3 e3 k3 => ?_
        have ep3 := k3 _ _ ep2
        walk_at "g"
        refine w_slAt ep3 fun a2 H4 e4 k4 => ?_
        have e3' := k4 _ _ e3
        have l1 := cut_to xs (i := (at' : Int) + 1) (by omega)
        have l2 := cut_from xs (i := (at' : Int)) (by omega)
        walk_at "g"
        refine w_catAt e3' e4 (lsz _ (by omega)) fun a3 H5 e5 k5 => ?_
        have k25 : Same H2 H5 := Same.trans k3 (Same.trans k4 k5)
        refine q H5 _ ((D2.kp (M := []) (Kp.of k25) (by simp) (by simp)).mono (by omega)) (kd1.trans (kd2.trans (KX.of k25))) (.tup e5 (by rw [List.length_append]; omega) fun z hz => ?_)
        rcases List.mem_append.mp hz with h | h
        · exact (hxs2 z (cut_mem h)).kd (KD.of k25)
        · exact (hxs2 z (cut_mem h)).kd (KD.of k25)
      walk_at "g"
      refine w_seq ?_
      walk_at "g"
      obtain ⟨u, hu1, hu2⟩ := at_lt (xs := xs) (i := (at' : Int)) (by omega) (by omega)
      have hum : u ∈ xs := List.mem_of_getElem? hu1
      refine w_ite (fun hr4 => ?_) (fun hr4 => ?_)
      · walk_at "g"
        refine w_slAt ep2 fun a1 H3 e3 k3 => ?_
        have ep3 := k3 _ _ ep2
        walk_at "g"
        refine w_slAt ep3 fun a2 H4 e4 k4 => ?_
        have e3' := k4 _ _ e3
        have l1 := cut_to xs (i := (at' : Int)) (by omega)
        have l2 := cut_some xs (i := (at' : Int) + 1) (j := (at' : Int) + 2) (by omega) (by omega)
        walk_at "g"
        refine w_catAt e3' e4 (lsz _ (by omega)) fun a3 H5 e5 k5 => ?_
        have k25 : Same H2 H5 := Same.trans k3 (Same.trans k4 k5)
        have ep5 := k25 _ _ ep2
        walk_at "g"
        refine w_new fun a4 H6 h6 e6 k6 => ?_
        have e5' := k6 _ _ e5
        walk_at "g"
        refine w_catAt e5' e6 (lsz _ (by rw [List.length_append]; simp only [List.length_cons, List.length_nil]; omega)) fun a5 H7 e7 k7 => ?_
        have k27 : Same H2 H7 := Same.trans k25 (Same.trans k6 k7)
        have ep7 := k27 _ _ ep2
        walk_at "g"
        refine w_slAt ep7 fun a6 H8 e8 k8 => ?_
        have e7' := k8 _ _ e7
        have l3 := cut_from xs (i := (at' : Int) + 2) (by omega)
        walk_at "g"
        refine w_catAt e7' e8 (lsz _ (by rw [List.length_append, List.length_append]; simp only [List.length_cons, List.length_nil]; omega)) fun a7 H9 e9 k9 => ?_
        have k29 : Same H2 H9 := Same.trans k27 (Same.trans k8 k9)
        refine q H9 _ ((D2.kp (M := []) (Kp.of k29) (by simp) (by simp)).mono (by omega)) (kd1.trans (kd2.trans (KX.of k29))) (.tup e9 (by rw [List.length_append, List.length_append, List.length_append]; simp only [List.length_cons, List.length_nil]; omega) fun z hz => ?_)
        have hz' : z ∈ xs := by
          rcases List.mem_append.mp hz with h | h
          · rcases List.mem_append.mp h with h | h
            · rcases List.mem_append.mp h with h | h
              · exact cut_mem h
              · exact cut_mem h
            · have e : z = u := by simpa using h
              subst e
              exact hum
          · exact cut_mem h
        exact (hxs2 z hz').kd (KD.of k29)
      walk_at "g"
      refine w_slAt ep2 fun a1 H3 e3 k3 => ?_
      have ep3 := k3 _ _ ep2
      have l1 := cut_to xs (i := (at' : Int)) (by omega)
      walk_at "g"
      refine ⟨d, c, _, B, u, by rw [show (((k + 1 : Nat) : Int) - 1) = (k : Int) by omega]; rfl, D2.kp (M := []) (Kp.of k3) (by simp) (by simp), by omega, ((hxs u hum).kd kd2).kd (KD.of k3), hB4, hB, fun H4 y D4 k4 hy => ?_⟩
      have e3' := k4.t _ _ e3
      walk_at "g"
      refine w_new fun a4 H6 h6 e6 k6 => ?_
      have e5' := k6 _ _ e3'
      walk_at "g"
      refine w_catAt e5' e6 (lsz _ (by simp only [List.length_cons, List.length_nil]; omega)) fun a5 H7 e7 k7 => ?_
      have k47 : Same H4 H7 := Same.trans k6 k7
      have ep7 := k47 _ _ (k4.t _ _ ep3)
      walk_at "g"
      refine w_slAt ep7 fun a6 H8 e8 k8 => ?_
      have e7' := k8 _ _ e7
      have l3 := cut_from xs (i := (at' : Int) + 1) (by omega)
      walk_at "g"
      refine w_catAt e7' e8 (lsz _ (by rw [List.length_append]; simp only [List.length_cons, List.length_nil]; omega)) fun a7 H9 e9 k9 => ?_
      have k49 : Same H4 H9 := Same.trans k47 (Same.trans k8 k9)
      refine q H9 _ ((D4.kp (M := []) (Kp.of k49) (by simp) (by simp)).mono (by omega)) (kd1.trans (kd2.trans ((KX.of k3).trans (k4.trans (KX.of k49))))) (.tup e9 (by rw [List.length_append, List.length_append]; simp only [List.length_cons, List.length_nil]; omega) fun z hz => ?_)
      have kk : KX d H2 H9 := (KX.of k3).trans (k4.trans (KX.of k49))
      rcases List.mem_append.mp hz with h | h
      · rcases List.mem_append.mp h with h | h
        · exact (hxs2 z (cut_mem h)).kd kk
        · have e : z = y := by simpa using h
          subst e
          exact hy.kd (KD.of k49)
      · exact (hxs2 z (cut_mem h)).kd kk
end

def spSpoiled : Sp := fun vs H Q _ => ∃ (d c : Addr) (n B m : Nat) (x : V), vs = [.ref d, x, .int (m : Int)] ∧ Deck H d c n ∧ n + 20 * m ≤ MOSTD ∧ DatX B H x ∧ 41 ≤ B ∧ B + m ≤ 1000 ∧ ∀ H' y, Deck H' d c (n + 20 * m) → KX d H H' → DatX (B + m) H' y → Q y H'
theorem LineOk.txt {z : Str} {B : Nat} (h : LineOk z) (hB : 40 ≤ B) : TxtOk B z := ⟨Nat.le_trans h.1 hB, fun c hc e => by
  have := h.2 c hc
  subst e
  revert this
  decide +kernel⟩
theorem DatX.strs {B : Nat} {H : Hp} {a : Addr} {ls : List Str} (h : RwAt H a ls) (hl : ls.length ≤ B) (hB : 40 ≤ B) (hz : ∀ z ∈ ls, LineOk z) : DatX B H (.ref a) := .tup h (by rw [List.length_map]; exact hl) fun y hy => by
  obtain ⟨z, hz', rfl⟩ := List.mem_map.mp hy
  exact .txt ((hz z hz').txt hB)
theorem PcAt.datX {H : Hp} {a : Addr} {p : Pc} (h : PcAt H a p) (hs : p.size ≤ 40) (ok : p.ok) : DatX 41 H (.ref a) := by
  cases p with
  | take b m =>
    refine .tup h (by simp only [List.length_cons, List.length_nil]; omega) fun y hy => ?_
    have hy' : y = .str "take" ∨ y = .int (b : Int) ∨ y = .int (m : Int) := by simpa using hy
    rcases hy' with rfl | rfl | rfl
    · exact .txt ⟨by decide +kernel, by decide +kernel⟩
    · exact .int
    · exact .int
  | put ls =>
    obtain ⟨r, h1, h2⟩ := h
    refine .tup h1 (by simp only [List.length_cons, List.length_nil]; omega) fun y hy => ?_
    have hy' : y = .str "put" ∨ y = .ref r := by simpa using hy
    rcases hy' with rfl | rfl
    · exact .txt ⟨by decide +kernel, by decide +kernel⟩
    · exact DatX.strs h2 (by have : ls.length ≤ 40 := hs; omega) (by decide) ok.2
theorem ScAt.datX {H : Hp} {s : Addr} {ps : List (Addr × Pc)} (h : ScAt H s ps) (k : ScOk (ps.map (·.2))) : DatX 41 H (.ref s) := by
  have hl := sizes_ge k.ok
  have hf := k.few
  rw [List.length_map] at hl
  refine .tup h.at' (by rw [List.length_map]; omega) fun y hy => ?_
  obtain ⟨q, hq, rfl⟩ := List.mem_map.mp hy
  have hqm : q.2 ∈ ps.map (·.2) := List.mem_map_of_mem hq
  have hsz : q.2.size ≤ sizes (ps.map (·.2)) := by
    unfold sizes
    exact le_sum (List.mem_map_of_mem hqm)
  exact (h.pc q hq).datX (by omega) (k.ok _ hqm)
section
variable {P : Program} {w : World} {K : PySem.W.Frag} {mg : Str → Option Value} {base : Heap}
theorem ok_spoiled {f fB fM fD fI fO : Addr} {fd fdB fdM fdD fdI fdO : FuncData} (T : Txt K mg) (F : Fun K "_law_spoiled" "_law_spoiled" s_law_spoiled f fd) (D_law_bent : Df K mg "_law_bent" s_law_bent ["_law_deck_here", "_law_thing", "_law_deep_in"] fB fdB) (D_law_mixed : Df K mg "_law_mixed" s_law_mixed ["_law_cell", "_law_turn"] fM fdM)
    (D_law_draw : Df K mg "_law_draw" s_law_draw ["_law_deck_here", "_law_many"] fD fdD) (D_law_int : Df K mg "_law_int" s_law_int ["_law_thing"] fI fdI) (D_law_odd : Df K mg "_law_odd" s_law_odd ["_law_deck_here"] fO fdO) : FnOk P w K mg base CX0 9 f fd ["_law_deck_here", "_law_thing", "_law_times"] spSpoiled := by
  have G_law_bent : FnOk P w K mg base CX0 8 fB fdB ["_law_deck_here", "_law_thing", "_law_deep_in"] (spBent 4) := ok_bent T D_law_bent D_law_mixed D_law_draw D_law_int D_law_odd 4
  refine F.ok sc_law_spoiled (fun vs H Q E h => ?_) (fun cdv A outer s H vs Q E hr h => ?_)
  · obtain ⟨d, c, n, B, m, x, rfl, _⟩ := h
    rfl
  · obtain ⟨d, c, n, B, m, x, rfl, D0, hn, hx, hB, hBm, q⟩ := h
    refine ⟨_,
      (pss_cons
        (ps_for PassesOwn.never rfl (pi_range1 (by rfl) T.n_range (pa_cons (pv 2) pa_nil)) (pg_name (i := 3) sc_law_spoiled.nd rfl (.inl rfl))
          (pss_one
            (ps_set (i := 1) sc_law_spoiled.nd rfl (.inl rfl) (pe_call G_law_bent (hr.mono (by omega)) (by rfl) D_law_bent.g D_law_bent.fn.kp D_law_bent.b .nil pass0 (pa_cons (pv 0) (pa_cons (pv 1) (pa_cons pe_int pa_nil)))))))
      (pss_one
        (ps_ret (pv 1))))
      , ?_⟩
    rw [show L2.start N_law_spoiled [V.ref d, x, V.int (m : Int)] = [some (.ref d), some x, some (.int (m : Int)), none] from rfl]
    walk_at "x"
    refine lp_range (fun i σ H' => ∃ (y : V) (y3 : Option V), σ = [some (.ref d), some y, some (.int (m : Int)), y3] ∧ DatX (B + i) H' y ∧ Deck H' d c (n + 20 * i) ∧ KX d H H') ⟨_, _, rfl, hx, D0, KX.refl⟩ ?_ ?_
    · rintro i σ H1 hi ⟨y, y3, rfl, hy, D1, k1⟩
      have hi' : i < m := by omega
      walk_at "g"
      refine ⟨d, c, _, B + i, y, rfl, D1, by omega, hy, by omega, by omega, fun H2 z D2 k2 hz => ?_⟩
      walk_at "g"
      exact ⟨z, _, rfl, hz, D2.mono (by omega), k1.trans k2⟩
    · rintro σ H1 ⟨y, y3, rfl, hy, D1, k1⟩
      walk_at "g"
      rw [show ((m : Int)).toNat = m by omega] at hy D1
      exact q H1 y D1 k1 hy
end
/-! ### right_least, of data of any kind -/
structure LstC (bs rs : List Str) (t p : Int) (ds : List Int) (S : List Pc) : Prop where
  fit : ∀ q ∈ S, q.fits bs.length
  mks : makes bs S = rs
  cost : ds.getD rs.length 0 = costs t p S
  len : ds.length = rs.length + 1
  d0 : ds.getD 0 0 = 0
  put : ∀ k, k < rs.length → ds.getD (k + 1) 0 ≤ ds.getD k 0 + p
  take : ∀ k, k < rs.length → ∀ b w, b ≤ k → Stands bs rs b w (k + 1 - b) → ds.getD (k + 1) 0 ≤ ds.getD b 0 + t
def LstV (H : Hp) (bs rs : List Str) (t p : Int) (x : V) : Prop := ∃ (a : Addr) (v : V) (b : Addr) (ps : List (Addr × Pc)) (ds : List Int), x = .ref a ∧ H a = some (.tup [v, .ref b]) ∧ H b = some (.tup (ds.map V.int)) ∧ ScV H v ps ∧ LstC bs rs t p ds (ps.map (·.2))
theorem int_inj : ∀ {xs ys : List Int}, xs.map V.int = ys.map V.int → xs = ys
  | [], [], _ => rfl
  | [], _ :: _, h => by simp at h
  | _ :: _, [], h => by simp at h
  | x :: xs, y :: ys, h => by
    rw [List.map_cons, List.map_cons, List.cons.injEq] at h
    rw [V.int.inj h.1, int_inj h.2]
theorem lstv_iff {H : Hp} {bs rs : List Str} {t p : Int} {a b : Addr} {v : V} {ps : List (Addr × Pc)} {ds : List Int} (ea : H a = some (.tup [v, .ref b])) (eb : H b = some (.tup (ds.map V.int))) (hp : ScV H v ps) : LstV H bs rs t p (.ref a) ↔ LstC bs rs t p ds (ps.map (·.2)) := by
  constructor
  · rintro ⟨a', v', b', ps', ds', e, h1, h2, h3, h4⟩
    cases e
    rw [ea] at h1
    cases h1
    rw [eb] at h2
    have e2 := Option.some.inj h2
    injection e2 with e2
    rw [int_inj e2, scv_det hp h3]
    exact h4
  · intro h
    exact ⟨a, v, b, ps, ds, rfl, ea, eb, hp, h⟩
theorem LstV.on {B : Nat} {H H' : Hp} {bs rs : List Str} {t p : Int} {x : V} (d : DatX B H x) (k : KD H H') : LstV H' bs rs t p x ↔ LstV H bs rs t p x := by
  constructor
  · rintro ⟨a, v, b, ps, ds, rfl, h1, h2, h3, h4⟩
    obtain ⟨e1, d1⟩ := d.backK k h1
    exact ⟨a, v, b, ps, ds, rfl, e1, ((d1 (.ref b) (by simp)).backK k h2).1, h3.back (d1 v (by simp)) k, h4⟩
  · rintro ⟨a, v, b, ps, ds, rfl, h1, h2, h3, h4⟩
    exact ⟨a, v, b, ps, ds, rfl, k.t _ _ h1, k.t _ _ h2, h3.kt k.t, h4⟩
def spIsPairX : Sp := fun vs H Q _ => ∃ (x : V) (B : Nat), vs = [x] ∧ DatX B H x ∧ (∀ a u v, x = .ref a → H a = some (.tup [u, v]) → Q (.bl true) H) ∧ ((∀ a u v, x = .ref a → H a ≠ some (.tup [u, v])) → Q (.bl false) H)
def spMakesX : Sp := fun vs H Q _ => ∃ (b r : Addr) (bs rs : List Str) (x : V) (B : Nat), vs = [.ref b, x, .ref r] ∧ RwAt H b bs ∧ bs.length ≤ 1000 ∧ RwAt H r rs ∧ (∀ z ∈ bs, LineOk z) ∧ (∀ z ∈ rs, LineOk z) ∧ DatX B H x ∧ B ≤ 1000 ∧
  (∀ ps, FitV H x bs.length ps → makes bs (ps.map (·.2)) = rs → ∀ H', Same H H' → Q (.bl true) H') ∧ ((∀ ps, FitV H x bs.length ps → makes bs (ps.map (·.2)) ≠ rs) → ∀ H', Same H H' → Q (.bl false) H')
def spLstX : Sp := fun vs H Q _ => ∃ (b r : Addr) (bs rs : List Str) (x : V) (t p : Int) (B : Nat), vs = [.ref b, .ref r, x, .int t, .int p] ∧ RwAt H b bs ∧ bs.length ≤ 100 ∧ (∀ z ∈ bs, LineOk z) ∧ RwAt H r rs ∧ rs.length ≤ 40 ∧ (∀ z ∈ rs, LineOk z) ∧ 0 ≤ p ∧ p < 2 ^ 60 ∧ DatX B H x ∧ B ≤ 1000 ∧
  (LstV H bs rs t p x → ∀ H', Same H H' → Q (.bl true) H') ∧ (¬ LstV H bs rs t p x → ∀ H', Same H H' → Q (.bl false) H')
theorem ints_of : ∀ {ys : List V}, (∀ y ∈ ys, ∃ n : Int, y = .int n) → ∃ ds : List Int, ys = ds.map V.int
  | [], _ => ⟨[], rfl⟩
  | y :: ys, h => by
    obtain ⟨n, rfl⟩ := h y (by simp)
    obtain ⟨ds, rfl⟩ := ints_of (ys := ys) fun z hz => h z (by simp [hz])
    exact ⟨n :: ds, rfl⟩
section
variable {P : Program} {w : World} {K : PySem.W.Frag} {mg : Str → Option Value} {base : Heap}
theorem ok_ispairX {f : Addr} {fd : FuncData} (T : Txt K mg) (F : Fun K "is_pair" "is_pair" s_is_pair f fd) : FnOk P w K mg base CX0 1 f fd ["thing"] spIsPairX := by
  refine F.ok sc_is_pair (fun vs H Q E h => ?_) (fun cdv A outer s H vs Q E hr h => ?_)
  · obtain ⟨x, B, rfl, _⟩ := h
    rfl
  · obtain ⟨x, B, rfl, hd, q1, q2⟩ := h
    refine ⟨_,
      (pss_one
        (ps_ret (pe_and (pe_callB (r := rIsi K) call_isi (by rfl) T.n_isinstance (by decide +kernel) (pa_cons (pv 0) (pa_cons (pe_bltn (v := .ty "tuple") (u := .type "tuple") (by rfl) T.n_tuple (by decide +kernel) rfl) pa_nil))) (pe_one (pe_cmpR op_eq (pe_callB (r := rLen K) c_len (by rfl) T.n_len (by decide +kernel) (pa_cons (pv 0) pa_nil)) pe_int (nomark _))))))
      , ?_⟩
    rw [show L2.start N_is_pair [x] = [some x] from rfl]
    walk_at "x"
    rcases hd.cases with ⟨ay, ty, hne⟩ | ⟨a, xs, rfl, ea, hxB, hxs⟩
    · refine w_isTup ty ?_
      rw [decide_eq_false hne]
      walk_at "g"
      exact q2 fun a u v e h => by subst e; exact hne (ty.ofTup h)
    walk_at "g"
    by_cases h2 : xs.length = 2
    · rw [decide_eq_true (by omega)]
      match xs, h2 with
      | [u, v], _ => exact q1 a u v rfl ea
    · rw [decide_eq_false (by omega)]
      refine q2 fun a' u v e h => ?_
      cases e
      rw [ea] at h
      cases h
      exact h2 rfl
theorem ok_makesX {C_NoScript f fD fS fM fI fT : Addr} {fd fdD fdS fdM fdI fdT : FuncData} (T : Txt K mg) (F : Fun K "makes_rows" "makes_rows" s_makes_rows f fd) (X_NoScript : Exn K mg "NoScript" C_NoScript) (D_done : Df K mg "done" s_done ["base", "script"] fD fdD) (D_is_script : Df K mg "is_script" s_is_script ["thing"] fS fdS) (D_made_by : Df K mg "made_by" s_made_by ["thing"] fM fdM) (D_is_int : DfD K mg "is_int" s_is_int ["thing", "least"] [.int 0] fI fdI) (D_is_text : DfD K mg "is_text" s_is_text ["thing", "most"] [.int 40] fT fdT) : FnOk P w K mg base CX0 5 f fd ["base", "script", "rows"] spMakesX := by
  have G_done : FnOk P w K mg base (L2.CX P w) 4 fD fdD ["base", "script"] (spDoneX C_NoScript) := ok_doneX T D_done.fn D_is_script D_made_by D_is_int D_is_text X_NoScript
  refine F.ok sc_makes_rows (fun vs H Q E h => ?_) (fun cdv A outer s H vs Q E hr h => ?_)
  · obtain ⟨b, r, bs, rs, x, B, rfl, _⟩ := h
    rfl
  · obtain ⟨b, r, bs, rs, x, B, rfl, hb, hbl, hr', hbo, hro, hdx, hB, q1, q2⟩ := h
    refine ⟨_,
      (pss_cons
        (p_try rfl rfl ⟨rfl, by decide, .inl X_NoScript.g⟩ (fun W pn xe tk po =>
          (pss_one
            (ps_set (i := 3) sc_makes_rows.nd rfl (.inl rfl) (pe_callS G_done (hr.mono (by omega)) (by rfl) D_done.g D_done.fn.kp D_done.b (fun σ => passAt tk σ) (pa_cons (pv 0) (pa_cons (pv 1) pa_nil))))))
        (fun a oe cls d pn _ _ =>
          (pss_one
            (ps_ret pe_bl))))
      (pss_one
        (ps_ret (pe_cmpR (r := rEqD K) (op_eqD hr.units) (pv 3) (pv 2) (nomark _)))))
      , ?_⟩
    rw [show L2.start N_makes_rows [V.ref b, x, V.ref r] = [some (.ref b), some x, some (.ref r), none] from rfl]
    refine w_seq ?_
    walk_at "x"
    refine ⟨b, bs, x, B, rfl, hb, hbl, hdx.datT, by omega, fun ps hps H1 r1 k1 e1 => ?_, fun hn H1 k1 => ?_⟩
    · have hmo : ∀ z ∈ makes bs (ps.map (·.2)), LineOk z := make_lines hbo hps.1.choose_spec.2.2.ok
      walk_at "g"
      refine w_eqRowsG e1 (k1 _ _ hr') hmo hro ?_
      walk_at "g"
      by_cases he : makes bs (ps.map (·.2)) = rs
      · rw [decide_eq_true he]
        exact q1 ps hps he _ k1
      · rw [decide_eq_false he]
        exact q2 (fun ps' h => by rw [scv_det h.1 hps.1]; exact he) _ k1
    · refine ⟨true, X_NoScript.e, fun _ ea hea => ?_, fun z => nomatch z⟩
      walk_at "g"
      exact q2 (fun ps h => absurd h (hn ps)) _ k1
theorem ok_rightX {C_NoScript f fP fR fL fC fD fS fM fI fT : Addr} {fd fdP fdR fdL fdC fdD fdS fdM fdI fdT : FuncData} (T : Txt K mg) (F : FunD K "right_least" "right_least" (defArgs s_right_least) (defBody s_right_least) (defScope s_right_least) [] [("take", .int 3), ("put", .int 2)] f fd) (X_NoScript : Exn K mg "NoScript" C_NoScript) (D_is_pair : Df K mg "is_pair" s_is_pair ["thing"] fP fdP) (D_makes_rows : Df K mg "makes_rows" s_makes_rows ["base", "script", "rows"] fR fdR) (D_longest_takes : Df K mg "longest_takes" s_longest_takes ["base", "rows"] fL fdL) (D_price : DfKs K mg "price" s_price ["script", "take", "put"] [("take", .int 3), ("put", .int 2)] [.int 3, .int 2] fC fdC) (KE_price_take_put : ∃ g, KBn K fdC ["script", "take", "put"] 1 ["take", "put"] g (fun vs zs => vs ++ zs)) (D_done : Df K mg "done" s_done ["base", "script"] fD fdD) (D_is_script : Df K mg "is_script" s_is_script ["thing"] fS fdS) (D_made_by : Df K mg "made_by" s_made_by ["thing"] fM fdM) (D_is_int : DfD K mg "is_int" s_is_int ["thing", "least"] [.int 0] fI fdI) (D_is_text : DfD K mg "is_text" s_is_text ["thing", "most"] [.int 40] fT fdT) : FnOk P w K mg base CX0 6 f fd ["base", "rows", "thing", "take", "put"] spLstX := by
  obtain ⟨kg_price_take_put, KB_price_take_put⟩ := KE_price_take_put
  have G_is_pair : FnOk P w K mg base CX0 1 fP fdP ["thing"] spIsPairX := ok_ispairX T D_is_pair.fn
  have G_makes_rows : FnOk P w K mg base CX0 5 fR fdR ["base", "script", "rows"] spMakesX := ok_makesX T D_makes_rows.fn X_NoScript D_done D_is_script D_made_by D_is_int D_is_text
  have G_longest_takes : FnOk P w K mg base CX0 1 fL fdL ["base", "rows"] spLongest := ok_longest T D_longest_takes.fn
  have G_price : FnOk P w K mg base CX0 4 fC fdC ["script", "take", "put"] spPrice := ok_price T D_price.fn D_is_script D_made_by D_is_int D_is_text
  have G_is_script : FnOk P w K mg base CX0 3 fS fdS ["thing"] spIsScript := ok_isscript T D_is_script.fn D_made_by D_is_int D_is_text
  refine okD F sc_right_least (fun vs H Q E h => ?_) (fun cdv A outer s H vs Q E hr h => ?_)
  · obtain ⟨b, r, bs, rs, x, t, p, B, rfl, _⟩ := h
    rfl
  · obtain ⟨b, r, bs, rs, x, t, p, B, rfl, hb, hbl, hbo, hr', hrl, hro, hp0, hp1, hdx, hB, q1, q2⟩ := h
    have hr0 : H r = some (.tup (rs.map V.str)) := hr'
    refine ⟨_,
      (pss_cons
        (ps_if (PW.pt (pw_or (pt_not (pt_val (pe_call G_is_pair (hr.mono (by omega)) (by rfl) D_is_pair.g D_is_pair.fn.kp D_is_pair.b .nil pass0 (pa_cons (pv 2) pa_nil)))) (pw_or (pt_not (pt_val (pe_call G_is_script (hr.mono (by omega)) (by rfl) D_is_script.g D_is_script.fn.kp D_is_script.b .nil pass0 (pa_cons (pe_ix (r := rIxT K) ix_tup (pv 2) pe_int (fun _ _ => rfl)) pa_nil)))) (pw_or1 (pt_not (pt_val (pe_callB (r := rIsi K) call_isi (by rfl) T.n_isinstance (by decide +kernel) (pa_cons (pe_ix (r := rIxT K) ix_tup (pv 2) pe_int (fun _ _ => rfl)) (pa_cons (pe_bltn (v := .ty "tuple") (u := .type "tuple") (by rfl) T.n_tuple (by decide +kernel) rfl) pa_nil)))))))))
          (pss_one
            (ps_ret pe_bl))
          pss_nil)
      (pss_cons
        (ps_asg (pv 2) (pg_tup rfl (pgs_cons (pg_name (i := 5) sc_right_least.nd rfl (.inl rfl)) (pgs_cons (pg_name (i := 6) sc_right_least.nd rfl (.inl rfl)) pgs_nil))))
      (pss_cons
        (ps_if (pt_not (pt_val (pe_callB (r := rAll K) (cr_all rfl) (by rfl) T.n_all (by decide +kernel) (pa_cons (pe_lc (own := [("one", 10)]) (g := (gName 10)) rfl sc_right_least.nd (pi_tup (pv 6)) (blkOk_by (own := [("one", 10)]) (N := N_right_least) (sc := defScope s_right_least) (by decide +kernel)) (fun _ _ _ _ _ => (pg_name (i := 10) sc_right_least.nd rfl (.inl rfl))) (fun _ _ _ _ _ => pts_nil) (fun _ _ _ _ _ => (pe_and (pe_callB (r := rIsi K) call_isi (by rfl) T.n_isinstance (by decide +kernel) (pa_cons (pv 10) (pa_cons (pe_bltn (v := .ty "int") (u := .type "int") (by rfl) T.n_int (by decide +kernel) rfl) pa_nil))) (pe_one (pe_not (pe_callB (r := rIsi K) call_isi (by rfl) T.n_isinstance (by decide +kernel) (pa_cons (pv 10) (pa_cons (pe_bltn (v := .ty "bool") (u := .type "bool") (by rfl) T.n_bool (by decide +kernel) rfl) pa_nil)))))))) pa_nil))))
          (pss_one
            (ps_ret pe_bl))
          pss_nil)
      (pss_cons
        (ps_if (PW.pt (pw_or (pt_cmpR op_ne (pe_callB (r := rLen K) c_len (by rfl) T.n_len (by decide +kernel) (pa_cons (pv 6) pa_nil)) (pe_op op_add (pe_callB (r := rLen K) c_len (by rfl) T.n_len (by decide +kernel) (pa_cons (pv 1) pa_nil)) pe_int) (nomark _)) (pw_or1 (pt_not (pt_val (pe_call G_makes_rows (hr.mono (by omega)) (by rfl) D_makes_rows.g D_makes_rows.fn.kp D_makes_rows.b .nil pass0 (pa_cons (pv 0) (pa_cons (pv 5) (pa_cons (pv 1) pa_nil)))))))))
          (pss_one
            (ps_ret pe_bl))
          pss_nil)
      (pss_cons
        (ps_if (PW.pt (pw_or (pt_cmpR op_ne (pe_ix (r := rIxT K) ix_tup (pv 6) pe_int (fun _ _ => rfl)) pe_int (nomark _)) (pw_or1 (pt_cmpR op_ne (pe_ix (r := rIxT K) ix_tup (pv 6) (pe_un un_neg pe_int) (fun _ _ => rfl)) (pe_callN G_price (hr.mono (by omega)) (by rfl) D_price.g D_price.kp KB_price_take_put pass0 (pa_cons (pv 5) pa_nil) (pk_cons (pv 3) (pk_cons (pv 4) pk_nil))) (nomark _)))))
          (pss_one
            (ps_ret pe_bl))
          pss_nil)
      (pss_cons
        (ps_set (i := 7) sc_right_least.nd rfl (.inl rfl) (pe_call G_longest_takes (hr.mono (by omega)) (by rfl) D_longest_takes.g D_longest_takes.fn.kp D_longest_takes.b .nil pass0 (pa_cons (pv 0) (pa_cons (pv 1) pa_nil))))
      (pss_cons
        (ps_for PassesOwn.never rfl (pi_range2 (by rfl) T.n_range (pa_cons pe_int (pa_cons (pe_op op_add (pe_callB (r := rLen K) c_len (by rfl) T.n_len (by decide +kernel) (pa_cons (pv 1) pa_nil)) pe_int) pa_nil))) (pg_name (i := 8) sc_right_least.nd rfl (.inl rfl))
          (pss_cons
            (ps_if (pt_cmpR op_gt (pe_ix (r := rIxT K) ix_tup (pv 6) (pv 8) (fun _ _ => rfl)) (pe_op op_add (pe_ix (r := rIxT K) ix_tup (pv 6) (pe_op op_sub (pv 8) pe_int) (fun _ _ => rfl)) (pv 4)) (nomark _))
              (pss_one
                (ps_ret pe_bl))
              pss_nil)
          (pss_one
            (ps_for PassesOwn.never rfl (pi_range1 (by rfl) T.n_range (pa_cons (pv 8) pa_nil)) (pg_name (i := 9) sc_right_least.nd rfl (.inl rfl))
              (pss_one
                (ps_if (PW.pt (pw_and (pt_cmpR op_ge (pe_op op_add (pv 9) (pe_ix (r := rIxT K) ix_tup (pe_ix (r := rIxL K) ix_list (pv 7) (pv 9) (fun _ _ => rfl)) pe_int (fun _ _ => rfl))) (pv 8) (nomark _)) (pw_and1 (pt_cmpR op_gt (pe_ix (r := rIxT K) ix_tup (pv 6) (pv 8) (fun _ _ => rfl)) (pe_op op_add (pe_ix (r := rIxT K) ix_tup (pv 6) (pv 9) (fun _ _ => rfl)) (pv 3)) (nomark _)))))
                  (pss_one
                    (ps_ret pe_bl))
                  pss_nil))))))
      (pss_one
        (ps_ret pe_bl)))))))))
      , ?_⟩
    rw [show L2.start N_right_least [V.ref b, V.ref r, x, V.int t, V.int p] = [some (.ref b), some (.ref r), some x, some (.int t), some (.int p), none, none, none, none, none, none] from rfl]
    refine w_seq ?_
    walk_at "x"
    refine ⟨x, B, rfl, hdx, fun o v1 v2 e eo => ?_, fun hn => ?_⟩
    rotate_left
    · walk_at "g"
      exact q2 (fun ⟨a, v, b', ps, ds, e, h1, _⟩ => hn a v _ e h1) _ (fun _ _ z => z)
    subst e
    obtain ⟨_, dv⟩ := hdx.datT.elem eo
    have dv1 : DatX B H v1 := (hdx.backK KD.refl eo).2 v1 (by simp)
    have dv2 : DatX B H v2 := (hdx.backK KD.refl eo).2 v2 (by simp)
    have at0' : atI [v1, v2] 0 = some v1 := atI_nat (j := 0) rfl
    have at1' : atI [v1, v2] 1 = some v2 := atI_nat (j := 1) rfl
    walk_at "g"
    refine ⟨v1, B, rfl, dv1.datT, by omega, fun ps hps H1 k1 => ?_, fun hn H1 k1 => ?_⟩
    rotate_left
    · walk_at "g"
      refine q2 (fun ⟨a, v, b', ps, ds, e, h1, _, h3, _⟩ => ?_) _ k1
      cases e
      rw [eo] at h1
      cases h1
      exact hn ps h3
    have eo1 := k1 _ _ eo
    walk_at "g"
    rcases (dv2.kd (KD.of k1)).cases with ⟨ay, ty, hne⟩ | ⟨d, ys, rfl, ed1, hyB, hys⟩
    · refine w_isTup ty ?_
      rw [decide_eq_false hne]
      walk_at "g"
      refine q2 (fun ⟨a, v, b', ps, ds, e, h1, h2, _⟩ => ?_) _ k1
      cases e
      rw [eo] at h1
      cases h1
      exact hne (ty.ofTup (k1 _ _ h2))
    have ed : H d = some (.tup ys) := (dv2.backK (KD.of k1) ed1).1
    have hr1 := k1 _ _ hr0
    walk_at "g"
    refine w_seq ?_
    walk_at "g"
    refine lcp_gen (walk_tup (K := K) (a := d) (xs := ys)) [] (fun i y _ => ∃ bb : Bool, y = .bl bb ∧ ∀ z, ys[i]? = some z → (bb = true ↔ ∃ n : Int, z = .int n)) (fun _ _ => True) (by omega) (fun _ _ _ _ _ h => h) (fun _ _ _ _ _ _ => trivial) (fun _ H1 k _ => .of (k _ _ (by simp) ed1)) trivial ?_ (by simp) ?_
    · rintro i y H2 H3 R hi k2 t2 _ ⟨rfl, hy⟩ hR
      obtain ⟨a1, t1⟩ := ((hys y (List.mem_of_getElem? hy)).kd (KD.of k2.same)).ty
      refine w_name ⟨rfl, ?_⟩
      walk_at "g"
      refine w_isInt t1 ?_
      walk_at "g"
      refine w_itB (fun hb1 => ?_) (fun hb1 => ?_)
      · walk_at "g"
        refine w_isBool t1 ?_
        walk_at "g"
        refine hR _ _ ⟨_, rfl, fun z hz => ?_⟩ Kp.refl KT.refl trivial
        rw [hy] at hz
        cases hz
        constructor
        · intro hnb
          have hnb' : ¬ a1 = "bool" := by simpa using hnb
          rw [decide_eq_false hnb', Bool.or_false, decide_eq_true_iff] at hb1
          exact t1.isInt hb1
        · rintro ⟨n, rfl⟩
          rw [t1.ofInt]
          rfl
      · walk_at "g"
        refine hR _ _ ⟨_, rfl, fun z hz => ?_⟩ Kp.refl KT.refl trivial
        rw [hy] at hz
        cases hz
        refine ⟨fun h => (by cases h), ?_⟩
        rintro ⟨n, rfl⟩
        rw [t1.ofInt] at hb1
        exact absurd hb1 (by decide)
    · intro L H2 vs hvl hvp hL k2' t2 _ eL
      have k2 := k2'.same
      obtain ⟨bbs, rfl⟩ : ∃ bs : List Bool, vs = bs.map V.bl := by
        have : ∀ {vs : List V}, (∀ y ∈ vs, ∃ b : Bool, y = .bl b) → ∃ bs : List Bool, vs = bs.map V.bl := by
          intro vs
          induction vs with
          | nil => intro _; exact ⟨[], rfl⟩
          | cons v vs ih =>
            intro h
            obtain ⟨b, rfl⟩ := h v (by simp)
            obtain ⟨bs, rfl⟩ := ih fun y hy => h y (by simp [hy])
            exact ⟨b :: bs, rfl⟩
        refine this fun y hy => ?_
        obtain ⟨i, hi, e⟩ := List.getElem_of_mem hy
        obtain ⟨bb, e2, _⟩ := hvp i y (by rw [List.getElem?_eq_getElem hi, e])
        exact ⟨bb, e2⟩
      rw [List.length_map] at hvl
      have hbb : ∀ (i : Nat) (z : V), ys[i]? = some z → (bbs[i]? = some true ↔ ∃ n : Int, z = .int n) := fun i z hz => by
        have hi : i < bbs.length := by rw [hvl]; exact (List.getElem?_eq_some_iff.mp hz).1
        obtain ⟨bb, e, h⟩ := hvp i (.bl bbs[i]) (by rw [List.getElem?_map, List.getElem?_eq_getElem hi]; rfl)
        cases e
        rw [List.getElem?_eq_getElem hi, Option.some.injEq]
        exact h z hz
      have s2 : Same H H2 := Same.trans k1 k2
      have hd2' := k2 _ _ ed1
      have hr2 := k2 _ _ hr1
      walk_at "g"
      refine w_itNB (fun hall => ?_) (fun hall => ?_)
      · walk_at "g"
        refine q2 (fun ⟨a, v, b', ps, ds, e, h1, h2, _⟩ => ?_) _ s2
        cases e
        rw [eo] at h1
        cases h1
        rw [ed] at h2
        have e2 := Option.some.inj h2
        injection e2 with e2
        rw [Bool.eq_false_iff] at hall
        refine hall (List.all_eq_true.mpr fun bb hbb' => ?_)
        obtain ⟨i, hi, e⟩ := List.getElem_of_mem hbb'
        have hi2 : i < ys.length := by omega
        have := (hbb i ys[i] (List.getElem?_eq_getElem hi2)).mpr (by
          subst e2
          exact ⟨_, List.getElem_map _⟩)
        rw [List.getElem?_eq_getElem hi, Option.some.injEq] at this
        rw [← e]
        exact this
      obtain ⟨ds, rfl⟩ : ∃ ds : List Int, ys = ds.map V.int := ints_of fun y hy => by
        obtain ⟨i, hi, e⟩ := List.getElem_of_mem hy
        have ey : ys[i]? = some y := by rw [List.getElem?_eq_getElem hi, e]
        refine (hbb i y ey).mp ?_
        rw [List.all_eq_true] at hall
        rw [List.getElem?_eq_getElem (show i < bbs.length by omega)]
        exact congrArg some (hall _ (List.getElem_mem _))
      have hiff := lstv_iff (bs := bs) (rs := rs) (t := t) (p := p) eo ed hps
      have no : ∀ H', Same H H' → ¬ LstC bs rs t p ds (ps.map (·.2)) → Q (.bl false) H' := fun H' k h => q2 (fun z => h (hiff.mp z)) H' k
      walk_at "g"
      refine w_seq ?_
      walk_at "g"
      refine w_itN (fun hlen' => ?_) (fun hlen' => ?_)
      · walk_at "g"
        refine no _ s2 fun W => hlen' ?_
        simp only [List.length_map]
        have := W.len
        omega
      have hlen : ds.length = rs.length + 1 := by
        simp only [List.length_map] at hlen'
        omega
      walk_at "g"
      refine ⟨b, r, bs, rs, v1, B, rfl, s2 _ _ hb, by omega, s2 _ _ hr', hbo, hro, dv1.kd (KD.of s2), hB, fun ps' hps' hmk H3 k3 => ?_, fun hn H3 k3 => ?_⟩
      rotate_left
      · walk_at "g"
        exact no _ (Same.trans s2 k3) fun W => hn ps ⟨hps.kt (KT.of s2), fits_all' W.fit⟩ W.mks
      have epp : ps' = ps := scv_det (hps'.1.back dv1 (KD.of s2)) hps
      subst epp
      have s3 := Same.trans s2 k3
      have hd3 := s3 _ _ ed
      have at0 : atI (ds.map V.int) 0 = some (.int (ds.getD 0 0)) := atI_nat (j := 0) (by rw [List.getElem?_map, getD_at (by omega)]; rfl)
      have atl : atI (ds.map V.int) (-1) = some (.int (ds.getD rs.length 0)) := atI_last hlen
      walk_at "g"
      refine w_seq ?_
      walk_at "g"
      refine w_itN (fun h0 => ?_) (fun h0 => ?_)
      · walk_at "g"
        exact no _ s3 fun W => h0 W.d0
      walk_at "g"
      obtain ⟨sx, rfl, hSx, hOx⟩ := id hps
      refine ⟨rfl, rfl, sx, t, p, ps', rfl, hp0, hp1, hSx.kt (KT.of s3), hOx, fun H4 k4 => ?_⟩
      have s4 := Same.trans s3 k4
      walk_at "g"
      refine w_itN (fun hc => ?_) (fun hc => ?_)
      · walk_at "g"
        exact no _ s4 fun W => hc W.cost
      walk_at "g"
      refine ⟨b, r, bs, rs, rfl, s4 _ _ hb, s4 _ _ hr', hbl, by omega, fun H5 fl fs k5 hfs hlong => ?_⟩
      have s5 := Same.trans s4 k5
      have hr5 := s5 _ _ hr0
      have hd5 := s5 _ _ ed
      have no5 := no _ s5
      have hfsl : fs.length = rs.length := by have := hlong.len; rwa [List.length_map] at this
      have efl := hfs.at'
      walk_at "g"
      try refine w_rng2' (by simp only [List.length_map]; omega) ?_
      refine lp_range (fun i σ H' => H' = H5 ∧ (∃ (y8 y9 : Option V), σ = [some (.ref b), some (.ref r), some (.ref o), some (.int t), some (.int p), some (.ref sx), some (.ref d), some (.ref fl), y8, y9, none]) ∧ ∀ k, k < i → ds.getD (k + 1) 0 ≤ ds.getD k 0 + p ∧ ∀ b w, b ≤ k → Stands bs rs b w (k + 1 - b) → ds.getD (k + 1) 0 ≤ ds.getD b 0 + t) ⟨rfl, ⟨_, _, rfl⟩, fun k h => absurd h (Nat.not_lt_zero _)⟩ ?_ ?_
      · rintro i σ H' hi ⟨rfl, ⟨y8, y9, rfl⟩, hsofar⟩
        have hi' : i < rs.length := by
          simp only [List.length_map] at hi
          omega
        have at1 : atI (ds.map V.int) (1 + (i : Int)) = some (.int (ds.getD (i + 1) 0)) := by
          rw [show (1 : Int) + (i : Int) = ((i + 1 : Nat) : Int) by omega]
          exact atI_nat (by rw [List.getElem?_map, getD_at (by omega)]; rfl)
        have at2 : atI (ds.map V.int) (1 + (i : Int) - 1) = some (.int (ds.getD i 0)) := by
          rw [show (1 : Int) + (i : Int) - 1 = ((i : Nat) : Int) by omega]
          exact atI_nat (by rw [List.getElem?_map, getD_at (by omega)]; rfl)
        walk_at "g"
        refine w_seq ?_
        walk_at "g"
        refine w_ite (fun hpt => ?_) (fun hpt => ?_)
        · walk_at "g"
          exact no5 fun W => by have := W.put i hi'; omega
        walk_at "g"
        try refine w_rng1' (by omega) (by omega) ?_
        refine lp_range (fun j σ H'' => H'' = H' ∧ (∃ (y9 : Option V), σ = [some (.ref b), some (.ref r), some (.ref o), some (.int t), some (.int p), some (.ref sx), some (.ref d), some (.ref fl), some (.int (1 + (i : Int))), y9, none]) ∧ ∀ b w, b < j → Stands bs rs b w (i + 1 - b) → ds.getD (i + 1) 0 ≤ ds.getD b 0 + t) ⟨rfl, ⟨_, rfl⟩, fun b w h => absurd h (Nat.not_lt_zero _)⟩ ?_ ?_
        · rintro j σ H'' hj ⟨rfl, ⟨y9, rfl⟩, hin⟩
          have hj' : j ≤ i := by omega
          have hf := List.getElem?_eq_getElem (show j < fs.length by omega)
          generalize fs[j] = fk at hf
          have hfm := List.mem_of_getElem? hf
          have hf2 : (fs.map (·.2))[j]? = some fk.2 := by rw [List.getElem?_map, hf]; rfl
          have efk := hfs.sp fk hfm
          have at3 : atI (fs.map fun q => V.ref q.1) (0 + (j : Int)) = some (.ref fk.1) := by
            rw [Int.zero_add]
            exact atI_nat (by rw [List.getElem?_map, hf]; rfl)
          have at4 : atI (ds.map V.int) (0 + (j : Int)) = some (.int (ds.getD j 0)) := by
            rw [Int.zero_add]
            exact atI_nat (by rw [List.getElem?_map, getD_at (by omega)]; rfl)
          have more : (∀ w, Stands bs rs j w (i + 1 - j) → ds.getD (i + 1) 0 ≤ ds.getD j 0 + t) → ∀ b w, b < j + 1 → Stands bs rs b w (i + 1 - b) → ds.getD (i + 1) 0 ≤ ds.getD b 0 + t := fun h b' w' hb' hst => by
            by_cases e : b' = j
            · subst e
              exact h w' hst
            · exact hin b' w' (by omega) hst
          walk_at "g"
          refine w_ite (fun h1 => ?_) (fun h1 => ?_)
          · walk_at "g"
            refine w_ite (fun h2 => ?_) (fun h2 => ?_)
            · walk_at "g"
              exact no5 fun W => by
                have := W.take i hi' j fk.2.2 hj' ((hlong.st j fk.2 hf2).less (by omega))
                omega
            · walk_at "g"
              exact ⟨rfl, ⟨_, rfl⟩, more fun w' _ => by omega⟩
          · walk_at "g"
            refine ⟨rfl, ⟨_, rfl⟩, more fun w' hst => ?_⟩
            have := hlong.mx j fk.2 hf2 w' _ hst
            omega
        · rintro σ H'' ⟨rfl, ⟨y9, rfl⟩, hin⟩
          refine ⟨rfl, ⟨_, _, rfl⟩, fun k hk => ?_⟩
          by_cases e : k = i
          · subst e
            exact ⟨by omega, fun b' w' hb' => hin b' w' (by omega)⟩
          · exact hsofar k (by omega)
      · rintro σ H' ⟨rfl, ⟨y8, y9, rfl⟩, hsofar⟩
        have hsofar' : ∀ k, k < rs.length → _ := fun k hk => hsofar k (by simp only [List.length_map]; omega)
        walk_at "g"
        refine q1 (hiff.mpr ⟨fits_all hps'.2, hmk, hc, hlen, h0, fun k hk => (hsofar' k hk).1, fun k hk => (hsofar' k hk).2⟩) _ s5
end
theorem w_neRowsG {K : PySem.W.Frag} {H : Hp} {Q : VK} {a z : Addr} {ls xs : List Str} (h1 : RwAt H a ls) (h2 : RwAt H z xs) (ho : ∀ x ∈ ls, LineOk x) (hx : ∀ x ∈ xs, LineOk x) (h : Q (.bl (!decide (ls = xs))) H) : rNeD K (.ref a) (.ref z) H Q := by
  refine ⟨.tuple (ls.map .str), .tuple (xs.map .str), .tup (.of h1) (dp_strs ls), .tup (.of h2) (dp_strs xs), rows_shaped ho, rows_shaped hx, ?_⟩
  have e : PyData.eqv (.tuple (ls.map .str)) (.tuple (xs.map .str)) = decide (ls = xs) := by rw [PyData.eqv]; exact strs_eqvG ls xs
  rw [e]
  exact h
section
variable {P : Program} {w : World} {K : PySem.W.Frag} {mg : Str → Option Value} {base : Heap}
theorem ok_isleastX {f fF fC fS fL fI fM fK fZ : Addr} {fd fdF fdC fdS fdL fdI fdM fdK fdZ : FuncData} (T : Txt K mg) (F : Fun K "_law_is_least" "_law_is_least" s_law_is_least f fd) (D_law_fits : Df K mg "_law_fits" s_law_fits ["_law_base", "_law_thing"] fF fdF) (D_law_is_script : Df K mg "_law_is_script" s_law_is_script ["_law_thing"] fC fdC) (D_law_size : Df K mg "_law_size" s_law_size ["_law_piece"] fS fdS) (D_law_is_line : Df K mg "_law_is_line" s_law_is_line ["_law_thing"] fL fdL) (D_law_int : Df K mg "_law_int" s_law_int ["_law_thing"] fI fdI) (D_law_made : Df K mg "_law_made" s_law_made ["_law_base", "_law_pieces"] fM fdM) (D_law_cost : Df K mg "_law_cost" s_law_cost ["_law_pieces", "_law_by_take", "_law_by_put"] fK fdK) (D_law_stands : Df K mg "_law_stands" s_law_stands ["_law_base", "_law_part"] fZ fdZ) : FnOk P w K mg base CX0 5 f fd ["_law_base", "_law_lines_here", "_law_thing", "_law_by_take", "_law_by_put"] spLstX := by
  have G_law_fits : FnOk P w K mg base CX0 4 fF fdF ["_law_base", "_law_thing"] spLFitsX := ok_lfitsX T D_law_fits.fn D_law_is_script D_law_size D_law_is_line D_law_int
  have G_law_int : FnOk P w K mg base CX0 1 fI fdI ["_law_thing"] spWholeG := ok_law_intG T D_law_int.fn
  have G_law_made : FnOk P w K mg base CX0 1 fM fdM ["_law_base", "_law_pieces"] spMade := ok_made T D_law_made.fn
  have G_law_cost : FnOk P w K mg base CX0 1 fK fdK ["_law_pieces", "_law_by_take", "_law_by_put"] spCost := ok_cost T D_law_cost.fn
  have G_law_stands : FnOk P w K mg base CX0 1 fZ fdZ ["_law_base", "_law_part"] spStands := ok_stands T D_law_stands.fn
  refine F.ok sc_law_is_least (fun vs H Q E h => ?_) (fun cdv A outer s H vs Q E hr h => ?_)
  · obtain ⟨b, r, bs, rs, x, t, p, B, rfl, _⟩ := h
    rfl
  · obtain ⟨b, r, bs, rs, x, t, p, B, rfl, hb, hbl, hbo, hr', hrl, hro, hp0, hp1, hdx, hB, q1, q2⟩ := h
    have hr0 : H r = some (.tup (rs.map V.str)) := hr'
    refine ⟨_,
      (pss_cons
        (ps_if (PW.pt (pw_or (pt_not (pt_val (pe_callB (r := rIsi K) call_isi (by rfl) T.n_isinstance (by decide +kernel) (pa_cons (pv 2) (pa_cons (pe_bltn (v := .ty "tuple") (u := .type "tuple") (by rfl) T.n_tuple (by decide +kernel) rfl) pa_nil))))) (pw_or (pt_cmpR op_ne (pe_callB (r := rLen K) c_len (by rfl) T.n_len (by decide +kernel) (pa_cons (pv 2) pa_nil)) pe_int (nomark _)) (pw_or1 (pt_not (pt_val (pe_call G_law_fits (hr.mono (by omega)) (by rfl) D_law_fits.g D_law_fits.fn.kp D_law_fits.b .nil pass0 (pa_cons (pv 0) (pa_cons (pe_ix (r := rIxT K) ix_tup (pv 2) pe_int (fun _ _ => rfl)) pa_nil)))))))))
          (pss_one
            (ps_ret pe_bl))
          pss_nil)
      (pss_cons
        (ps_set (i := 5) sc_law_is_least.nd rfl (.inl rfl) (pe_ix (r := rIxT K) ix_tup (pv 2) pe_int (fun _ _ => rfl)))
      (pss_cons
        (ps_if (PW.pt (pw_or (pt_not (pt_val (pe_callB (r := rIsi K) call_isi (by rfl) T.n_isinstance (by decide +kernel) (pa_cons (pv 5) (pa_cons (pe_bltn (v := .ty "tuple") (u := .type "tuple") (by rfl) T.n_tuple (by decide +kernel) rfl) pa_nil))))) (pw_or1 (pt_cmpR op_ne (pe_callB (r := rLen K) c_len (by rfl) T.n_len (by decide +kernel) (pa_cons (pv 5) pa_nil)) (pe_op op_add (pe_callB (r := rLen K) c_len (by rfl) T.n_len (by decide +kernel) (pa_cons (pv 1) pa_nil)) pe_int) (nomark _)))))
          (pss_one
            (ps_ret pe_bl))
          pss_nil)
      (pss_cons
        (ps_for PassesOwn.never rfl (pi_tup (pv 5)) (pg_name (i := 6) sc_law_is_least.nd rfl (.inl rfl))
          (pss_one
            (ps_if (pt_not (pt_val (pe_call G_law_int (hr.mono (by omega)) (by rfl) D_law_int.g D_law_int.fn.kp D_law_int.b .nil pass0 (pa_cons (pv 6) pa_nil))))
              (pss_one
                (ps_ret pe_bl))
              pss_nil)))
      (pss_cons
        (ps_if (PW.pt (pw_or (pt_cmpR (r := rNeD K) (op_neD hr.units) (pe_call G_law_made (hr.mono (by omega)) (by rfl) D_law_made.g D_law_made.fn.kp D_law_made.b .nil pass0 (pa_cons (pv 0) (pa_cons (pe_ix (r := rIxT K) ix_tup (pv 2) pe_int (fun _ _ => rfl)) pa_nil))) (pv 1) (nomark _)) (pw_or1 (pt_cmpR op_ne (pe_ix (r := rIxT K) ix_tup (pv 5) pe_int (fun _ _ => rfl)) pe_int (nomark _)))))
          (pss_one
            (ps_ret pe_bl))
          pss_nil)
      (pss_cons
        (ps_if (pt_cmpR op_ne (pe_ix (r := rIxT K) ix_tup (pv 5) (pe_callB (r := rLen K) c_len (by rfl) T.n_len (by decide +kernel) (pa_cons (pv 1) pa_nil)) (fun _ _ => rfl)) (pe_call G_law_cost (hr.mono (by omega)) (by rfl) D_law_cost.g D_law_cost.fn.kp D_law_cost.b .nil pass0 (pa_cons (pe_ix (r := rIxT K) ix_tup (pv 2) pe_int (fun _ _ => rfl)) (pa_cons (pv 3) (pa_cons (pv 4) pa_nil)))) (nomark _))
          (pss_one
            (ps_ret pe_bl))
          pss_nil)
      (pss_cons
        (ps_for PassesOwn.never rfl (pi_range2 (by rfl) T.n_range (pa_cons pe_int (pa_cons (pe_op op_add (pe_callB (r := rLen K) c_len (by rfl) T.n_len (by decide +kernel) (pa_cons (pv 1) pa_nil)) pe_int) pa_nil))) (pg_name (i := 7) sc_law_is_least.nd rfl (.inl rfl))
          (pss_cons
            (ps_if (pt_cmpR op_gt (pe_ix (r := rIxT K) ix_tup (pv 5) (pv 7) (fun _ _ => rfl)) (pe_op op_add (pe_ix (r := rIxT K) ix_tup (pv 5) (pe_op op_sub (pv 7) pe_int) (fun _ _ => rfl)) (pv 4)) (nomark _))
              (pss_one
                (ps_ret pe_bl))
              pss_nil)
          (pss_one
            (ps_for PassesOwn.never rfl (pi_range1 (by rfl) T.n_range (pa_cons (pv 7) pa_nil)) (pg_name (i := 8) sc_law_is_least.nd rfl (.inl rfl))
              (pss_one
                (ps_if (PW.pt (pw_and (pt_cmpR op_gt (pe_ix (r := rIxT K) ix_tup (pv 5) (pv 7) (fun _ _ => rfl)) (pe_op op_add (pe_ix (r := rIxT K) ix_tup (pv 5) (pv 8) (fun _ _ => rfl)) (pv 3)) (nomark _)) (pw_and1 (pt_val (pe_call G_law_stands (hr.mono (by omega)) (by rfl) D_law_stands.g D_law_stands.fn.kp D_law_stands.b .nil pass0 (pa_cons (pv 0) (pa_cons (pe_slice sl_tupA (pv 1) (po_some (pv 8)) (po_some (pv 7))) pa_nil)))))))
                  (pss_one
                    (ps_ret pe_bl))
                  pss_nil))))))
      (pss_one
        (ps_ret pe_bl)))))))))
      , ?_⟩
    rw [show L2.start N_law_is_least [V.ref b, V.ref r, x, V.int t, V.int p] = [some (.ref b), some (.ref r), some x, some (.int t), some (.int p), none, none, none, none] from rfl]
    have sm : Same H H := fun _ _ z => z
    refine w_seq ?_
    walk_at "x"
    rcases hdx.cases with ⟨ay, ty, hne⟩ | ⟨o, xs, rfl, eo, hxB, hxs⟩
    · refine w_isTup ty ?_
      rw [decide_eq_false hne]
      walk_at "g"
      refine q2 (fun ⟨a, v, b', ps, ds, e, h1, _⟩ => ?_) _ sm
      subst e
      exact hne (ty.ofTup h1)
    walk_at "g"
    refine w_itN (fun h2 => ?_) (fun h2 => ?_)
    · walk_at "g"
      refine q2 (fun ⟨a, v, b', ps, ds, e, h1, _⟩ => h2 ?_) _ sm
      cases e
      rw [eo] at h1
      cases h1
      rfl
    obtain ⟨v1, v2, rfl⟩ : ∃ v1 v2, xs = [v1, v2] := by
      match xs, h2 with
      | [v1, v2], _ => exact ⟨v1, v2, rfl⟩
      | [], h => simp only [List.length_nil] at h; omega
      | [_], h => simp only [List.length_cons, List.length_nil] at h; omega
      | _ :: _ :: _ :: _, h => simp only [List.length_cons] at h; omega
    have dv1 := hxs v1 (by simp)
    have dv2 := hxs v2 (by simp)
    have at0' : atI [v1, v2] 0 = some v1 := atI_nat (j := 0) rfl
    have at1' : atI [v1, v2] 1 = some v2 := atI_nat (j := 1) rfl
    walk_at "g"
    refine ⟨b, bs, v1, B, rfl, hb, by omega, dv1, hB, fun ps hps => ?_, fun hn => ?_⟩
    rotate_left
    · walk_at "g"
      refine q2 (fun ⟨a, v, b', ps, ds, e, h1, _, h3, h4⟩ => ?_) _ sm
      cases e
      rw [eo] at h1
      cases h1
      exact hn ps ⟨h3, fits_all' h4.fit⟩
    walk_at "g"
    refine w_seq ?_
    walk_at "g"
    rcases dv2.cases with ⟨ay, ty, hne⟩ | ⟨d, ys, rfl, ed, hyB, hys⟩
    · refine w_isTup ty ?_
      rw [decide_eq_false hne]
      walk_at "g"
      refine q2 (fun ⟨a, v, b', ps, ds, e, h1, h2v, _⟩ => ?_) _ sm
      cases e
      rw [eo] at h1
      cases h1
      exact hne (ty.ofTup h2v)
    have noL : (∀ ds : List Int, ys = ds.map V.int → ds.length = rs.length + 1 → False) → Q (.bl false) H := fun h => q2 (fun ⟨a, v, b', ps, ds, e, h1, h2, _, h4⟩ => by
      cases e
      rw [eo] at h1
      cases h1
      rw [ed] at h2
      have e2 := Option.some.inj h2
      injection e2 with e2
      exact h ds e2 h4.len) _ sm
    walk_at "g"
    refine w_itN (fun hlen' => ?_) (fun hlen' => ?_)
    · walk_at "g"
      refine noL fun ds e hl => hlen' ?_
      rw [e, List.length_map, List.length_map]
      omega
    walk_at "g"
    refine lp_tup (xs := ys) (fun i σ H' => H' = H ∧ (∃ (y6 : Option V), σ = [some (.ref b), some (.ref r), some (.ref o), some (.int t), some (.int p), some (.ref d), y6, none, none]) ∧ ∀ y ∈ ys.take i, ∃ n : Int, y = .int n) ⟨rfl, ⟨_, rfl⟩, by simp⟩ ?_ ?_ ?_
    · rintro i σ H' _ ⟨rfl, _⟩
      exact .of ed
    · rintro i y σ H' hy ⟨rfl, ⟨y6, rfl⟩, hall⟩
      have hym := List.mem_of_getElem? hy
      obtain ⟨ay, ty⟩ := (hys y hym).ty
      walk_at "g"
      refine ⟨y, ay, rfl, ty, ?_⟩
      walk_at "g"
      refine w_itN (fun hni => ?_) (fun hi => ?_)
      · walk_at "g"
        refine noL fun ds e _ => ?_
        rw [e] at hym
        obtain ⟨n, _, rfl⟩ := List.mem_map.mp hym
        exact hni ty.ofInt
      · walk_at "g"
        refine ⟨rfl, ⟨_, rfl⟩, fun u hu => ?_⟩
        rw [take_at hy] at hu
        rcases List.mem_append.mp hu with h | h
        · exact hall u h
        · have e' : u = y := by simpa using h
          subst e'
          exact ty.isInt hi
    · rintro σ H' ⟨rfl, ⟨y6, rfl⟩, hall⟩
      rw [List.take_length] at hall
      obtain ⟨ds, rfl⟩ := ints_of hall
      have hlen : ds.length = rs.length + 1 := by
        simp only [List.length_map] at hlen'
        omega
      have hiff := lstv_iff (bs := bs) (rs := rs) (t := t) (p := p) eo ed hps.1
      have no : ∀ H'', Same H' H'' → ¬ LstC bs rs t p ds (ps.map (·.2)) → Q (.bl false) H'' := fun H'' k h => q2 (fun z => h (hiff.mp z)) H'' k
      obtain ⟨sx, rfl, hSx, hOx⟩ := id hps.1
      have hmo : ∀ z ∈ makes bs (ps.map (·.2)), LineOk z := make_lines hbo hOx.ok
      walk_at "g"
      refine w_seq ?_
      walk_at "g"
      refine ⟨b, sx, bs, ps, rfl, hb, by omega, hSx, hOx, hps.2, fun H1 r1 k1 e1 => ?_⟩
      have hd1 := k1 _ _ ed
      have ho1 := k1 _ _ eo
      have hr1 := k1 _ _ hr0
      have at0 : atI (ds.map V.int) 0 = some (.int (ds.getD 0 0)) := atI_nat (j := 0) (by rw [List.getElem?_map, getD_at (by omega)]; rfl)
      have atl : atI (ds.map V.int) (((rs.map V.str).length : Nat) : Int) = some (.int (ds.getD rs.length 0)) := by
        rw [List.length_map]
        exact atI_nat (by rw [List.getElem?_map, getD_at (by omega)]; rfl)
      walk_at "g"
      refine w_neRowsG e1 (k1 _ _ hr') hmo hro ?_
      walk_at "g"
      refine w_itN (fun hmk => ?_) (fun hmk => ?_)
      · walk_at "g"
        exact no _ k1 fun W => hmk W.mks
      walk_at "g"
      refine w_itN (fun h0 => ?_) (fun h0 => ?_)
      · walk_at "g"
        exact no _ k1 fun W => h0 W.d0
      walk_at "g"
      refine w_seq ?_
      walk_at "g"
      refine ⟨sx, t, p, ps, rfl, hp0, hp1, hSx.kt (KT.of k1), ?_⟩
      walk_at "g"
      refine w_itN (fun hc => ?_) (fun hc => ?_)
      · walk_at "g"
        exact no _ k1 fun W => hc W.cost
      walk_at "g"
      try refine w_rng2' (by simp only [List.length_map]; omega) ?_
      refine lp_range (fun i σ H'' => Same H1 H'' ∧ (∃ (y7 y8 : Option V), σ = [some (.ref b), some (.ref r), some (.ref o), some (.int t), some (.int p), some (.ref d), y6, y7, y8]) ∧ ∀ k, k < i → ds.getD (k + 1) 0 ≤ ds.getD k 0 + p ∧ ∀ b w, b ≤ k → Stands bs rs b w (k + 1 - b) → ds.getD (k + 1) 0 ≤ ds.getD b 0 + t) ⟨fun _ _ e => e, ⟨_, _, rfl⟩, fun k h => absurd h (Nat.not_lt_zero _)⟩ ?_ ?_
      · rintro i σ H2 hi ⟨k2, ⟨y7, y8, rfl⟩, hsofar⟩
        have hi' : i < rs.length := by
          simp only [List.length_map] at hi
          omega
        have at1 : atI (ds.map V.int) (1 + (i : Int)) = some (.int (ds.getD (i + 1) 0)) := by
          rw [show (1 : Int) + (i : Int) = ((i + 1 : Nat) : Int) by omega]
          exact atI_nat (by rw [List.getElem?_map, getD_at (by omega)]; rfl)
        have at2 : atI (ds.map V.int) (1 + (i : Int) - 1) = some (.int (ds.getD i 0)) := by
          rw [show (1 : Int) + (i : Int) - 1 = ((i : Nat) : Int) by omega]
          exact atI_nat (by rw [List.getElem?_map, getD_at (by omega)]; rfl)
        have hd2 := k2 _ _ hd1
        walk_at "g"
        refine w_seq ?_
        walk_at "g"
        refine w_ite (fun hpt => ?_) (fun hpt => ?_)
        · walk_at "g"
          exact no _ (Same.trans k1 k2) fun W => by have := W.put i hi'; omega
        walk_at "g"
        try refine w_rng1' (by omega) (by omega) ?_
        refine lp_range (fun j σ H'' => Same H1 H'' ∧ (∃ (y8 : Option V), σ = [some (.ref b), some (.ref r), some (.ref o), some (.int t), some (.int p), some (.ref d), y6, some (.int (1 + (i : Int))), y8]) ∧ ∀ b w, b < j → Stands bs rs b w (i + 1 - b) → ds.getD (i + 1) 0 ≤ ds.getD b 0 + t) ⟨k2, ⟨_, rfl⟩, fun b w h => absurd h (Nat.not_lt_zero _)⟩ ?_ ?_
        · rintro j σ H3 hj ⟨k3, ⟨y8, rfl⟩, hin⟩
          have hj' : j ≤ i := by omega
          have hd3 := k3 _ _ hd1
          have hr3 := k3 _ _ hr1
          have at4 : atI (ds.map V.int) (0 + (j : Int)) = some (.int (ds.getD j 0)) := by
            rw [Int.zero_add]
            exact atI_nat (by rw [List.getElem?_map, getD_at (by omega)]; rfl)
          have more : (∀ w, Stands bs rs j w (i + 1 - j) → ds.getD (i + 1) 0 ≤ ds.getD j 0 + t) → ∀ b w, b < j + 1 → Stands bs rs b w (i + 1 - b) → ds.getD (i + 1) 0 ≤ ds.getD b 0 + t := fun h b' w' hb' hst => by
            by_cases e : b' = j
            · subst e
              exact h w' hst
            · exact hin b' w' (by omega) hst
          walk_at "g"
          refine w_ite (fun h1 => ?_) (fun h1 => ?_)
          · walk_at "g"
            refine w_slAt hr3 fun sl H4 e4 k4 => ?_
            rw [show (0 : Int) + (j : Int) = (j : Int) by omega, show (1 : Int) + (i : Int) = (j : Int) + ((i + 1 - j : Nat) : Int) by omega, cut_strs rs (by omega)] at e4
            have k14 := Same.trans k3 k4
            walk_at "g"
            refine ⟨b, sl, bs, _, rfl, k14 _ _ (k1 _ _ hb), by omega, e4, by rw [List.length_take]; omega, hbo, fun z hz => hro z (List.mem_of_mem_drop (List.mem_of_mem_take hz)), fun hst H5 k5 => ?_, fun hns H5 k5 => ?_⟩
            · walk_at "g"
              obtain ⟨w', hw'⟩ := (standsIn (by omega) (by omega)).mp hst
              exact no _ (Same.trans k1 (Same.trans k14 k5)) fun W => by
                have := W.take i hi' j w' hj' hw'
                omega
            · walk_at "g"
              exact ⟨Same.trans k14 k5, ⟨_, rfl⟩, more fun w' hst => absurd ((standsIn (by omega) (by omega)).mpr ⟨w', hst⟩) hns⟩
          · walk_at "g"
            exact ⟨k3, ⟨_, rfl⟩, more fun w' _ => by omega⟩
        · rintro σ H3 ⟨k3, ⟨y8, rfl⟩, hin⟩
          refine ⟨k3, ⟨_, _, rfl⟩, fun k hk => ?_⟩
          by_cases e : k = i
          · subst e
            exact ⟨by omega, fun b' w' hb' => hin b' w' (by omega)⟩
          · exact hsofar k (by omega)
      · rintro σ H2 ⟨k2, ⟨y7, y8, rfl⟩, hsofar⟩
        have hsofar' : ∀ k, k < rs.length → _ := fun k hk => hsofar k (by simp only [List.length_map]; omega)
        walk_at "g"
        exact q1 (hiff.mpr ⟨fits_all hps.2, hmk, hc, hlen, h0, fun k hk => (hsofar' k hk).1, fun k hk => (hsofar' k hk).2⟩) _ (Same.trans k1 k2)
end
def spFirsts : Sp := fun vs H Q _ => ∃ (b r : Addr) (bs rs : List Str) (t p : Int), vs = [.ref b, .ref r, .int t, .int p] ∧ RwAt H b bs ∧ bs.length ≤ 100 ∧ (∀ z ∈ bs, LineOk z) ∧ RwAt H r rs ∧ rs.length ≤ 40 ∧ (∀ z ∈ rs, LineOk z) ∧ ∀ H' l (ds : List Int), Same H H' → H l = none → H' l = some (.lst (ds.map V.int)) → ds.length = rs.length + 1 → Q (.ref l) H'
def spLeastScript : Sp := fun vs H Q _ => ∃ (b r l : Addr) (bs rs : List Str) (t p : Int) (ds : List Int), vs = [.ref b, .ref r, .int t, .int p, .ref l] ∧ RwAt H b bs ∧ bs.length ≤ 100 ∧ (∀ z ∈ bs, LineOk z) ∧ RwAt H r rs ∧ rs.length ≤ 40 ∧ (∀ z ∈ rs, LineOk z) ∧ H l = some (.lst (ds.map V.int)) ∧ ds.length = rs.length + 1 ∧ ∀ H' s ps, Same H H' → ScAt H' s ps → ScOk (ps.map (·.2)) → Q (.ref s) H'
def spNumbers : Sp := fun vs H Q _ => ∃ (d c l : Addr) (n : Nat) (tot : Int) (ds : List Int), vs = [.ref d, .ref l, .int tot] ∧ Deck H d c n ∧ n + 8 ≤ MOSTD ∧ H l = some (.lst (ds.map V.int)) ∧ 1 ≤ ds.length ∧ ds.length ≤ 100 ∧ ∀ H' r (es : List Int), Deck H' d c (n + 8) → KX d H H' → H' r = some (.tup (es.map V.int)) → es.length ≤ ds.length + 1 → Q (.ref r) H'
theorem rep0 : ∀ n : Nat, (List.replicate n [V.int 0]).flatten = (List.replicate n (0 : Int)).map V.int
  | 0 => rfl
  | n + 1 => by
    rw [List.replicate_succ, List.flatten_cons, rep0 n, List.replicate_succ, List.map_cons]
    rfl
theorem ixn_at {n : Nat} {k : Nat} (h : k < n) : ixN n (k : Int) = some k := by
  unfold ixN
  rw [if_pos (by omega), if_pos (by omega), Int.toNat_natCast]
theorem ixn_last {n : Nat} (h : 1 ≤ n) : ixN n (-1) = some (n - 1) := by
  unfold ixN
  rw [if_neg (by omega), if_pos (by omega)]
  congr 1
  omega
theorem set_ints (es : List Int) (k : Nat) (z : Int) : (es.map V.int).set k (.int z) = (es.set k z).map V.int := by rw [List.map_set]
theorem KX.offL {d p : Addr} {H H1 H2 : Hp} {xs ys : List V} (k : KX d H H1) (o : Off p H1 H2) (h : H p = none) (e : H1 p = some (.lst xs)) (e' : H2 p = some (.lst ys)) : KX d H H2 := ⟨k.toKD.trans (KD.off o e e'), Off.keep k.p o h⟩
section
variable {P : Program} {w : World} {K : PySem.W.Frag} {mg : Str → Option Value} {base : Heap}
theorem ok_firsts {f fZ : Addr} {fd fdZ : FuncData} (T : Txt K mg) (F : Fun K "_law_firsts" "_law_firsts" s_law_firsts f fd) (D_law_stands : Df K mg "_law_stands" s_law_stands ["_law_base", "_law_part"] fZ fdZ) : FnOk P w K mg base CX0 2 f fd ["_law_base", "_law_lines_here", "_law_by_take", "_law_by_put"] spFirsts := by
  have G_law_stands : FnOk P w K mg base CX0 1 fZ fdZ ["_law_base", "_law_part"] spStands := ok_stands T D_law_stands.fn
  refine F.ok sc_law_firsts (fun vs H Q E h => ?_) (fun cdv A outer s H vs Q E hr h => ?_)
  · obtain ⟨b, r, bs, rs, t, p, rfl, _⟩ := h
    rfl
  · obtain ⟨b, r, bs, rs, t, p, rfl, hb, hbl, hbo, hr', hrl, hro, q⟩ := h
    have hr0 : H r = some (.tup (rs.map V.str)) := hr'
    refine ⟨_,
      (pss_cons
        (ps_set (i := 4) sc_law_firsts.nd rfl (.inl rfl) (pe_lst (pa_cons pe_int pa_nil)))
      (pss_cons
        (ps_for PassesOwn.never rfl (pi_range2 (by rfl) T.n_range (pa_cons pe_int (pa_cons (pe_op op_add (pe_callB (r := rLen K) c_len (by rfl) T.n_len (by decide +kernel) (pa_cons (pv 1) pa_nil)) pe_int) pa_nil))) (pg_name (i := 5) sc_law_firsts.nd rfl (.inl rfl))
          (pss_cons
            (ps_set (i := 6) sc_law_firsts.nd rfl (.inl rfl) (pe_op op_add (pe_ix (r := rIxL K) ix_list (pv 4) (pe_op op_sub (pv 5) pe_int) (fun _ _ => rfl)) (pv 3)))
          (pss_cons
            (ps_for PassesOwn.never rfl (pi_range1 (by rfl) T.n_range (pa_cons (pv 5) pa_nil)) (pg_name (i := 7) sc_law_firsts.nd rfl (.inl rfl))
              (pss_one
                (ps_if (PW.pt (pw_and (pt_cmpR op_lt (pe_op op_add (pe_ix (r := rIxL K) ix_list (pv 4) (pv 7) (fun _ _ => rfl)) (pv 2)) (pv 6) (nomark _)) (pw_and1 (pt_val (pe_call G_law_stands (hr.mono (by omega)) (by rfl) D_law_stands.g D_law_stands.fn.kp D_law_stands.b .nil pass0 (pa_cons (pv 0) (pa_cons (pe_slice sl_tupA (pv 1) (po_some (pv 7)) (po_some (pv 5))) pa_nil)))))))
                  (pss_one
                    (ps_set (i := 6) sc_law_firsts.nd rfl (.inl rfl) (pe_op op_add (pe_ix (r := rIxL K) ix_list (pv 4) (pv 7) (fun _ _ => rfl)) (pv 2))))
                  pss_nil)))
          (pss_one
            (ps_expr (pe_bm PySem.F.plainAttrs_list PySem.F.slot_list_append PySem.F.type_list_append mt_append (pv 4) (pa_cons (pv 6) pa_nil)))))))
      (pss_one
        (ps_ret (pv 4)))))
      , ?_⟩
    rw [show L2.start N_law_firsts [V.ref b, V.ref r, V.int t, V.int p] = [some (.ref b), some (.ref r), some (.int t), some (.int p), none, none, none, none] from rfl]
    walk_at "x"
    refine w_new fun l H1 hl e1 k1 => ?_
    have hr1 := k1 _ _ hr0
    have off : ∀ {x : Addr} {o : HO}, H x = some o → x ∉ [l] := fun {x o} e => by simpa using ne_of_none e hl
    walk_at "g"
    try refine w_rng2' (by simp only [List.length_map]; omega) ?_
    refine lp_range (fun i σ H' => ∃ (y5 y6 y7 : Option V) (ds : List Int), σ = [some (.ref b), some (.ref r), some (.int t), some (.int p), some (.ref l), y5, y6, y7] ∧ Kp [l] H1 H' ∧ H' l = some (.lst (ds.map V.int)) ∧ ds.length = i + 1) ⟨_, _, _, [0], rfl, Kp.refl, e1, rfl⟩ ?_ ?_
    · rintro i σ H2 hi ⟨y5, y6, y7, ds, rfl, k2, e2, hdl⟩
      have hi' : i < rs.length := by
        simp only [List.length_map] at hi
        omega
      have at2 : atI (ds.map V.int) (1 + (i : Int) - 1) = some (.int (ds.getD i 0)) := by
        rw [show (1 : Int) + (i : Int) - 1 = ((i : Nat) : Int) by omega]
        exact atI_nat (by rw [List.getElem?_map, getD_at (by omega)]; rfl)
      walk_at "g"
      try refine w_rng1' (by omega) (by omega) ?_
      refine lp_range (fun j σ H' => Same H2 H' ∧ ∃ (m : Int) (y7 : Option V), σ = [some (.ref b), some (.ref r), some (.int t), some (.int p), some (.ref l), some (.int (1 + (i : Int))), some (.int m), y7]) ⟨fun _ _ e => e, _, _, rfl⟩ ?_ ?_
      · rintro j σ H3 hj ⟨k3, m, y7, rfl⟩
        have hj' : j ≤ i := by omega
        have e3 := k3 _ _ e2
        have hr3 := k3 _ _ (k2 _ _ (off hr0) hr1)
        have hb3 : RwAt H3 b bs := k3 _ _ (k2 _ _ (off hb) (k1 _ _ hb))
        have at4 : atI (ds.map V.int) (0 + (j : Int)) = some (.int (ds.getD j 0)) := by
          rw [Int.zero_add]
          exact atI_nat (by rw [List.getElem?_map, getD_at (by omega)]; rfl)
        walk_at "g"
        refine w_ite (fun h1 => ?_) (fun h1 => ?_)
        · walk_at "g"
          refine w_slAt hr3 fun sl H4 e4 k4 => ?_
          rw [show (0 : Int) + (j : Int) = (j : Int) by omega, show (1 : Int) + (i : Int) = (j : Int) + ((i + 1 - j : Nat) : Int) by omega, cut_strs rs (by omega)] at e4
          walk_at "g"
          refine ⟨b, sl, bs, _, rfl, k4 _ _ hb3, by omega, e4, by rw [List.length_take]; omega, hbo, fun z hz => hro z (List.mem_of_mem_drop (List.mem_of_mem_take hz)), fun hst H5 k5 => ?_, fun hns H5 k5 => ?_⟩
          · have e5 := k5 _ _ (k4 _ _ e3)
            walk_at "g"
            exact ⟨Same.trans k3 (Same.trans k4 k5), _, _, rfl⟩
          · walk_at "g"
            exact ⟨Same.trans k3 (Same.trans k4 k5), m, _, rfl⟩
        · walk_at "g"
          exact ⟨k3, m, _, rfl⟩
      · rintro σ H3 ⟨k3, m, y7, rfl⟩
        have e3 := k3 _ _ e2
        walk_at "g"
        refine w_app e3 (by rw [List.length_map]; exact small1000' (by omega)) fun H4 e4 o4 => ?_
        exact ⟨_, _, _, ds ++ [m], rfl, k2.trans ((Kp.of k3).trans (o4.kp (by simp))), by rw [e4, List.map_append]; rfl, by rw [List.length_append, hdl]; rfl⟩
    · rintro σ H2 ⟨y5, y6, y7, ds, rfl, k2, e2, hdl⟩
      walk_at "g"
      refine q H2 l ds (fun x o e => k2 _ _ (off e) (k1 _ _ e)) hl e2 ?_
      rw [hdl]
      simp only [List.length_map]
      omega
theorem ok_leastscript {f : Addr} {fd : FuncData} (T : Txt K mg) (F : Fun K "_law_least_script" "_law_least_script" s_law_least_script f fd) : FnOk P w K mg base CX0 1 f fd ["_law_base", "_law_lines_here", "_law_by_take", "_law_by_put", "_law_firsts_here"] spLeastScript := by
  refine F.ok sc_law_least_script (fun vs H Q E h => ?_) (fun cdv A outer s H vs Q E hr h => ?_)
  · obtain ⟨b, r, l, bs, rs, t, p, ds, rfl, _⟩ := h
    rfl
  · obtain ⟨b, r, l, bs, rs, t, p, ds, rfl, hb, hbl, hbo, hr', hrl, hro, hl, hdl, q⟩ := h
    have hr0 : H r = some (.tup (rs.map V.str)) := hr'
    have hb0 : H b = some (.tup (bs.map V.str)) := hb
    refine ⟨_,
      (pss_cons
        (ps_set (i := 5) sc_law_least_script.nd rfl (.inl rfl) (pe_lst pa_nil))
      (pss_cons
        (ps_set (i := 6) sc_law_least_script.nd rfl (.inl rfl) (pe_callB (r := rLen K) c_len (by rfl) T.n_len (by decide +kernel) (pa_cons (pv 1) pa_nil)))
      (pss_cons
        (ps_while PassesOwn.never (pt_cmpR op_gt (pv 6) pe_int (nomark _))
          (pss_cons
            (ps_set (i := 7) sc_law_least_script.nd rfl (.inl rfl) (pe_tup (pa_cons pe_str (pa_cons (pe_slice sl_tupA (pv 1) (po_some (pe_op op_sub (pv 6) pe_int)) (po_some (pv 6))) pa_nil))))
          (pss_cons
            (ps_set (i := 8) sc_law_least_script.nd rfl (.inl rfl) pe_int)
          (pss_cons
            (ps_for PassesOwn.never rfl (pi_range1 (by rfl) T.n_range (pa_cons (pv 6) pa_nil)) (pg_name (i := 9) sc_law_least_script.nd rfl (.inl rfl))
              (pss_one
                (ps_if (PW.pt (pw_and (pt_cmpR op_eq (pe_op op_add (pe_ix (r := rIxL K) ix_list (pv 4) (pv 9) (fun _ _ => rfl)) (pv 2)) (pe_ix (r := rIxL K) ix_list (pv 4) (pv 6) (fun _ _ => rfl)) (nomark _)) (pw_and1 (pt_cmpR op_eq (pv 8) pe_int (nomark _)))))
                  (pss_cons
                    (ps_set (i := 10) sc_law_least_script.nd rfl (.inl rfl) (pe_op op_sub (pv 6) (pv 9)))
                  (pss_one
                    (ps_for PassesOwn.never rfl (pi_range1 (by rfl) T.n_range (pa_cons (pe_op op_add (pe_op op_sub (pe_callB (r := rLen K) c_len (by rfl) T.n_len (by decide +kernel) (pa_cons (pv 0) pa_nil)) (pv 10)) pe_int) pa_nil)) (pg_name (i := 11) sc_law_least_script.nd rfl (.inl rfl))
                      (pss_one
                        (ps_if (PW.pt (pw_and (pt_cmpR op_eq (pe_ix (r := rIxT K) ix_tup (pv 7) pe_int (fun _ _ => rfl)) pe_str (nomark _)) (pw_and1 (pt_cmpR (r := rEqD K) (op_eqD hr.units) (pe_slice sl_tupA (pv 0) (po_some (pv 11)) (po_some (pe_op op_add (pv 11) (pv 10)))) (pe_slice sl_tupA (pv 1) (po_some (pv 9)) (po_some (pv 6))) (nomark _)))))
                          (pss_cons
                            (ps_set (i := 7) sc_law_least_script.nd rfl (.inl rfl) (pe_tup (pa_cons pe_str (pa_cons (pv 11) (pa_cons (pv 10) pa_nil)))))
                          (pss_one
                            (ps_set (i := 8) sc_law_least_script.nd rfl (.inl rfl) (pv 10))))
                          pss_nil)))))
                  pss_nil)))
          (pss_cons
            (ps_expr (pe_bm PySem.F.plainAttrs_list PySem.F.slot_list_insert PySem.F.type_list_insert m_insert (pv 5) (pa_cons pe_int (pa_cons (pv 7) pa_nil))))
          (pss_one
            (ps_set (i := 6) sc_law_least_script.nd rfl (.inl rfl) (pe_op op_sub (pv 6) (pv 8)))))))))
      (pss_one
        (ps_ret (pe_callTy (r := rTupOf K) c_tupOf (by rfl) T.n_tuple (by decide +kernel) (pa_cons (pv 5) pa_nil)))))))
      , ?_⟩
    rw [show L2.start N_law_least_script [V.ref b, V.ref r, V.int t, V.int p, V.ref l] = [some (.ref b), some (.ref r), some (.int t), some (.int p), some (.ref l), none, none, none, none, none, none, none] from rfl]
    walk_at "x"
    refine w_new fun pl H1 hpl e1 k1 => ?_
    have hr1 := k1 _ _ hr0
    have off : ∀ {x : Addr} {o : HO}, H x = some o → x ∉ [pl] := fun {x o} e => by simpa using ne_of_none e hpl
    walk_at "g"
    refine w_whileN (fun m σ H' => ∃ (y7 y8 y9 y10 y11 : Option V) (qs : List (Addr × Pc)), σ = [some (.ref b), some (.ref r), some (.int t), some (.int p), some (.ref l), some (.ref pl), some (.int (m : Int)), y7, y8, y9, y10, y11] ∧ Kp [pl] H1 H' ∧ H' pl = some (.lst (qs.map fun q => .ref q.1)) ∧ (∀ q ∈ qs, PcAt H' q.1 q.2 ∧ q.2.ok) ∧ sizes (qs.map (·.2)) + m = rs.length) rs.length ⟨_, _, _, _, _, [], by rw [List.length_map], Kp.refl, e1, by simp, by simp [sizes]⟩ ?_
    rintro m σ H2 ⟨y7, y8, y9, y10, y11, qs, rfl, k2, e2, hqs, hsz⟩
    walk_at "g"
    refine w_ite (fun hm => ?_) (fun hm => ?_)
    · refine w_turn ?_
      have hr2 := k2 _ _ (off hr0) hr1
      walk_at "g"
      refine w_slAt hr2 fun sl H3 e3 k3 => ?_
      rw [show ((m : Int) - 1) = ((m - 1 : Nat) : Int) by omega, show (m : Int) = ((m - 1 : Nat) : Int) + ((1 : Nat) : Int) by omega, cut_strs rs (by omega)] at e3
      walk_at "g"
      refine w_new fun pc H4 hpc e4 k4 => ?_
      have k24 := Same.trans k3 k4
      have hsl : ((rs.drop (m - 1)).take 1).length = 1 := by rw [List.length_take, List.length_drop]; omega
      have first : PcAt H4 pc (.put ((rs.drop (m - 1)).take 1)) ∧ (Pc.put ((rs.drop (m - 1)).take 1)).ok ∧ (Pc.put ((rs.drop (m - 1)).take 1)).size = 1 := ⟨⟨sl, e4, k4 _ _ e3⟩, ⟨fun e => by rw [e] at hsl; simp at hsl, fun z hz => hro z (List.mem_of_mem_drop (List.mem_of_mem_take hz))⟩, hsl⟩
      walk_at "g"
      try refine w_rng1' (by omega) (by omega) ?_
      refine lp_range (fun j σ H' => Same H2 H' ∧ ∃ (pa : Addr) (pp : Pc) (y9 y10 y11 : Option V), σ = [some (.ref b), some (.ref r), some (.int t), some (.int p), some (.ref l), some (.ref pl), some (.int (m : Int)), some (.ref pa), some (.int (pp.size : Int)), y9, y10, y11] ∧ PcAt H' pa pp ∧ pp.ok ∧ pp.size ≤ m) ⟨k24, pc, _, _, _, _, by rw [first.2.2]; rfl, first.1, first.2.1, by omega⟩ ?_ ?_
      · rintro j σ H5 hj ⟨k5, pa, pp, y9, y10, y11, rfl, hpa, hok, hps⟩
        have hj' : j < m := by omega
        have hl5 := k5 _ _ (k2 _ _ (off hl) (k1 _ _ hl))
        have hb5 := k5 _ _ (k2 _ _ (off hb0) (k1 _ _ hb0))
        have at3 : atI (ds.map V.int) (0 + (j : Int)) = some (.int (ds.getD j 0)) := by
          rw [Int.zero_add]
          exact atI_nat (by rw [List.getElem?_map, getD_at (by omega)]; rfl)
        have at4 : atI (ds.map V.int) (m : Int) = some (.int (ds.getD m 0)) := atI_nat (by rw [List.getElem?_map, getD_at (by omega)]; rfl)
        walk_at "g"
        refine w_ite (fun h1 => ?_) (fun h1 => ?_)
        rotate_left
        · walk_at "g"
          exact ⟨k5, pa, pp, _, _, _, rfl, hpa, hok, hps⟩
        walk_at "g"
        refine w_ite (fun h2 => ?_) (fun h2 => ?_)
        rotate_left
        · walk_at "g"
          exact ⟨k5, pa, pp, _, _, _, rfl, hpa, hok, hps⟩
        walk_at "g"
        try refine w_rng1' (by simp only [List.length_map]; omega) (by simp only [List.length_map]; omega) ?_
        refine lp_range (fun i σ H' => Same H2 H' ∧ ∃ (pa : Addr) (pp : Pc) (y11 : Option V), σ = [some (.ref b), some (.ref r), some (.int t), some (.int p), some (.ref l), some (.ref pl), some (.int (m : Int)), some (.ref pa), some (.int (pp.size : Int)), some (.int (0 + (j : Int))), some (.int ((m : Int) - (0 + (j : Int)))), y11] ∧ PcAt H' pa pp ∧ pp.ok ∧ pp.size ≤ m) ⟨k5, pa, pp, _, rfl, hpa, hok, hps⟩ ?_ ?_
        · rintro i σ H6 hi ⟨k6, pa, pp, y11, rfl, hpa, hok, hps⟩
          have hb6 := k6 _ _ (k2 _ _ (off hb0) (k1 _ _ hb0))
          have hr6 := k6 _ _ hr2
          have hi' : i + (m - j) ≤ bs.length := by
            simp only [List.length_map] at hi
            omega
          cases pp with
          | take u v =>
            have hpa' : H6 pa = some (.tup [.str "take", .int (u : Int), .int (v : Int)]) := hpa
            walk_at "g"
            refine w_no (by decide) ?_
            walk_at "g"
            exact ⟨k6, pa, _, _, rfl, hpa, hok, hps⟩
          | put ls =>
            obtain ⟨r9, hpa1, hpa2⟩ := id hpa
            walk_at "g"
            refine w_yes rfl ?_
            walk_at "g"
            refine w_slAt hb6 fun s1 H7 e7 k7 => ?_
            rw [show (0 : Int) + (i : Int) + ((m : Int) - (0 + (j : Int))) = (i : Int) + ((m - j : Nat) : Int) by omega, show (0 : Int) + (i : Int) = (i : Int) by omega, cut_strs bs hi'] at e7
            have hr7 := k7 _ _ hr6
            walk_at "g"
            refine w_slAt hr7 fun s2 H8 e8 k8 => ?_
            rw [show (m : Int) = (j : Int) + ((m - j : Nat) : Int) by omega, show (0 : Int) + (j : Int) = (j : Int) by omega, cut_strs rs (by omega)] at e8
            have k68 := Same.trans k7 k8
            walk_at "g"
            refine w_eqRowsG (k8 _ _ e7) e8 (fun z hz => hbo z (List.mem_of_mem_drop (List.mem_of_mem_take hz))) (fun z hz => hro z (List.mem_of_mem_drop (List.mem_of_mem_take hz))) ?_
            walk_at "g"
            refine w_ite (fun he => ?_) (fun he => ?_)
            · walk_at "g"
              refine w_new fun pn H9 hpn e9 k9 => ?_
              walk_at "g"
              refine ⟨Same.trans k6 (Same.trans k68 k9), pn, .take i (m - j), some (.int (0 + (i : Int))), ?_, ?_, ?_, ?_⟩
              · rw [show (((Pc.take i (m - j)).size : Nat) : Int) = (m : Int) - (0 + (j : Int)) by show ((m - j : Nat) : Int) = _; omega]
              · show H9 pn = some (.tup [.str "take", .int (i : Int), .int ((m - j : Nat) : Int)])
                rw [e9, show ((m - j : Nat) : Int) = (m : Int) - (0 + (j : Int)) by omega, Int.zero_add (i : Int)]
              · show 1 ≤ m - j
                omega
              · show m - j ≤ m
                omega
            · walk_at "g"
              exact ⟨Same.trans k6 k68, pa, _, _, rfl, hpa.kt (KT.of k68), hok, hps⟩
        · rintro σ H6 ⟨k6, pa, pp, y11, rfl, hpa, hok, hps⟩
          exact ⟨k6, pa, pp, _, _, _, rfl, hpa, hok, hps⟩
      · rintro σ H5 ⟨k5, pa, pp, y9, y10, y11, rfl, hpa, hok, hps⟩
        have e5 := k5 _ _ e2
        have hql : qs.length ≤ 40 := by
          have h1 := sizes_ge (ps := qs.map (·.2)) fun z hz => by
            obtain ⟨z', hz', rfl⟩ := List.mem_map.mp hz
            exact (hqs z' hz').2
          rw [List.length_map] at h1
          omega
        have hpos := hok.pos
        walk_at "g"
        refine w_insert (k := 0) e5 (by rw [List.length_map]; exact small1000' (by omega)) (by decide) fun H6 e6 o6 => ?_
        have t6 : KT H5 H6 := KT.off o6 e5
        walk_at "g"
        refine ⟨m - pp.size, by omega, some (.ref pa), some (.int (pp.size : Int)), y9, y10, y11, (pa, pp) :: qs, ?_, k2.trans ((Kp.of k5).trans (o6.kp (by simp))), by rw [e6]; rfl, fun z hz => ?_, ?_⟩
        · rw [show ((m - pp.size : Nat) : Int) = (m : Int) - (pp.size : Int) by omega]
        · rcases List.mem_cons.mp hz with rfl | hz
          · exact ⟨hpa.kt t6, hok⟩
          · exact ⟨((hqs z hz).1.kt (KT.of k5)).kt t6, (hqs z hz).2⟩
        · show sizes (pp :: qs.map (·.2)) + _ = _
          have : sizes (pp :: qs.map (·.2)) = pp.size + sizes (qs.map (·.2)) := by simp [sizes]
          omega
    · walk_at "g"
      refine w_tupL (.of e2) fun s' H3 hs' e3 k3 => ?_
      refine q H3 s' qs (fun x o e => k3 _ _ (k2 _ _ (off e) (k1 _ _ e))) ⟨e3, fun z hz => (hqs z hz).1.kt (KT.of k3)⟩ ⟨fun z hz => ?_, by omega⟩
      obtain ⟨z', hz', rfl⟩ := List.mem_map.mp hz
      exact (hqs z' hz').2
theorem ok_numbers {f fM fD : Addr} {fd fdM fdD : FuncData} (T : Txt K mg) (F : Fun K "_law_numbers" "_law_numbers" s_law_numbers f fd) (D_law_mixed : Df K mg "_law_mixed" s_law_mixed ["_law_cell", "_law_turn"] fM fdM) (D_law_draw : Df K mg "_law_draw" s_law_draw ["_law_deck_here", "_law_many"] fD fdD) : FnOk P w K mg base CX0 3 f fd ["_law_deck_here", "_law_firsts_here", "_law_total"] spNumbers := by
  have G_law_draw : FnOk P w K mg base CX0 2 fD fdD ["_law_deck_here", "_law_many"] spDraw := ok_draw T D_law_draw.fn D_law_mixed
  refine F.ok sc_law_numbers (fun vs H Q E h => ?_) (fun cdv A outer s H vs Q E hr h => ?_)
  · obtain ⟨d, c, l, n, tot, ds, rfl, _⟩ := h
    rfl
  · obtain ⟨d, c, l, n, tot, ds, rfl, D0, hn, hl, hd1, hd2, q⟩ := h
    refine ⟨_,
      (pss_cons
        (ps_set (i := 3) sc_law_numbers.nd rfl (.inl rfl) (pe_call G_law_draw (hr.mono (by omega)) (by rfl) D_law_draw.g D_law_draw.fn.kp D_law_draw.b .nil pass0 (pa_cons (pv 0) (pa_cons pe_int pa_nil))))
      (pss_cons
        (ps_set (i := 4) sc_law_numbers.nd rfl (.inl rfl) (pe_callTy (r := rListOf K) c_listOf (by rfl) T.n_list (by decide +kernel) (pa_cons (pv 1) pa_nil)))
      (pss_cons
        (ps_if (pt_cmpR op_eq (pv 3) pe_int (nomark _))
          (pss_one
            (ps_asg (pv 2) (pg_sub (pv 4) (pe_un un_neg pe_int) set_list)))
          pss_nil)
      (pss_cons
        (ps_if (pt_cmpR op_eq (pv 3) pe_int (nomark _))
          (pss_cons
            (ps_set (i := 4) sc_law_numbers.nd rfl (.inl rfl) (pe_op op_rep (pe_lst (pa_cons pe_int pa_nil)) (pe_callB (r := rLen K) c_len (by rfl) T.n_len (by decide +kernel) (pa_cons (pv 4) pa_nil))))
          (pss_one
            (ps_asg (pv 2) (pg_sub (pv 4) (pe_un un_neg pe_int) set_list))))
          pss_nil)
      (pss_cons
        (ps_if (pt_cmpR op_eq (pv 3) pe_int (nomark _))
          (pss_cons
            (ps_set (i := 5) sc_law_numbers.nd rfl (.inl rfl) (pe_call G_law_draw (hr.mono (by omega)) (by rfl) D_law_draw.g D_law_draw.fn.kp D_law_draw.b .nil pass0 (pa_cons (pv 0) (pa_cons (pe_callB (r := rLen K) c_len (by rfl) T.n_len (by decide +kernel) (pa_cons (pv 4) pa_nil)) pa_nil))))
          (pss_one
            (ps_asg (pe_op op_sub (pe_op op_add (pe_ix (r := rIxL K) ix_list (pv 4) (pv 5) (fun _ _ => rfl)) pe_int) (pe_op op_mul pe_int (pe_call G_law_draw (hr.mono (by omega)) (by rfl) D_law_draw.g D_law_draw.fn.kp D_law_draw.b .nil pass0 (pa_cons (pv 0) (pa_cons pe_int pa_nil))))) (pg_sub (pv 4) (pv 5) set_list))))
          pss_nil)
      (pss_cons
        (ps_if (pt_cmpR op_eq (pv 3) pe_int (nomark _))
          (pss_cons
            (ps_set (i := 5) sc_law_numbers.nd rfl (.inl rfl) (pe_call G_law_draw (hr.mono (by omega)) (by rfl) D_law_draw.g D_law_draw.fn.kp D_law_draw.b .nil pass0 (pa_cons (pv 0) (pa_cons (pe_callB (r := rLen K) c_len (by rfl) T.n_len (by decide +kernel) (pa_cons (pv 4) pa_nil)) pa_nil))))
          (pss_one
            (ps_asg (pe_op op_sub (pe_ix (r := rIxL K) ix_list (pv 4) (pv 5) (fun _ _ => rfl)) (pe_call G_law_draw (hr.mono (by omega)) (by rfl) D_law_draw.g D_law_draw.fn.kp D_law_draw.b .nil pass0 (pa_cons (pv 0) (pa_cons (pe_op op_pow pe_int pe_int) pa_nil)))) (pg_sub (pv 4) (pv 5) set_list))))
          pss_nil)
      (pss_cons
        (ps_if (pt_cmpR op_eq (pv 3) pe_int (nomark _))
          (pss_one
            (ps_set (i := 4) sc_law_numbers.nd rfl (.inl rfl) (pe_op op_cat (pv 4) (pe_lst (pa_cons (pv 2) pa_nil)))))
          pss_nil)
      (pss_one
        (ps_ret (pe_callTy (r := rTupOf K) c_tupOf (by rfl) T.n_tuple (by decide +kernel) (pa_cons (pv 4) pa_nil)))))))))))
      , ?_⟩
    rw [show L2.start N_law_numbers [V.ref d, V.ref l, V.int tot] = [some (.ref d), some (.ref l), some (.int tot), none, none, none] from rfl]
    walk_at "x"
    refine w_draw D0 (by omega) (by decide) (by decide) fun tn H1 htn D1 o1 => ?_
    have kx1 := D0.kx D1 o1
    by_cases hld : l = d
    · subst hld
      obtain ⟨⟨cs, a, b', t', h1, _⟩, _⟩ := D0
      rw [hl] at h1
      have h2 := Option.some.inj h1
      injection h2 with h2
      cases ds with
      | nil => simp at hd1
      | cons x ds => simp at h2
    have hl1 := o1.get hld hl
    walk_at "g"
    refine w_listL (.of hl1) fun nl H2 hnl e2 k2 => ?_
    have hnl0 : H nl = none := by
      have hne : nl ≠ d := (D1.ne1 hnl).1
      rw [← o1 nl hne]
      exact hnl
    have D2 := D1.kp (M := []) (Kp.of k2) (by simp) (by simp)
    have kx2 := kx1.trans (KX.of k2)
    have nld : nl ≠ d := (D0.ne1 hnl0).1
    walk_at "g"
    -- a list of our own, ints in it
    refine w_seqJ (fun σ' H' => ∃ (a : Addr) (es : List Int) (y5 : Option V), σ' = [some (.ref d), some (.ref l), some (.int tot), some (.int (tn : Int)), some (.ref a), y5] ∧ Deck H' d c (n + 1) ∧ KX d H H' ∧ H a = none ∧ H' a = some (.lst (es.map V.int)) ∧ 1 ≤ es.length ∧ es.length ≤ ds.length) ?_ ?_
    rotate_left
    · intro U hU
      walk_at "g"
      refine w_ite (fun h => ?_) (fun h => ?_)
      · walk_at "g"
        refine w_setL (j := ds.length - 1) e2 (by rw [List.length_map]; exact ixn_last hd1) (set_ints _ _ _) fun H3 e3 o3 => ?_
        walk_at "g"
        exact hU _ _ ⟨nl, _, _, rfl, D2.kp (M := [nl]) (o3.kp (by simp)) (by simpa using Ne.symm nld) (by simpa using ((D0.ne1 hnl0).2).symm), kx2.offL o3 hnl0 e2 e3, hnl0, e3, by rw [List.length_set]; omega, by rw [List.length_set]; omega⟩
      · walk_at "g"
        exact hU _ _ ⟨nl, ds, _, rfl, D2, kx2, hnl0, e2, by omega, by omega⟩
    rintro σ' H3 ⟨a3, es3, y5, rfl, D3, kx3, ha3, e3, he31, he32⟩
    refine w_seqJ (fun σ' H' => ∃ (a : Addr) (es : List Int) (y5 : Option V), σ' = [some (.ref d), some (.ref l), some (.int tot), some (.int (tn : Int)), some (.ref a), y5] ∧ Deck H' d c (n + 1) ∧ KX d H H' ∧ H a = none ∧ H' a = some (.lst (es.map V.int)) ∧ 1 ≤ es.length ∧ es.length ≤ ds.length) ?_ ?_
    rotate_left
    · intro U hU
      walk_at "g"
      refine w_ite (fun h => ?_) (fun h => ?_)
      · walk_at "g"
        refine w_new fun z1 H4 hz1 e4 k4 => ?_
        have e3' := k4 _ _ e3
        walk_at "g"
        refine w_rep e4 (by rw [List.length_map]; omega) (by rw [List.length_map]; omega) (by simp only [List.length_cons, List.length_nil, List.length_map]; rw [Int.toNat_natCast]; exact Nat.le_trans (show (0 + 1) * es3.length ≤ 1000 by omega) (by decide)) fun z2 H5 hz2 e5 k5 => ?_
        have el : (List.replicate (((es3.map V.int).length : Nat) : Int).toNat [V.int 0]).flatten = (List.replicate es3.length (0 : Int)).map V.int := by
          rw [Int.toNat_natCast, List.length_map]
          exact rep0 _
        rw [el] at e5
        have k35 := Same.trans k4 k5
        have hz2H : H z2 = none := by
          cases e : H z2 with
          | none => rfl
          | some o =>
            by_cases hzd : z2 = d
            · subst hzd
              obtain ⟨⟨xs, ex⟩, _⟩ := D3.at
              rw [k4 _ _ ex] at hz2
              cases hz2
            · have := k4 _ _ (kx3.p _ _ (by simpa using hzd) e)
              rw [hz2] at this
              cases this
        have D5 := D3.kp (M := []) (Kp.of k35) (by simp) (by simp)
        have kx5 := kx3.trans (KX.of k35)
        walk_at "g"
        refine w_setL (j := es3.length - 1) e5 (by rw [List.length_map, List.length_replicate]; exact ixn_last he31) (set_ints _ _ _) fun H6 e6 o6 => ?_
        walk_at "g"
        exact hU _ _ ⟨z2, _, _, rfl, D5.kp (M := [z2]) (o6.kp (by simp)) (by simpa using (D0.ne1 hz2H).1.symm) (by simpa using ((D0.ne1 hz2H).2).symm), kx5.offL o6 hz2H e5 e6, hz2H, e6, by rw [List.length_set, List.length_replicate]; omega, by rw [List.length_set, List.length_replicate]; omega⟩
      · walk_at "g"
        exact hU _ _ ⟨a3, es3, _, rfl, D3, kx3, ha3, e3, he31, he32⟩
    rintro σ' H4 ⟨a4, es4, y5, rfl, D4, kx4, ha4, e4, he41, he42⟩
    refine w_seqJ (fun σ' H' => ∃ (a : Addr) (es : List Int) (y5 : Option V), σ' = [some (.ref d), some (.ref l), some (.int tot), some (.int (tn : Int)), some (.ref a), y5] ∧ Deck H' d c (n + 3) ∧ KX d H H' ∧ H a = none ∧ H' a = some (.lst (es.map V.int)) ∧ 1 ≤ es.length ∧ es.length ≤ ds.length) ?_ ?_
    rotate_left
    · intro U hU
      walk_at "g"
      refine w_ite (fun h => ?_) (fun h => ?_)
      · walk_at "g"
        refine w_draw D4 (by omega) (by rw [List.length_map]; omega) (by rw [List.length_map]; omega) fun pl H5 hpl D5 o5 => ?_
        rw [List.length_map] at hpl
        have e5 := o5.get (D0.ne1 ha4).1 e4
        have at5 : atI (es4.map V.int) (pl : Int) = some (.int (es4.getD pl 0)) := atI_nat (by rw [List.getElem?_map, getD_at (by omega)]; rfl)
        walk_at "g"
        refine w_draw D5 (by omega) (by decide) (by decide) fun r2 H6 hr2 D6 o6 => ?_
        have e6 := o6.get (D0.ne1 ha4).1 e5
        walk_at "g"
        refine w_setL (j := pl) e6 (by rw [List.length_map]; exact ixn_at (by omega)) (set_ints _ _ _) fun H7 e7 o7 => ?_
        walk_at "g"
        exact hU _ _ ⟨a4, _, _, rfl, D6.kp (M := [a4]) (o7.kp (by simp)) (by simpa using (D0.ne1 ha4).1.symm) (by simpa using ((D0.ne1 ha4).2).symm), ((kx4.trans (D4.kx D5 o5)).trans (D5.kx D6 o6)).offL o7 ha4 e6 e7, ha4, e7, by rw [List.length_set]; omega, by rw [List.length_set]; omega⟩
      · walk_at "g"
        exact hU _ _ ⟨a4, es4, _, rfl, D4.mono (by omega), kx4, ha4, e4, he41, he42⟩
    rintro σ' H5 ⟨a5, es5, y5, rfl, D5, kx5, ha5, e5, he51, he52⟩
    refine w_seqJ (fun σ' H' => ∃ (a : Addr) (es : List Int) (y5 : Option V), σ' = [some (.ref d), some (.ref l), some (.int tot), some (.int (tn : Int)), some (.ref a), y5] ∧ Deck H' d c (n + 5) ∧ KX d H H' ∧ H a = none ∧ H' a = some (.lst (es.map V.int)) ∧ 1 ≤ es.length ∧ es.length ≤ ds.length) ?_ ?_
    rotate_left
    · intro U hU
      walk_at "g"
      refine w_ite (fun h => ?_) (fun h => ?_)
      · walk_at "g"
        refine w_draw D5 (by omega) (by rw [List.length_map]; omega) (by rw [List.length_map]; omega) fun pl H6 hpl D6 o6 => ?_
        rw [List.length_map] at hpl
        have e6 := o6.get (D0.ne1 ha5).1 e5
        have at6 : atI (es5.map V.int) (pl : Int) = some (.int (es5.getD pl 0)) := atI_nat (by rw [List.getElem?_map, getD_at (by omega)]; rfl)
        walk_at "g"
        refine w_draw D6 (by omega) (by decide) (by decide) fun r2 H7 hr2 D7 o7 => ?_
        have e7 := o7.get (D0.ne1 ha5).1 e6
        walk_at "g"
        refine w_setL (j := pl) e7 (by rw [List.length_map]; exact ixn_at (by omega)) (set_ints _ _ _) fun H8 e8 o8 => ?_
        walk_at "g"
        exact hU _ _ ⟨a5, _, _, rfl, D7.kp (M := [a5]) (o8.kp (by simp)) (by simpa using (D0.ne1 ha5).1.symm) (by simpa using ((D0.ne1 ha5).2).symm), ((kx5.trans (D5.kx D6 o6)).trans (D6.kx D7 o7)).offL o8 ha5 e7 e8, ha5, e8, by rw [List.length_set]; omega, by rw [List.length_set]; omega⟩
      · walk_at "g"
        exact hU _ _ ⟨a5, es5, _, rfl, D5.mono (by omega), kx5, ha5, e5, he51, he52⟩
    rintro σ' H6 ⟨a6, es6, y5, rfl, D6, kx6, ha6, e6, he61, he62⟩
    refine w_seqJ (fun σ' H' => ∃ (a : Addr) (es : List Int) (y5 : Option V), σ' = [some (.ref d), some (.ref l), some (.int tot), some (.int (tn : Int)), some (.ref a), y5] ∧ Deck H' d c (n + 5) ∧ KX d H H' ∧ H' a = some (.lst (es.map V.int)) ∧ es.length ≤ ds.length + 1) ?_ ?_
    rotate_left
    · intro U hU
      walk_at "g"
      refine w_ite (fun h => ?_) (fun h => ?_)
      · walk_at "g"
        refine w_new fun z1 H7 hz1 e7 k7 => ?_
        have e6' := k7 _ _ e6
        walk_at "g"
        refine w_cat e6' e7 (by simp only [List.length_map, List.length_cons, List.length_nil]; exact Nat.le_trans (show es6.length + (0 + 1) ≤ 1000 by omega) (by decide)) fun z2 H8 hz2 e8 k8 => ?_
        have k68 := Same.trans k7 k8
        walk_at "g"
        exact hU _ _ ⟨z2, es6 ++ [tot], _, rfl, D6.kp (M := []) (Kp.of k68) (by simp) (by simp), kx6.trans (KX.of k68), by rw [e8, List.map_append]; rfl, by rw [List.length_append]; simp only [List.length_cons, List.length_nil]; omega⟩
      · walk_at "g"
        exact hU _ _ ⟨a6, es6, _, rfl, D6, kx6, e6, by omega⟩
    rintro σ' H7 ⟨a7, es7, y5, rfl, D7, kx7, e7, he7⟩
    walk_at "g"
    refine w_tupL (.of e7) fun rt' H8 hrt e8 k8 => ?_
    exact q H8 rt' es7 ((D7.kp (M := []) (Kp.of k8) (by simp) (by simp)).mono (by omega)) (kx7.trans (KX.of k8)) e8 he7
end
def spLaw (K : PySem.W.Frag) : Sp := fun vs H Q _ => ∃ (a : Addr) (ns : List Int), vs = [.ref a] ∧ SqL K H a (ns.map V.int) ∧ ns.length ≤ 63 ∧ ∀ H', Q (.bl true) H'
section
variable {P : Program} {w : World} {K : PySem.W.Frag} {mg : Str → Option Value} {base : Heap}
theorem ok_law {f_is_int f_is_text f_is_pair f_made_by f_is_script f_done f_price f_longest_takes f_right_least f_makes_rows f_law_deck f_law_mixed f_law_draw f_law_text f_law_int f_law_same f_law_stock f_law_lines f_law_script f_law_made f_law_cost f_law_is_line f_law_size f_law_is_script f_law_fits f_law_odd f_law_bent f_law_spoiled f_law_stands f_law_firsts f_law_is_least f_law_least_script f_law_numbers f C_NoScript : Addr} {fd_is_int fd_is_text fd_is_pair fd_made_by fd_is_script fd_done fd_price fd_longest_takes fd_right_least fd_makes_rows fd_law_deck fd_law_mixed fd_law_draw fd_law_text fd_law_int fd_law_same fd_law_stock fd_law_lines fd_law_script fd_law_made fd_law_cost fd_law_is_line fd_law_size fd_law_is_script fd_law_fits fd_law_odd fd_law_bent fd_law_spoiled fd_law_stands fd_law_firsts fd_law_is_least fd_law_least_script fd_law_numbers fd : FuncData} (T : Txt K mg)
    (D_is_int : DfD K mg "is_int" s_is_int ["thing", "least"] [.int 0] f_is_int fd_is_int)
    (D_is_text : DfD K mg "is_text" s_is_text ["thing", "most"] [.int 40] f_is_text fd_is_text)
    (D_is_pair : Df K mg "is_pair" s_is_pair ["thing"] f_is_pair fd_is_pair)
    (D_made_by : Df K mg "made_by" s_made_by ["thing"] f_made_by fd_made_by)
    (D_is_script : Df K mg "is_script" s_is_script ["thing"] f_is_script fd_is_script)
    (D_done : Df K mg "done" s_done ["base", "script"] f_done fd_done)
    (D_price : DfKs K mg "price" s_price ["script", "take", "put"] [("take", .int 3), ("put", .int 2)] [.int 3, .int 2] f_price fd_price)
    (KE_price_take_put : ∃ g, KBn K fd_price ["script", "take", "put"] 1 ["take", "put"] g (fun vs zs => vs ++ zs))
    (D_longest_takes : Df K mg "longest_takes" s_longest_takes ["base", "rows"] f_longest_takes fd_longest_takes)
    (D_right_least : DfKs K mg "right_least" s_right_least ["base", "rows", "thing", "take", "put"] [("take", .int 3), ("put", .int 2)] [.int 3, .int 2] f_right_least fd_right_least)
    (KE_right_least_put_take : ∃ g, KBn K fd_right_least ["base", "rows", "thing", "take", "put"] 3 ["put", "take"] g (fun vs zs => vs ++ zs.reverse))
    (KE_right_least_take : ∃ g, KBn K fd_right_least ["base", "rows", "thing", "take", "put"] 3 ["take"] g (fun vs zs => vs ++ (zs ++ [V.int 2])))
    (D_makes_rows : Df K mg "makes_rows" s_makes_rows ["base", "script", "rows"] f_makes_rows fd_makes_rows)
    (D_law_deck : Df K mg "_law_deck" s_law_deck ["_law_script_here"] f_law_deck fd_law_deck)
    (D_law_mixed : Df K mg "_law_mixed" s_law_mixed ["_law_cell", "_law_turn"] f_law_mixed fd_law_mixed)
    (D_law_draw : Df K mg "_law_draw" s_law_draw ["_law_deck_here", "_law_many"] f_law_draw fd_law_draw)
    (D_law_text : Df K mg "_law_text" s_law_text ["_law_deck_here", "_law_size_here"] f_law_text fd_law_text)
    (D_law_int : Df K mg "_law_int" s_law_int ["_law_thing"] f_law_int fd_law_int)
    (D_law_same : Df K mg "_law_same" s_law_same ["_law_found", "_law_due"] f_law_same fd_law_same)
    (D_law_stock : Df K mg "_law_stock" s_law_stock ["_law_deck_here"] f_law_stock fd_law_stock)
    (D_law_lines : Df K mg "_law_lines" s_law_lines ["_law_deck_here", "_law_stock_here", "_law_most"] f_law_lines fd_law_lines)
    (D_law_script : Df K mg "_law_script" s_law_script ["_law_deck_here", "_law_base", "_law_stock_here", "_law_most"] f_law_script fd_law_script)
    (D_law_made : Df K mg "_law_made" s_law_made ["_law_base", "_law_pieces"] f_law_made fd_law_made)
    (D_law_cost : Df K mg "_law_cost" s_law_cost ["_law_pieces", "_law_by_take", "_law_by_put"] f_law_cost fd_law_cost)
    (D_law_is_line : Df K mg "_law_is_line" s_law_is_line ["_law_thing"] f_law_is_line fd_law_is_line)
    (D_law_size : Df K mg "_law_size" s_law_size ["_law_piece"] f_law_size fd_law_size)
    (D_law_is_script : Df K mg "_law_is_script" s_law_is_script ["_law_thing"] f_law_is_script fd_law_is_script)
    (D_law_fits : Df K mg "_law_fits" s_law_fits ["_law_base", "_law_thing"] f_law_fits fd_law_fits)
    (D_law_odd : Df K mg "_law_odd" s_law_odd ["_law_deck_here"] f_law_odd fd_law_odd)
    (D_law_bent : Df K mg "_law_bent" s_law_bent ["_law_deck_here", "_law_thing", "_law_deep_in"] f_law_bent fd_law_bent)
    (D_law_spoiled : Df K mg "_law_spoiled" s_law_spoiled ["_law_deck_here", "_law_thing", "_law_times"] f_law_spoiled fd_law_spoiled)
    (D_law_stands : Df K mg "_law_stands" s_law_stands ["_law_base", "_law_part"] f_law_stands fd_law_stands)
    (D_law_firsts : Df K mg "_law_firsts" s_law_firsts ["_law_base", "_law_lines_here", "_law_by_take", "_law_by_put"] f_law_firsts fd_law_firsts)
    (D_law_is_least : Df K mg "_law_is_least" s_law_is_least ["_law_base", "_law_lines_here", "_law_thing", "_law_by_take", "_law_by_put"] f_law_is_least fd_law_is_least)
    (D_law_least_script : Df K mg "_law_least_script" s_law_least_script ["_law_base", "_law_lines_here", "_law_by_take", "_law_by_put", "_law_firsts_here"] f_law_least_script fd_law_least_script)
    (D_law_numbers : Df K mg "_law_numbers" s_law_numbers ["_law_deck_here", "_law_firsts_here", "_law_total"] f_law_numbers fd_law_numbers)
    (D_law : Df K mg "law" s_law ["_law_script_here"] f fd)
    (X_NoScript : Exn K mg "NoScript" C_NoScript)
    : FnOk P w K mg base CX0 10 f fd ["_law_script_here"] (spLaw K) := by
  obtain ⟨ds_is_int, V_is_int, B_is_int⟩ := D_is_int.b
  obtain ⟨ds_is_text, V_is_text, B_is_text⟩ := D_is_text.b
  obtain ⟨ds_price, V_price, B_price⟩ := D_price.b
  obtain ⟨kg_price_take_put, KB_price_take_put⟩ := KE_price_take_put
  obtain ⟨ds_right_least, V_right_least, B_right_least⟩ := D_right_least.b
  obtain ⟨kg_right_least_put_take, KB_right_least_put_take⟩ := KE_right_least_put_take
  obtain ⟨kg_right_least_take, KB_right_least_take⟩ := KE_right_least_take
  obtain ⟨tk_SIGNS, g_SIGNS⟩ := T.g_SIGNS
  obtain ⟨tk_TAKE, g_TAKE⟩ := T.g_TAKE
  obtain ⟨tk_PUT, g_PUT⟩ := T.g_PUT
  obtain ⟨tk_ROWS, g_ROWS⟩ := T.g_ROWS
  have g_NoScript := X_NoScript.g
  have G_law_deck : FnOk P w K mg base CX0 1 f_law_deck fd_law_deck ["_law_script_here"] (spDeck K) := ok_deck T D_law_deck.fn
  have G_law_draw : FnOk P w K mg base CX0 2 f_law_draw fd_law_draw ["_law_deck_here", "_law_many"] spDraw := ok_draw T D_law_draw.fn D_law_mixed
  have G_law_same : FnOk P w K mg base CX0 2 f_law_same fd_law_same ["_law_found", "_law_due"] (spSame 0) := ok_same T D_law_same D_law_int 0
  have G_law_stock : FnOk P w K mg base CX0 4 f_law_stock fd_law_stock ["_law_deck_here"] spStock := ok_stock T D_law_stock.fn D_law_mixed D_law_draw D_law_text
  have G_law_lines : FnOk P w K mg base CX0 3 f_law_lines fd_law_lines ["_law_deck_here", "_law_stock_here", "_law_most"] spLines := ok_lines T D_law_lines.fn D_law_mixed D_law_draw
  have G_law_script : FnOk P w K mg base CX0 3 f_law_script fd_law_script ["_law_deck_here", "_law_base", "_law_stock_here", "_law_most"] spScript := ok_script T D_law_script.fn D_law_mixed D_law_draw
  have G_law_made : FnOk P w K mg base CX0 1 f_law_made fd_law_made ["_law_base", "_law_pieces"] spMade := ok_made T D_law_made.fn
  have G_law_cost : FnOk P w K mg base CX0 1 f_law_cost fd_law_cost ["_law_pieces", "_law_by_take", "_law_by_put"] spCost := ok_cost T D_law_cost.fn
  have G_law_spoiled : FnOk P w K mg base CX0 9 f_law_spoiled fd_law_spoiled ["_law_deck_here", "_law_thing", "_law_times"] spSpoiled := ok_spoiled T D_law_spoiled.fn D_law_bent D_law_mixed D_law_draw D_law_int D_law_odd
  have G_law_firsts : FnOk P w K mg base CX0 2 f_law_firsts fd_law_firsts ["_law_base", "_law_lines_here", "_law_by_take", "_law_by_put"] spFirsts := ok_firsts T D_law_firsts.fn D_law_stands
  have G_law_least_script : FnOk P w K mg base CX0 1 f_law_least_script fd_law_least_script ["_law_base", "_law_lines_here", "_law_by_take", "_law_by_put", "_law_firsts_here"] spLeastScript := ok_leastscript T D_law_least_script.fn
  have G_law_numbers : FnOk P w K mg base CX0 3 f_law_numbers fd_law_numbers ["_law_deck_here", "_law_firsts_here", "_law_total"] spNumbers := ok_numbers T D_law_numbers.fn D_law_mixed D_law_draw
  have G_law_is_least : FnOk P w K mg base CX0 5 f_law_is_least fd_law_is_least ["_law_base", "_law_lines_here", "_law_thing", "_law_by_take", "_law_by_put"] spLstX := ok_isleastX T D_law_is_least.fn D_law_fits D_law_is_script D_law_size D_law_is_line D_law_int D_law_made D_law_cost D_law_stands
  have G_right_least : FnOk P w K mg base CX0 6 f_right_least fd_right_least ["base", "rows", "thing", "take", "put"] spLstX := ok_rightX T D_right_least.fn X_NoScript D_is_pair D_makes_rows D_longest_takes D_price ⟨kg_price_take_put, KB_price_take_put⟩ D_done D_is_script D_made_by D_is_int D_is_text
  refine D_law.fn.ok sc_law (fun vs H Q E h => ?_) (fun cdv A outer s H vs Q E hr h => ?_)
  · obtain ⟨a, ns, rfl, _⟩ := h
    rfl
  · obtain ⟨a0, ns0, rfl, hS0, hl0, q⟩ := h
    refine ⟨_,
      (pss_cons
        (ps_set (i := 1) sc_law.nd rfl (.inl rfl) (pe_call G_law_deck (hr.mono (by omega)) (by rfl) D_law_deck.g D_law_deck.fn.kp D_law_deck.b .nil pass0 (pa_cons (pv 0) pa_nil)))
      (pss_cons
        (ps_set (i := 2) sc_law.nd rfl (.inl rfl) (pe_call G_law_stock (hr.mono (by omega)) (by rfl) D_law_stock.g D_law_stock.fn.kp D_law_stock.b .nil pass0 (pa_cons (pv 1) pa_nil)))
      (pss_cons
        (ps_for PassesOwn.never rfl (pi_range1 (by rfl) T.n_range (pa_cons (pe_op op_add pe_int (pe_op op_fdivW (pe_callB (c_min2 rfl) (by rfl) T.n_min (by decide +kernel) (pa_cons (pe_callB (r := rLen K) c_len (by rfl) T.n_len (by decide +kernel) (pa_cons (pv 0) pa_nil)) (pa_cons pe_int pa_nil))) pe_int)) pa_nil)) (pg_name (i := 3) sc_law.nd rfl (.inl rfl))
          (pss_cons
            (ps_set (i := 4) sc_law.nd rfl (.inl rfl) (pe_op op_mul (pe_call G_law_draw (hr.mono (by omega)) (by rfl) D_law_draw.g D_law_draw.fn.kp D_law_draw.b .nil pass0 (pa_cons (pv 1) (pa_cons pe_int pa_nil))) (pe_call G_law_draw (hr.mono (by omega)) (by rfl) D_law_draw.g D_law_draw.fn.kp D_law_draw.b .nil pass0 (pa_cons (pv 1) (pa_cons pe_int pa_nil)))))
          (pss_cons
            (ps_set (i := 5) sc_law.nd rfl (.inl rfl) (pe_call G_law_draw (hr.mono (by omega)) (by rfl) D_law_draw.g D_law_draw.fn.kp D_law_draw.b .nil pass0 (pa_cons (pv 1) (pa_cons pe_int pa_nil))))
          (pss_cons
            (ps_set (i := 6) sc_law.nd rfl (.inl rfl) (pe_ix (r := rIxL K) ix_list (pe_lst (pa_cons pe_int (pa_cons pe_int pa_nil))) (pe_call G_law_draw (hr.mono (by omega)) (by rfl) D_law_draw.g D_law_draw.fn.kp D_law_draw.b .nil pass0 (pa_cons (pv 1) (pa_cons pe_int pa_nil))) (fun _ _ => rfl)))
          (pss_cons
            (ps_set (i := 7) sc_law.nd rfl (.inl rfl) (pe_call G_law_lines (hr.mono (by omega)) (by rfl) D_law_lines.g D_law_lines.fn.kp D_law_lines.b .nil pass0 (pa_cons (pv 1) (pa_cons (pv 2) (pa_cons pe_int pa_nil)))))
          (pss_cons
            (ps_set (i := 8) sc_law.nd rfl (.inl rfl) (pe_call G_law_script (hr.mono (by omega)) (by rfl) D_law_script.g D_law_script.fn.kp D_law_script.b .nil pass0 (pa_cons (pv 1) (pa_cons (pv 7) (pa_cons (pv 2) (pa_cons pe_int pa_nil))))))
          (pss_cons
            (ps_set (i := 9) sc_law.nd rfl (.inl rfl) (pe_call G_law_made (hr.mono (by omega)) (by rfl) D_law_made.g D_law_made.fn.kp D_law_made.b .nil pass0 (pa_cons (pv 7) (pa_cons (pv 8) pa_nil))))
          (pss_cons
            (ps_set (i := 10) sc_law.nd rfl (.inl rfl) (pe_call G_law_draw (hr.mono (by omega)) (by rfl) D_law_draw.g D_law_draw.fn.kp D_law_draw.b .nil pass0 (pa_cons (pv 1) (pa_cons (pv 6) pa_nil))))
          (pss_cons
            (ps_set (i := 11) sc_law.nd rfl (.inl rfl) (pe_call G_law_draw (hr.mono (by omega)) (by rfl) D_law_draw.g D_law_draw.fn.kp D_law_draw.b .nil pass0 (pa_cons (pv 1) (pa_cons (pv 6) pa_nil))))
          (pss_cons
            (ps_if (pt_cmpR op_eq (pe_call G_law_draw (hr.mono (by omega)) (by rfl) D_law_draw.g D_law_draw.fn.kp D_law_draw.b .nil pass0 (pa_cons (pv 1) (pa_cons pe_int pa_nil))) pe_int (nomark _))
              (pss_cons
                (ps_set (i := 10) sc_law.nd rfl (.inl rfl) pe_int)
              (pss_one
                (ps_set (i := 11) sc_law.nd rfl (.inl rfl) pe_int)))
              pss_nil)
          (pss_cons
            (ps_set (i := 12) sc_law.nd rfl (.inl rfl) (pe_call G_law_firsts (hr.mono (by omega)) (by rfl) D_law_firsts.g D_law_firsts.fn.kp D_law_firsts.b .nil pass0 (pa_cons (pv 7) (pa_cons (pv 9) (pa_cons (pv 10) (pa_cons (pv 11) pa_nil))))))
          (pss_cons
            (ps_if (pt_cmpR op_eq (pv 5) pe_int (nomark _))
              (pss_one
                (ps_set (i := 8) sc_law.nd rfl (.inl rfl) (pe_call G_law_least_script (hr.mono (by omega)) (by rfl) D_law_least_script.g D_law_least_script.fn.kp D_law_least_script.b .nil pass0 (pa_cons (pv 7) (pa_cons (pv 9) (pa_cons (pv 10) (pa_cons (pv 11) (pa_cons (pv 12) pa_nil))))))))
              pss_nil)
          (pss_cons
            (ps_set (i := 13) sc_law.nd rfl (.inl rfl) (pe_call G_law_numbers (hr.mono (by omega)) (by rfl) D_law_numbers.g D_law_numbers.fn.kp D_law_numbers.b .nil pass0 (pa_cons (pv 1) (pa_cons (pv 12) (pa_cons (pe_call G_law_cost (hr.mono (by omega)) (by rfl) D_law_cost.g D_law_cost.fn.kp D_law_cost.b .nil pass0 (pa_cons (pv 8) (pa_cons (pv 10) (pa_cons (pv 11) pa_nil)))) pa_nil)))))
          (pss_cons
            (ps_set (i := 14) sc_law.nd rfl (.inl rfl) (pe_call G_law_spoiled (hr.mono (by omega)) (by rfl) D_law_spoiled.g D_law_spoiled.fn.kp D_law_spoiled.b .nil pass0 (pa_cons (pv 1) (pa_cons (pe_tup (pa_cons (pv 8) (pa_cons (pv 13) pa_nil))) (pa_cons (pv 4) pa_nil)))))
          (pss_cons
            (ps_set (i := 15) sc_law.nd rfl (.inl rfl) (pe_call G_law_is_least (hr.mono (by omega)) (by rfl) D_law_is_least.g D_law_is_least.fn.kp D_law_is_least.b .nil pass0 (pa_cons (pv 7) (pa_cons (pv 9) (pa_cons (pv 14) (pa_cons (pv 10) (pa_cons (pv 11) pa_nil)))))))
          (pss_cons
            (ps_if (pt_not (pt_val (pe_call G_law_same (hr.mono (by omega)) (by rfl) D_law_same.g D_law_same.fn.kp D_law_same.b .nil pass0 (pa_cons (pe_callN G_right_least (hr.mono (by omega)) (by rfl) D_right_least.g D_right_least.kp KB_right_least_put_take pass0 (pa_cons (pv 7) (pa_cons (pv 9) (pa_cons (pv 14) pa_nil))) (pk_cons (pv 11) (pk_cons (pv 10) pk_nil))) (pa_cons (pv 15) pa_nil)))))
              (pss_one
                (ps_ret pe_bl))
              pss_nil)
          (pss_cons
            (ps_set (i := 15) sc_law.nd rfl (.inl rfl) (pe_call G_law_is_least (hr.mono (by omega)) (by rfl) D_law_is_least.g D_law_is_least.fn.kp D_law_is_least.b .nil pass0 (pa_cons (pv 7) (pa_cons (pv 9) (pa_cons (pv 14) (pa_cons pe_int (pa_cons pe_int pa_nil)))))))
          (pss_cons
            (ps_if (pt_not (pt_val (pe_call G_law_same (hr.mono (by omega)) (by rfl) D_law_same.g D_law_same.fn.kp D_law_same.b .nil pass0 (pa_cons (pe_call G_right_least (hr.mono (by omega)) (by rfl) D_right_least.g D_right_least.kp B_right_least V_right_least pass0 (pa_cons (pv 7) (pa_cons (pv 9) (pa_cons (pv 14) pa_nil)))) (pa_cons (pv 15) pa_nil)))))
              (pss_one
                (ps_ret pe_bl))
              pss_nil)
          (pss_cons
            (ps_set (i := 15) sc_law.nd rfl (.inl rfl) (pe_call G_law_is_least (hr.mono (by omega)) (by rfl) D_law_is_least.g D_law_is_least.fn.kp D_law_is_least.b .nil pass0 (pa_cons (pv 7) (pa_cons (pv 9) (pa_cons (pv 14) (pa_cons (pv 10) (pa_cons pe_int pa_nil)))))))
          (pss_one
            (ps_if (pt_not (pt_val (pe_call G_law_same (hr.mono (by omega)) (by rfl) D_law_same.g D_law_same.fn.kp D_law_same.b .nil pass0 (pa_cons (pe_callN G_right_least (hr.mono (by omega)) (by rfl) D_right_least.g D_right_least.kp KB_right_least_take pass0 (pa_cons (pv 7) (pa_cons (pv 9) (pa_cons (pv 14) pa_nil))) (pk_cons (pv 10) pk_nil)) (pa_cons (pv 15) pa_nil)))))
              (pss_one
                (ps_ret pe_bl))
              pss_nil)))))))))))))))))))))
      (pss_one
        (ps_ret pe_bl)))))
      , ?_⟩
    rw [show L2.start N_law [V.ref a0] = [some (.ref a0), none, none, none, none, none, none, none, none, none, none, none, none, none, none, none] from rfl]
    walk_at "x"
    refine w_deck hS0 fun H1 d c k1 hd hc D1 => ?_
    walk_at "g"
    refine ⟨d, c, _, rfl, D1, by decide, fun H4 st zs D4 k2 t2 hst hstk4 => ?_⟩
    have nsd : st ≠ d := (D1.ne1 hst).1
    have hq4 : SqL K H4 a0 (ns0.map V.int) := by
      rcases hS0 with (h | ⟨o, h⟩) | h
      · exact .inl (.inl (k2 _ _ (by simpa using ne_of_none h hd) (k1 _ _ h)))
      · exact .inl (.inr ⟨o, k2 _ _ (by simpa using ne_of_none h hd) (k1 _ _ h)⟩)
      · exact .inr h
    walk_at "g"
    refine lp_range (fun i σ H' => ∃ (y3 y4 y5 y6 y7 y8 y9 y10 y11 y12 y13 y14 y15 : Option V), σ = [some (.ref a0), some (.ref d), some (.ref st), y3, y4, y5, y6, y7, y8, y9, y10, y11, y12, y13, y14, y15] ∧ Deck H' d c (300 + 700 * i) ∧ Kp [d] H4 H') ⟨_, _, _, _, _, _, _, _, _, _, _, _, _, rfl, D4, Kp.refl⟩ ?_ ?_
    · rintro i σ H5 hi ⟨y3, y4, y5, y6, y7, y8, y9, y10, y11, y12, y13, y14, y15, rfl, D5, k5⟩
      have hi11 : i < 12 := by
        revert hi
        split <;> (intro hi; omega)
      have hst5 := hstk4.kp k5 (by simpa using nsd)
      walk_at "g"
      refine w_draw D5 (by unfold MOSTD; omega) (by decide) (by decide) fun tm1 Ha htm1 Da oa => ?_
      walk_at "g"
      refine w_draw Da (by unfold MOSTD; omega) (by decide) (by decide) fun tm2 Hb htm2 Db ob => ?_
      have tm3 : tm1 * tm2 ≤ 2 := Nat.le_trans (Nat.mul_le_mul (show tm1 ≤ 2 by omega) (show tm2 ≤ 1 by omega)) (by decide)
      have etm : (tm1 : Int) * (tm2 : Int) = ((tm1 * tm2 : Nat) : Int) := (Int.natCast_mul _ _).symm
      walk_at "g"
      refine w_draw Db (by unfold MOSTD; omega) (by decide) (by decide) fun own Hc hown Dc oc => ?_
      walk_at "g"
      refine w_new fun gl Hd hgl egl kd => ?_
      have Dd := Dc.kp (M := []) (Kp.of kd) (by simp) (by simp)
      obtain ⟨gld, _⟩ := Dc.ne1 hgl
      walk_at "g"
      refine w_draw Dd (by unfold MOSTD; omega) (by decide) (by decide) fun gi He hgi De oe => ?_
      have ege := oe.get gld egl
      obtain ⟨g, hg1, hg2, eg⟩ : ∃ g : Int, 0 < g ∧ g ≤ 1000001 ∧ atI [V.int 10, V.int 1000001] (gi : Int) = some (.int g) := by
        by_cases h0 : gi = 0
        · subst h0
          exact ⟨10, by decide, by decide, atI_nat (j := 0) rfl⟩
        · have : gi = 1 := by omega
          subst this
          exact ⟨1000001, by decide, by decide, atI_nat (j := 1) rfl⟩
      have k5e : Kp [d] H5 He := (oa.kp (by simp)).trans ((ob.kp (by simp)).trans ((oc.kp (by simp)).trans ((Kp.of kd).trans (oe.kp (by simp)))))
      have hste := hst5.kp k5e (by simpa using nsd)
      walk_at "g"
      refine ⟨d, c, st, _, 9, zs, rfl, De, by unfold MOSTD; omega, by decide, hste, nsd, fun H7 b bs D7 k7 t7 hb hbl hbo => ?_⟩
      have hst7 := hste.kp k7 (by simpa using nsd)
      walk_at "g"
      refine ⟨d, c, st, b, _, 9, zs, bs, rfl, D7, by unfold MOSTD; omega, by decide, hst7, nsd, hb, by omega, fun H9 sc ps0 D9 k9 t9 hS0' hO0 hsz0 hf0 => ?_⟩
      have hb9 : RwAt H9 b bs := t9 _ _ hb
      have ml : (makes bs (ps0.map (·.2))).length ≤ 9 := by
        rw [makes_len fun p hp => by
          obtain ⟨z, hz, rfl⟩ := List.mem_map.mp hp
          exact hf0 z hz]
        exact hsz0
      have hlo : ∀ z ∈ makes bs (ps0.map (·.2)), LineOk z := make_lines hbo hO0.ok
      walk_at "g"
      refine ⟨b, sc, bs, ps0, rfl, hb9, by omega, hS0', hO0, hf0, fun H10 ln k10 eln => ?_⟩
      generalize makes bs (ps0.map (·.2)) = ls at ml hlo eln
      have D10 := D9.kp (M := []) (Kp.of k10) (by simp) (by simp)
      walk_at "g"
      refine w_draw D10 (by unfold MOSTD; omega) hg1 (by omega) fun bt H11 hbt D11 o11 => ?_
      walk_at "g"
      refine w_draw D11 (by unfold MOSTD; omega) hg1 (by omega) fun bp H12 hbp D12 o12 => ?_
      have kx12 : KX d H10 H12 := (D10.kx D11 o11).trans (D11.kx D12 o12)
      have k512 : Kp [d] H5 H12 := k5e.trans (k7.trans (k9.trans ((Kp.of k10).trans kx12.p)))
      have hb12 : RwAt H12 b bs := kx12.t _ _ (k10 _ _ hb9)
      have hl12 : RwAt H12 ln ls := kx12.t _ _ eln
      have hS12 := (hS0'.kt (KT.of k10)).kt kx12.t
      walk_at "g"
      refine w_seqJ (fun σ' H' => ∃ (t p : Nat), σ' = [some (.ref a0), some (.ref d), some (.ref st), some (.int (0 + (i : Int))), some (.int ((tm1 : Int) * (tm2 : Int))), some (.int (own : Int)), some (.int g), some (.ref b), some (.ref sc), some (.ref ln), some (.int (t : Int)), some (.int (p : Int)), y12, y13, y14, y15] ∧ t ≤ 1000001 ∧ p ≤ 1000001 ∧ Deck H' d c (300 + 700 * i + 460) ∧ KX d H12 H') ?_ ?_
      rotate_left
      · intro U hU
        walk_at "g"
        refine w_draw D12 (by unfold MOSTD; omega) (by decide) (by decide) fun r H13 hr13 D13 o13 => ?_
        have kx13 := D12.kx D13 o13
        walk_at "g"
        refine w_ite (fun h0 => ?_) (fun h0 => ?_)
        · walk_at "g"
          exact hU _ _ ⟨3, 2, rfl, by decide, by decide, D13.mono (by omega), kx13⟩
        · walk_at "g"
          exact hU _ _ ⟨bt, bp, rfl, by omega, by omega, D13.mono (by omega), kx13⟩
      rintro σ' H13 ⟨t, p, rfl, ht, hp, D13, kx13⟩
      have hb13 : RwAt H13 b bs := kx13.t _ _ hb12
      have hl13 : RwAt H13 ln ls := kx13.t _ _ hl12
      have hS13 := hS12.kt kx13.t
      walk_at "g"
      refine ⟨b, ln, bs, ls, (t : Int), (p : Int), rfl, hb13, by omega, hbo, hl13, by omega, hlo, fun H14 fl ds k14 hfl efl hdsl => ?_⟩
      have D14 := D13.kp (M := []) (Kp.of k14) (by simp) (by simp)
      walk_at "g"
      refine w_seqJ (fun σ' H' => ∃ (s2 : Addr) (qs : List (Addr × Pc)), σ' = [some (.ref a0), some (.ref d), some (.ref st), some (.int (0 + (i : Int))), some (.int ((tm1 : Int) * (tm2 : Int))), some (.int (own : Int)), some (.int g), some (.ref b), some (.ref s2), some (.ref ln), some (.int (t : Int)), some (.int (p : Int)), some (.ref fl), y13, y14, y15] ∧ Same H14 H' ∧ ScAt H' s2 qs ∧ ScOk (qs.map (·.2))) ?_ ?_
      rotate_left
      · intro U hU
        walk_at "g"
        refine w_ite (fun h0 => ?_) (fun h0 => ?_)
        · walk_at "g"
          refine ⟨b, ln, fl, bs, ls, (t : Int), (p : Int), ds, rfl, k14 _ _ hb13, by omega, hbo, k14 _ _ hl13, by omega, hlo, efl, hdsl, fun H15 s2 qs k15 hS15 hO15 => ?_⟩
          walk_at "g"
          exact hU _ _ ⟨s2, qs, rfl, k15, hS15, hO15⟩
        · walk_at "g"
          exact hU _ _ ⟨sc, ps0, rfl, fun _ _ z => z, hS13.kt (KT.of k14), hO0⟩
      rintro σ' H15 ⟨s2, qs, rfl, k15, hS15, hO15⟩
      have D15 := D14.kp (M := []) (Kp.of k15) (by simp) (by simp)
      walk_at "g"
      refine ⟨s2, (t : Int), (p : Int), qs, rfl, by omega, by omega, hS15, ?_⟩
      walk_at "g"
      refine ⟨d, c, fl, _, _, ds, rfl, D15, by unfold MOSTD; omega, k15 _ _ efl, by omega, by omega, fun H16 nm es D16 kx16 enm hesl => ?_⟩
      have hS16 := hS15.kt kx16.t
      walk_at "g"
      refine w_new fun th H17 hth eth k17 => ?_
      have D17 := D16.kp (M := []) (Kp.of k17) (by simp) (by simp)
      have dth : DatX 41 H17 (.ref th) := .tup eth (by simp only [List.length_cons, List.length_nil]; omega) fun y hy => by
        have hy' : y = .ref s2 ∨ y = .ref nm := by simpa using hy
        rcases hy' with rfl | rfl
        · exact (hS16.datX hO15).kd (KD.of k17)
        · refine .tup (k17 _ _ enm) (by rw [List.length_map]; omega) fun z hz => ?_
          obtain ⟨n', _, rfl⟩ := List.mem_map.mp hz
          exact .int
      walk_at "g"
      refine ⟨d, c, _, 41, tm1 * tm2, _, by rw [etm]; rfl, D17, by unfold MOSTD; omega, dth, by omega, by omega, fun H18 x D18 kx18 hx => ?_⟩
      have kx1318 : KX d H13 H18 := (KX.of (Same.trans k14 k15)).trans (kx16.trans ((KX.of k17).trans kx18))
      have hb18 : RwAt H18 b bs := kx1318.t _ _ hb13
      have hl18 : RwAt H18 ln ls := kx1318.t _ _ hl13
      have hB : 41 + tm1 * tm2 ≤ 1000 := by omega
      -- the same thing looked at by both, at prices u and v
      have look : ∀ {H' H'' : Hp} {u v : Int}, Same H18 H' → Same H' H'' → (LstV H'' bs ls u v x ↔ LstV H' bs ls u v x) := fun {H' H'' u v} a1 a2 => LstV.on (hx.kd (KD.of a1)) (KD.of a2)
      have last : ∀ {H'}, Same H18 H' → Deck H' d c (300 + 700 * (i + 1)) ∧ Kp [d] H4 H' := fun {H'} a => ⟨(D18.kp (M := []) (Kp.of a) (by simp) (by simp)).mono (by omega), k5.trans (k512.trans (kx13.p.trans (kx1318.p.trans (Kp.of a))))⟩
      refine w_name ?_
      dsimp only [List.set_cons_zero, List.set_cons_succ]
      have sm18 : Same H18 H18 := fun _ _ z => z
      refine w_seqJ (fun σ' H' => ∃ due : Bool, σ' = [some (.ref a0), some (.ref d), some (.ref st), some (.int (0 + (i : Int))), some (.int ((tm1 : Int) * (tm2 : Int))), some (.int (own : Int)), some (.int g), some (.ref b), some (.ref s2), some (.ref ln), some (.int (t : Int)), some (.int (p : Int)), some (.ref fl), some (.ref nm), some x, some (.bl due)] ∧ Same H18 H' ∧ (due = true → LstV H18 bs ls (t : Int) (p : Int) x) ∧ (due = false → ¬ LstV H18 bs ls (t : Int) (p : Int) x)) ?_ ?_
      rotate_left
      · intro U hU
        walk_at "g"
        refine ⟨b, ln, bs, ls, x, (t : Int), (p : Int), _, rfl, sm18 _ _ hb18, by omega, hbo, sm18 _ _ hl18, by omega, hlo, by omega, by omega, hx.kd (KD.of sm18), hB, fun hV Hn kn => ?_, fun hV Hn kn => ?_⟩
        · walk_at "g"
          exact hU _ _ ⟨true, rfl, Same.trans sm18 kn, fun _ => (look sm18 sm18).mp hV, fun z => nomatch z⟩
        · walk_at "g"
          exact hU _ _ ⟨false, rfl, Same.trans sm18 kn, (fun z => nomatch z), fun _ h => hV ((look sm18 sm18).mpr h)⟩
      rintro σ' Hd0 ⟨dv0, rfl, kd0, hd10, hd00⟩
      refine w_seqJ (fun σ' H' => ∃ due : Bool, σ' = [some (.ref a0), some (.ref d), some (.ref st), some (.int (0 + (i : Int))), some (.int ((tm1 : Int) * (tm2 : Int))), some (.int (own : Int)), some (.int g), some (.ref b), some (.ref s2), some (.ref ln), some (.int (t : Int)), some (.int (p : Int)), some (.ref fl), some (.ref nm), some x, some (.bl due)] ∧ Same H18 H') ?_ ?_
      rotate_left
      · intro U hU
        walk_at "g"
        refine ⟨rfl, rfl, b, ln, bs, ls, x, (t : Int), (p : Int), _, rfl, kd0 _ _ hb18, by omega, hbo, kd0 _ _ hl18, by omega, hlo, by omega, by omega, hx.kd (KD.of kd0), hB, fun hV Hn kn => ?_, fun hV Hn kn => ?_⟩
        · have ed : dv0 = true := by
            cases dv0 with
            | true => rfl
            | false => exact absurd ((look sm18 kd0).mp hV) (hd00 rfl)
          subst ed
          walk_at "g"
          refine ⟨_, _, rfl, ⟨rfl, trivial⟩, fun Hm km => ?_⟩
          walk_at "g"
          exact hU _ _ ⟨_, rfl, Same.trans kd0 (Same.trans kn km)⟩
        · have ed : dv0 = false := by
            cases dv0 with
            | false => rfl
            | true => exact absurd ((look sm18 kd0).mpr (hd10 rfl)) hV
          subst ed
          walk_at "g"
          refine ⟨_, _, rfl, ⟨rfl, trivial⟩, fun Hm km => ?_⟩
          walk_at "g"
          exact hU _ _ ⟨_, rfl, Same.trans kd0 (Same.trans kn km)⟩
      rintro σ' He0 ⟨du0, rfl, ke0⟩
      refine w_seqJ (fun σ' H' => ∃ due : Bool, σ' = [some (.ref a0), some (.ref d), some (.ref st), some (.int (0 + (i : Int))), some (.int ((tm1 : Int) * (tm2 : Int))), some (.int (own : Int)), some (.int g), some (.ref b), some (.ref s2), some (.ref ln), some (.int (t : Int)), some (.int (p : Int)), some (.ref fl), some (.ref nm), some x, some (.bl due)] ∧ Same H18 H' ∧ (due = true → LstV H18 bs ls 3 2 x) ∧ (due = false → ¬ LstV H18 bs ls 3 2 x)) ?_ ?_
      rotate_left
      · intro U hU
        walk_at "g"
        refine ⟨b, ln, bs, ls, x, 3, 2, _, rfl, ke0 _ _ hb18, by omega, hbo, ke0 _ _ hl18, by omega, hlo, by omega, by omega, hx.kd (KD.of ke0), hB, fun hV Hn kn => ?_, fun hV Hn kn => ?_⟩
        · walk_at "g"
          exact hU _ _ ⟨true, rfl, Same.trans ke0 kn, fun _ => (look sm18 ke0).mp hV, fun z => nomatch z⟩
        · walk_at "g"
          exact hU _ _ ⟨false, rfl, Same.trans ke0 kn, (fun z => nomatch z), fun _ h => hV ((look sm18 ke0).mpr h)⟩
      rintro σ' Hd1 ⟨dv1, rfl, kd1, hd11, hd01⟩
      refine w_seqJ (fun σ' H' => ∃ due : Bool, σ' = [some (.ref a0), some (.ref d), some (.ref st), some (.int (0 + (i : Int))), some (.int ((tm1 : Int) * (tm2 : Int))), some (.int (own : Int)), some (.int g), some (.ref b), some (.ref s2), some (.ref ln), some (.int (t : Int)), some (.int (p : Int)), some (.ref fl), some (.ref nm), some x, some (.bl due)] ∧ Same H18 H') ?_ ?_
      rotate_left
      · intro U hU
        walk_at "g"
        refine ⟨b, ln, bs, ls, x, 3, 2, _, rfl, kd1 _ _ hb18, by omega, hbo, kd1 _ _ hl18, by omega, hlo, by omega, by omega, hx.kd (KD.of kd1), hB, fun hV Hn kn => ?_, fun hV Hn kn => ?_⟩
        · have ed : dv1 = true := by
            cases dv1 with
            | true => rfl
            | false => exact absurd ((look sm18 kd1).mp hV) (hd01 rfl)
          subst ed
          walk_at "g"
          refine ⟨_, _, rfl, ⟨rfl, trivial⟩, fun Hm km => ?_⟩
          walk_at "g"
          exact hU _ _ ⟨_, rfl, Same.trans kd1 (Same.trans kn km)⟩
        · have ed : dv1 = false := by
            cases dv1 with
            | false => rfl
            | true => exact absurd ((look sm18 kd1).mpr (hd11 rfl)) hV
          subst ed
          walk_at "g"
          refine ⟨_, _, rfl, ⟨rfl, trivial⟩, fun Hm km => ?_⟩
          walk_at "g"
          exact hU _ _ ⟨_, rfl, Same.trans kd1 (Same.trans kn km)⟩
      rintro σ' He1 ⟨du1, rfl, ke1⟩
      refine w_seqJ (fun σ' H' => ∃ due : Bool, σ' = [some (.ref a0), some (.ref d), some (.ref st), some (.int (0 + (i : Int))), some (.int ((tm1 : Int) * (tm2 : Int))), some (.int (own : Int)), some (.int g), some (.ref b), some (.ref s2), some (.ref ln), some (.int (t : Int)), some (.int (p : Int)), some (.ref fl), some (.ref nm), some x, some (.bl due)] ∧ Same H18 H' ∧ (due = true → LstV H18 bs ls (t : Int) 2 x) ∧ (due = false → ¬ LstV H18 bs ls (t : Int) 2 x)) ?_ ?_
      rotate_left
      · intro U hU
        walk_at "g"
        refine ⟨b, ln, bs, ls, x, (t : Int), 2, _, rfl, ke1 _ _ hb18, by omega, hbo, ke1 _ _ hl18, by omega, hlo, by omega, by omega, hx.kd (KD.of ke1), hB, fun hV Hn kn => ?_, fun hV Hn kn => ?_⟩
        · walk_at "g"
          exact hU _ _ ⟨true, rfl, Same.trans ke1 kn, fun _ => (look sm18 ke1).mp hV, fun z => nomatch z⟩
        · walk_at "g"
          exact hU _ _ ⟨false, rfl, Same.trans ke1 kn, (fun z => nomatch z), fun _ h => hV ((look sm18 ke1).mpr h)⟩
      rintro σ' Hd2 ⟨dv2, rfl, kd2, hd12, hd02⟩
      walk_at "g"
      refine ⟨rfl, rfl, b, ln, bs, ls, x, (t : Int), 2, _, rfl, kd2 _ _ hb18, by omega, hbo, kd2 _ _ hl18, by omega, hlo, by omega, by omega, hx.kd (KD.of kd2), hB, fun hV Hn kn => ?_, fun hV Hn kn => ?_⟩
      · have ed : dv2 = true := by
          cases dv2 with
          | true => rfl
          | false => exact absurd ((look sm18 kd2).mp hV) (hd02 rfl)
        subst ed
        walk_at "g"
        refine ⟨_, _, rfl, ⟨rfl, trivial⟩, fun Hm km => ?_⟩
        walk_at "g"
        exact ⟨_, _, _, _, _, _, _, _, _, _, _, _, _, rfl, last (Same.trans kd2 (Same.trans kn km))⟩
      · have ed : dv2 = false := by
          cases dv2 with
          | false => rfl
          | true => exact absurd ((look sm18 kd2).mpr (hd12 rfl)) hV
        subst ed
        walk_at "g"
        refine ⟨_, _, rfl, ⟨rfl, trivial⟩, fun Hm km => ?_⟩
        walk_at "g"
        exact ⟨_, _, _, _, _, _, _, _, _, _, _, _, _, rfl, last (Same.trans kd2 (Same.trans kn km))⟩

    · rintro σ H5 ⟨y3, y4, y5, y6, y7, y8, y9, y10, y11, y12, y13, y14, y15, rfl, D5, k5⟩
      walk_at "g"
      exact q _
end
theorem all_mk {l : PySem.W.OpenLaw} {w : World} {K : PySem.W.Frag} {h : Heap} {mg : Str → Option Value} {fa f_is_int f_is_text f_is_pair f_made_by f_is_script f_done f_price f_longest_takes f_right_least f_makes_rows f_law_deck f_law_mixed f_law_draw f_law_text f_law_int f_law_same f_law_stock f_law_lines f_law_script f_law_made f_law_cost f_law_is_line f_law_size f_law_is_script f_law_fits f_law_odd f_law_bent f_law_spoiled f_law_stands f_law_firsts f_law_is_least f_law_least_script f_law_numbers f_law : Addr} (X : K.In h) (G : h.Ns mainGlobals mg) (hfa : mg "law" = some (.ref fa))
    {od_is_int an_is_int : Option Addr} {sl_is_int : Array (Option Value)} {oc_is_int kV_is_int dc_is_int pm_is_int cd_is_int ct_is_int : Value}
    (a_is_int : PySem.W.nsIn K mainGlobals "is_int" = some (some (.ref f_is_int)))
    {dt_is_int : Addr} {do_is_int : Value} {dd_is_int : Option Addr} {dn_is_int : Nat} {ds_is_int : Array (Option Value)} {dk_is_int_least : Tok}
    (l_is_int : K.lookup f_is_int = some ⟨oc_is_int, od_is_int, .func (PySem.W.fnOf "is_int" "is_int" (defArgs s_is_int) (defBody s_is_int) (defScope s_is_int) (.ref dt_is_int) kV_is_int dc_is_int pm_is_int an_is_int cd_is_int ct_is_int), sl_is_int⟩) (c_is_int : PySem.W.codeIn K cd_is_int "is_int" = true) (k_is_int : PySem.W.keepIn K (.ref f_is_int) = true)
    (dl_is_int : K.lookup dt_is_int = some ⟨do_is_int, dd_is_int, .seq #[.int 0 dk_is_int_least] dn_is_int, ds_is_int⟩)
    {od_is_text an_is_text : Option Addr} {sl_is_text : Array (Option Value)} {oc_is_text kV_is_text dc_is_text pm_is_text cd_is_text ct_is_text : Value}
    (a_is_text : PySem.W.nsIn K mainGlobals "is_text" = some (some (.ref f_is_text)))
    {dt_is_text : Addr} {do_is_text : Value} {dd_is_text : Option Addr} {dn_is_text : Nat} {ds_is_text : Array (Option Value)} {dk_is_text_most : Tok}
    (l_is_text : K.lookup f_is_text = some ⟨oc_is_text, od_is_text, .func (PySem.W.fnOf "is_text" "is_text" (defArgs s_is_text) (defBody s_is_text) (defScope s_is_text) (.ref dt_is_text) kV_is_text dc_is_text pm_is_text an_is_text cd_is_text ct_is_text), sl_is_text⟩) (c_is_text : PySem.W.codeIn K cd_is_text "is_text" = true) (k_is_text : PySem.W.keepIn K (.ref f_is_text) = true)
    (dl_is_text : K.lookup dt_is_text = some ⟨do_is_text, dd_is_text, .seq #[.int 40 dk_is_text_most] dn_is_text, ds_is_text⟩)
    {od_is_pair an_is_pair : Option Addr} {sl_is_pair : Array (Option Value)} {oc_is_pair kV_is_pair dc_is_pair pm_is_pair cd_is_pair ct_is_pair : Value}
    (a_is_pair : PySem.W.nsIn K mainGlobals "is_pair" = some (some (.ref f_is_pair)))
    (l_is_pair : K.lookup f_is_pair = some ⟨oc_is_pair, od_is_pair, .func (PySem.W.fnOf "is_pair" "is_pair" (defArgs s_is_pair) (defBody s_is_pair) (defScope s_is_pair) .none kV_is_pair dc_is_pair pm_is_pair an_is_pair cd_is_pair ct_is_pair), sl_is_pair⟩) (c_is_pair : PySem.W.codeIn K cd_is_pair "is_pair" = true) (k_is_pair : PySem.W.keepIn K (.ref f_is_pair) = true)
    {od_made_by an_made_by : Option Addr} {sl_made_by : Array (Option Value)} {oc_made_by kV_made_by dc_made_by pm_made_by cd_made_by ct_made_by : Value}
    (a_made_by : PySem.W.nsIn K mainGlobals "made_by" = some (some (.ref f_made_by)))
    (l_made_by : K.lookup f_made_by = some ⟨oc_made_by, od_made_by, .func (PySem.W.fnOf "made_by" "made_by" (defArgs s_made_by) (defBody s_made_by) (defScope s_made_by) .none kV_made_by dc_made_by pm_made_by an_made_by cd_made_by ct_made_by), sl_made_by⟩) (c_made_by : PySem.W.codeIn K cd_made_by "made_by" = true) (k_made_by : PySem.W.keepIn K (.ref f_made_by) = true)
    {od_is_script an_is_script : Option Addr} {sl_is_script : Array (Option Value)} {oc_is_script kV_is_script dc_is_script pm_is_script cd_is_script ct_is_script : Value}
    (a_is_script : PySem.W.nsIn K mainGlobals "is_script" = some (some (.ref f_is_script)))
    (l_is_script : K.lookup f_is_script = some ⟨oc_is_script, od_is_script, .func (PySem.W.fnOf "is_script" "is_script" (defArgs s_is_script) (defBody s_is_script) (defScope s_is_script) .none kV_is_script dc_is_script pm_is_script an_is_script cd_is_script ct_is_script), sl_is_script⟩) (c_is_script : PySem.W.codeIn K cd_is_script "is_script" = true) (k_is_script : PySem.W.keepIn K (.ref f_is_script) = true)
    {od_done an_done : Option Addr} {sl_done : Array (Option Value)} {oc_done kV_done dc_done pm_done cd_done ct_done : Value}
    (a_done : PySem.W.nsIn K mainGlobals "done" = some (some (.ref f_done)))
    (l_done : K.lookup f_done = some ⟨oc_done, od_done, .func (PySem.W.fnOf "done" "done" (defArgs s_done) (defBody s_done) (defScope s_done) .none kV_done dc_done pm_done an_done cd_done ct_done), sl_done⟩) (c_done : PySem.W.codeIn K cd_done "done" = true) (k_done : PySem.W.keepIn K (.ref f_done) = true)
    {od_price an_price : Option Addr} {sl_price : Array (Option Value)} {oc_price  dc_price pm_price cd_price ct_price : Value} {kd_price : Addr}
    (a_price : PySem.W.nsIn K mainGlobals "price" = some (some (.ref f_price)))
    (l_price : K.lookup f_price = some ⟨oc_price, od_price, .func (PySem.W.fnOf "price" "price" (defArgs s_price) (defBody s_price) (defScope s_price) .none (.ref kd_price) dc_price pm_price an_price cd_price ct_price), sl_price⟩) (c_price : PySem.W.codeIn K cd_price "price" = true) (k_price : PySem.W.keepIn K (.ref f_price) = true)
    {tk_price_take : Tok} (kw_price_take : PySem.W.nsIn K kd_price "take" = some (some (.int 3 tk_price_take)))
    {tk_price_put : Tok} (kw_price_put : PySem.W.nsIn K kd_price "put" = some (some (.int 2 tk_price_put)))
    {od_longest_takes an_longest_takes : Option Addr} {sl_longest_takes : Array (Option Value)} {oc_longest_takes kV_longest_takes dc_longest_takes pm_longest_takes cd_longest_takes ct_longest_takes : Value}
    (a_longest_takes : PySem.W.nsIn K mainGlobals "longest_takes" = some (some (.ref f_longest_takes)))
    (l_longest_takes : K.lookup f_longest_takes = some ⟨oc_longest_takes, od_longest_takes, .func (PySem.W.fnOf "longest_takes" "longest_takes" (defArgs s_longest_takes) (defBody s_longest_takes) (defScope s_longest_takes) .none kV_longest_takes dc_longest_takes pm_longest_takes an_longest_takes cd_longest_takes ct_longest_takes), sl_longest_takes⟩) (c_longest_takes : PySem.W.codeIn K cd_longest_takes "longest_takes" = true) (k_longest_takes : PySem.W.keepIn K (.ref f_longest_takes) = true)
    {od_right_least an_right_least : Option Addr} {sl_right_least : Array (Option Value)} {oc_right_least  dc_right_least pm_right_least cd_right_least ct_right_least : Value} {kd_right_least : Addr}
    (a_right_least : PySem.W.nsIn K mainGlobals "right_least" = some (some (.ref f_right_least)))
    (l_right_least : K.lookup f_right_least = some ⟨oc_right_least, od_right_least, .func (PySem.W.fnOf "right_least" "right_least" (defArgs s_right_least) (defBody s_right_least) (defScope s_right_least) .none (.ref kd_right_least) dc_right_least pm_right_least an_right_least cd_right_least ct_right_least), sl_right_least⟩) (c_right_least : PySem.W.codeIn K cd_right_least "right_least" = true) (k_right_least : PySem.W.keepIn K (.ref f_right_least) = true)
    {tk_right_least_take : Tok} (kw_right_least_take : PySem.W.nsIn K kd_right_least "take" = some (some (.int 3 tk_right_least_take)))
    {tk_right_least_put : Tok} (kw_right_least_put : PySem.W.nsIn K kd_right_least "put" = some (some (.int 2 tk_right_least_put)))
    {od_makes_rows an_makes_rows : Option Addr} {sl_makes_rows : Array (Option Value)} {oc_makes_rows kV_makes_rows dc_makes_rows pm_makes_rows cd_makes_rows ct_makes_rows : Value}
    (a_makes_rows : PySem.W.nsIn K mainGlobals "makes_rows" = some (some (.ref f_makes_rows)))
    (l_makes_rows : K.lookup f_makes_rows = some ⟨oc_makes_rows, od_makes_rows, .func (PySem.W.fnOf "makes_rows" "makes_rows" (defArgs s_makes_rows) (defBody s_makes_rows) (defScope s_makes_rows) .none kV_makes_rows dc_makes_rows pm_makes_rows an_makes_rows cd_makes_rows ct_makes_rows), sl_makes_rows⟩) (c_makes_rows : PySem.W.codeIn K cd_makes_rows "makes_rows" = true) (k_makes_rows : PySem.W.keepIn K (.ref f_makes_rows) = true)
    {od_law_deck an_law_deck : Option Addr} {sl_law_deck : Array (Option Value)} {oc_law_deck kV_law_deck dc_law_deck pm_law_deck cd_law_deck ct_law_deck : Value}
    (a_law_deck : PySem.W.nsIn K mainGlobals "_law_deck" = some (some (.ref f_law_deck)))
    (l_law_deck : K.lookup f_law_deck = some ⟨oc_law_deck, od_law_deck, .func (PySem.W.fnOf "_law_deck" "_law_deck" (defArgs s_law_deck) (defBody s_law_deck) (defScope s_law_deck) .none kV_law_deck dc_law_deck pm_law_deck an_law_deck cd_law_deck ct_law_deck), sl_law_deck⟩) (c_law_deck : PySem.W.codeIn K cd_law_deck "_law_deck" = true) (k_law_deck : PySem.W.keepIn K (.ref f_law_deck) = true)
    {od_law_mixed an_law_mixed : Option Addr} {sl_law_mixed : Array (Option Value)} {oc_law_mixed kV_law_mixed dc_law_mixed pm_law_mixed cd_law_mixed ct_law_mixed : Value}
    (a_law_mixed : PySem.W.nsIn K mainGlobals "_law_mixed" = some (some (.ref f_law_mixed)))
    (l_law_mixed : K.lookup f_law_mixed = some ⟨oc_law_mixed, od_law_mixed, .func (PySem.W.fnOf "_law_mixed" "_law_mixed" (defArgs s_law_mixed) (defBody s_law_mixed) (defScope s_law_mixed) .none kV_law_mixed dc_law_mixed pm_law_mixed an_law_mixed cd_law_mixed ct_law_mixed), sl_law_mixed⟩) (c_law_mixed : PySem.W.codeIn K cd_law_mixed "_law_mixed" = true) (k_law_mixed : PySem.W.keepIn K (.ref f_law_mixed) = true)
    {od_law_draw an_law_draw : Option Addr} {sl_law_draw : Array (Option Value)} {oc_law_draw kV_law_draw dc_law_draw pm_law_draw cd_law_draw ct_law_draw : Value}
    (a_law_draw : PySem.W.nsIn K mainGlobals "_law_draw" = some (some (.ref f_law_draw)))
    (l_law_draw : K.lookup f_law_draw = some ⟨oc_law_draw, od_law_draw, .func (PySem.W.fnOf "_law_draw" "_law_draw" (defArgs s_law_draw) (defBody s_law_draw) (defScope s_law_draw) .none kV_law_draw dc_law_draw pm_law_draw an_law_draw cd_law_draw ct_law_draw), sl_law_draw⟩) (c_law_draw : PySem.W.codeIn K cd_law_draw "_law_draw" = true) (k_law_draw : PySem.W.keepIn K (.ref f_law_draw) = true)
    {od_law_text an_law_text : Option Addr} {sl_law_text : Array (Option Value)} {oc_law_text kV_law_text dc_law_text pm_law_text cd_law_text ct_law_text : Value}
    (a_law_text : PySem.W.nsIn K mainGlobals "_law_text" = some (some (.ref f_law_text)))
    (l_law_text : K.lookup f_law_text = some ⟨oc_law_text, od_law_text, .func (PySem.W.fnOf "_law_text" "_law_text" (defArgs s_law_text) (defBody s_law_text) (defScope s_law_text) .none kV_law_text dc_law_text pm_law_text an_law_text cd_law_text ct_law_text), sl_law_text⟩) (c_law_text : PySem.W.codeIn K cd_law_text "_law_text" = true) (k_law_text : PySem.W.keepIn K (.ref f_law_text) = true)
    {od_law_int an_law_int : Option Addr} {sl_law_int : Array (Option Value)} {oc_law_int kV_law_int dc_law_int pm_law_int cd_law_int ct_law_int : Value}
    (a_law_int : PySem.W.nsIn K mainGlobals "_law_int" = some (some (.ref f_law_int)))
    (l_law_int : K.lookup f_law_int = some ⟨oc_law_int, od_law_int, .func (PySem.W.fnOf "_law_int" "_law_int" (defArgs s_law_int) (defBody s_law_int) (defScope s_law_int) .none kV_law_int dc_law_int pm_law_int an_law_int cd_law_int ct_law_int), sl_law_int⟩) (c_law_int : PySem.W.codeIn K cd_law_int "_law_int" = true) (k_law_int : PySem.W.keepIn K (.ref f_law_int) = true)
    {od_law_same an_law_same : Option Addr} {sl_law_same : Array (Option Value)} {oc_law_same kV_law_same dc_law_same pm_law_same cd_law_same ct_law_same : Value}
    (a_law_same : PySem.W.nsIn K mainGlobals "_law_same" = some (some (.ref f_law_same)))
    (l_law_same : K.lookup f_law_same = some ⟨oc_law_same, od_law_same, .func (PySem.W.fnOf "_law_same" "_law_same" (defArgs s_law_same) (defBody s_law_same) (defScope s_law_same) .none kV_law_same dc_law_same pm_law_same an_law_same cd_law_same ct_law_same), sl_law_same⟩) (c_law_same : PySem.W.codeIn K cd_law_same "_law_same" = true) (k_law_same : PySem.W.keepIn K (.ref f_law_same) = true)
    {od_law_stock an_law_stock : Option Addr} {sl_law_stock : Array (Option Value)} {oc_law_stock kV_law_stock dc_law_stock pm_law_stock cd_law_stock ct_law_stock : Value}
    (a_law_stock : PySem.W.nsIn K mainGlobals "_law_stock" = some (some (.ref f_law_stock)))
    (l_law_stock : K.lookup f_law_stock = some ⟨oc_law_stock, od_law_stock, .func (PySem.W.fnOf "_law_stock" "_law_stock" (defArgs s_law_stock) (defBody s_law_stock) (defScope s_law_stock) .none kV_law_stock dc_law_stock pm_law_stock an_law_stock cd_law_stock ct_law_stock), sl_law_stock⟩) (c_law_stock : PySem.W.codeIn K cd_law_stock "_law_stock" = true) (k_law_stock : PySem.W.keepIn K (.ref f_law_stock) = true)
    {od_law_lines an_law_lines : Option Addr} {sl_law_lines : Array (Option Value)} {oc_law_lines kV_law_lines dc_law_lines pm_law_lines cd_law_lines ct_law_lines : Value}
    (a_law_lines : PySem.W.nsIn K mainGlobals "_law_lines" = some (some (.ref f_law_lines)))
    (l_law_lines : K.lookup f_law_lines = some ⟨oc_law_lines, od_law_lines, .func (PySem.W.fnOf "_law_lines" "_law_lines" (defArgs s_law_lines) (defBody s_law_lines) (defScope s_law_lines) .none kV_law_lines dc_law_lines pm_law_lines an_law_lines cd_law_lines ct_law_lines), sl_law_lines⟩) (c_law_lines : PySem.W.codeIn K cd_law_lines "_law_lines" = true) (k_law_lines : PySem.W.keepIn K (.ref f_law_lines) = true)
    {od_law_script an_law_script : Option Addr} {sl_law_script : Array (Option Value)} {oc_law_script kV_law_script dc_law_script pm_law_script cd_law_script ct_law_script : Value}
    (a_law_script : PySem.W.nsIn K mainGlobals "_law_script" = some (some (.ref f_law_script)))
    (l_law_script : K.lookup f_law_script = some ⟨oc_law_script, od_law_script, .func (PySem.W.fnOf "_law_script" "_law_script" (defArgs s_law_script) (defBody s_law_script) (defScope s_law_script) .none kV_law_script dc_law_script pm_law_script an_law_script cd_law_script ct_law_script), sl_law_script⟩) (c_law_script : PySem.W.codeIn K cd_law_script "_law_script" = true) (k_law_script : PySem.W.keepIn K (.ref f_law_script) = true)
    {od_law_made an_law_made : Option Addr} {sl_law_made : Array (Option Value)} {oc_law_made kV_law_made dc_law_made pm_law_made cd_law_made ct_law_made : Value}
    (a_law_made : PySem.W.nsIn K mainGlobals "_law_made" = some (some (.ref f_law_made)))
    (l_law_made : K.lookup f_law_made = some ⟨oc_law_made, od_law_made, .func (PySem.W.fnOf "_law_made" "_law_made" (defArgs s_law_made) (defBody s_law_made) (defScope s_law_made) .none kV_law_made dc_law_made pm_law_made an_law_made cd_law_made ct_law_made), sl_law_made⟩) (c_law_made : PySem.W.codeIn K cd_law_made "_law_made" = true) (k_law_made : PySem.W.keepIn K (.ref f_law_made) = true)
    {od_law_cost an_law_cost : Option Addr} {sl_law_cost : Array (Option Value)} {oc_law_cost kV_law_cost dc_law_cost pm_law_cost cd_law_cost ct_law_cost : Value}
    (a_law_cost : PySem.W.nsIn K mainGlobals "_law_cost" = some (some (.ref f_law_cost)))
    (l_law_cost : K.lookup f_law_cost = some ⟨oc_law_cost, od_law_cost, .func (PySem.W.fnOf "_law_cost" "_law_cost" (defArgs s_law_cost) (defBody s_law_cost) (defScope s_law_cost) .none kV_law_cost dc_law_cost pm_law_cost an_law_cost cd_law_cost ct_law_cost), sl_law_cost⟩) (c_law_cost : PySem.W.codeIn K cd_law_cost "_law_cost" = true) (k_law_cost : PySem.W.keepIn K (.ref f_law_cost) = true)
    {od_law_is_line an_law_is_line : Option Addr} {sl_law_is_line : Array (Option Value)} {oc_law_is_line kV_law_is_line dc_law_is_line pm_law_is_line cd_law_is_line ct_law_is_line : Value}
    (a_law_is_line : PySem.W.nsIn K mainGlobals "_law_is_line" = some (some (.ref f_law_is_line)))
    (l_law_is_line : K.lookup f_law_is_line = some ⟨oc_law_is_line, od_law_is_line, .func (PySem.W.fnOf "_law_is_line" "_law_is_line" (defArgs s_law_is_line) (defBody s_law_is_line) (defScope s_law_is_line) .none kV_law_is_line dc_law_is_line pm_law_is_line an_law_is_line cd_law_is_line ct_law_is_line), sl_law_is_line⟩) (c_law_is_line : PySem.W.codeIn K cd_law_is_line "_law_is_line" = true) (k_law_is_line : PySem.W.keepIn K (.ref f_law_is_line) = true)
    {od_law_size an_law_size : Option Addr} {sl_law_size : Array (Option Value)} {oc_law_size kV_law_size dc_law_size pm_law_size cd_law_size ct_law_size : Value}
    (a_law_size : PySem.W.nsIn K mainGlobals "_law_size" = some (some (.ref f_law_size)))
    (l_law_size : K.lookup f_law_size = some ⟨oc_law_size, od_law_size, .func (PySem.W.fnOf "_law_size" "_law_size" (defArgs s_law_size) (defBody s_law_size) (defScope s_law_size) .none kV_law_size dc_law_size pm_law_size an_law_size cd_law_size ct_law_size), sl_law_size⟩) (c_law_size : PySem.W.codeIn K cd_law_size "_law_size" = true) (k_law_size : PySem.W.keepIn K (.ref f_law_size) = true)
    {od_law_is_script an_law_is_script : Option Addr} {sl_law_is_script : Array (Option Value)} {oc_law_is_script kV_law_is_script dc_law_is_script pm_law_is_script cd_law_is_script ct_law_is_script : Value}
    (a_law_is_script : PySem.W.nsIn K mainGlobals "_law_is_script" = some (some (.ref f_law_is_script)))
    (l_law_is_script : K.lookup f_law_is_script = some ⟨oc_law_is_script, od_law_is_script, .func (PySem.W.fnOf "_law_is_script" "_law_is_script" (defArgs s_law_is_script) (defBody s_law_is_script) (defScope s_law_is_script) .none kV_law_is_script dc_law_is_script pm_law_is_script an_law_is_script cd_law_is_script ct_law_is_script), sl_law_is_script⟩) (c_law_is_script : PySem.W.codeIn K cd_law_is_script "_law_is_script" = true) (k_law_is_script : PySem.W.keepIn K (.ref f_law_is_script) = true)
    {od_law_fits an_law_fits : Option Addr} {sl_law_fits : Array (Option Value)} {oc_law_fits kV_law_fits dc_law_fits pm_law_fits cd_law_fits ct_law_fits : Value}
    (a_law_fits : PySem.W.nsIn K mainGlobals "_law_fits" = some (some (.ref f_law_fits)))
    (l_law_fits : K.lookup f_law_fits = some ⟨oc_law_fits, od_law_fits, .func (PySem.W.fnOf "_law_fits" "_law_fits" (defArgs s_law_fits) (defBody s_law_fits) (defScope s_law_fits) .none kV_law_fits dc_law_fits pm_law_fits an_law_fits cd_law_fits ct_law_fits), sl_law_fits⟩) (c_law_fits : PySem.W.codeIn K cd_law_fits "_law_fits" = true) (k_law_fits : PySem.W.keepIn K (.ref f_law_fits) = true)
    {od_law_odd an_law_odd : Option Addr} {sl_law_odd : Array (Option Value)} {oc_law_odd kV_law_odd dc_law_odd pm_law_odd cd_law_odd ct_law_odd : Value}
    (a_law_odd : PySem.W.nsIn K mainGlobals "_law_odd" = some (some (.ref f_law_odd)))
    (l_law_odd : K.lookup f_law_odd = some ⟨oc_law_odd, od_law_odd, .func (PySem.W.fnOf "_law_odd" "_law_odd" (defArgs s_law_odd) (defBody s_law_odd) (defScope s_law_odd) .none kV_law_odd dc_law_odd pm_law_odd an_law_odd cd_law_odd ct_law_odd), sl_law_odd⟩) (c_law_odd : PySem.W.codeIn K cd_law_odd "_law_odd" = true) (k_law_odd : PySem.W.keepIn K (.ref f_law_odd) = true)
    {od_law_bent an_law_bent : Option Addr} {sl_law_bent : Array (Option Value)} {oc_law_bent kV_law_bent dc_law_bent pm_law_bent cd_law_bent ct_law_bent : Value}
    (a_law_bent : PySem.W.nsIn K mainGlobals "_law_bent" = some (some (.ref f_law_bent)))
    (l_law_bent : K.lookup f_law_bent = some ⟨oc_law_bent, od_law_bent, .func (PySem.W.fnOf "_law_bent" "_law_bent" (defArgs s_law_bent) (defBody s_law_bent) (defScope s_law_bent) .none kV_law_bent dc_law_bent pm_law_bent an_law_bent cd_law_bent ct_law_bent), sl_law_bent⟩) (c_law_bent : PySem.W.codeIn K cd_law_bent "_law_bent" = true) (k_law_bent : PySem.W.keepIn K (.ref f_law_bent) = true)
    {od_law_spoiled an_law_spoiled : Option Addr} {sl_law_spoiled : Array (Option Value)} {oc_law_spoiled kV_law_spoiled dc_law_spoiled pm_law_spoiled cd_law_spoiled ct_law_spoiled : Value}
    (a_law_spoiled : PySem.W.nsIn K mainGlobals "_law_spoiled" = some (some (.ref f_law_spoiled)))
    (l_law_spoiled : K.lookup f_law_spoiled = some ⟨oc_law_spoiled, od_law_spoiled, .func (PySem.W.fnOf "_law_spoiled" "_law_spoiled" (defArgs s_law_spoiled) (defBody s_law_spoiled) (defScope s_law_spoiled) .none kV_law_spoiled dc_law_spoiled pm_law_spoiled an_law_spoiled cd_law_spoiled ct_law_spoiled), sl_law_spoiled⟩) (c_law_spoiled : PySem.W.codeIn K cd_law_spoiled "_law_spoiled" = true) (k_law_spoiled : PySem.W.keepIn K (.ref f_law_spoiled) = true)
    {od_law_stands an_law_stands : Option Addr} {sl_law_stands : Array (Option Value)} {oc_law_stands kV_law_stands dc_law_stands pm_law_stands cd_law_stands ct_law_stands : Value}
    (a_law_stands : PySem.W.nsIn K mainGlobals "_law_stands" = some (some (.ref f_law_stands)))
    (l_law_stands : K.lookup f_law_stands = some ⟨oc_law_stands, od_law_stands, .func (PySem.W.fnOf "_law_stands" "_law_stands" (defArgs s_law_stands) (defBody s_law_stands) (defScope s_law_stands) .none kV_law_stands dc_law_stands pm_law_stands an_law_stands cd_law_stands ct_law_stands), sl_law_stands⟩) (c_law_stands : PySem.W.codeIn K cd_law_stands "_law_stands" = true) (k_law_stands : PySem.W.keepIn K (.ref f_law_stands) = true)
    {od_law_firsts an_law_firsts : Option Addr} {sl_law_firsts : Array (Option Value)} {oc_law_firsts kV_law_firsts dc_law_firsts pm_law_firsts cd_law_firsts ct_law_firsts : Value}
    (a_law_firsts : PySem.W.nsIn K mainGlobals "_law_firsts" = some (some (.ref f_law_firsts)))
    (l_law_firsts : K.lookup f_law_firsts = some ⟨oc_law_firsts, od_law_firsts, .func (PySem.W.fnOf "_law_firsts" "_law_firsts" (defArgs s_law_firsts) (defBody s_law_firsts) (defScope s_law_firsts) .none kV_law_firsts dc_law_firsts pm_law_firsts an_law_firsts cd_law_firsts ct_law_firsts), sl_law_firsts⟩) (c_law_firsts : PySem.W.codeIn K cd_law_firsts "_law_firsts" = true) (k_law_firsts : PySem.W.keepIn K (.ref f_law_firsts) = true)
    {od_law_is_least an_law_is_least : Option Addr} {sl_law_is_least : Array (Option Value)} {oc_law_is_least kV_law_is_least dc_law_is_least pm_law_is_least cd_law_is_least ct_law_is_least : Value}
    (a_law_is_least : PySem.W.nsIn K mainGlobals "_law_is_least" = some (some (.ref f_law_is_least)))
    (l_law_is_least : K.lookup f_law_is_least = some ⟨oc_law_is_least, od_law_is_least, .func (PySem.W.fnOf "_law_is_least" "_law_is_least" (defArgs s_law_is_least) (defBody s_law_is_least) (defScope s_law_is_least) .none kV_law_is_least dc_law_is_least pm_law_is_least an_law_is_least cd_law_is_least ct_law_is_least), sl_law_is_least⟩) (c_law_is_least : PySem.W.codeIn K cd_law_is_least "_law_is_least" = true) (k_law_is_least : PySem.W.keepIn K (.ref f_law_is_least) = true)
    {od_law_least_script an_law_least_script : Option Addr} {sl_law_least_script : Array (Option Value)} {oc_law_least_script kV_law_least_script dc_law_least_script pm_law_least_script cd_law_least_script ct_law_least_script : Value}
    (a_law_least_script : PySem.W.nsIn K mainGlobals "_law_least_script" = some (some (.ref f_law_least_script)))
    (l_law_least_script : K.lookup f_law_least_script = some ⟨oc_law_least_script, od_law_least_script, .func (PySem.W.fnOf "_law_least_script" "_law_least_script" (defArgs s_law_least_script) (defBody s_law_least_script) (defScope s_law_least_script) .none kV_law_least_script dc_law_least_script pm_law_least_script an_law_least_script cd_law_least_script ct_law_least_script), sl_law_least_script⟩) (c_law_least_script : PySem.W.codeIn K cd_law_least_script "_law_least_script" = true) (k_law_least_script : PySem.W.keepIn K (.ref f_law_least_script) = true)
    {od_law_numbers an_law_numbers : Option Addr} {sl_law_numbers : Array (Option Value)} {oc_law_numbers kV_law_numbers dc_law_numbers pm_law_numbers cd_law_numbers ct_law_numbers : Value}
    (a_law_numbers : PySem.W.nsIn K mainGlobals "_law_numbers" = some (some (.ref f_law_numbers)))
    (l_law_numbers : K.lookup f_law_numbers = some ⟨oc_law_numbers, od_law_numbers, .func (PySem.W.fnOf "_law_numbers" "_law_numbers" (defArgs s_law_numbers) (defBody s_law_numbers) (defScope s_law_numbers) .none kV_law_numbers dc_law_numbers pm_law_numbers an_law_numbers cd_law_numbers ct_law_numbers), sl_law_numbers⟩) (c_law_numbers : PySem.W.codeIn K cd_law_numbers "_law_numbers" = true) (k_law_numbers : PySem.W.keepIn K (.ref f_law_numbers) = true)
    {od_law an_law : Option Addr} {sl_law : Array (Option Value)} {oc_law kV_law dc_law pm_law cd_law ct_law : Value}
    (a_law : PySem.W.nsIn K mainGlobals "law" = some (some (.ref f_law)))
    (l_law : K.lookup f_law = some ⟨oc_law, od_law, .func (PySem.W.fnOf "law" "law" (defArgs s_law) (defBody s_law) (defScope s_law) .none kV_law dc_law pm_law an_law cd_law ct_law), sl_law⟩) (c_law : PySem.W.codeIn K cd_law "law" = true) (k_law : PySem.W.keepIn K (.ref f_law) = true)
    (z_len : PySem.W.nsIn K mainGlobals "len" = some none)
    (z_list : PySem.W.nsIn K mainGlobals "list" = some none)
    (z_isinstance : PySem.W.nsIn K mainGlobals "isinstance" = some none)
    (z_int : PySem.W.nsIn K mainGlobals "int" = some none)
    (z_bool : PySem.W.nsIn K mainGlobals "bool" = some none)
    (z_str : PySem.W.nsIn K mainGlobals "str" = some none)
    (z_tuple : PySem.W.nsIn K mainGlobals "tuple" = some none)
    (z_dict : PySem.W.nsIn K mainGlobals "dict" = some none)
    (z_range : PySem.W.nsIn K mainGlobals "range" = some none)
    (z_all : PySem.W.nsIn K mainGlobals "all" = some none)
    (z_min : PySem.W.nsIn K mainGlobals "min" = some none)
    (z_max : PySem.W.nsIn K mainGlobals "max" = some none)
    {t_SIGNS : Tok} (y_SIGNS : PySem.W.nsIn K mainGlobals "SIGNS" = some (some (.str " !\"#$&'()*+,-./0123456789:;<=>?@ABCDEFGHIJKLMNOPQRSTUVWXYZ[\\]^_`abcdefghijklmnopqrstuvwxyz{|}~" t_SIGNS)))
    {t_TAKE : Tok} (y_TAKE : PySem.W.nsIn K mainGlobals "TAKE" = some (some (.int 3 t_TAKE)))
    {t_PUT : Tok} (y_PUT : PySem.W.nsIn K mainGlobals "PUT" = some (some (.int 2 t_PUT)))
    {t_ROWS : Tok} (y_ROWS : PySem.W.nsIn K mainGlobals "ROWS" = some (some (.int 40 t_ROWS)))
    {C_NoScript : Addr} (xa_NoScript : PySem.W.nsIn K mainGlobals "NoScript" = some (some (.ref C_NoScript))) (xx_NoScript : PySem.W.excIn K C_NoScript [.type "ValueError", .type "Exception", .type "BaseException", .type "object"] "ValueError.__new__" = true) (xk_NoScript : PySem.W.keepIn K (.ref C_NoScript) = true) (xb_NoScript : PySem.W.subIn K (.ref C_NoScript) (.type "BaseException") = some true) (xt_NoScript : PySem.W.typeIn K (.ref C_NoScript) = some (.type "type")) (xi_NoScript : PySem.W.isClsIn K C_NoScript = true) (xs_NoScript : PySem.W.subIn K (.ref C_NoScript) (.ref C_NoScript) = some true)
    : ∃ fd : FuncData, (∀ (s : Shared) (v : Value), BindsTo s fd ⟨[v], []⟩ [("_law_script_here", v)]) ∧ ∀ base : Heap, K.In base → base.Ns mainGlobals mg → FnOk l.prog w K mg base CX0 10 fa fd ["_law_script_here"] (spLaw K) := by
  have e := hfa.symm.trans (PySem.W.mg_of X G a_law)
  cases e
  have F_is_int : FunD K "is_int" "is_int" (defArgs s_is_int) (defBody s_is_int) (defScope s_is_int) [V.int 0] [] f_is_int _ := ⟨⟨_, _, _, _, _, _, _, _, _, _, rfl, l_is_int, c_is_int, .inr ⟨by simp, _, _, [.int 0 dk_is_int_least], _, rfl, dl_is_int, rfl, .cons ⟨_, rfl⟩ (.nil)⟩, .inl rfl⟩, k_is_int⟩
  have D_is_int : DfD K mg "is_int" s_is_int ["thing", "least"] [V.int 0] _ _ := ⟨F_is_int, PySem.W.mg_of X G a_is_int, k_is_int, F_is_int.binds1 (ps := ["thing", "least"]) 1 0 (by simp) rfl fun _ _ _ _ _ _ _ us its hu hi => match us, its, hu, hi with | [_], [_], _, _ => ⟨_, rfl, rfl⟩⟩
  have F_is_text : FunD K "is_text" "is_text" (defArgs s_is_text) (defBody s_is_text) (defScope s_is_text) [V.int 40] [] f_is_text _ := ⟨⟨_, _, _, _, _, _, _, _, _, _, rfl, l_is_text, c_is_text, .inr ⟨by simp, _, _, [.int 40 dk_is_text_most], _, rfl, dl_is_text, rfl, .cons ⟨_, rfl⟩ (.nil)⟩, .inl rfl⟩, k_is_text⟩
  have D_is_text : DfD K mg "is_text" s_is_text ["thing", "most"] [V.int 40] _ _ := ⟨F_is_text, PySem.W.mg_of X G a_is_text, k_is_text, F_is_text.binds1 (ps := ["thing", "most"]) 1 0 (by simp) rfl fun _ _ _ _ _ _ _ us its hu hi => match us, its, hu, hi with | [_], [_], _, _ => ⟨_, rfl, rfl⟩⟩
  have F_is_pair := fun_mk (st := s_is_pair) l_is_pair c_is_pair k_is_pair
  have D_is_pair : Df K mg "is_pair" s_is_pair ["thing"] _ _ := ⟨F_is_pair, F_is_pair.binds (ps := ["thing"]) fun _ _ _ _ _ _ us hl => match us, hl with | [_], _ => rfl, PySem.W.mg_of X G a_is_pair⟩
  have F_made_by := fun_mk (st := s_made_by) l_made_by c_made_by k_made_by
  have D_made_by : Df K mg "made_by" s_made_by ["thing"] _ _ := ⟨F_made_by, F_made_by.binds (ps := ["thing"]) fun _ _ _ _ _ _ us hl => match us, hl with | [_], _ => rfl, PySem.W.mg_of X G a_made_by⟩
  have F_is_script := fun_mk (st := s_is_script) l_is_script c_is_script k_is_script
  have D_is_script : Df K mg "is_script" s_is_script ["thing"] _ _ := ⟨F_is_script, F_is_script.binds (ps := ["thing"]) fun _ _ _ _ _ _ us hl => match us, hl with | [_], _ => rfl, PySem.W.mg_of X G a_is_script⟩
  have F_done := fun_mk (st := s_done) l_done c_done k_done
  have D_done : Df K mg "done" s_done ["base", "script"] _ _ := ⟨F_done, F_done.binds (ps := ["base", "script"]) fun _ _ _ _ _ _ us hl => match us, hl with | [_, _], _ => rfl, PySem.W.mg_of X G a_done⟩
  have F_price : FunD K "price" "price" (defArgs s_price) (defBody s_price) (defScope s_price) [] [(("take" : Str), V.int 3), (("put" : Str), V.int 2)] f_price _ := ⟨⟨_, _, _, _, _, _, _, _, _, _, rfl, l_price, c_price, .inl ⟨rfl, rfl⟩, .inr ⟨_, rfl, fun q hq => by
    rcases (by simpa using hq : q = (("take" : Str), V.int 3) ∨ q = (("put" : Str), V.int 2)) with rfl | rfl
    · exact ⟨_, kw_price_take, ⟨_, rfl⟩⟩
    · exact ⟨_, kw_price_put, ⟨_, rfl⟩⟩⟩⟩, k_price⟩
  have D_price : DfKs K mg "price" s_price ["script", "take", "put"] [(("take" : Str), V.int 3), (("put" : Str), V.int 2)] [V.int 3, V.int 2] _ _ := ⟨F_price, PySem.W.mg_of X G a_price, k_price, F_price.binds0 (ps := ["script", "take", "put"]) 1 (by simp) rfl fun _ _ _ _ _ _ us ks hu hk => match us, ks, hu, hk with | [_], [_, _], _, _ => ⟨_, _, _, _, _, _, rfl, rfl, ⟨_, _, _, _, _, _, rfl, rfl, rfl⟩⟩⟩
  have KB_price_take_put : ∃ g, KBn K (PySem.W.fnOf "price" "price" (defArgs s_price) (defBody s_price) (defScope s_price) .none (.ref kd_price) dc_price pm_price an_price cd_price ct_price) ["script", "take", "put"] 1 ["take", "put"] g (fun vs zs => vs ++ zs) := by
    obtain ⟨mv, h⟩ := F_price.kbinds0 (ps := ["script", "take", "put"]) 1 ["take", "put"] [] (fun us mv ws => us ++ ws) (by simp) (by simp) (fun r1 r2 r3 => r1.append r3) (fun _ _ _ _ _ _ us mv ws hu hm hw => match us, mv, ws, hu, hm, hw with | [_], [], [_, _], _, _, _ => rfl)
    exact ⟨_, h⟩
  have F_longest_takes := fun_mk (st := s_longest_takes) l_longest_takes c_longest_takes k_longest_takes
  have D_longest_takes : Df K mg "longest_takes" s_longest_takes ["base", "rows"] _ _ := ⟨F_longest_takes, F_longest_takes.binds (ps := ["base", "rows"]) fun _ _ _ _ _ _ us hl => match us, hl with | [_, _], _ => rfl, PySem.W.mg_of X G a_longest_takes⟩
  have F_right_least : FunD K "right_least" "right_least" (defArgs s_right_least) (defBody s_right_least) (defScope s_right_least) [] [(("take" : Str), V.int 3), (("put" : Str), V.int 2)] f_right_least _ := ⟨⟨_, _, _, _, _, _, _, _, _, _, rfl, l_right_least, c_right_least, .inl ⟨rfl, rfl⟩, .inr ⟨_, rfl, fun q hq => by
    rcases (by simpa using hq : q = (("take" : Str), V.int 3) ∨ q = (("put" : Str), V.int 2)) with rfl | rfl
    · exact ⟨_, kw_right_least_take, ⟨_, rfl⟩⟩
    · exact ⟨_, kw_right_least_put, ⟨_, rfl⟩⟩⟩⟩, k_right_least⟩
  have D_right_least : DfKs K mg "right_least" s_right_least ["base", "rows", "thing", "take", "put"] [(("take" : Str), V.int 3), (("put" : Str), V.int 2)] [V.int 3, V.int 2] _ _ := ⟨F_right_least, PySem.W.mg_of X G a_right_least, k_right_least, F_right_least.binds0 (ps := ["base", "rows", "thing", "take", "put"]) 3 (by simp) rfl fun _ _ _ _ _ _ us ks hu hk => match us, ks, hu, hk with | [_, _, _], [_, _], _, _ => ⟨_, _, _, _, _, _, rfl, rfl, ⟨_, _, _, _, _, _, rfl, rfl, rfl⟩⟩⟩
  have KB_right_least_put_take : ∃ g, KBn K (PySem.W.fnOf "right_least" "right_least" (defArgs s_right_least) (defBody s_right_least) (defScope s_right_least) .none (.ref kd_right_least) dc_right_least pm_right_least an_right_least cd_right_least ct_right_least) ["base", "rows", "thing", "take", "put"] 3 ["put", "take"] g (fun vs zs => vs ++ zs.reverse) := by
    obtain ⟨mv, h⟩ := F_right_least.kbinds0 (ps := ["base", "rows", "thing", "take", "put"]) 3 ["put", "take"] [] (fun us mv ws => us ++ ws.reverse) (by simp) (by simp) (fun r1 r2 r3 => r1.append r3.reverse) (fun _ _ _ _ _ _ us mv ws hu hm hw => match us, mv, ws, hu, hm, hw with | [_, _, _], [], [_, _], _, _, _ => rfl)
    exact ⟨_, h⟩
  have KB_right_least_take : ∃ g, KBn K (PySem.W.fnOf "right_least" "right_least" (defArgs s_right_least) (defBody s_right_least) (defScope s_right_least) .none (.ref kd_right_least) dc_right_least pm_right_least an_right_least cd_right_least ct_right_least) ["base", "rows", "thing", "take", "put"] 3 ["take"] g (fun vs zs => vs ++ (zs ++ [V.int 2])) := by
    obtain ⟨mv, h⟩ := F_right_least.kbinds0 (ps := ["base", "rows", "thing", "take", "put"]) 3 ["take"] [(("put" : Str), V.int 2)] (fun us mv ws => us ++ (ws ++ mv)) (by simp) (by simp) (fun r1 r2 r3 => r1.append (r3.append r2)) (fun _ _ _ _ _ _ us mv ws hu hm hw => match us, mv, ws, hu, hm, hw with | [_, _, _], [_], [_], _, _, _ => ⟨_, _, _, _, _, _, rfl, rfl, rfl⟩)
    exact ⟨_, h⟩
  have F_makes_rows := fun_mk (st := s_makes_rows) l_makes_rows c_makes_rows k_makes_rows
  have D_makes_rows : Df K mg "makes_rows" s_makes_rows ["base", "script", "rows"] _ _ := ⟨F_makes_rows, F_makes_rows.binds (ps := ["base", "script", "rows"]) fun _ _ _ _ _ _ us hl => match us, hl with | [_, _, _], _ => rfl, PySem.W.mg_of X G a_makes_rows⟩
  have F_law_deck := fun_mk (st := s_law_deck) l_law_deck c_law_deck k_law_deck
  have D_law_deck : Df K mg "_law_deck" s_law_deck ["_law_script_here"] _ _ := ⟨F_law_deck, F_law_deck.binds (ps := ["_law_script_here"]) fun _ _ _ _ _ _ us hl => match us, hl with | [_], _ => rfl, PySem.W.mg_of X G a_law_deck⟩
  have F_law_mixed := fun_mk (st := s_law_mixed) l_law_mixed c_law_mixed k_law_mixed
  have D_law_mixed : Df K mg "_law_mixed" s_law_mixed ["_law_cell", "_law_turn"] _ _ := ⟨F_law_mixed, F_law_mixed.binds (ps := ["_law_cell", "_law_turn"]) fun _ _ _ _ _ _ us hl => match us, hl with | [_, _], _ => rfl, PySem.W.mg_of X G a_law_mixed⟩
  have F_law_draw := fun_mk (st := s_law_draw) l_law_draw c_law_draw k_law_draw
  have D_law_draw : Df K mg "_law_draw" s_law_draw ["_law_deck_here", "_law_many"] _ _ := ⟨F_law_draw, F_law_draw.binds (ps := ["_law_deck_here", "_law_many"]) fun _ _ _ _ _ _ us hl => match us, hl with | [_, _], _ => rfl, PySem.W.mg_of X G a_law_draw⟩
  have F_law_text := fun_mk (st := s_law_text) l_law_text c_law_text k_law_text
  have D_law_text : Df K mg "_law_text" s_law_text ["_law_deck_here", "_law_size_here"] _ _ := ⟨F_law_text, F_law_text.binds (ps := ["_law_deck_here", "_law_size_here"]) fun _ _ _ _ _ _ us hl => match us, hl with | [_, _], _ => rfl, PySem.W.mg_of X G a_law_text⟩
  have F_law_int := fun_mk (st := s_law_int) l_law_int c_law_int k_law_int
  have D_law_int : Df K mg "_law_int" s_law_int ["_law_thing"] _ _ := ⟨F_law_int, F_law_int.binds (ps := ["_law_thing"]) fun _ _ _ _ _ _ us hl => match us, hl with | [_], _ => rfl, PySem.W.mg_of X G a_law_int⟩
  have F_law_same := fun_mk (st := s_law_same) l_law_same c_law_same k_law_same
  have D_law_same : Df K mg "_law_same" s_law_same ["_law_found", "_law_due"] _ _ := ⟨F_law_same, F_law_same.binds (ps := ["_law_found", "_law_due"]) fun _ _ _ _ _ _ us hl => match us, hl with | [_, _], _ => rfl, PySem.W.mg_of X G a_law_same⟩
  have F_law_stock := fun_mk (st := s_law_stock) l_law_stock c_law_stock k_law_stock
  have D_law_stock : Df K mg "_law_stock" s_law_stock ["_law_deck_here"] _ _ := ⟨F_law_stock, F_law_stock.binds (ps := ["_law_deck_here"]) fun _ _ _ _ _ _ us hl => match us, hl with | [_], _ => rfl, PySem.W.mg_of X G a_law_stock⟩
  have F_law_lines := fun_mk (st := s_law_lines) l_law_lines c_law_lines k_law_lines
  have D_law_lines : Df K mg "_law_lines" s_law_lines ["_law_deck_here", "_law_stock_here", "_law_most"] _ _ := ⟨F_law_lines, F_law_lines.binds (ps := ["_law_deck_here", "_law_stock_here", "_law_most"]) fun _ _ _ _ _ _ us hl => match us, hl with | [_, _, _], _ => rfl, PySem.W.mg_of X G a_law_lines⟩
  have F_law_script := fun_mk (st := s_law_script) l_law_script c_law_script k_law_script
  have D_law_script : Df K mg "_law_script" s_law_script ["_law_deck_here", "_law_base", "_law_stock_here", "_law_most"] _ _ := ⟨F_law_script, F_law_script.binds (ps := ["_law_deck_here", "_law_base", "_law_stock_here", "_law_most"]) fun _ _ _ _ _ _ us hl => match us, hl with | [_, _, _, _], _ => rfl, PySem.W.mg_of X G a_law_script⟩
  have F_law_made := fun_mk (st := s_law_made) l_law_made c_law_made k_law_made
  have D_law_made : Df K mg "_law_made" s_law_made ["_law_base", "_law_pieces"] _ _ := ⟨F_law_made, F_law_made.binds (ps := ["_law_base", "_law_pieces"]) fun _ _ _ _ _ _ us hl => match us, hl with | [_, _], _ => rfl, PySem.W.mg_of X G a_law_made⟩
  have F_law_cost := fun_mk (st := s_law_cost) l_law_cost c_law_cost k_law_cost
  have D_law_cost : Df K mg "_law_cost" s_law_cost ["_law_pieces", "_law_by_take", "_law_by_put"] _ _ := ⟨F_law_cost, F_law_cost.binds (ps := ["_law_pieces", "_law_by_take", "_law_by_put"]) fun _ _ _ _ _ _ us hl => match us, hl with | [_, _, _], _ => rfl, PySem.W.mg_of X G a_law_cost⟩
  have F_law_is_line := fun_mk (st := s_law_is_line) l_law_is_line c_law_is_line k_law_is_line
  have D_law_is_line : Df K mg "_law_is_line" s_law_is_line ["_law_thing"] _ _ := ⟨F_law_is_line, F_law_is_line.binds (ps := ["_law_thing"]) fun _ _ _ _ _ _ us hl => match us, hl with | [_], _ => rfl, PySem.W.mg_of X G a_law_is_line⟩
  have F_law_size := fun_mk (st := s_law_size) l_law_size c_law_size k_law_size
  have D_law_size : Df K mg "_law_size" s_law_size ["_law_piece"] _ _ := ⟨F_law_size, F_law_size.binds (ps := ["_law_piece"]) fun _ _ _ _ _ _ us hl => match us, hl with | [_], _ => rfl, PySem.W.mg_of X G a_law_size⟩
  have F_law_is_script := fun_mk (st := s_law_is_script) l_law_is_script c_law_is_script k_law_is_script
  have D_law_is_script : Df K mg "_law_is_script" s_law_is_script ["_law_thing"] _ _ := ⟨F_law_is_script, F_law_is_script.binds (ps := ["_law_thing"]) fun _ _ _ _ _ _ us hl => match us, hl with | [_], _ => rfl, PySem.W.mg_of X G a_law_is_script⟩
  have F_law_fits := fun_mk (st := s_law_fits) l_law_fits c_law_fits k_law_fits
  have D_law_fits : Df K mg "_law_fits" s_law_fits ["_law_base", "_law_thing"] _ _ := ⟨F_law_fits, F_law_fits.binds (ps := ["_law_base", "_law_thing"]) fun _ _ _ _ _ _ us hl => match us, hl with | [_, _], _ => rfl, PySem.W.mg_of X G a_law_fits⟩
  have F_law_odd := fun_mk (st := s_law_odd) l_law_odd c_law_odd k_law_odd
  have D_law_odd : Df K mg "_law_odd" s_law_odd ["_law_deck_here"] _ _ := ⟨F_law_odd, F_law_odd.binds (ps := ["_law_deck_here"]) fun _ _ _ _ _ _ us hl => match us, hl with | [_], _ => rfl, PySem.W.mg_of X G a_law_odd⟩
  have F_law_bent := fun_mk (st := s_law_bent) l_law_bent c_law_bent k_law_bent
  have D_law_bent : Df K mg "_law_bent" s_law_bent ["_law_deck_here", "_law_thing", "_law_deep_in"] _ _ := ⟨F_law_bent, F_law_bent.binds (ps := ["_law_deck_here", "_law_thing", "_law_deep_in"]) fun _ _ _ _ _ _ us hl => match us, hl with | [_, _, _], _ => rfl, PySem.W.mg_of X G a_law_bent⟩
  have F_law_spoiled := fun_mk (st := s_law_spoiled) l_law_spoiled c_law_spoiled k_law_spoiled
  have D_law_spoiled : Df K mg "_law_spoiled" s_law_spoiled ["_law_deck_here", "_law_thing", "_law_times"] _ _ := ⟨F_law_spoiled, F_law_spoiled.binds (ps := ["_law_deck_here", "_law_thing", "_law_times"]) fun _ _ _ _ _ _ us hl => match us, hl with | [_, _, _], _ => rfl, PySem.W.mg_of X G a_law_spoiled⟩
  have F_law_stands := fun_mk (st := s_law_stands) l_law_stands c_law_stands k_law_stands
  have D_law_stands : Df K mg "_law_stands" s_law_stands ["_law_base", "_law_part"] _ _ := ⟨F_law_stands, F_law_stands.binds (ps := ["_law_base", "_law_part"]) fun _ _ _ _ _ _ us hl => match us, hl with | [_, _], _ => rfl, PySem.W.mg_of X G a_law_stands⟩
  have F_law_firsts := fun_mk (st := s_law_firsts) l_law_firsts c_law_firsts k_law_firsts
  have D_law_firsts : Df K mg "_law_firsts" s_law_firsts ["_law_base", "_law_lines_here", "_law_by_take", "_law_by_put"] _ _ := ⟨F_law_firsts, F_law_firsts.binds (ps := ["_law_base", "_law_lines_here", "_law_by_take", "_law_by_put"]) fun _ _ _ _ _ _ us hl => match us, hl with | [_, _, _, _], _ => rfl, PySem.W.mg_of X G a_law_firsts⟩
  have F_law_is_least := fun_mk (st := s_law_is_least) l_law_is_least c_law_is_least k_law_is_least
  have D_law_is_least : Df K mg "_law_is_least" s_law_is_least ["_law_base", "_law_lines_here", "_law_thing", "_law_by_take", "_law_by_put"] _ _ := ⟨F_law_is_least, F_law_is_least.binds (ps := ["_law_base", "_law_lines_here", "_law_thing", "_law_by_take", "_law_by_put"]) fun _ _ _ _ _ _ us hl => match us, hl with | [_, _, _, _, _], _ => rfl, PySem.W.mg_of X G a_law_is_least⟩
  have F_law_least_script := fun_mk (st := s_law_least_script) l_law_least_script c_law_least_script k_law_least_script
  have D_law_least_script : Df K mg "_law_least_script" s_law_least_script ["_law_base", "_law_lines_here", "_law_by_take", "_law_by_put", "_law_firsts_here"] _ _ := ⟨F_law_least_script, F_law_least_script.binds (ps := ["_law_base", "_law_lines_here", "_law_by_take", "_law_by_put", "_law_firsts_here"]) fun _ _ _ _ _ _ us hl => match us, hl with | [_, _, _, _, _], _ => rfl, PySem.W.mg_of X G a_law_least_script⟩
  have F_law_numbers := fun_mk (st := s_law_numbers) l_law_numbers c_law_numbers k_law_numbers
  have D_law_numbers : Df K mg "_law_numbers" s_law_numbers ["_law_deck_here", "_law_firsts_here", "_law_total"] _ _ := ⟨F_law_numbers, F_law_numbers.binds (ps := ["_law_deck_here", "_law_firsts_here", "_law_total"]) fun _ _ _ _ _ _ us hl => match us, hl with | [_, _, _], _ => rfl, PySem.W.mg_of X G a_law_numbers⟩
  have F_law := fun_mk (st := s_law) l_law c_law k_law
  have D_law : Df K mg "law" s_law ["_law_script_here"] _ _ := ⟨F_law, F_law.binds (ps := ["_law_script_here"]) fun _ _ _ _ _ _ us hl => match us, hl with | [_], _ => rfl, PySem.W.mg_of X G a_law⟩
  have T : Txt K mg := ⟨PySem.W.mg_none_of X G z_len, PySem.W.mg_none_of X G z_list, PySem.W.mg_none_of X G z_isinstance, PySem.W.mg_none_of X G z_int, PySem.W.mg_none_of X G z_bool, PySem.W.mg_none_of X G z_str, PySem.W.mg_none_of X G z_tuple, PySem.W.mg_none_of X G z_dict, PySem.W.mg_none_of X G z_range, PySem.W.mg_none_of X G z_all, PySem.W.mg_none_of X G z_min, PySem.W.mg_none_of X G z_max, ⟨_, PySem.W.mg_of X G y_SIGNS⟩, ⟨_, PySem.W.mg_of X G y_TAKE⟩, ⟨_, PySem.W.mg_of X G y_PUT⟩, ⟨_, PySem.W.mg_of X G y_ROWS⟩⟩
  have X_NoScript : Exn K mg "NoScript" C_NoScript := ⟨PySem.W.mg_of X G xa_NoScript, xx_NoScript, xk_NoScript, xb_NoScript, xt_NoScript, exm_is xb_NoScript xi_NoScript xt_NoScript xs_NoScript⟩
  exact ⟨PySem.W.fnOf "law" "law" (defArgs s_law) (defBody s_law) (defScope s_law) .none kV_law dc_law pm_law an_law cd_law ct_law, fun s v => .of_eq rfl, fun base _ _ => ok_law T D_is_int D_is_text D_is_pair D_made_by D_is_script D_done D_price KB_price_take_put D_longest_takes D_right_least KB_right_least_put_take KB_right_least_take D_makes_rows D_law_deck D_law_mixed D_law_draw D_law_text D_law_int D_law_same D_law_stock D_law_lines D_law_script D_law_made D_law_cost D_law_is_line D_law_size D_law_is_script D_law_fits D_law_odd D_law_bent D_law_spoiled D_law_stands D_law_firsts D_law_is_least D_law_least_script D_law_numbers D_law X_NoScript⟩
end FW
open PySem PySem.W PyProof.Rows
set_option maxRecDepth 100000 in
set_option maxHeartbeats 0 in
theorem PySem.Challenge.cw_fewasks_k39_papers_looked_at_holds : PySem.Challenge.rw_fewasks_k39_papers_looked_at.Holds := by
  w_on; o_law; k_head; (case hw => w_witness2)
  k_fill
  refine L2.walk_of (l := PySem.Challenge.rw_fewasks_k39_papers_looked_at) (n := 63) (k := 10) (x := "_law_script_here") (CX := fun _ => L2.CX0) (sp := fun w => FW.spLaw _) rfl (by decide) rfl ⟨rfl, by decide, by decide⟩ (fun w h Y => PySem.W.kIn_of Y) ?F (fun _ _ a ns hl _ hS => ⟨a, ns, rfl, hS, hl, fun _ => rfl⟩) (fun _ _ _ _ _ h => h)
  case F =>
    intro w mg fa h KX G hmg
    refine' FW.all_mk KX G hmg ?a_is_int ?l_is_int ?c_is_int ?k_is_int ?dl_is_int ?a_is_text ?l_is_text ?c_is_text ?k_is_text ?dl_is_text ?a_is_pair ?l_is_pair ?c_is_pair ?k_is_pair ?a_made_by ?l_made_by ?c_made_by ?k_made_by ?a_is_script ?l_is_script ?c_is_script ?k_is_script ?a_done ?l_done ?c_done ?k_done ?a_price ?l_price ?c_price ?k_price ?kw_price_take ?kw_price_put ?a_longest_takes ?l_longest_takes ?c_longest_takes ?k_longest_takes ?a_right_least ?l_right_least ?c_right_least ?k_right_least ?kw_right_least_take ?kw_right_least_put ?a_makes_rows ?l_makes_rows ?c_makes_rows ?k_makes_rows ?a_law_deck ?l_law_deck ?c_law_deck ?k_law_deck ?a_law_mixed ?l_law_mixed ?c_law_mixed ?k_law_mixed ?a_law_draw ?l_law_draw ?c_law_draw ?k_law_draw ?a_law_text ?l_law_text ?c_law_text ?k_law_text ?a_law_int ?l_law_int ?c_law_int ?k_law_int ?a_law_same ?l_law_same ?c_law_same ?k_law_same ?a_law_stock ?l_law_stock ?c_law_stock ?k_law_stock ?a_law_lines ?l_law_lines ?c_law_lines ?k_law_lines ?a_law_script ?l_law_script ?c_law_script ?k_law_script ?a_law_made ?l_law_made ?c_law_made ?k_law_made ?a_law_cost ?l_law_cost ?c_law_cost ?k_law_cost ?a_law_is_line ?l_law_is_line ?c_law_is_line ?k_law_is_line ?a_law_size ?l_law_size ?c_law_size ?k_law_size ?a_law_is_script ?l_law_is_script ?c_law_is_script ?k_law_is_script ?a_law_fits ?l_law_fits ?c_law_fits ?k_law_fits ?a_law_odd ?l_law_odd ?c_law_odd ?k_law_odd ?a_law_bent ?l_law_bent ?c_law_bent ?k_law_bent ?a_law_spoiled ?l_law_spoiled ?c_law_spoiled ?k_law_spoiled ?a_law_stands ?l_law_stands ?c_law_stands ?k_law_stands ?a_law_firsts ?l_law_firsts ?c_law_firsts ?k_law_firsts ?a_law_is_least ?l_law_is_least ?c_law_is_least ?k_law_is_least ?a_law_least_script ?l_law_least_script ?c_law_least_script ?k_law_least_script ?a_law_numbers ?l_law_numbers ?c_law_numbers ?k_law_numbers ?a_law ?l_law ?c_law ?k_law ?z_len ?z_list ?z_isinstance ?z_int ?z_bool ?z_str ?z_tuple ?z_dict ?z_range ?z_all ?z_min ?z_max ?y_SIGNS ?y_TAKE ?y_PUT ?y_ROWS ?xa_NoScript ?xx_NoScript ?xk_NoScript ?xb_NoScript ?xt_NoScript ?xi_NoScript ?xs_NoScript
    (case a_is_int => k_is); (case l_is_int => k_is); (case c_is_int => k_is); (case k_is_int => k_is); (case dl_is_int => k_is); (case a_is_text => k_is); (case l_is_text => k_is); (case c_is_text => k_is); (case k_is_text => k_is); (case dl_is_text => k_is); (case a_is_pair => k_is); (case l_is_pair => k_is); (case c_is_pair => k_is); (case k_is_pair => k_is); (case a_made_by => k_is); (case l_made_by => k_is); (case c_made_by => k_is); (case k_made_by => k_is); (case a_is_script => k_is); (case l_is_script => k_is); (case c_is_script => k_is); (case k_is_script => k_is); (case a_done => k_is); (case l_done => k_is); (case c_done => k_is); (case k_done => k_is); (case a_price => k_is); (case l_price => k_is); (case c_price => k_is); (case k_price => k_is); (case kw_price_take => k_is); (case kw_price_put => k_is); (case a_longest_takes => k_is); (case l_longest_takes => k_is); (case c_longest_takes => k_is); (case k_longest_takes => k_is); (case a_right_least => k_is); (case l_right_least => k_is); (case c_right_least => k_is); (case k_right_least => k_is); (case kw_right_least_take => k_is); (case kw_right_least_put => k_is); (case a_makes_rows => k_is); (case l_makes_rows => k_is); (case c_makes_rows => k_is); (case k_makes_rows => k_is); (case a_law_deck => k_is); (case l_law_deck => k_is); (case c_law_deck => k_is); (case k_law_deck => k_is); (case a_law_mixed => k_is); (case l_law_mixed => k_is); (case c_law_mixed => k_is); (case k_law_mixed => k_is); (case a_law_draw => k_is); (case l_law_draw => k_is); (case c_law_draw => k_is); (case k_law_draw => k_is); (case a_law_text => k_is); (case l_law_text => k_is); (case c_law_text => k_is); (case k_law_text => k_is); (case a_law_int => k_is); (case l_law_int => k_is); (case c_law_int => k_is); (case k_law_int => k_is); (case a_law_same => k_is); (case l_law_same => k_is); (case c_law_same => k_is); (case k_law_same => k_is); (case a_law_stock => k_is); (case l_law_stock => k_is); (case c_law_stock => k_is); (case k_law_stock => k_is); (case a_law_lines => k_is); (case l_law_lines => k_is); (case c_law_lines => k_is); (case k_law_lines => k_is); (case a_law_script => k_is); (case l_law_script => k_is); (case c_law_script => k_is); (case k_law_script => k_is); (case a_law_made => k_is); (case l_law_made => k_is); (case c_law_made => k_is); (case k_law_made => k_is); (case a_law_cost => k_is); (case l_law_cost => k_is); (case c_law_cost => k_is); (case k_law_cost => k_is); (case a_law_is_line => k_is); (case l_law_is_line => k_is); (case c_law_is_line => k_is); (case k_law_is_line => k_is); (case a_law_size => k_is); (case l_law_size => k_is); (case c_law_size => k_is); (case k_law_size => k_is); (case a_law_is_script => k_is); (case l_law_is_script => k_is); (case c_law_is_script => k_is); (case k_law_is_script => k_is); (case a_law_fits => k_is); (case l_law_fits => k_is); (case c_law_fits => k_is); (case k_law_fits => k_is); (case a_law_odd => k_is); (case l_law_odd => k_is); (case c_law_odd => k_is); (case k_law_odd => k_is); (case a_law_bent => k_is); (case l_law_bent => k_is); (case c_law_bent => k_is); (case k_law_bent => k_is); (case a_law_spoiled => k_is); (case l_law_spoiled => k_is); (case c_law_spoiled => k_is); (case k_law_spoiled => k_is); (case a_law_stands => k_is); (case l_law_stands => k_is); (case c_law_stands => k_is); (case k_law_stands => k_is); (case a_law_firsts => k_is); (case l_law_firsts => k_is); (case c_law_firsts => k_is); (case k_law_firsts => k_is); (case a_law_is_least => k_is); (case l_law_is_least => k_is); (case c_law_is_least => k_is); (case k_law_is_least => k_is); (case a_law_least_script => k_is); (case l_law_least_script => k_is); (case c_law_least_script => k_is); (case k_law_least_script => k_is); (case a_law_numbers => k_is); (case l_law_numbers => k_is); (case c_law_numbers => k_is); (case k_law_numbers => k_is); (case a_law => k_is); (case l_law => k_is); (case c_law => k_is); (case k_law => k_is); (case z_len => k_is); (case z_list => k_is); (case z_isinstance => k_is); (case z_int => k_is); (case z_bool => k_is); (case z_str => k_is); (case z_tuple => k_is); (case z_dict => k_is); (case z_range => k_is); (case z_all => k_is); (case z_min => k_is); (case z_max => k_is); (case y_SIGNS => k_is); (case y_TAKE => k_is); (case y_PUT => k_is); (case y_ROWS => k_is); (case xa_NoScript => k_is); (case xx_NoScript => k_exc); (case xk_NoScript => k_is); (case xb_NoScript => k_is); (case xt_NoScript => k_is); (case xi_NoScript => k_is); (case xs_NoScript => k_is)

