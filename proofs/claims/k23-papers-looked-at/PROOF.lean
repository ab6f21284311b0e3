import PyProof.Rows.All
import Wide.All
import OpenK.AllK
import Wide.FinOn
import HandS.ForMost
import HandS.Wide
import HandS.WideBits
import HandS.Conv
import HandS.IsInst
import HandS.Walk
import HandS.TupLe
import HandS.TupAny
import HandS.DictComp
import HandS.SetKeys
import HandS.ForExc
import HandS.ExcIs
import HandS.ExcInit
import HandS.ExcField
import HandS.Defaults
import HandS.CallSlots
import HandS.MakeKwOnly
import KE.DatumOrd
import PyProof.Claim2Refuses
import KE.GoesEnum
import HandS.WordsDict
import HandS.SortInts
import HandS.Zip
import PyProof.CollectIter
import PyProof.WalksMore
import HandS.TryMany
import KE.KTryMore
import PySem.Challenge.RW_fewasks_k23_papers_looked_at
set_option Elab.async false
set_option linter.all false
set_option maxRecDepth 100000
/-! My own small words over the layer: steps of readings as lemmas, heaps that keep. -/
namespace FW
open PySem L2
/-! ### heaps -/
/-- all that stood stands, but at the addresses M -/
def Kp (M : List Addr) (H H' : Hp) : Prop := ∀ b o, b ∉ M → H b = some o → H' b = some o
theorem Kp.refl {M : List Addr} {H : Hp} : Kp M H H := fun _ _ _ h => h
theorem Kp.trans {M : List Addr} {H H1 H2 : Hp} (a : Kp M H H1) (b : Kp M H1 H2) : Kp M H H2 := fun c o n h => b c o n (a c o n h)
theorem Kp.mono {M N : List Addr} {H H1 : Hp} (a : Kp M H H1) (s : ∀ x ∈ M, x ∈ N) : Kp N H H1 := fun c o n h => a c o (fun z => n (s c z)) h
theorem Kp.same {H H1 : Hp} (a : Kp [] H H1) : Same H H1 := fun c o h => a c o (by simp) h
theorem Kp.of {M : List Addr} {H H1 : Hp} (a : Same H H1) : Kp M H H1 := fun c o _ h => a c o h
theorem Kp.new {M : List Addr} {H : Hp} {p : Addr} {o : HO} (h : H p = none) : Kp M H (upd H p o) := fun b u _ e => by rw [upd_ne (ne_of_none e h)]; exact e
theorem Kp.mut {M : List Addr} {H : Hp} {p : Addr} {o : HO} (h : p ∈ M) : Kp M H (upd H p o) := fun b u n e => by
  rw [upd_ne (show b ≠ p from fun z => n (by rw [z]; exact h))]; exact e
/-- a new object that was mutated or laid since: it stood not at the start -/
theorem Kp.mutN {M : List Addr} {H H1 : Hp} {p : Addr} {o : HO} (k : Kp M H H1) (h : H p = none) : Kp M H (upd H1 p o) := fun b u n e => by
  rw [upd_ne (ne_of_none e h)]; exact k b u n e
theorem Same.new {H : Hp} {p : Addr} {o : HO} (h : H p = none) : Same H (upd H p o) := fun b u e => by rw [upd_ne (ne_of_none e h)]; exact e
theorem nofree {M : List Addr} {H H1 : Hp} {p : Addr} (k : Kp M H H1) (hM : p ∉ M) (h : H1 p = none) : H p = none := by
  cases e : H p with
  | none => rfl
  | some o => rw [k p o hM e] at h; cases h
theorem Kp.seqL {M : List Addr} {K : PySem.W.Frag} {H H' : Hp} {a : Addr} {xs : List V} (k : Kp M H H') (hM : a ∉ M) (h : SqL K H a xs) : SqL K H' a xs := by
  rcases h with (h | ⟨o, h⟩) | h
  · exact .inl (.inl (k _ _ hM h))
  · exact .inl (.inr ⟨o, k _ _ hM h⟩)
  · exact .inr h
theorem Kp.seqT {M : List Addr} {K : PySem.W.Frag} {H H' : Hp} {a : Addr} {xs : List V} (k : Kp M H H') (hM : a ∉ M) (h : SqT K H a xs) : SqT K H' a xs := by
  rcases h with (h | ⟨o, h⟩) | h
  · exact .inl (.inl (k _ _ hM h))
  · exact .inl (.inr ⟨o, k _ _ hM h⟩)
  · exact .inr h
theorem upd_get {H : Hp} {a b : Addr} {o u : HO} (h : b ≠ a) (e : H b = some u) : upd H a o b = some u := by rw [upd_ne h]; exact e
theorem upd_new {H : Hp} {a b : Addr} {o u : HO} (h : H a = none) (e : H b = some u) : upd H a o b = some u := upd_get (ne_of_none e h) e
theorem upd_none {H : Hp} {a b : Addr} {o : HO} (e : upd H a o b = none) : H b = none ∧ b ≠ a := by
  by_cases h : b = a
  · subst h; rw [upd_same] at e; cases e
  · rw [upd_ne h] at e; exact ⟨e, h⟩
/-- all but p is as it was -/
def Off (p : Addr) (H H' : Hp) : Prop := ∀ b, b ≠ p → H' b = H b
theorem Off.get {p b : Addr} {H H' : Hp} {o : HO} (k : Off p H H') (n : b ≠ p) (e : H b = some o) : H' b = some o := (k b n).trans e
theorem Off.kp {p : Addr} {M : List Addr} {H H' : Hp} (k : Off p H H') (m : p ∈ M) : Kp M H H' := fun b o n e => (k b (fun z => n (by rw [z]; exact m))).trans e
theorem Off.trans {p : Addr} {H H1 H2 : Hp} (a : Off p H H1) (b : Off p H1 H2) : Off p H H2 := fun x n => (b x n).trans (a x n)
theorem Off.keep {p : Addr} {M : List Addr} {H H1 H2 : Hp} (a : Kp M H H1) (b : Off p H1 H2) (n : H p = none) : Kp M H H2 := fun x o m e => (b x (ne_of_none e n)).trans (a x o m e)
/-- a list's change keeps the tuples -/
theorem Off.tup {p b : Addr} {H H' : Hp} {xs ys : List V} (k : Off p H H') (hp : H p = some (.lst xs)) (e : H b = some (.tup ys)) : H' b = some (.tup ys) := k.get (ne_of e hp (fun z => nomatch z)) e
/-- what keeps the tuples -/
def KT (H H' : Hp) : Prop := ∀ b xs, H b = some (.tup xs) → H' b = some (.tup xs)
theorem KT.refl {H : Hp} : KT H H := fun _ _ e => e
theorem KT.of {H H' : Hp} (k : Same H H') : KT H H' := fun b xs e => k _ _ e
theorem KT.off {p : Addr} {H H' : Hp} {xs : List V} (k : Off p H H') (e : H p = some (.lst xs)) : KT H H' := fun b ys e2 => k.tup e e2
theorem KT.trans {H H1 H2 : Hp} (a : KT H H1) (b : KT H1 H2) : KT H H2 := fun c xs e => b c xs (a c xs e)
theorem KT.kp {M : List Addr} {H H' : Hp} (k : Kp M H H') (h : ∀ b ∈ M, ∃ xs, H b = some (.lst xs)) : KT H H' := fun b ys e => k b _ (fun z => by
  obtain ⟨xs, e2⟩ := h b z
  rw [e] at e2; cases e2) e
theorem KT.upd {H H1 : Hp} {D : Addr} {o : HO} (k : KT H H1) (h : H D = none) : KT H (upd H1 D o) := fun b xs e => by rw [upd_ne (ne_of_none e h)]; exact k b xs e
theorem KT.updL {H : Hp} {D : Addr} {o : HO} {ys : List V} (h : H D = some (.lst ys)) : KT H (L2.upd H D o) := fun b xs e => upd_get (ne_of e h (fun z => nomatch z)) e
/-! ### rules by names -/
/-- a new object o -/
def Nw (o : HO) (H : Hp) (Q : VK) : Prop := ∀ p, H p = none → Q (.ref p) (upd H p o)
def rLen (K : PySem.W.Frag) : List V → Hp → VK → Prop := fun xs H Q => ∃ p ys, xs = [.ref p] ∧ (SqL K H p ys ∨ SqT K H p ys) ∧ Q (.int ys.length) H
def rMin2 : List V → Hp → VK → Prop := fun xs H Q => ∃ i j, xs = [.int i, .int j] ∧ Q (.int (if j < i then j else i)) H
def rMax2 : List V → Hp → VK → Prop := fun xs H Q => ∃ i j, xs = [.int i, .int j] ∧ Q (.int (if j > i then j else i)) H
def rListOf (K : PySem.W.Frag) : List V → Hp → VK → Prop := fun xs H Q => ∃ p ys, xs = [.ref p] ∧ (SqL K H p ys ∨ SqT K H p ys) ∧ ∀ l, H l = none → Q (.ref l) (upd H l (.lst ys))
def rTupOf (K : PySem.W.Frag) : List V → Hp → VK → Prop := fun xs H Q => ∃ p ys, xs = [.ref p] ∧ ((SqL K H p ys ∧ ∀ l, H l = none → Q (.ref l) (upd H l (.tup ys))) ∨ (SqT K H p ys ∧ Q (.ref p) H))
def rRg2 (x y : V) (H : Hp) (R : Int → Int → Hp → Prop) : Prop := ∃ i j, x = .int i ∧ y = .int j ∧ R i j H
def rBits (x : V) (H : Hp) (Q : VK) : Prop := ∃ i, x = .int i ∧ Q (.int (Builtin.Int.intBits i : Nat)) H
def rRng1 (vs : List V) (H : Hp) (R : It → Hp → Prop) : Prop := ∃ j : Int, vs = [.int j] ∧ -(2 ^ 62) ≤ j ∧ j < 2 ^ 62 ∧ R (Itr 0 j.toNat) H
def rRng2 (vs : List V) (H : Hp) (R : It → Hp → Prop) : Prop := ∃ i j : Int, vs = [.int i, .int j] ∧ (-(2 ^ 62) ≤ i ∧ i < 2 ^ 62 ∧ -(2 ^ 62) ≤ j ∧ j < 2 ^ 62) ∧ R (Itr i (j - i).toNat) H
def rItL (K : PySem.W.Frag) (x : V) (H : Hp) (R : It → Hp → Prop) : Prop := ∃ a, x = .ref a ∧ (∃ xs, SqL K H a xs) ∧ R (Itl K a) H
def rItT (K : PySem.W.Frag) (x : V) (H : Hp) (R : It → Hp → Prop) : Prop := ∃ a, x = .ref a ∧ (∃ xs, SqT K H a xs) ∧ R (Itt K a) H
def rDIn (x y : V) (H : Hp) (Q : VK) : Prop := ∃ a o, x = .ref a ∧ DGet H a y o ∧ Q (.bl o.isSome) H
def rDNotIn (x y : V) (H : Hp) (Q : VK) : Prop := ∃ a o, x = .ref a ∧ DGet H a y o ∧ Q (.bl (!o.isSome)) H
def rDGet (x y : V) (H : Hp) (Q : VK) : Prop := ∃ a v, x = .ref a ∧ DGet H a y (some v) ∧ Q v H
def rDGet2 (a : Addr) (y z : V) (H : Hp) (Q : VK) : Prop := ∃ o, DGet H a y o ∧ Q (o.getD z) H
def rDPut (x y v : V) (H : Hp) (R : Hp → Prop) : Prop := ∃ a H4, x = .ref a ∧ DPut H a y v H4 ∧ R H4
def rDSetd (a : Addr) (y z : V) (H : Hp) (Q : VK) : Prop := ∃ (kvs : List (Key × V)) (k : Key), H a = some (.dK kvs) ∧ y = kV k ∧ kvs.length < sizeLine ∧ (∀ v, valV kvs k = some v → Q v H) ∧ (valV kvs k = none → Q z (upd H a (.dK (putK kvs k z))))
def rIsD (x : V) (H : Hp) (R : Addr → Hp → Prop) : Prop := ∃ a, x = .ref a ∧ IsD H a ∧ R a H
def rIsBl : R2 := fun x y H Q => ∃ a b, x = .bl a ∧ y = .bl b ∧ Q (.bl (decide (a = b))) H
def rIsNon : R2 := fun x y H Q => y = .non ∧ Q (.bl (decide (x = .non))) H
def rNotNon : R2 := fun x y H Q => y = .non ∧ Q (.bl (!decide (x = .non))) H
def rTru (K : PySem.W.Frag) (x : V) (H : Hp) (R : Bool → Hp → Prop) : Prop := ∃ k, TruV K x H k ∧ R k H
def tTru (K : PySem.W.Frag) (ta : TE) : TT := fun σ H R => ta σ H fun x H' => ∃ k, TruV K x H' k ∧ R k H'
def rSortD (xs : List V) (H : Hp) (Q : VK) : Prop := ∃ (a : Addr) (kvs : List (Key × V)) (ks : List Int), xs = [.ref a] ∧ Rd H a (.dK kvs) ∧ kvs.map (·.1) = ks.map Sum.inl ∧ ks.length < 64 ∧
    ∀ (ys : List Int) (p : Addr), ys.Perm ks → ys.Pairwise (· ≤ ·) → H p = none → Q (.ref p) (upd H p (.lst (ys.map V.int)))
section
variable {X : Cx}
theorem o_isB : OpR X (compareOp .Is) rIsBl := op_is_bl
theorem o_isN : OpR X (compareOp .Is) rIsNon := op_isN
theorem o_notN : OpR X (compareOp .IsNot) rNotNon := op_notN
theorem p_truth {a : Expr} {ta : TE} (ha : PE X a ta) (he : ∀ whole, isTrue a X.env whole = (do let v ← whole; standAt a.pos; holding [v] (truthy v))) : PT X a (tTru X.K ta) := pt_truth ha he
theorem c_sortD (hc : X.calm = true) : CallR X (.builtin "sorted") rSortD := call_sortedDI hc
theorem c_len : CallR X (.builtin "len") (rLen X.K) := call_len_seq
theorem c_min2 (hc : X.calm = true) : CallR X (.builtin "min") rMin2 := call_min2 hc
theorem c_max2 (hc : X.calm = true) : CallR X (.builtin "max") rMax2 := call_max2 hc
theorem c_listOf : CallR X (.type "list") (rListOf X.K) := call_list_of
theorem c_tupOf : CallR X (.type "tuple") (rTupOf X.K) := call_tuple_of
end
theorem kb_int_int : kitB "int" "int" = some true := by decide +kernel
theorem kb_int_bool : kitB "int" "bool" = some false := by decide +kernel
theorem kb_int_str : kitB "int" "str" = some false := by decide +kernel
theorem kb_int_tuple : kitB "int" "tuple" = some false := by decide +kernel
theorem kb_int_list : kitB "int" "list" = some false := by decide +kernel
theorem kb_int_dict : kitB "int" "dict" = some false := by decide +kernel
theorem kb_bool_int : kitB "bool" "int" = some true := by decide +kernel
theorem kb_bool_bool : kitB "bool" "bool" = some true := by decide +kernel
theorem kb_bool_str : kitB "bool" "str" = some false := by decide +kernel
theorem kb_bool_tuple : kitB "bool" "tuple" = some false := by decide +kernel
theorem kb_bool_list : kitB "bool" "list" = some false := by decide +kernel
theorem kb_bool_dict : kitB "bool" "dict" = some false := by decide +kernel
theorem kb_str_int : kitB "str" "int" = some false := by decide +kernel
theorem kb_str_bool : kitB "str" "bool" = some false := by decide +kernel
theorem kb_str_str : kitB "str" "str" = some true := by decide +kernel
theorem kb_str_tuple : kitB "str" "tuple" = some false := by decide +kernel
theorem kb_str_list : kitB "str" "list" = some false := by decide +kernel
theorem kb_str_dict : kitB "str" "dict" = some false := by decide +kernel
theorem kb_tuple_int : kitB "tuple" "int" = some false := by decide +kernel
theorem kb_tuple_bool : kitB "tuple" "bool" = some false := by decide +kernel
theorem kb_tuple_str : kitB "tuple" "str" = some false := by decide +kernel
theorem kb_tuple_tuple : kitB "tuple" "tuple" = some true := by decide +kernel
theorem kb_tuple_list : kitB "tuple" "list" = some false := by decide +kernel
theorem kb_tuple_dict : kitB "tuple" "dict" = some false := by decide +kernel
theorem kb_list_int : kitB "list" "int" = some false := by decide +kernel
theorem kb_list_bool : kitB "list" "bool" = some false := by decide +kernel
theorem kb_list_str : kitB "list" "str" = some false := by decide +kernel
theorem kb_list_tuple : kitB "list" "tuple" = some false := by decide +kernel
theorem kb_list_list : kitB "list" "list" = some true := by decide +kernel
theorem kb_list_dict : kitB "list" "dict" = some false := by decide +kernel
theorem kb_dict_int : kitB "dict" "int" = some false := by decide +kernel
theorem kb_dict_bool : kitB "dict" "bool" = some false := by decide +kernel
theorem kb_dict_str : kitB "dict" "str" = some false := by decide +kernel
theorem kb_dict_tuple : kitB "dict" "tuple" = some false := by decide +kernel
theorem kb_dict_list : kitB "dict" "list" = some false := by decide +kernel
theorem kb_dict_dict : kitB "dict" "dict" = some true := by decide +kernel
theorem kb_NoneType_int : kitB "NoneType" "int" = some false := by decide +kernel
theorem kb_NoneType_bool : kitB "NoneType" "bool" = some false := by decide +kernel
theorem kb_NoneType_str : kitB "NoneType" "str" = some false := by decide +kernel
theorem kb_NoneType_tuple : kitB "NoneType" "tuple" = some false := by decide +kernel
theorem kb_NoneType_list : kitB "NoneType" "list" = some false := by decide +kernel
theorem kb_NoneType_dict : kitB "NoneType" "dict" = some false := by decide +kernel
/-! ### steps -/
section
variable {K : PySem.W.Frag} {σ : St} {H : Hp} {Q : VK} {nx bk ct : St → Hp → Prop} {rt : VK} {v : V}
theorem w_seq {t u : TS} (h : t ⟨u ⟨nx, rt, bk, ct⟩, rt, bk, ct⟩ σ H) : tSeq t u ⟨nx, rt, bk, ct⟩ σ H := h
theorem w_seqA {te : TE} {g : TG} {u : TS} (h : te σ H fun x H1 => g x σ H1 (u ⟨nx, rt, bk, ct⟩)) : tSeq (tAsg te g) u ⟨nx, rt, bk, ct⟩ σ H := h
theorem w_seqD {te : TE} {u : TS} (h : te σ H fun _ H1 => u ⟨nx, rt, bk, ct⟩ σ H1) : tSeq (tDrop te) u ⟨nx, rt, bk, ct⟩ σ H := h
theorem w_seqF {wi : TI} {g : TG} {tb u : TS} (h : tFor wi g tb ⟨u ⟨nx, rt, bk, ct⟩, rt, bk, ct⟩ σ H) : tSeq (tFor wi g tb) u ⟨nx, rt, bk, ct⟩ σ H := h
theorem w_seqW {c : TT} {tb u : TS} (h : tWhile c tb ⟨u ⟨nx, rt, bk, ct⟩, rt, bk, ct⟩ σ H) : tSeq (tWhile c tb) u ⟨nx, rt, bk, ct⟩ σ H := h
theorem w_seqG {i : Nat} {te : TE} {ti : TIp} {u : TS} (h : tAug i te ti ⟨u ⟨nx, rt, bk, ct⟩, rt, bk, ct⟩ σ H) : tSeq (tAug i te ti) u ⟨nx, rt, bk, ct⟩ σ H := h
/-- a statement whose ways meet: what follows is taken as U, of which R is enough -/
theorem w_seqJ {t u : TS} (R : St → Hp → Prop) (h2 : ∀ σ' H', R σ' H' → u ⟨nx, rt, bk, ct⟩ σ' H') (h1 : ∀ U : St → Hp → Prop, (∀ σ' H', R σ' H' → U σ' H') → t ⟨U, rt, bk, ct⟩ σ H) : tSeq t u ⟨nx, rt, bk, ct⟩ σ H := h1 _ h2
theorem w_var {i : Nat} (e : σ[i]? = some (some v)) (h : Q v H) : tVar i σ H Q := ⟨v, e, h⟩
theorem w_c (h : Q v H) : tC v σ H Q := h
theorem w_asg {te : TE} {g : TG} (h : te σ H fun x H1 => g x σ H1 nx) : tAsg te g ⟨nx, rt, bk, ct⟩ σ H := h
theorem w_name {i : Nat} {R : St → Hp → Prop} (h : R (σ.set i (some v)) H) : gName i v σ H R := h
theorem w_op {r : R2} {ta tb : TE} (h : ta σ H fun x H1 => tb σ H1 fun y H2 => r x y H2 Q) : tOp r ta tb σ H Q := h
theorem w_un {r : V → Hp → VK → Prop} {ta : TE} (h : ta σ H fun x H1 => r x H1 Q) : tUn r ta σ H Q := h
theorem w_neg {i : Int} (h : Q (.int (-i)) H) : rU (fun i => .int (-i)) (.int i) H Q := ⟨i, rfl, h⟩
theorem w_i {C : Int → Int → Prop} {g : Int → Int → V} {i j : Int} (c : C i j) (h : Q (g i j) H) : rI C g (.int i) (.int j) H Q := ⟨i, j, rfl, rfl, c, h⟩
theorem w_i0 {g : Int → Int → V} {i j : Int} (h : Q (g i j) H) : rI0 g (.int i) (.int j) H Q := ⟨i, j, rfl, rfl, h⟩
theorem w_eqI {i j : Int} (h : Q (.bl (decide (i = j))) H) : rEq (.int i) (.int j) H Q := ⟨rfl, by
  have e : decide (V.int i = V.int j) = decide (i = j) := by
    by_cases q : i = j
    · subst q; rw [decide_eq_true rfl, decide_eq_true rfl]
    · rw [decide_eq_false q, decide_eq_false (fun z => q (V.int.inj z))]
  rw [e]; exact h⟩
theorem w_neI {i j : Int} (h : Q (.bl (!decide (i = j))) H) : rNe (.int i) (.int j) H Q := ⟨rfl, by
  have e : decide (V.int i = V.int j) = decide (i = j) := by
    by_cases q : i = j
    · subst q; rw [decide_eq_true rfl, decide_eq_true rfl]
    · rw [decide_eq_false q, decide_eq_false (fun z => q (V.int.inj z))]
  rw [e]; exact h⟩
theorem w_ixL {p : Addr} {xs : List V} {i : Int} (h1 : SqL K H p xs) (h2 : atI xs i = some v) (h : Q v H) : rIxL K (.ref p) (.int i) H Q := ⟨p, xs, i, v, rfl, rfl, h1, h2, h⟩
theorem w_ixT {p : Addr} {xs : List V} {i : Int} (h1 : SqT K H p xs) (h2 : atI xs i = some v) (h : Q v H) : rIxT K (.ref p) (.int i) H Q := ⟨p, xs, i, v, rfl, rfl, h1, h2, h⟩
theorem w_ixSL {p : Addr} {xs : List V} {i : Int} (h1 : SqL K H p xs) (h2 : atI xs i = some v) (h : Q v H) : rIx K (.ref p) (.int i) H Q := .inl ⟨p, xs, i, v, rfl, rfl, h1, h2, h⟩
theorem w_ixST {p : Addr} {xs : List V} {i : Int} (h1 : SqT K H p xs) (h2 : atI xs i = some v) (h : Q v H) : rIx K (.ref p) (.int i) H Q := .inr (.inl ⟨p, xs, i, v, rfl, rfl, h1, h2, h⟩)
theorem w_neB {x y : Bool} (h : Q (.bl (!decide (x = y))) H) : rNe (.bl x) (.bl y) H Q := ⟨rfl, by
  have e : decide (V.bl x = V.bl y) = decide (x = y) := by
    by_cases q : x = y
    · subst q; rw [decide_eq_true rfl, decide_eq_true rfl]
    · rw [decide_eq_false q, decide_eq_false (fun z => q (V.bl.inj z))]
  rw [e]; exact h⟩
theorem w_eqN (h : Q (.bl true) H) : rEq .non .non H Q := ⟨rfl, h⟩
theorem w_popAt {l : Addr} {xs : List V} {i : Int} {k : Nat} {y : V} (h1 : H l = some (.lst xs)) (h2 : -(2 ^ 63) ≤ i) (h3 : i < 2 ^ 63) (h4 : seqIndex? i xs.length = some k) (h5 : xs[k]? = some y) (h : ∀ H1, H1 l = some (.lst (xs.eraseIdx k)) → Off l H H1 → Q y H1) : rPopAt (.ref l) [.int i] H Q :=
  ⟨l, xs, i, k, y, rfl, rfl, h1, h2, h3, h4, h5, h _ upd_same fun x hx => upd_ne hx⟩
theorem w_sub {to ti : TE} {t : TSet} {R : St → Hp → Prop} (h : to σ H fun o H1 => ti σ H1 fun i H2 => t o i v H2 fun H3 => R σ H3) : gSub to ti t v σ H R := h
theorem w_setL {p : Addr} {xs ys : List V} {k : Int} {j : Nat} {R : Hp → Prop} (h1 : H p = some (.lst xs)) (h2 : ixN xs.length k = some j) (e : xs.set j v = ys) (h : ∀ H1, H1 p = some (.lst ys) → Off p H H1 → R H1) : rSetL (.ref p) (.int k) v H R :=
  ⟨p, xs, k, j, rfl, rfl, h1, h2, by rw [e]; exact h _ upd_same fun x hx => upd_ne hx⟩
theorem w_if {c : TT} {t u : TS} (h : c σ H fun b H1 => if b = true then t ⟨nx, rt, bk, ct⟩ σ H1 else u ⟨nx, rt, bk, ct⟩ σ H1) : tIfS c t u ⟨nx, rt, bk, ct⟩ σ H := h
theorem w_test {t : TE} {R : Bool → Hp → Prop} (h : t σ H fun x H' => ∃ k, x = .bl k ∧ R k H') : tTest t σ H R := h
theorem w_tb {t : TE} {R : Bool → Hp → Prop} (h : t σ H fun x H' => ∃ k, x = .bl k ∧ R k H') : tB t σ H R := h
theorem w_bl {b : Bool} {R : Bool → Prop} (h : R b) : ∃ k, V.bl b = .bl k ∧ R k := ⟨b, rfl, h⟩
theorem w_and {t u : TT} {R : Bool → Hp → Prop} (h : t σ H fun c H1 => if c = true then u σ H1 R else R false H1) : tAnd t u σ H R := h
theorem w_or {t u : TT} {R : Bool → Hp → Prop} (h : t σ H fun c H1 => if c = true then R true H1 else u σ H1 R) : tOr t u σ H R := h
theorem w_not {t : TT} {R : Bool → Hp → Prop} (h : t σ H fun c H1 => R (!c) H1) : tNot t σ H R := h
theorem w_andV {ta tb : TE} (h : ta σ H fun x H1 => ∃ c, x = .bl c ∧ if c = true then tb σ H1 Q else Q (.bl false) H1) : tAndV ta tb σ H Q := h
theorem w_orV {ta tb : TE} (h : ta σ H fun x H1 => ∃ c, x = .bl c ∧ if c = true then Q (.bl true) H1 else tb σ H1 Q) : tOrV ta tb σ H Q := h
theorem w_notV {ta : TE} (h : ta σ H fun x H1 => ∃ c, x = .bl c ∧ Q (.bl (!c)) H1) : tNotV ta σ H Q := h
theorem w_ite {p : Prop} {inst : Decidable p} {A B : Prop} (h1 : p → A) (h2 : ¬ p → B) : if decide p = true then A else B := by
  by_cases h : p
  · rw [if_pos (decide_eq_true h)]; exact h1 h
  · rw [if_neg (fun z => h (of_decide_eq_true z))]; exact h2 h
theorem w_itN {p : Prop} {inst : Decidable p} {A B : Prop} (h1 : ¬ p → A) (h2 : p → B) : if (!decide p) = true then A else B := by
  by_cases h : p
  · rw [decide_eq_true h]; exact h2 h
  · rw [decide_eq_false h]; exact h1 h
theorem w_yes {p : Prop} {inst : Decidable p} {A B : Prop} (h : p) (a : A) : if decide p = true then A else B := by rw [if_pos (decide_eq_true h)]; exact a
theorem w_no {p : Prop} {inst : Decidable p} {A B : Prop} (h : ¬ p) (b : B) : if decide p = true then A else B := by rw [if_neg (fun z => h (of_decide_eq_true z))]; exact b
theorem w_nyes {p : Prop} {inst : Decidable p} {A B : Prop} (h : p) (b : B) : if (!decide p) = true then A else B := by rw [decide_eq_true h]; exact b
theorem w_nno {p : Prop} {inst : Decidable p} {A B : Prop} (h : ¬ p) (a : A) : if (!decide p) = true then A else B := by rw [decide_eq_false h]; exact a
theorem w_itB {b : Bool} {A B : Prop} (h1 : b = true → A) (h2 : b = false → B) : if b = true then A else B := by
  cases b with
  | true => exact h1 rfl
  | false => exact h2 rfl
theorem w_itNB {b : Bool} {A B : Prop} (h1 : b = false → A) (h2 : b = true → B) : if (!b) = true then A else B := by
  cases b with
  | true => exact h2 rfl
  | false => exact h1 rfl
theorem w_nT {A B : Prop} (h : B) : if (!true) = true then A else B := h
theorem w_nF {A B : Prop} (h : A) : if (!false) = true then A else B := h
theorem w_nnT {A B : Prop} (h : A) : if (!(!true)) = true then A else B := h
theorem w_ret {te : TE} (h : te σ H rt) : tRet te ⟨nx, rt, bk, ct⟩ σ H := h
theorem w_drop {te : TE} (h : te σ H fun _ H1 => nx σ H1) : tDrop te ⟨nx, rt, bk, ct⟩ σ H := h
theorem w_next (h : nx σ H) : tNext ⟨nx, rt, bk, ct⟩ σ H := h
theorem w_cb {r : List V → Hp → VK → Prop} {t : TA} (h : t σ H fun vs H1 => r vs H1 Q) : tCB r t σ H Q := h
theorem w_nil {R : List V → Hp → Prop} (h : R [] H) : tNil σ H R := h
theorem w_cons {ta : TE} {tr : TA} {R : List V → Hp → Prop} (h : ta σ H fun x H1 => tr σ H1 fun xs H2 => R (x :: xs) H2) : tCons ta tr σ H R := h
theorem w_call {sp : Sp} {E : XK} {t : TA} (h : t σ H fun vs H1 => sp (vs ++ []) H1 Q E) : tCall sp [] E t σ H Q := h
theorem w_lst {t : TA} (h : t σ H fun xs H1 => xs.length ≤ sizeLine ∧ Nw (.lst xs) H1 Q) : tLst t σ H Q := h
theorem w_tup {t : TA} (h : t σ H fun xs H1 => xs.length ≤ sizeLine ∧ Nw (.tup xs) H1 Q) : tTup t σ H Q := h
theorem w_new {o : HO} (h : ∀ p H2, H p = none → H2 p = some o → Same H H2 → Q (.ref p) H2) : Nw o H Q := fun p hp => h p _ hp upd_same (Same.new hp)
theorem w_sz {n : Nat} {o : HO} (h1 : n ≤ sizeLine) (h : Nw o H Q) : n ≤ sizeLine ∧ Nw o H Q := ⟨h1, h⟩
theorem w_app {p : Addr} {xs : List V} (h1 : H p = some (.lst xs)) (h2 : xs.length < sizeLine) (h : ∀ H1, H1 p = some (.lst (xs ++ [v])) → Off p H H1 → Q .non H1) : rAppend (.ref p) [v] H Q :=
  ⟨p, xs, v, rfl, rfl, h1, h2, h _ upd_same fun x hx => upd_ne hx⟩
theorem w_bm {r : V → List V → Hp → VK → Prop} {to : TE} {t : TA} (h : to σ H fun x H1 => tyV K "list" x H1 ∧ t σ H1 fun xs H2 => r x xs H2 Q) : tBM K "list" r to t σ H Q := h
theorem w_tyL {p : Addr} {xs : List V} {A : Prop} (h1 : H p = some (.lst xs)) (h : A) : tyV K "list" (.ref p) H ∧ A := ⟨.inl ⟨rfl, _, .inl (.inl h1)⟩, h⟩
theorem w_lenL {p : Addr} {ys : List V} (h1 : SqL K H p ys) (h : Q (.int ys.length) H) : rLen K [V.ref p] H Q := ⟨p, ys, rfl, .inl h1, h⟩
theorem w_lenT {p : Addr} {ys : List V} (h1 : SqT K H p ys) (h : Q (.int ys.length) H) : rLen K [V.ref p] H Q := ⟨p, ys, rfl, .inr h1, h⟩
theorem w_min2 {i j : Int} (h : Q (.int (if j < i then j else i)) H) : rMin2 [V.int i, V.int j] H Q := ⟨i, j, rfl, h⟩
theorem w_max2 {i j : Int} (h : Q (.int (if j > i then j else i)) H) : rMax2 [V.int i, V.int j] H Q := ⟨i, j, rfl, h⟩
theorem w_listL {p : Addr} {ys : List V} (h1 : SqL K H p ys) (h : ∀ l H2, H l = none → H2 l = some (.lst ys) → Same H H2 → Q (.ref l) H2) : rListOf K [V.ref p] H Q := ⟨p, ys, rfl, .inl h1, w_new h⟩
theorem w_listT {p : Addr} {ys : List V} (h1 : SqT K H p ys) (h : ∀ l H2, H l = none → H2 l = some (.lst ys) → Same H H2 → Q (.ref l) H2) : rListOf K [V.ref p] H Q := ⟨p, ys, rfl, .inr h1, w_new h⟩
theorem w_tupL {p : Addr} {ys : List V} (h1 : SqL K H p ys) (h : ∀ l H2, H l = none → H2 l = some (.tup ys) → Same H H2 → Q (.ref l) H2) : rTupOf K [V.ref p] H Q := ⟨p, ys, rfl, .inl ⟨h1, w_new h⟩⟩
theorem w_sum {p : Addr} {ns : List Int} (h1 : SqL K H p (ns.map V.int)) (h : Q (.int ns.sum) H) : rSum K [V.ref p] H Q := ⟨p, ns, rfl, h1, h⟩
theorem w_tupRg {te : St → Hp → (Int → Int → Hp → Prop) → Prop} (h : te σ H fun a b H1 => RgOk a b ∧ Nw (.tup (rgV a b)) H1 Q) : tTupRg te σ H Q := h
theorem w_rg2 {ta tb : TE} {R : Int → Int → Hp → Prop} (h : ta σ H fun x H1 => tb σ H1 fun y H2 => rRg2 x y H2 R) : tRg2 ta tb σ H R := h
theorem w_rg2' {i j : Int} {R : Int → Int → Hp → Prop} (h : R i j H) : rRg2 (.int i) (.int j) H R := ⟨i, j, rfl, rfl, h⟩
theorem w_bits {to : TE} (h : to σ H fun x H1 => rBits x H1 Q) : tBits to σ H Q := h
theorem w_bits' {i : Int} (h : Q (.int (Builtin.Int.intBits i : Nat)) H) : rBits (.int i) H Q := ⟨i, rfl, h⟩
theorem w_isi {x : V} {a n : String} {b : Bool} (ty : TyX K H x (.type a)) (hk : kitB a n = some b) (h : Q (.bl b) H) : rIsi K [x, .ty n] H Q := ⟨x, .ty n, _, _, b, rfl, .ty n, ty, kit_ty hk, h⟩
theorem w_eqS {x y : Str} (h : Q (.bl (decide (x = y))) H) : rEq (.str x) (.str y) H Q := ⟨rfl, by
  have e : decide (V.str x = V.str y) = decide (x = y) := by
    by_cases q : x = y
    · subst q; rw [decide_eq_true rfl, decide_eq_true rfl]
    · rw [decide_eq_false q, decide_eq_false (fun z => q (V.str.inj z))]
  rw [e]; exact h⟩
theorem w_eqB {x y : Bool} (h : Q (.bl (decide (x = y))) H) : rEq (.bl x) (.bl y) H Q := ⟨rfl, by
  have e : decide (V.bl x = V.bl y) = decide (x = y) := by
    by_cases q : x = y
    · subst q; rw [decide_eq_true rfl, decide_eq_true rfl]
    · rw [decide_eq_false q, decide_eq_false (fun z => q (V.bl.inj z))]
  rw [e]; exact h⟩
theorem w_tupT {p : Addr} {ys : List V} (h1 : SqT K H p ys) (h : Q (.ref p) H) : rTupOf K [V.ref p] H Q := ⟨p, ys, rfl, .inr ⟨h1, h⟩⟩
/-! targets, dicts -/
theorem w_gtup {a : Addr} {xs : List V} {n : Nat} {t : TGs} {R : St → Hp → Prop} (h1 : SqT K H a xs) (h2 : xs.length = n) (h : t xs σ H R) : gTup K n t (.ref a) σ H R := ⟨a, xs, rfl, h1, h2, h⟩
theorem w_gcons {t : TG} {u : TGs} {r : List V} {R : St → Hp → Prop} (h : t v σ H fun σ' H' => u r σ' H' R) : gCons t u (v :: r) σ H R := ⟨v, r, rfl, h⟩
theorem w_gnil {R : St → Hp → Prop} (h : R σ H) : gNil [] σ H R := ⟨rfl, h⟩
theorem w_din {ty td : TE} (h : ty σ H fun y H1 => td σ H1 fun x H2 => rDIn x y H2 Q) : tDIn ty td σ H Q := h
theorem w_dnotin {ty td : TE} (h : ty σ H fun y H1 => td σ H1 fun x H2 => rDNotIn x y H2 Q) : tDNotIn ty td σ H Q := h
theorem w_dget {ty td : TE} (h : td σ H fun x H1 => ty σ H1 fun y H2 => rDGet x y H2 Q) : tDGet td ty σ H Q := h
theorem w_dinI {a : Addr} {kvs : List (Key × V)} {n : Int} (e : H a = some (.dK kvs)) (h : Q (.bl (valV kvs (Sum.inl n)).isSome) H) : rDIn (.ref a) (.int n) H Q := ⟨a, _, rfl, DGet.k (k := Sum.inl n) e, h⟩
theorem w_dnotinI {a : Addr} {kvs : List (Key × V)} {n : Int} (e : H a = some (.dK kvs)) (h : Q (.bl (!(valV kvs (Sum.inl n)).isSome)) H) : rDNotIn (.ref a) (.int n) H Q := ⟨a, _, rfl, DGet.k (k := Sum.inl n) e, h⟩
theorem w_dgetI {a : Addr} {kvs : List (Key × V)} {n : Int} (e : H a = some (.dK kvs)) (e2 : valV kvs (Sum.inl n) = some v) (h : Q v H) : rDGet (.ref a) (.int n) H Q := ⟨a, v, rfl, e2 ▸ DGet.k (k := Sum.inl n) e, h⟩
theorem w_dnewK (h : Nw (.dK []) H Q) : tDNewK σ H Q := h
theorem w_dput {td ty tv : TE} (h : tv σ H fun v H1 => td σ H1 fun x H2 => ty σ H2 fun y H3 => rDPut x y v H3 fun H4 => nx σ H4) : sDPut td ty tv ⟨nx, rt, bk, ct⟩ σ H := h
theorem w_seqP {td ty tv : TE} {u : TS} (h : tv σ H fun v H1 => td σ H1 fun x H2 => ty σ H2 fun y H3 => rDPut x y v H3 fun H4 => u ⟨nx, rt, bk, ct⟩ σ H4) : tSeq (sDPut td ty tv) u ⟨nx, rt, bk, ct⟩ σ H := h
theorem w_dputI {a : Addr} {kvs : List (Key × V)} {n : Int} {R : Hp → Prop} (e : H a = some (.dK kvs)) (hl : kvs.length < sizeLine) (h : ∀ H1, H1 a = some (.dK (putK kvs (Sum.inl n) v)) → Off a H H1 → R H1) : rDPut (.ref a) (.int n) v H R :=
  ⟨a, _, rfl, DPut.k (k := Sum.inl n) e hl, h _ upd_same fun x hx => upd_ne hx⟩
theorem w_dget2 {td ty tx : TE} (h : td σ H fun x H1 => rIsD x H1 fun a H1 => ty σ H1 fun y H2 => tx σ H2 fun z H3 => rDGet2 a y z H3 Q) : tDGet2 td ty tx σ H Q := h
theorem w_isD {a : Addr} {kvs : List (Key × V)} {R : Addr → Hp → Prop} (e : H a = some (.dK kvs)) (h : R a H) : rIsD (.ref a) H R := ⟨a, rfl, .inl ⟨kvs, .inl e⟩, h⟩
theorem w_dget2I {a : Addr} {kvs : List (Key × V)} {n : Int} {z : V} (e : H a = some (.dK kvs)) (h : Q ((valV kvs (Sum.inl n)).getD z) H) : rDGet2 a (.int n) z H Q := ⟨_, DGet.k (k := Sum.inl n) e, h⟩
theorem w_dsetd {td ty tx : TE} (h : td σ H fun x H1 => rIsD x H1 fun a H1 => ty σ H1 fun y H2 => tx σ H2 fun z H3 => rDSetd a y z H3 Q) : tDSetd td ty tx σ H Q := h
theorem w_dsetdI {a : Addr} {kvs : List (Key × V)} {n : Int} {z : V} (e : H a = some (.dK kvs)) (hl : kvs.length < sizeLine) (h1 : ∀ u, valV kvs (Sum.inl n) = some u → Q u H) (h2 : valV kvs (Sum.inl n) = none → ∀ H1, H1 a = some (.dK (putK kvs (Sum.inl n) z)) → Off a H H1 → Q z H1) : rDSetd a (.int n) z H Q :=
  ⟨kvs, Sum.inl n, e, rfl, hl, h1, fun z => h2 z _ upd_same fun x hx => upd_ne hx⟩
theorem w_sortD {a : Addr} {kvs : List (Key × V)} {ks : List Int} (e : H a = some (.dK kvs)) (hk : kvs.map (·.1) = ks.map Sum.inl) (hl : ks.length < 64) (h : ∀ (ys : List Int) p H1, ys.Perm ks → ys.Pairwise (· ≤ ·) → H p = none → H1 p = some (.lst (ys.map V.int)) → Same H H1 → Q (.ref p) H1) : rSortD [.ref a] H Q :=
  ⟨a, kvs, ks, rfl, .inl e, hk, hl, fun ys p hp hs hn => h ys p _ hp hs hn upd_same (Same.new hn)⟩
theorem w_leT2 {p q : Addr} {a b c d : Int} (h1 : SqT K H p [.int a, .int b]) (h2 : SqT K H q [.int c, .int d]) (h : Q (.bl (decide (a < c ∨ a = c ∧ b ≤ d))) H) : rLeT K (.ref p) (.ref q) H Q := by
  refine ⟨p, q, [a, b], [c, d], rfl, rfl, h1, h2, ?_⟩
  have e : Ob.lexAt (fun j => decide (([a, b] : List Int).getD j 0 = ([c, d] : List Int).getD j 0)) (fun j => decide (([a, b] : List Int).getD j 0 ≤ ([c, d] : List Int).getD j 0)) (decide (([a, b] : List Int).length ≤ ([c, d] : List Int).length)) 0 (min ([a, b] : List Int).length ([c, d] : List Int).length) = decide (a < c ∨ a = c ∧ b ≤ d) := by
    show (if decide (a = c) = true then (if decide (b = d) = true then true else decide (b ≤ d)) else decide (a ≤ c)) = _
    by_cases h1 : a = c
    · rw [if_pos (decide_eq_true h1)]
      by_cases h2 : b = d
      · rw [if_pos (decide_eq_true h2)]
        exact (decide_eq_true (by omega)).symm
      · rw [if_neg (fun z => h2 (of_decide_eq_true z))]
        rw [Bool.eq_iff_iff]; simp; omega
    · rw [if_neg (fun z => h1 (of_decide_eq_true z))]
      rw [Bool.eq_iff_iff]; simp; omega
  rw [e]
  exact h
theorem inV_ints (n : Int) (vs : List Int) : inV (.int n) (vs.map V.int) = decide (n ∈ vs) := by
  unfold inV
  rw [Bool.eq_iff_iff, List.any_eq_true]
  constructor
  · rintro ⟨y, hy, e⟩
    obtain ⟨z, hz, rfl⟩ := List.mem_map.mp hy
    have e' : z = n := by simpa [eqV] using e
    subst e'
    exact decide_eq_true hz
  · intro h
    exact ⟨.int n, List.mem_map_of_mem (of_decide_eq_true h), by simp [eqV]⟩
theorem flat_ints (vs : List Int) : (vs.map V.int).all flatV = true := by
  rw [List.all_eq_true]
  intro y hy
  obtain ⟨z, _, rfl⟩ := List.mem_map.mp hy
  rfl
theorem w_inT {p : Addr} {vs : List Int} {n : Int} (h1 : SqT K H p (vs.map V.int)) (h : Q (.bl (decide (n ∈ vs))) H) : rIn K false (.int n) (.ref p) H Q := ⟨p, _, rfl, .inr h1, rfl, flat_ints vs, by rw [inV_ints]; exact h⟩
theorem w_ninT {p : Addr} {vs : List Int} {n : Int} (h1 : SqT K H p (vs.map V.int)) (h : Q (.bl (!decide (n ∈ vs))) H) : rIn K true (.int n) (.ref p) H Q := ⟨p, _, rfl, .inr h1, rfl, flat_ints vs, by rw [inV_ints]; exact h⟩
theorem w_inL {p : Addr} {vs : List Int} {n : Int} (h1 : SqL K H p (vs.map V.int)) (h : Q (.bl (decide (n ∈ vs))) H) : rIn K false (.int n) (.ref p) H Q := ⟨p, _, rfl, .inl h1, rfl, flat_ints vs, by rw [inV_ints]; exact h⟩
theorem w_ninL {p : Addr} {vs : List Int} {n : Int} (h1 : SqL K H p (vs.map V.int)) (h : Q (.bl (!decide (n ∈ vs))) H) : rIn K true (.int n) (.ref p) H Q := ⟨p, _, rfl, .inl h1, rfl, flat_ints vs, by rw [inV_ints]; exact h⟩
def rDisp (p : Addr) (ps : List (V × V)) (H2 : Hp) (Q : VK) : Prop := H2 p = some (.dK []) ∧ ∃ kvs : List (Key × V), ps = kvs.map (fun kv => (kV kv.1, kv.2)) ∧ kvs.length ≤ 15 ∧ Q (.ref p) (upd H2 p (.dK (mergeK [] kvs)))
theorem w_disp {trs : List (TE × TE)} (h : ∀ p H1, H p = none → H1 p = some (.dK []) → Same H H1 → tPairs trs σ H1 (fun ps H2 => rDisp p ps H2 Q)) : tDisp trs σ H Q := fun p hp => h p _ hp upd_same (Same.new hp)
theorem w_pair {tk tv : TE} {r : List (TE × TE)} {R : List (V × V) → Hp → Prop} (h : tk σ H fun x H1 => tv σ H1 fun y H2 => tPairs r σ H2 fun ps H3 => R ((x, y) :: ps) H3) : tPairs ((tk, tv) :: r) σ H R := h
theorem w_pnil {R : List (V × V) → Hp → Prop} (h : R [] H) : tPairs [] σ H R := h
theorem w_dispE {p : Addr} {ps : List (V × V)} (kvs : List (Key × V)) (h1 : H p = some (.dK [])) (h2 : ps = kvs.map (fun kv => (kV kv.1, kv.2))) (h3 : kvs.length ≤ 15) (h : ∀ H1, H1 p = some (.dK (mergeK [] kvs)) → Off p H H1 → Q (.ref p) H1) : rDisp p ps H Q :=
  ⟨h1, kvs, h2, h3, h _ upd_same fun x hx => upd_ne hx⟩
theorem w_callS {sp : Sp} {E : St → XK} {t : TA} (h : t σ H fun vs H1 => sp vs H1 Q (E σ)) : tCallS sp E t σ H Q := h
theorem w_isB {x y : Bool} (h : Q (.bl (decide (x = y))) H) : rIsBl (.bl x) (.bl y) H Q := ⟨x, y, rfl, rfl, h⟩
theorem w_isN (h : Q (.bl (decide (v = .non))) H) : rIsNon v .non H Q := ⟨rfl, h⟩
theorem w_notN (h : Q (.bl (!decide (v = .non))) H) : rNotNon v .non H Q := ⟨rfl, h⟩
theorem w_chain {r r' : R2} {ta tb tc : TE} (h : ta σ H fun x H1 => tb σ H1 fun y H2 => r x y H2 fun z H3 => ∃ k, z = .bl k ∧ (if k = true then tc σ H3 fun w' H4 => r' y w' H4 Q else Q (.bl false) H3)) : tChain r r' ta tb tc σ H Q := h
theorem w_trL {p : Addr} {xs : List V} {R : Bool → Hp → Prop} (h1 : SqL K H p xs) (h : R (!xs.isEmpty) H) : rTru K (.ref p) H R := ⟨_, .inl ⟨xs, h1, rfl⟩, h⟩
theorem w_trT {p : Addr} {xs : List V} {R : Bool → Hp → Prop} (h1 : SqT K H p xs) (h : R (!xs.isEmpty) H) : rTru K (.ref p) H R := ⟨_, .inr (.inl ⟨xs, h1, rfl⟩), h⟩
theorem w_tru {ta : TE} {R : Bool → Hp → Prop} (h : ta σ H fun x H1 => rTru K x H1 R) : tTru K ta σ H R := h
theorem w_seqX {w : Stmt → Prop} {u : TS} {t : TS} (h : t ⟨u ⟨nx, rt, bk, ct⟩, rt, bk, ct⟩ σ H) : tSeq t u ⟨nx, rt, bk, ct⟩ σ H := h
/-! loops -/
def Lp (J : It) (g : TG) (tb : TS) (D : Ends) (σ : St) (H1 : Hp) : Prop := ∃ W : Nat → Nat → St → Hp → Prop, (∃ m, W 0 m σ H1) ∧ ∀ i m σ H, W i m σ H →
  (J.stop i H ∧ D.nx σ H) ∨ (J.go i H ∧ ∃ N : St → Hp → Prop, (∀ σ' H', N σ' H' → ∃ m', m' < m ∧ W (i + 1) m' σ' H') ∧ ∀ x H', J.yld i H x H' → g x σ H' fun σ2 H2 => tb { D with nx := N, ct := N, bk := D.nx } σ2 H2)
theorem w_for {wi : TI} {g : TG} {tb : TS} (h : wi σ H fun J H1 => Lp J g tb ⟨nx, rt, bk, ct⟩ σ H1) : tFor wi g tb ⟨nx, rt, bk, ct⟩ σ H := h
theorem lp_it {J : It} {n : Nat} {G : Hp → Prop} {Y : Nat → Hp → V → Hp → Prop} (w : Walk J n G Y) {g : TG} {tb : TS} (Pv : Nat → St → Hp → Prop) (h0 : Pv 0 σ H) (hG : ∀ i σ H, i ≤ n → Pv i σ H → G H)
    (hs : ∀ i x σ H H', i < n → Pv i σ H → Y i H x H' → g x σ H' fun σ2 H2 => tb ⟨Pv (i + 1), rt, nx, Pv (i + 1)⟩ σ2 H2) (hd : ∀ σ H, Pv n σ H → nx σ H) : Lp J g tb ⟨nx, rt, bk, ct⟩ σ H :=
  for_it w (D := ⟨nx, rt, bk, ct⟩) Pv h0 hG hs hd
theorem lp_list {a : Addr} {xs : List V} {g : TG} {tb : TS} (Pv : Nat → St → Hp → Prop) (h0 : Pv 0 σ H) (hl : ∀ i σ H, i ≤ xs.length → Pv i σ H → SqL K H a xs)
    (hs : ∀ i x σ H, xs[i]? = some x → Pv i σ H → g x σ H fun σ2 H2 => tb ⟨Pv (i + 1), rt, nx, Pv (i + 1)⟩ σ2 H2) (hd : ∀ σ H, Pv xs.length σ H → nx σ H) : Lp (Itl K a) g tb ⟨nx, rt, bk, ct⟩ σ H :=
  for_list (D := ⟨nx, rt, bk, ct⟩) Pv h0 hl hs hd
theorem lp_tup {a : Addr} {xs : List V} {g : TG} {tb : TS} (Pv : Nat → St → Hp → Prop) (h0 : Pv 0 σ H) (hl : ∀ i σ H, i ≤ xs.length → Pv i σ H → SqT K H a xs)
    (hs : ∀ i x σ H, xs[i]? = some x → Pv i σ H → g x σ H fun σ2 H2 => tb ⟨Pv (i + 1), rt, nx, Pv (i + 1)⟩ σ2 H2) (hd : ∀ σ H, Pv xs.length σ H → nx σ H) : Lp (Itt K a) g tb ⟨nx, rt, bk, ct⟩ σ H :=
  for_tup (D := ⟨nx, rt, bk, ct⟩) Pv h0 hl hs hd
theorem lp_range {lo : Int} {n : Nat} {g : TG} {tb : TS} (Pv : Nat → St → Hp → Prop) (h0 : Pv 0 σ H)
    (hs : ∀ i σ H, i < n → Pv i σ H → g (.int (lo + i)) σ H fun σ2 H2 => tb ⟨Pv (i + 1), rt, nx, Pv (i + 1)⟩ σ2 H2) (hd : ∀ σ H, Pv n σ H → nx σ H) : Lp (Itr lo n) g tb ⟨nx, rt, bk, ct⟩ σ H :=
  for_range (D := ⟨nx, rt, bk, ct⟩) Pv h0 hs hd
theorem w_rng1 {t : TA} {R : It → Hp → Prop} (h : t σ H fun vs H1 => rRng1 vs H1 R) : iRng1 t σ H R := h
theorem w_rng1' {j : Int} {R : It → Hp → Prop} (h1 : -(2 ^ 62) ≤ j) (h2 : j < 2 ^ 62) (h : R (Itr 0 j.toNat) H) : rRng1 [.int j] H R := ⟨j, rfl, h1, h2, h⟩
theorem w_rng2 {t : TA} {R : It → Hp → Prop} (h : t σ H fun vs H1 => rRng2 vs H1 R) : iRng2 t σ H R := h
theorem w_rng2' {i j : Int} {R : It → Hp → Prop} (h1 : -(2 ^ 62) ≤ i ∧ i < 2 ^ 62 ∧ -(2 ^ 62) ≤ j ∧ j < 2 ^ 62) (h : R (Itr i (j - i).toNat) H) : rRng2 [.int i, .int j] H R := ⟨i, j, rfl, h1, h⟩
theorem w_itL {tl : TE} {R : It → Hp → Prop} (h : tl σ H fun x H1 => rItL K x H1 R) : iList K tl σ H R := h
theorem w_itL' {a : Addr} {xs : List V} {R : It → Hp → Prop} (h1 : SqL K H a xs) (h : R (Itl K a) H) : rItL K (.ref a) H R := ⟨a, rfl, ⟨xs, h1⟩, h⟩
theorem w_itT {tl : TE} {R : It → Hp → Prop} (h : tl σ H fun x H1 => rItT K x H1 R) : iTup K tl σ H R := h
theorem w_itT' {a : Addr} {xs : List V} {R : It → Hp → Prop} (h1 : SqT K H a xs) (h : R (Itt K a) H) : rItT K (.ref a) H R := ⟨a, rfl, ⟨xs, h1⟩, h⟩
theorem w_while {c : TT} {tb : TS} (Pv : St → Hp → Prop) (μ : St → Hp → Nat) (h0 : Pv σ H)
    (hs : ∀ σ H, Pv σ H → c σ H fun b H1 => if b = true then ∃ N : St → Hp → Prop, (∀ σ' H', N σ' H' → Pv σ' H' ∧ μ σ' H' < μ σ H) ∧ tb ⟨N, rt, nx, N⟩ σ H1 else nx σ H1) (mono : ∀ σ H (R R' : Bool → Hp → Prop), (∀ b H1, R b H1 → R' b H1) → c σ H R → c σ H R') : tWhile c tb ⟨nx, rt, bk, ct⟩ σ H := by
  refine ⟨fun m σ H => m = μ σ H ∧ Pv σ H, ⟨_, rfl, h0⟩, ?_⟩
  rintro m σ H ⟨rfl, p⟩
  refine mono σ H _ _ (fun b H1 q => ?_) (hs σ H p)
  cases b with
  | true =>
    obtain ⟨N, h1, h2⟩ := q
    exact ⟨N, fun σ' H' z => ⟨_, (h1 σ' H' z).2, rfl, (h1 σ' H' z).1⟩, h2⟩
  | false => exact q
/-- one turn of a while: W (by a falling number) is reached again -/
def WhT (W : Nat → St → Hp → Prop) (m : Nat) (tb : TS) (rt : VK) (nx : St → Hp → Prop) (σ : St) (H : Hp) : Prop := ∃ N : St → Hp → Prop, (∀ σ' H', N σ' H' → ∃ m', m' < m ∧ W m' σ' H') ∧ tb ⟨N, rt, nx, N⟩ σ H
theorem w_turn {W : Nat → St → Hp → Prop} {m : Nat} {tb : TS} (h : tb ⟨fun σ' H' => ∃ m', m' < m ∧ W m' σ' H', rt, nx, fun σ' H' => ∃ m', m' < m ∧ W m' σ' H'⟩ σ H) : WhT W m tb rt nx σ H := ⟨_, fun _ _ z => z, h⟩
theorem w_whileN {c : TT} {tb : TS} (W : Nat → St → Hp → Prop) (m0 : Nat) (h0 : W m0 σ H) (hs : ∀ m σ H, W m σ H → c σ H fun b H1 => if b = true then WhT W m tb rt nx σ H1 else nx σ H1) : tWhile c tb ⟨nx, rt, bk, ct⟩ σ H := ⟨W, ⟨m0, h0⟩, hs⟩
/-! comprehensions -/
def LcP (J : It) (g : TG) (tt : TT) (te : TE) (vs : List Nat) (Q : VK) (σ : St) (H1 : Hp) : Prop := ∀ D, H1 D = none → ∃ W : Nat → Nat → Hp → Prop, (∃ m, W 0 m (upd H1 D (.lst []))) ∧ ∀ i m H, W i m H →
  (J.stop i H ∧ Q (.ref D) H) ∨ (J.go i H ∧ ∃ Nx : Hp → Prop, (∀ H', Nx H' → ∃ m', m' < m ∧ W (i + 1) m' H') ∧ ∀ x H', J.yld i H x H' → g x (wipe σ vs) H' fun σ2 H2 => wipe σ2 vs = wipe σ vs ∧ tt σ2 H2 fun b H3 =>
    if b = true then te σ2 H3 fun y H4 => ∃ acc, H4 D = some (.lst acc) ∧ acc.length < sizeLine ∧ Nx (upd H4 D (.lst (acc ++ [y]))) else Nx H3)
theorem w_lc {wi : TI} {g : TG} {tt : TT} {te : TE} {vs : List Nat} (h : wi σ H fun J H1 => LcP J g tt te vs Q σ H1) : tLc wi g tt te vs σ H Q := h
/-- each turn adds one: the k-th is ys[k]; what stood but M stands -/
theorem lcp_map {J : It} {n : Nat} {G : Hp → Prop} {Y : Nat → Hp → V → Hp → Prop} (w : Walk J n G Y) {g : TG} {te : TE} {vs : List Nat} (M : List Addr) (ys : List V) (hn : ys.length = n) (hz : n ≤ 1000000) (hG : ∀ H', Kp M H H' → G H')
    (hs : ∀ i x H1 H2 (R : V → Hp → Prop), i < n → Kp M H H1 → Y i H1 x H2 → (∀ y H4, ys[i]? = some y → Kp M H1 H4 → R y H4) → g x (wipe σ vs) H2 fun σ2 H3 => wipe σ2 vs = wipe σ vs ∧ te σ2 H3 R)
    (hM : ∀ b ∈ M, ∃ o, H b = some o)
    (hd : ∀ D H', H D = none → Kp M H H' → H' D = some (.lst ys) → Q (.ref D) H') : LcP J g tYes te vs Q σ H := by
  intro D hD
  have hDM : D ∉ M := fun z => by obtain ⟨o, e⟩ := hM D z; rw [hD] at e; cases e
  refine lc_it w (fun i H' => Kp M H H' ∧ H' D = some (.lst (ys.take i))) ⟨Kp.new hD, upd_same⟩ (fun i H' _ z => hG H' z.1) ?_ ?_
  · rintro i x H1 H2 hi ⟨k1, e1⟩ y
    refine (hs i x H1 H2 _ hi k1 y ?_)
    intro z H4 hz' k4
    refine ⟨ys.take i, k4 _ _ hDM e1, ?_, ?_, ?_⟩
    · rw [List.length_take]; exact Nat.lt_of_le_of_lt (Nat.min_le_left _ _) (Nat.lt_of_lt_of_le (Nat.lt_of_lt_of_le hi hz) (by decide))
    · exact (k1.trans k4).mutN hD
    · rw [upd_same, List.take_add_one, hz']; rfl
  · rintro H' ⟨k, e⟩
    rw [List.take_of_length_le (by omega)] at e
    exact hd D H' hD k e
/-- each turn adds one of which P holds (P leans on tuples alone); S: what else holds turn by turn -/
theorem lcp_gen {J : It} {n : Nat} {G : Hp → Prop} {Y : Nat → Hp → V → Hp → Prop} (w : Walk J n G Y) {g : TG} {te : TE} {vs : List Nat} (M : List Addr) (P : Nat → V → Hp → Prop) (S : Nat → Hp → Prop) (hz : n ≤ 1000000)
    (mono : ∀ i y H1 H2, KT H1 H2 → P i y H1 → P i y H2) (SD : ∀ D, H D = none → ∀ i H1 o, S i H1 → S i (upd H1 D o)) (hG : ∀ i H', Kp M H H' → S i H' → G H') (S0 : S 0 H)
    (hs : ∀ i x H1 H2 (R : V → Hp → Prop), i < n → Kp M H H1 → KT H H1 → S i H1 → Y i H1 x H2 → (∀ y H4, P i y H4 → Kp M H1 H4 → KT H1 H4 → S (i + 1) H4 → R y H4) → g x (wipe σ vs) H2 fun σ2 H3 => wipe σ2 vs = wipe σ vs ∧ te σ2 H3 R)
    (hM : ∀ b ∈ M, ∃ o, H b = some o)
    (hd : ∀ D H' ys, ys.length = n → (∀ i y, ys[i]? = some y → P i y H') → H D = none → Kp M H H' → KT H H' → S n H' → H' D = some (.lst ys) → Q (.ref D) H') : LcP J g tYes te vs Q σ H := by
  intro D hD
  have hDM : D ∉ M := fun z => by obtain ⟨o, e⟩ := hM D z; rw [hD] at e; cases e
  refine lc_it w (fun i H' => Kp M H H' ∧ KT H H' ∧ S i H' ∧ ∃ ys, ys.length = i ∧ H' D = some (.lst ys) ∧ ∀ k y, ys[k]? = some y → P k y H') ⟨Kp.new hD, KT.refl.upd hD, SD D hD _ _ _ S0, [], rfl, upd_same, by simp⟩ (fun i H' _ z => hG i H' z.1 z.2.2.1) ?_ ?_
  · rintro i x H1 H2 hi ⟨k1, t1, s1, ys, hl, e1, hp⟩ y
    refine hs i x H1 H2 _ hi k1 t1 s1 y ?_
    intro z H4 pz k4 t4 s4
    have e4 := k4 _ _ hDM e1
    refine ⟨ys, e4, ?_, (k1.trans k4).mutN hD, (t1.trans t4).upd hD, SD D hD _ _ _ s4, ys ++ [z], by rw [List.length_append, hl]; rfl, upd_same, ?_⟩
    · rw [hl]; exact Nat.lt_of_lt_of_le (Nat.lt_of_lt_of_le hi hz) (by decide)
    · intro k y' hy'
      by_cases hk : k < ys.length
      · rw [List.getElem?_append_left hk] at hy'
        exact mono _ _ _ _ (KT.updL e4) (mono _ _ _ _ t4 (hp k y' hy'))
      · rw [List.getElem?_append_right (by omega)] at hy'
        by_cases hk2 : k = ys.length
        · subst hk2
          have e : z = y' := by simpa using hy'
          subst e
          rw [hl]
          exact mono _ _ _ _ (KT.updL e4) pz
        · rw [List.getElem?_eq_none (by simp; omega)] at hy'
          cases hy'
  · rintro H' ⟨k, t, sn, ys, hl, e, hp⟩
    exact hd D H' ys hl hp hD k t sn e
theorem lcp_rel {J : It} {n : Nat} {G : Hp → Prop} {Y : Nat → Hp → V → Hp → Prop} (w : Walk J n G Y) {g : TG} {te : TE} {vs : List Nat} (M : List Addr) (P : Nat → V → Hp → Prop) (hz : n ≤ 1000000)
    (mono : ∀ i y H1 H2, KT H1 H2 → P i y H1 → P i y H2) (hG : ∀ H', Kp M H H' → G H')
    (hs : ∀ i x H1 H2 (R : V → Hp → Prop), i < n → Kp M H H1 → KT H H1 → Y i H1 x H2 → (∀ y H4, P i y H4 → Kp M H1 H4 → KT H1 H4 → R y H4) → g x (wipe σ vs) H2 fun σ2 H3 => wipe σ2 vs = wipe σ vs ∧ te σ2 H3 R)
    (hM : ∀ b ∈ M, ∃ o, H b = some o)
    (hd : ∀ D H' ys, ys.length = n → (∀ i y, ys[i]? = some y → P i y H') → H D = none → Kp M H H' → KT H H' → H' D = some (.lst ys) → Q (.ref D) H') : LcP J g tYes te vs Q σ H :=
  lcp_gen w M P (fun _ _ => True) hz mono (fun _ _ _ _ _ _ => trivial) (fun _ H' k _ => hG H' k) trivial (fun i x H1 H2 R hi k t _ y h => hs i x H1 H2 R hi k t y fun y' H4 p k4 t4 => h y' H4 p k4 t4 trivial) hM fun D H' ys h1 h2 h3 h4 h5 _ h6 => hd D H' ys h1 h2 h3 h4 h5 h6
theorem refs_of {α : Type} (C : Addr → α → Prop) : ∀ (ys : List V) (F : Nat → α), (∀ j y, ys[j]? = some y → ∃ p, y = .ref p ∧ C p (F j)) → ∃ ps : List (Addr × α), ys = ps.map (fun q => .ref q.1) ∧ ps.map (·.2) = (List.range ys.length).map F ∧ ∀ q ∈ ps, C q.1 q.2
  | [], _, _ => ⟨[], rfl, rfl, by simp⟩
  | y :: r, F, h => by
    obtain ⟨p, rfl, hp⟩ := h 0 y rfl
    obtain ⟨ps, e1, e2, e3⟩ := refs_of C r (F ∘ Nat.succ) fun j z hz => h (j + 1) z hz
    refine ⟨(p, F 0) :: ps, by rw [e1]; rfl, ?_, ?_⟩
    · rw [List.length_cons, List.range_succ_eq_map, List.map_cons, e2, List.map_cons, List.map_map]
    · intro q hq
      rcases List.mem_cons.mp hq with rfl | hq
      · exact hp
      · exact e3 q hq
end
/-! ### errors -/
/-- what the top has written of an own error class without __init__ -/
structure Exn (K : PySem.W.Frag) (mg : Str → Option Value) (x : Str) (C : Addr) : Prop where
  g : mg x = some (.ref C)
  x : PySem.W.excIn K C [.type "ValueError", .type "Exception", .type "BaseException", .type "object"] "ValueError.__new__" = true
  k : PySem.W.keepIn K (.ref C) = true
  b : PySem.W.subIn K (.ref C) (.type "BaseException") = some true
  t : PySem.W.typeIn K (.ref C) = some (.type "type")
  e : PySem.W.exmOne K (.ref C) (.ref C) = some true
theorem exm_is {K : PySem.W.Frag} {t : Value} {C : Addr} {r : Bool} (hb : PySem.W.subIn K (.ref C) (.type "BaseException") = some true) (hi : PySem.W.isClsIn K C = true) (ht : PySem.W.typeIn K (.ref C) = some (.type "type")) (hs : PySem.W.subIn K t (.ref C) = some r) : PySem.W.exmOne K t (.ref C) = some r := by
  have hi' : (PySem.W.clsIn K C).isSome = true := hi
  unfold PySem.W.exmOne
  rw [hb, if_pos (by rfl)]
  show (if ((PySem.W.clsIn K C).isSome && PySem.W.typeIn K (Value.ref C) == some (Value.type "type")) = true then PySem.W.subIn K t (Value.ref C) else none) = some r
  rw [hi', ht]
  exact hs
def tTryO (K : PySem.W.Frag) (c : Value) (tb : WX → TS) (ts : Addr → Value → Option Addr → TS) : TS := fun D σ H => tb (wOnly K c ts (fun _ _ _ _ => False) D) D σ H
section
variable {X : Cx} {x : Str} {c : Value} {body suite : List Stmt} {b₀ : Stmt} {np pos pos' : Pos} {tb : WX → TS} {ts : Addr → Value → Option Addr → TS}
theorem p_try (hs : X.stack = X.env :: X.outer) (hf : X.env.frame = some X.env.locals) (hc : Names X x c)
    (hb : ∀ (W : WX) (pn : List (Addr × Obj)) (xe : Value → Shared → Prop), Takes (X.tr pn xe) W → PassesOwn (model X.prog X.w) X.A X.env xe → PSs (X.tr pn xe) body (tb W))
    (hsu : ∀ (a : Addr) (oe : Obj) (cls : Value) (d : Option Addr) (pn : List (Addr × Obj)), Zc cls d oe → (∃ vs, oe.data = .fields vs) → PSs (X.suite a ((a, oe) :: pn)) (b₀ :: suite) (ts a cls d)) :
    PS X (.Try body [.ExceptHandler (some (.Name x np)) none (b₀ :: suite) pos'] [] [] pos) (tTryO X.K c tb ts) := ps_try_only hs hf hc takes0 hb hsu
end
section
variable {K : PySem.W.Frag} {σ : St} {H : Hp} {nx bk ct : St → Hp → Prop} {rt : VK}
theorem w_try {c : Value} {tb : WX → TS} {ts : Addr → Value → Option Addr → TS} (h : tb (wOnly K c ts (fun _ _ _ _ => False) ⟨nx, rt, bk, ct⟩) ⟨nx, rt, bk, ct⟩ σ H) : tTryO K c tb ts ⟨nx, rt, bk, ct⟩ σ H := h
theorem w_only {c cls : Value} {d : Option Addr} {ts : Addr → Value → Option Addr → TS} {Wo : WX} {D : Ends} (e : PySem.W.exmOne K cls c = some true) (h : ∀ a, H a = none → ts a cls d D σ H) : wOnly K c ts Wo D cls d σ H := ⟨true, e, fun _ => h, fun z => nomatch z⟩
end
/-! ### dict comprehensions -/
section
open PySem.Spec PyProof.Rows
variable {X : Cx}
/-- name = {k: v for ..}, the name a local: as the layer's rule for a list's comprehension -/
theorem ps_setDc {i : Nat} {y : Str} {py : Pos} {kx vx tg iter : Expr} {ifs : List Expr} {scope : Scope} {own : List (Str × Nat)} {pos spos : Pos} {wi : TI} {g : TG} {tt : TT} {tk tv : TE}
    (hc : X.calm = true) (hN : X.N.Nodup) (hy : X.N[i]? = some y) (hyl : X.env.scope.names.lookup y = some .local)
    (hsw : swapsWith (.DictComp kx vx [⟨tg, iter, ifs, 0⟩] scope pos) (some (.Name y py)) spos.line X.env = pure true)
    (hi : PI X tg iter wi) (ok : BlkOk X.N X.env.scope scope own)
    (hg : ∀ s0 H0 C0 cl fp, PG (X.blk s0 H0 scope (compEnvC scope cl C0 X.env) fp) tg g) (ht : ∀ s0 H0 C0 cl fp, PTs (X.blk s0 H0 scope (compEnvC scope cl C0 X.env) fp) ifs tt)
    (hk : ∀ s0 H0 C0 cl fp, PE (X.blk s0 H0 scope (compEnvC scope cl C0 X.env) fp) kx tk) (he : ∀ s0 H0 C0 cl fp, PE (X.blk s0 H0 scope (compEnvC scope cl C0 X.env) fp) vx tv)
    (hs : ∀ z, foldedSetIterable iter X.env z = pure z := by intro _; rfl) :
    PS X (.Assign [.Name y py] (.DictComp kx vx [⟨tg, iter, ifs, 0⟩] scope pos) spos) (tAsg (tDc wi g tt tk tv (own.map (·.2))) (gName i)) := by
  constructor
  intro pins s σ H Ed I h
  rw [exec_Assign_Name_used y py _ _ hsw]
  apply wpAny_bind
  apply wpAny_standAt
  apply wpAny_bind
  show wpAny _ X.A (comprehension (.DictComp kx vx [⟨tg, iter, ifs, 0⟩] scope pos) scope X.env (firstIterPos [⟨tg, iter, ifs, 0⟩] pos) newDict false (eval iter X.env) (some (assign (.Name y py) X.env)) >>= fun _ => pure ()) _ _ s
  apply wpAny_bind
  have h' : tDc wi g tt tk tv (own.map (·.2)) σ H (fun x H1 => gName i x σ H1 Ed.nx) := h
  refine thn (dc_core (Qf := fun _ s1 => SP X pins Ed .next s1) hc hN I hi ok hg ht hk he hs h' ?_) (fun _ _ z => wpAny_pure (wpAny_pure z))
  intro L C s1 m H1 I1 q hn ff
  obtain ⟨f0, f1, f2, f3, f4, f5⟩ := ff
  show wpAny _ _ (assign (.Name y py) X.env (.ref L)) _ _ _
  apply wpAny_assign_Name
  refine store_ok2 (v := V.ref L) I1 hN hy (.inl hyl) rfl ?_ (.inr hyl)
  rintro s2 I2 ⟨ad, sb, had⟩
  have hne : C ≠ ad := by
    rcases had with hz | hz
    · exact fun e => f1 (e.trans hz)
    · exact fun e => f4 y ad hz e.symm
  refine ⟨m, hn.sameBut sb hne, fun h3 sb3 => ⟨_, H1, ?_, q⟩⟩
  exact I2.turned (t' := s2.toks) (fun b o hb e => (sb3.2 b hb).trans e) f0 f1 f3 f4 f5
theorem sw_trueD {kx vx : Expr} {gs : List Comprehension} {scope : Scope} {pos py : Pos} {y : Str} {l : Nat} {env : Env} (hkd : env.scope.kind = .function) (hlk : env.scope.names.lookup y = some .local)
    (hln : (py.line == pos.line) = true) (hno : (scope.names.any fun (n, k) => n == y && (k == .local || k == .cell)) = false) : swapsWith (.DictComp kx vx gs scope pos) (some (.Name y py)) l env = pure true := by
  have e1 : env.kindOf y = some .local := hlk
  have e2 : env.blockKind = .function := by
    unfold Env.blockKind
    rw [hkd]
    rfl
  unfold swapsWith
  simp only [e2, e1, hno, Expr.pos, hln]
  rfl
end
section
variable {K : PySem.W.Frag} {σ : St} {H : Hp} {Q : VK}
def DcP (J : It) (g : TG) (tt : TT) (tk tv : TE) (vs : List Nat) (Q : VK) (σ : St) (H1 : Hp) : Prop := ∀ D, H1 D = none → ∃ W : Nat → Nat → Hp → Prop, (∃ m, W 0 m (upd H1 D (.dK []))) ∧ ∀ i m H, W i m H →
  (J.stop i H ∧ Q (.ref D) H) ∨ (J.go i H ∧ ∃ Nx : Hp → Prop, (∀ H', Nx H' → ∃ m', m' < m ∧ W (i + 1) m' H') ∧ ∀ x H', J.yld i H x H' → g x (wipe σ vs) H' fun σ2 H2 => wipe σ2 vs = wipe σ vs ∧ tt σ2 H2 fun b H3 =>
    if b = true then tk σ2 H3 fun y H4 => tv σ2 H4 fun z H5 => ∃ kvs k, y = kV k ∧ H5 D = some (.dK kvs) ∧ kvs.length < sizeLine ∧ Nx (upd H5 D (.dK (putK kvs k z))) else Nx H3)
theorem w_dc {wi : TI} {g : TG} {tt : TT} {tk tv : TE} {vs : List Nat} (h : wi σ H fun J H1 => DcP J g tt tk tv vs Q σ H1) : tDc wi g tt tk tv vs σ H Q := h
theorem putK_len' {κ : Type} [DecidableEq κ] (c : List (κ × V)) (k : κ) (x : V) : (putK c k x).length ≤ c.length + 1 := by
  unfold putK
  by_cases e : (c.any fun kv => decide (kv.1 = k)) = true
  · rw [if_pos e, List.length_map]; omega
  · rw [if_neg e, List.length_append]; simp
theorem mergeK_len (es : List (Key × V)) : ∀ acc, (mergeK acc es).length ≤ acc.length + es.length := by
  unfold mergeK
  induction es with
  | nil => intro acc; simp
  | cons e r ih =>
    intro acc
    have h1 := ih (putK acc e.1 e.2)
    have h2 := putK_len' acc e.1 e.2
    simp only [List.foldl_cons, List.length_cons] at *
    omega
theorem mergeK_snoc (acc es : List (Key × V)) (e : Key × V) : mergeK acc (es ++ [e]) = putK (mergeK acc es) e.1 e.2 := by
  unfold mergeK; rw [List.foldl_append]; rfl
/-- each turn adds a pair: the k-th is es[k]; what stood but M stands -/
theorem dcp_map {J : It} {n : Nat} {G : Hp → Prop} {Y : Nat → Hp → V → Hp → Prop} (w : Walk J n G Y) {g : TG} {tk tv : TE} {vs : List Nat} (M : List Addr) (es : List (Key × V)) (hn : es.length = n) (hz : n ≤ 1000000) (hG : ∀ H', Kp M H H' → G H')
    (hs : ∀ i x H1 H2 (R : V → V → Hp → Prop), i < n → Kp M H H1 → Y i H1 x H2 → (∀ e H4, es[i]? = some e → Kp M H1 H4 → R (kV e.1) e.2 H4) → g x (wipe σ vs) H2 fun σ2 H3 => wipe σ2 vs = wipe σ vs ∧ tk σ2 H3 fun y H4 => tv σ2 H4 fun z H5 => R y z H5)
    (hM : ∀ b ∈ M, ∃ o, H b = some o)
    (hd : ∀ D H', H D = none → Kp M H H' → H' D = some (.dK (mergeK [] es)) → Q (.ref D) H') : DcP J g tYes tk tv vs Q σ H := by
  intro D hD
  have hDM : D ∉ M := fun z => by obtain ⟨o, e⟩ := hM D z; rw [hD] at e; cases e
  refine ⟨fun i m H' => m = n - i ∧ i ≤ n ∧ Kp M H H' ∧ H' D = some (.dK (mergeK [] (es.take i))), ⟨n, by simp, Nat.zero_le _, Kp.new hD, upd_same⟩, ?_⟩
  rintro i m H1 ⟨rfl, hi, k1, e1⟩
  by_cases hlt : i < n
  · refine .inr ⟨w.goes i H1 hlt (hG _ k1), fun H' => Kp M H H' ∧ H' D = some (.dK (mergeK [] (es.take (i + 1)))), fun H' z => ⟨n - (i + 1), by omega, rfl, hlt, z.1, z.2⟩, fun x H2 y => ?_⟩
    refine hs i x H1 H2 (fun y z H5 => ∃ kvs k, y = kV k ∧ H5 D = some (.dK kvs) ∧ kvs.length < sizeLine ∧ (Kp M H (upd H5 D (.dK (putK kvs k z))) ∧ (upd H5 D (.dK (putK kvs k z))) D = some (.dK (mergeK [] (es.take (i + 1)))))) hlt k1 (w.yields i H1 x H2 hlt (hG _ k1) y) ?_
    intro e H4 he k4
    refine ⟨mergeK [] (es.take i), e.1, rfl, k4 _ _ hDM e1, ?_, (k1.trans k4).mutN hD, ?_⟩
    · have h1 := mergeK_len (es.take i) []
      have h2 : (es.take i).length ≤ 1000000 := by rw [List.length_take]; omega
      exact Nat.lt_of_le_of_lt (Nat.le_trans h1 (by simpa using h2)) (by decide)
    · rw [upd_same, List.take_add_one, he]
      show _ = some (HO.dK (mergeK [] (es.take i ++ [e])))
      rw [mergeK_snoc]
  · have e : i = n := by omega
    subst e
    rw [List.take_of_length_le (by omega)] at e1
    exact .inl ⟨w.stops H1 (hG _ k1), hd D H1 hD k1 e1⟩
theorem valV_merge (k : Key) : ∀ (es acc : List (Key × V)), (valV (mergeK acc es) k).isSome = ((valV acc k).isSome || es.any fun e => decide (e.1 = k)) := by
  intro es
  induction es with
  | nil => intro acc; show (valV acc k).isSome = _; simp
  | cons e r ih =>
    intro acc
    show (valV (mergeK (putK acc e.1 e.2) r) k).isSome = _
    rw [ih, valV_put, List.any_cons]
    by_cases h : k = e.1
    · rw [if_pos h, decide_eq_true h.symm]; simp
    · rw [if_neg h, decide_eq_false (fun z => h z.symm)]; simp
/-- {x: True for x in ns}: who is in it -/
theorem known_in (ns : List Int) (f : Int → V) (n : Int) : (valV (mergeK [] (ns.map fun i => ((Sum.inl i : Key), f i))) (Sum.inl n)).isSome = decide (n ∈ ns) := by
  rw [valV_merge, valV_nil]
  rw [Bool.eq_iff_iff]
  simp
end
/-! ### ints -/
theorem cmul_l {i j : Int} (h1 : -(2 ^ 64) < i) (h2 : i < 2 ^ 64) : CMul i j := .inl ⟨h1, h2⟩
theorem cmul_r {i j : Int} (h1 : -(2 ^ 64) < j) (h2 : j < 2 ^ 64) : CMul i j := .inr ⟨h1, h2⟩
theorem cdivw {i j : Int} (h1 : 0 < j) (h2 : j < 2 ^ 64) : CDivW i j := wide_div (b := 64) h1 (by omega) (by decide) (by decide)
theorem at_lt {α : Type} {xs : List α} {i : Int} (h0 : 0 ≤ i) (h1 : i < xs.length) : ∃ v, xs[i.toNat]? = some v ∧ atI xs i = some v := by
  have hl : i.toNat < xs.length := by omega
  refine ⟨xs[i.toNat], List.getElem?_eq_getElem hl, ?_⟩
  have e := atI_nat (xs := xs) (j := i.toNat) (List.getElem?_eq_getElem hl)
  rw [Int.toNat_of_nonneg h0] at e
  exact e
theorem at_neg1 {xs : List V} {d : V} (h : 0 < xs.length) : atI xs (-1) = some (xs.getLastD d) := by
  have hne : xs ≠ [] := by intro z; subst z; simp at h
  have z := atI_last xs.dropLast (xs.getLast hne)
  rw [List.dropLast_concat_getLast hne] at z
  rw [z, List.getLastD_eq_getLast?, List.getLast?_eq_some_getLast hne]
  rfl
/-! ### the deck -/
def MOSTD : Nat := 1099511627776
structure Deck (H : Hp) (d c : Addr) (n : Nat) : Prop where
  ex : ∃ (cs : List Int) (a : Nat) (b : Int) (t : Nat), H d = some (.lst [.ref c, .int a, .int b, .int t]) ∧ H c = some (.lst (cs.map V.int)) ∧ t ≤ n
  ne : c ≠ d
theorem Deck.kp {M : List Addr} {H H' : Hp} {d c : Addr} {n : Nat} (k : Kp M H H') (h1 : d ∉ M) (h2 : c ∉ M) (D : Deck H d c n) : Deck H' d c n := by
  obtain ⟨⟨cs, a, b, t, e1, e2, e3⟩, ne⟩ := D
  exact ⟨⟨cs, a, b, t, k _ _ h1 e1, k _ _ h2 e2, e3⟩, ne⟩
theorem Deck.new {H : Hp} {d c : Addr} {n : Nat} {p : Addr} {o : HO} (h : H p = none) (D : Deck H d c n) : Deck (upd H p o) d c n := D.kp (M := []) (Kp.new h) (by simp) (by simp)
theorem Deck.mut {H : Hp} {d c : Addr} {n : Nat} {p : Addr} {o : HO} (h1 : p ≠ d) (h2 : p ≠ c) (D : Deck H d c n) : Deck (upd H p o) d c n :=
  D.kp (M := [p]) (Kp.mut (by simp)) (by simpa using Ne.symm h1) (by simpa using Ne.symm h2)
theorem Deck.mono {H : Hp} {d c : Addr} {n m : Nat} (D : Deck H d c n) (h : n ≤ m) : Deck H d c m := by
  obtain ⟨⟨cs, a, b, t, e1, e2, e3⟩, ne⟩ := D
  exact ⟨⟨cs, a, b, t, e1, e2, Nat.le_trans e3 h⟩, ne⟩
theorem Deck.at {H : Hp} {d c : Addr} {n : Nat} (D : Deck H d c n) : (∃ xs, H d = some (.lst xs)) ∧ ∃ xs, H c = some (.lst xs) := by
  obtain ⟨⟨cs, a, b, t, e1, e2, e3⟩, ne⟩ := D
  exact ⟨⟨_, e1⟩, ⟨_, e2⟩⟩
theorem Deck.ne1 {H : Hp} {d c p : Addr} {n : Nat} (D : Deck H d c n) (h : H p = none) : p ≠ d ∧ p ≠ c := by
  obtain ⟨⟨xs, e1⟩, ys, e2⟩ := D.at
  exact ⟨(ne_of_none e1 h).symm, (ne_of_none e2 h).symm⟩
end FW

set_option Elab.async false
set_option linter.all false
set_option maxRecDepth 100000
set_option maxHeartbeats 4000000
/-! {key: value for a in as if .. for b in bs if ..}: a dict by two clauses, as a rule of the layer (my own: the layer has it for lists). -/
namespace FW
open PySem PySem.Spec PyProof.Rows L2
section
variable {kx vx ta ia tb ib : Expr} {fa fb : List Expr} {sc : Scope} {ps : Pos}
abbrev two (kx vx ta ia : Expr) (fa : List Expr) (tb ib : Expr) (fb : List Expr) (sc : Scope) (ps : Pos) : Expr := .DictComp kx vx [⟨ta, ia, fa, 0⟩, ⟨tb, ib, fb, 0⟩] sc ps
/-- the tests of a clause, one behind the other -/
abbrev testsOf2 (fs : List Expr) (env : Env) : Sem Bool := forIn fs true fun c r => if r = true then do let ok ← isTrue c env (eval c env); pure (ForInStep.yield ok) else pure (ForInStep.yield r)
theorem turn_first (it : Value) (D : Addr) (env : Env) : compTurn (two kx vx ta ia fa tb ib fb sc ps) 0 it (.ref D) env = (do
    standAt ia.pos
    match ← pyNext it with
    | none => pure (.done .next)
    | some u =>
      letOwnedTupleGo ta it u
      assign ta env u
      let mut good := true
      for c in fa do
        if good then good ← isTrue c env (eval c env)
      if good then
        let y ← eval ib env
        standAt ib.pos
        let y ← foldedSetIterable ib env y
        let _ ← runOwn (.compStart (two kx vx ta ia fa tb ib fb sc ps) 1 (← holding [y] (pyIter y)) (.ref D) env) env
      again (.compLoop (two kx vx ta ia fa tb ib fb sc ps) 0 it (.ref D) env)) := by rfl
theorem turn_second (it : Value) (D : Addr) (env : Env) : compTurn (two kx vx ta ia fa tb ib fb sc ps) 1 it (.ref D) env = (do
    standAt ib.pos
    match ← pyNext it with
    | none => pure (.done .next)
    | some u =>
      letOwnedTupleGo tb it u
      assign tb env u
      let mut good := true
      for c in fb do
        if good then good ← isTrue c env (eval c env)
      if good then
        (do
          let k ← eval kx env
          let v ← holding [k] (eval vx env)
          standAt { kx.pos with endLine := vx.pos.endLine, endCol := vx.pos.endCol }
          holding [k, v] (dictSet D k v))
      again (.compLoop (two kx vx ta ia fa tb ib fb sc ps) 1 it (.ref D) env)) := by rfl
variable {pg : Program} {wd : World} {A : Around} {R : Result → Shared → Prop} {st : Shared} {it : Value} {D : Addr} {env : Env}
/-- the first clause's loop; nothing raises in it -/
theorem loop_first (hf : ∀ y, foldedSetIterable ib env y = pure y) (G : Nat → Shared → Prop)
    (go : ∀ n z, G n z → wpAny (model pg wd) A (pyNext it) (fun r z1 => match r with
      | none => R (.ok .next) z1
      | some u => wpAny (model pg wd) A (letOwnedTupleGo ta it u) (fun _ z2 => wpAny (model pg wd) A (assign ta env u) (fun _ z3 => wpAny (model pg wd) A (testsOf2 fa env) (fun b z4 =>
          if b = true then wpAny (model pg wd) A (eval ib env) (fun y z5 => wpAny (model pg wd) A (pyIter y) (fun j z6 =>
            codeAny (model pg wd) A (.compStart (two kx vx ta ia fa tb ib fb sc ps) 1 j (.ref D) env) (fun r z7 => match r with
              | .ok _ => ∃ m, m < n ∧ G m z7
              | .error _ => False) z6) (fun _ _ => False) z5) (fun _ _ => False) z4
          else ∃ m, m < n ∧ G m z4) (fun _ _ => False) z3) (fun _ _ => False) z2) (fun _ _ => False) z1) (fun _ _ => False) z)
    (n : Nat) (h : G n st) : codeAny (model pg wd) A (.compLoop (two kx vx ta ia fa tb ib fb sc ps) 0 it (.ref D) env) R st := by
  refine codeAny_loop rfl G ?_ n h
  intro n z hz
  show wpAny _ A ((compTurn (two kx vx ta ia fa tb ib fb sc ps) 0 it (.ref D) env).onRaise _) _ _ z
  apply wpAny_noted
  rw [turn_first]
  apply wpAny_bind
  apply wpAny_standAt
  apply wpAny_bind
  refine thnF (go n z hz) fun r z1 h1 => ?_
  cases r with
  | none => exact wpAny_pure h1
  | some u =>
    apply wpAny_bind
    refine thnF h1 fun _ z2 h2 => ?_
    apply wpAny_bind
    refine thnF h2 fun _ z3 h3 => ?_
    apply wpAny_bind
    refine thnF h3 fun b z4 h4 => ?_
    cases b with
    | false => exact wpAny_pure ⟨rfl, h4⟩
    | true =>
      apply wpAny_bind
      refine thnF h4 fun y z5 h5 => ?_
      apply wpAny_bind
      apply wpAny_standAt
      apply wpAny_bind
      refine wpAny_of_eq (hf y) ?_
      apply wpAny_bind
      apply wpAny_holding
      refine thnF h5 fun j z6 h6 => ?_
      apply wpAny_bind
      refine wpAny_runOwn ?_
      rw [Around.mark_none]
      refine codeAny_mono h6 fun r z7 h7 => ?_
      cases r with
      | error _ => exact False.elim h7
      | ok _ => first | exact wpAny_pure ⟨rfl, h7⟩ | exact wpAny_bind (wpAny_pure (wpAny_pure ⟨rfl, h7⟩))
/-- the second clause's loop -/
theorem loop_second (G : Nat → Shared → Prop)
    (go : ∀ n z, G n z → wpAny (model pg wd) A (pyNext it) (fun r z1 => match r with
      | none => R (.ok .next) z1
      | some u => wpAny (model pg wd) A (letOwnedTupleGo tb it u) (fun _ z2 => wpAny (model pg wd) A (assign tb env u) (fun _ z3 => wpAny (model pg wd) A (testsOf2 fb env) (fun b z4 =>
          if b = true then wpAny (model pg wd) A (eval kx env) (fun k z5 => wpAny (model pg wd) A (eval vx env) (fun v z6 => wpAny (model pg wd) A (dictSet D k v) (fun _ z7 => ∃ m, m < n ∧ G m z7) (fun _ _ => False) z6) (fun _ _ => False) z5) (fun _ _ => False) z4
          else ∃ m, m < n ∧ G m z4) (fun _ _ => False) z3) (fun _ _ => False) z2) (fun _ _ => False) z1) (fun _ _ => False) z)
    (n : Nat) (h : G n st) : codeAny (model pg wd) A (.compLoop (two kx vx ta ia fa tb ib fb sc ps) 1 it (.ref D) env) R st := by
  refine codeAny_loop rfl G ?_ n h
  intro n z hz
  show wpAny _ A ((compTurn (two kx vx ta ia fa tb ib fb sc ps) 1 it (.ref D) env).onRaise _) _ _ z
  apply wpAny_noted
  rw [turn_second]
  apply wpAny_bind
  apply wpAny_standAt
  apply wpAny_bind
  refine thnF (go n z hz) fun r z1 h1 => ?_
  cases r with
  | none => exact wpAny_pure h1
  | some u =>
    apply wpAny_bind
    refine thnF h1 fun _ z2 h2 => ?_
    apply wpAny_bind
    refine thnF h2 fun _ z3 h3 => ?_
    apply wpAny_bind
    refine thnF h3 fun b z4 h4 => ?_
    cases b with
    | false => exact wpAny_pure ⟨rfl, h4⟩
    | true =>
      apply wpAny_bind
      apply wpAny_bind
      refine thnF h4 fun k z5 h5 => ?_
      apply wpAny_bind
      apply wpAny_holding
      refine thnF h5 fun v z6 h6 => ?_
      apply wpAny_bind
      apply wpAny_standAt
      apply wpAny_holding
      exact thnF h6 fun _ z7 h7 => wpAny_pure ⟨rfl, h7⟩
/-- the second clause begins -/
theorem start_second (h0 : codeAny (model pg wd) A (.compLoop (two kx vx ta ia fa tb ib fb sc ps) 1 it (.ref D) env) R st)
    (h1 : wpAny (model pg wd) A (pyIter it) (fun j z => codeAny (model pg wd) A (.compLoop (two kx vx ta ia fa tb ib fb sc ps) 1 j (.ref D) env) R z) (notedBy (model pg wd) A env fun x z => R (.error x) z) st) :
    codeAny (model pg wd) A (.compStart (two kx vx ta ia fa tb ib fb sc ps) 1 it (.ref D) env) R st := by
  apply codeAny_of_tree
  show wpAny _ _ ((compStart (two kx vx ta ia fa tb ib fb sc ps) 1 it (.ref D) env).onRaise _) _ _ st
  apply wpAny_notedAt
  unfold compStart
  show wpAny _ _ (ask >>= _) _ _ st
  apply wpAny_bind
  apply wpAny_askSetting
  apply wpAny_ite
  split
  · first | exact wpAny_bind (wpAny_pure (wpAny_pure ⟨rfl, h0⟩)) | exact wpAny_pure ⟨rfl, h0⟩
  · apply wpAny_bind
    apply wpAny_rule
    show wpAny _ _ (standAt ib.pos >>= _) _ _ st
    apply wpAny_bind
    apply wpAny_standAt
    apply wpAny_bind
    exact wpAny_mono h1 (fun _ _ q => wpAny_pure ⟨rfl, q⟩) fun _ _ q => q
end
section
variable {X : Cx} {kx vx ta ia tb ib : Expr} {fa fb : List Expr} {sc : Scope} {ps qs : Pos} {own : List (Str × Nat)} {us : List Nat} {wa wb : TI} {ga gb : TG} {ra rb : TT} {tk tv : TE}
/-- the inner walk of one turn: from it Nx is reached -/
def Inner2 (J : It) (gb : TG) (rb : TT) (tk tv : TE) (us : List Nat) (D : Addr) (σ : L2.St) (H : Hp) (Nx : Hp → Prop) : Prop := ∃ W : Nat → Nat → Hp → Prop, (∃ m, W 0 m H) ∧ ∀ j k H1, W j k H1 →
  (J.stop j H1 ∧ Nx H1) ∨ (J.go j H1 ∧ ∃ Ny : Hp → Prop, (∀ H2, Ny H2 → ∃ k', k' < k ∧ W (j + 1) k' H2) ∧ ∀ x H2, J.yld j H1 x H2 → gb x (wipe σ us) H2 fun σ3 H3 => wipe σ3 us = wipe σ us ∧ rb σ3 H3 fun b H4 =>
    if b = true then tk σ3 H4 fun y H5 => tv σ3 H5 fun z H6 => ∃ kvs key, y = kV key ∧ H6 D = some (.dK kvs) ∧ kvs.length < sizeLine ∧ Ny (upd H6 D (.dK (putK kvs key z))) else Ny H4)
/-- the whole -/
def tDc2 (wa : TI) (ga : TG) (ra : TT) (wb : TI) (gb : TG) (rb : TT) (tk tv : TE) (os us : List Nat) : TE := fun σ H Q => wa σ H fun J H1 => ∀ D, H1 D = none → ∃ W : Nat → Nat → Hp → Prop, (∃ m, W 0 m (upd H1 D (.dK []))) ∧ ∀ i m H2, W i m H2 →
  (J.stop i H2 ∧ Q (.ref D) H2) ∨ (J.go i H2 ∧ ∃ Nx : Hp → Prop, (∀ H3, Nx H3 → ∃ m', m' < m ∧ W (i + 1) m' H3) ∧ ∀ x H3, J.yld i H2 x H3 → ga x (wipe σ os) H3 fun σ2 H4 => wipe σ2 os = wipe σ os ∧ ra σ2 H4 fun b H5 =>
    if b = true then wb σ2 H5 fun J1 H6 => Inner2 J1 gb rb tk tv us D σ2 H6 Nx else Nx H5)
theorem dc2_run {pins : List (Addr × Obj)} {s : Shared} {σ : L2.St} {H : Hp} {Q : VK} {use : Option (Value → Sem Unit)} {Qf : Value → Shared → Prop}
    (calm : X.calm = true) (nd : X.N.Nodup) (I : Inv X pins σ H s) (pa : PI X ta ia wa) (ok : BlkOk X.N X.env.scope sc own) (sub : ∀ i ∈ us, i ∈ own.map (·.2))
    (pga : ∀ z G C cl fp, PG (X.blk z G sc (compEnvC sc cl C X.env) fp) ta ga) (pra : ∀ z G C cl fp, PTs (X.blk z G sc (compEnvC sc cl C X.env) fp) fa ra)
    (pb : ∀ z G C cl fp, PI (X.blk z G sc (compEnvC sc cl C X.env) fp) tb ib wb) (pgb : ∀ z G C cl fp, PG (X.blk z G sc (compEnvC sc cl C X.env) fp) tb gb) (prb : ∀ z G C cl fp, PTs (X.blk z G sc (compEnvC sc cl C X.env) fp) fb rb)
    (pk : ∀ z G C cl fp, PE (X.blk z G sc (compEnvC sc cl C X.env) fp) kx tk) (pv' : ∀ z G C cl fp, PE (X.blk z G sc (compEnvC sc cl C X.env) fp) vx tv)
    (hfa : ∀ y, foldedSetIterable ia X.env y = pure y) (hfb : ∀ env y, foldedSetIterable ib env y = pure y)
    (h : tDc2 wa ga ra wb gb rb tk tv (own.map (·.2)) us σ H Q)
    (fin : ∀ D C z m H', Inv X pins σ H' z → Q (.ref D) H' → z.heap.Ns C m → FpOk X pins H' C → compPost (model X.prog X.w) X.A X.xe use Qf (.ref D) C (.ok .next) z) :
    wpAny (model X.prog X.w) X.A (comprehension (two kx vx ta ia fa tb ib fb sc ps) sc X.env qs newDict false (eval ia X.env) use) Qf X.xe s := by
  have cellsOk : ∀ y ∈ sc.names, y.2 = .free → ∃ c, X.env.cells.lookup y.1 = some c := by
    intro y hy e
    rcases ok.free y hy e with k | k
    · exact I.ok.has _ (.inl k)
    · exact I.ok.has _ (.inr k)
  refine wpAny_comprehension_free (use := use) rfl hfa (closure_ok cellsOk) ok.kind (fun y hy e => by rw [ok.uniq y hy, e]) ?_
  refine thn (pa.run pins s σ H _ I h) fun _ _ hx => thn hx fun _ z2 hz2 => ?_
  obtain ⟨it, fp, tn, J, G2, rfl, I2, T, at2, far2, q⟩ := hz2
  refine wpAny_newObj_type (newEnv_comp ?_)
  -- the new dict stands at D
  obtain ⟨D, hD⟩ : ∃ D, D = z2.heap.objs.size := ⟨_, rfl⟩
  rw [← hD]
  have freeD : G2 D = none := I2.hok.fresh (Nat.le_of_eq hD.symm)
  obtain ⟨W, ⟨m0, w0⟩, turn⟩ := q D freeD
  obtain ⟨z3, e3⟩ : ∃ z3 : Shared, z3 = { z2 with heap := z2.heap.push { cls := .type "dict", data := .dict #[] } } := ⟨_, rfl⟩
  have h3 : z3.heap = z2.heap.push { cls := .type "dict", data := .dict #[] } := by rw [e3]
  have I3 : Inv X pins σ (upd G2 D (.dK [])) z3 := by
    rw [e3]
    refine I2.laid (t' := z2.toks) (fun _ _ e => Heap.get?_push_of_some _ e) (Nat.le_of_eq hD.symm) ?_
    rw [hD]
    exact dk_empty z2.heap I2.big
  have small : ∀ b ∈ fp, b < z2.heap.objs.size := by
    intro b hb
    obtain ⟨_, e, _⟩ := T.obj _ _ at2 b hb
    exact Heap.lt_size e
  have far3 : ∀ b ∈ fp, FpOk X pins (upd G2 D (.dK [])) b ∧ b < z3.heap.objs.size := by
    intro b hb
    have lt := small b hb
    constructor
    · refine ⟨?_, (far2 b hb).2⟩
      rw [upd_ne (by rw [hD]; exact Nat.ne_of_lt lt)]
      exact (far2 b hb).1
    · rw [h3, Heap.size_push]
      exact Nat.lt_succ_of_lt lt
  have at3 : tn 0 z3.heap := T.keep _ _ _ at2 fun _ _ _ e => by rw [h3]; exact Heap.get?_push_of_some _ e
  have I4 := block_start I3 ok nd far3
  -- the block's frame
  obtain ⟨cl, hcl⟩ : ∃ cl, cl = cellsFrom (z3.heap.objs.size + 1) sc.names (cloFrom X.env.cells sc.names []) := ⟨_, rfl⟩
  rw [← hcl] at I4
  have gA := pga z3 (upd G2 D (.dK [])) z3.heap.objs.size cl fp
  have tA := pra z3 (upd G2 D (.dK [])) z3.heap.objs.size cl fp
  have iB := pb z3 (upd G2 D (.dK [])) z3.heap.objs.size cl fp
  have gB := pgb z3 (upd G2 D (.dK [])) z3.heap.objs.size cl fp
  have tB := prb z3 (upd G2 D (.dK [])) z3.heap.objs.size cl fp
  have eK := pk z3 (upd G2 D (.dK [])) z3.heap.objs.size cl fp
  have eV := pv' z3 (upd G2 D (.dK [])) z3.heap.objs.size cl fp
  show codeAny _ _ (.compStart (two kx vx ta ia fa tb ib fb sc ps) 0 (.ref it) (.ref D) (compEnvC sc (cellsFrom (({ z2 with heap := z2.heap.push { cls := .type "dict", data := .dict #[] } } : Shared).heap.objs.size + 1) sc.names (cloFrom X.env.cells sc.names [])) ({ z2 with heap := z2.heap.push { cls := .type "dict", data := .dict #[] } } : Shared).heap.objs.size X.env))
    (compPost (model X.prog X.w) X.A X.xe use Qf (.ref D) ({ z2 with heap := z2.heap.push { cls := .type "dict", data := .dict #[] } } : Shared).heap.objs.size) { ({ z2 with heap := z2.heap.push { cls := .type "dict", data := .dict #[] } } : Shared) with heap := pushCells (({ z2 with heap := z2.heap.push { cls := .type "dict", data := .dict #[] } } : Shared).heap.push { cls := .type "dict", data := .dict #[] }) sc.names }
  rw [← e3, ← hcl]
  have none3 : ∀ b ∈ fp, (upd G2 D (.dK [])) b = none := fun b hb => (far3 b hb).1.1
  obtain ⟨ev, hev⟩ : ∃ ev, ev = compEnvC sc cl z3.heap.objs.size X.env := ⟨_, rfl⟩
  rw [← hev] at I4 gA tA iB gB tB eK eV ⊢
  have evL : ev.locals = z3.heap.objs.size := by rw [hev]; rfl
  obtain ⟨G3, hG3⟩ : ∃ G3, G3 = upd G2 D (.dK []) := ⟨_, rfl⟩
  rw [← hG3] at I3 I4 gA tA iB gB tB eK eV w0 none3 far3
  obtain ⟨z4, e4⟩ : ∃ z4 : Shared, z4 = { z3 with heap := pushCells (z3.heap.push { cls := .type "dict", data := .dict #[] }) sc.names } := ⟨_, rfl⟩
  rw [← e4] at I4 ⊢
  have at4 : tn 0 z4.heap := T.keep _ _ _ at3 fun _ _ _ e => by rw [e4]; exact pushCells_keeps _ _ _ _ (Heap.get?_push_of_some _ e)
  have aside : ∀ {σ' : L2.St} {G : Hp} {z : Shared}, Inv (X.blk z3 G3 sc ev fp) [] σ' G z → (∀ b ∈ fp, G b = none) → ∀ b ∈ fp, FpOk (X.blk z3 G3 sc ev fp) [] G b := by
    intro σ' G z J' hn b hb
    exact ⟨hn b hb, (J'.ok.exf b hb).1, J'.ok.exfs b hb, .inl hb, fun x c e => (J'.ok.exf b hb).2 x c e, fun p hp => absurd (show p ∈ ([] : List (Addr × Obj)) ++ [] from hp) (by simp)⟩
  have whole : codeAny (model X.prog X.w) X.A (.compLoop (two kx vx ta ia fa tb ib fb sc ps) 0 (.ref it) (.ref D) ev) (compPost (model X.prog X.w) X.A X.xe use Qf (.ref D) z3.heap.objs.size) z4 := by
    refine loop_first (hfb ev) (fun n z => ∃ i G, Inv (X.blk z3 G3 sc ev fp) [] (wipe σ (own.map (·.2))) G z ∧ tn i z.heap ∧ (∀ b ∈ fp, G b = none) ∧ W i n G) ?_ m0 ⟨0, G3, I4, at4, none3, w0⟩
    rintro n z5 ⟨i, G5, I5, at5, none5, w5⟩
    rcases turn i n G5 w5 with ⟨stop, qq⟩ | ⟨goes, Nx, hNx, step⟩
    · refine thnF (T.done (X.blk z3 G3 sc ev fp) rfl rfl rfl calm i [] z5 _ G5 (fun _ _ => False) I5 (aside I5 none5) at5 stop) ?_
      rintro r z6 ⟨rfl, I6⟩
      have I7 : Inv X pins σ G5 z6 := I3.call' (ch := fp) I6.os I6.base I6.hok I6.bare fun b hb =>
        let f := (far3 b hb).1
        ⟨f.2.2.2.1, f.2.1, f.2.2.2.2.1, f.2.2.2.2.2⟩
      have noC : G5 z3.heap.objs.size = none := by
        have y : G5 ev.locals = none := I6.free
        rw [evL] at y
        exact y
      obtain ⟨m, hn, _⟩ := I6.loc
      have hn' : z6.heap.Ns ev.locals m := hn
      rw [evL] at hn'
      exact fin D _ z6 m G5 I7 qq hn' (I3.fpOk (Nat.le_refl _) noC)
    · refine thnF (T.item (X.blk z3 G3 sc ev fp) rfl rfl rfl calm i [] z5 _ G5 (fun _ _ => False) I5 (aside I5 none5) at5 goes) ?_
      rintro r z6 ⟨u, rfl, h6⟩
      refine thnF h6 ?_
      rintro _ z7 ⟨x, G7, I7, r7, y7, at7, none7⟩
      refine thnF (gA.run _ z7 _ G7 x u _ (I7.pinned (aside I7 none7) (T.obj _ _ at7)) r7 (step x G7 y7)) ?_
      rintro _ z8 ⟨σ8, G8, I8, hw8, q8⟩
      refine thnF (tA.run _ z8 σ8 G8 _ I8 q8) ?_
      rintro b z9 ⟨G9, I9, q9⟩
      -- one turn of the first clause is over
      have over : ∀ {σ9 : L2.St} {z : Shared} {G : Hp}, Inv (X.blk z3 G3 sc ev fp) ([] ++ pinsAt fp z7.heap) σ9 G z → (wipe σ (own.map (·.2))).length = σ9.length → (∀ (j : Nat) v, (wipe σ (own.map (·.2)))[j]? = some (some v) → σ9[j]? = some (some v)) → Nx G →
          ∃ m, m < n ∧ ∃ i G, Inv (X.blk z3 G3 sc ev fp) [] (wipe σ (own.map (·.2))) G z ∧ tn i z.heap ∧ (∀ b ∈ fp, G b = none) ∧ W i m G := by
        intro σ9 z G I' hl hk nx
        obtain ⟨m', lt, w'⟩ := hNx G nx
        have pins' : ∀ b ∈ fp, ∀ o, z7.heap.get? b = some o → z.heap.get? b = some o ∧ G b = none := by
          intro b hb o e
          have y := I'.pin (b, o) (List.mem_append_right _ (List.mem_append_right _ (mem_pinsAt hb e)))
          exact ⟨y.1, y.2.1⟩
        refine ⟨m', lt, i + 1, G, (I'.unpinned (pins := [])).weak hl hk, T.keep _ _ _ at7 (fun b hb o e => (pins' b hb o e).1), ?_, w'⟩
        intro b hb
        obtain ⟨o, e, _⟩ := T.obj _ _ at7 b hb
        exact (pins' b hb o e).2
      have len8 : (wipe σ (own.map (·.2))).length = σ8.length := by rw [← hw8, wipe_length]
      cases b with
      | false =>
        have q9' : Nx G9 := q9
        show ∃ m, m < n ∧ _
        exact over I9 len8 (fun j v e => by rw [← hw8] at e; exact (wipe_some e).1) q9'
      | true =>
        have q9' : wb σ8 G9 fun J1 H6 => Inner2 J1 gb rb tk tv us D σ8 H6 Nx := q9
        show wpAny _ _ (eval ib ev) _ _ z9
        refine thnF (iB.run _ z9 σ8 G9 _ I9 q9') fun _ _ hx => thnF hx ?_
        rintro _ z11 ⟨it1, fp1, tn1, J1, G11, rfl, I11, T1, at11, far11, W1, ⟨m1, w1⟩, turn1⟩
        have aside1 : ∀ {G : Hp}, (∀ b ∈ fp1, G b = none) → ∀ b ∈ fp1, FpOk (X.blk z3 G3 sc ev fp) ([] ++ pinsAt fp z7.heap) G b := fun hn b hb => ⟨hn b hb, (far11 b hb).2⟩
        have inner : codeAny (model X.prog X.w) X.A (.compLoop (two kx vx ta ia fa tb ib fb sc ps) 1 (.ref it1) (.ref D) ev) (fun r z => match r with
            | .ok _ => ∃ m, m < n ∧ ∃ i G, Inv (X.blk z3 G3 sc ev fp) [] (wipe σ (own.map (·.2))) G z ∧ tn i z.heap ∧ (∀ b ∈ fp, G b = none) ∧ W i m G
            | .error _ => False) z11 := by
          refine loop_second (fun k z => ∃ j G, Inv (X.blk z3 G3 sc ev fp) ([] ++ pinsAt fp z7.heap) (wipe σ8 us) G z ∧ tn1 j z.heap ∧ (∀ b ∈ fp1, G b = none) ∧ W1 j k G) ?_ m1 ⟨0, G11, I11.weak (wipe_length _ _) (fun j v e => (wipe_some e).1), at11, fun b hb => (far11 b hb).1, w1⟩
          rintro k z12 ⟨j, G12, I12, at12, none12, w12⟩
          rcases turn1 j k G12 w12 with ⟨stop1, nx1⟩ | ⟨goes1, Ny, hNy, step1⟩
          · refine thnF (T1.done (X.blk z3 G3 sc ev fp) rfl rfl rfl calm j _ z12 (wipe σ8 us) G12 (fun _ _ => False) I12 (aside1 none12) at12 stop1) ?_
            rintro r z13 ⟨rfl, I13⟩
            refine over I13 (len8.trans (wipe_length σ8 us).symm) ?_ nx1
            intro j' v e
            rw [← hw8] at e
            obtain ⟨e1, e2⟩ := wipe_some e
            rw [wipe_out fun y => e2 (sub j' y)]
            exact e1
          · refine thnF (T1.item (X.blk z3 G3 sc ev fp) rfl rfl rfl calm j _ z12 (wipe σ8 us) G12 (fun _ _ => False) I12 (aside1 none12) at12 goes1) ?_
            rintro r z13 ⟨u1, rfl, h13⟩
            refine thnF h13 ?_
            rintro _ z14 ⟨x1, G14, I14, r14, y14, at14, none14⟩
            refine thnF (gB.run _ z14 (wipe σ8 us) G14 x1 u1 _ (I14.pinned (aside1 none14) (T1.obj _ _ at14)) r14 (step1 x1 G14 y14)) ?_
            rintro _ z15 ⟨σ15, G15, I15, hw15, q15⟩
            refine thnF (tB.run _ z15 σ15 G15 _ I15 q15) ?_
            rintro b1 z16 ⟨G16, I16, q16⟩
            have over1 : ∀ {z : Shared} {G : Hp}, Inv (X.blk z3 G3 sc ev fp) (([] ++ pinsAt fp z7.heap) ++ pinsAt fp1 z14.heap) σ15 G z → Ny G → ∃ m, m < k ∧ ∃ j G, Inv (X.blk z3 G3 sc ev fp) ([] ++ pinsAt fp z7.heap) (wipe σ8 us) G z ∧ tn1 j z.heap ∧ (∀ b ∈ fp1, G b = none) ∧ W1 j m G := by
              intro z G I' nx
              obtain ⟨m', lt, w'⟩ := hNy G nx
              have pins' : ∀ b ∈ fp1, ∀ o, z14.heap.get? b = some o → z.heap.get? b = some o ∧ G b = none := by
                intro b hb o e
                have y := I'.pin (b, o) (List.mem_append_right _ (List.mem_append_right _ (mem_pinsAt hb e)))
                exact ⟨y.1, y.2.1⟩
              refine ⟨m', lt, j + 1, G, I'.unpinned.weak (by rw [← hw15, wipe_length]) (fun j v e => by rw [← hw15] at e; exact (wipe_some e).1), T1.keep _ _ _ at14 (fun b hb o e => (pins' b hb o e).1), ?_, w'⟩
              intro b hb
              obtain ⟨o, e, _⟩ := T1.obj _ _ at14 b hb
              exact (pins' b hb o e).2
            cases b1 with
            | false =>
              have q16' : Ny G16 := q16
              show ∃ m, m < k ∧ _
              exact over1 I16 q16'
            | true =>
              have q16' : tk σ15 G16 fun y H5 => tv σ15 H5 fun z H6 => ∃ kvs key, y = kV key ∧ H6 D = some (.dK kvs) ∧ kvs.length < sizeLine ∧ Ny (upd H6 D (.dK (putK kvs key z))) := q16
              show wpAny _ _ (eval kx ev) _ _ z16
              refine thnF (eK.run _ z16 σ15 G16 _ I16 q16') ?_
              rintro _ z17 ⟨yk, G17, I17, r17, q17⟩
              refine thnF (eV.run _ z17 σ15 G17 _ I17 q17) ?_
              rintro _ z18 ⟨yv, G18, I18, r18, kvs, key, rfl, hD18, lt18, nx⟩
              exact d_dictSet (X := X.blk z3 G3 sc ev fp) I18 hD18 lt18 r17 r18 fun _ I19 => over1 I19 nx
        exact start_second inner (T1.self X.A 0 _ _ _ at11 inner)
  exact codeAny_compStart_dict whole (T.self X.A 0 _ _ _ at4 whole)
/-- name = {..}, the name a local of the def -/
theorem ps_setDc2 {i : Nat} {y : Str} {py spos : Pos} (calm : X.calm = true) (nd : X.N.Nodup) (hy : X.N[i]? = some y) (hyl : X.env.scope.names.lookup y = some .local)
    (hsw : swapsWith (two kx vx ta ia fa tb ib fb sc ps) (some (.Name y py)) spos.line X.env = pure true)
    (pa : PI X ta ia wa) (ok : BlkOk X.N X.env.scope sc own) (sub : ∀ i ∈ us, i ∈ own.map (·.2))
    (pga : ∀ z G C cl fp, PG (X.blk z G sc (compEnvC sc cl C X.env) fp) ta ga) (pra : ∀ z G C cl fp, PTs (X.blk z G sc (compEnvC sc cl C X.env) fp) fa ra)
    (pb : ∀ z G C cl fp, PI (X.blk z G sc (compEnvC sc cl C X.env) fp) tb ib wb) (pgb : ∀ z G C cl fp, PG (X.blk z G sc (compEnvC sc cl C X.env) fp) tb gb) (prb : ∀ z G C cl fp, PTs (X.blk z G sc (compEnvC sc cl C X.env) fp) fb rb)
    (pk : ∀ z G C cl fp, PE (X.blk z G sc (compEnvC sc cl C X.env) fp) kx tk) (pv' : ∀ z G C cl fp, PE (X.blk z G sc (compEnvC sc cl C X.env) fp) vx tv)
    (hfa : ∀ y, foldedSetIterable ia X.env y = pure y := by intro _; rfl) (hfb : ∀ env y, foldedSetIterable ib env y = pure y := by intro _ _; rfl) :
    PS X (.Assign [.Name y py] (two kx vx ta ia fa tb ib fb sc ps) spos) (tAsg (tDc2 wa ga ra wb gb rb tk tv (own.map (·.2)) us) (gName i)) := by
  constructor
  intro pins s σ H Ed I h
  rw [exec_Assign_Name_used y py _ _ hsw]
  apply wpAny_bind
  apply wpAny_standAt
  apply wpAny_bind
  show wpAny _ X.A (comprehension (two kx vx ta ia fa tb ib fb sc ps) sc X.env (firstIterPos [⟨ta, ia, fa, 0⟩, ⟨tb, ib, fb, 0⟩] ps) newDict false (eval ia X.env) (some (assign (.Name y py) X.env)) >>= fun _ => pure ()) _ _ s
  apply wpAny_bind
  have h' : tDc2 wa ga ra wb gb rb tk tv (own.map (·.2)) us σ H (fun x H1 => gName i x σ H1 Ed.nx) := h
  refine thn (dc2_run (Qf := fun _ s1 => SP X pins Ed .next s1) calm nd I pa ok sub pga pra pb pgb prb pk pv' hfa hfb h' ?_) (fun _ _ z => wpAny_pure (wpAny_pure z))
  intro L C s1 m H1 I1 q hn ff
  obtain ⟨f0, f1, f2, f3, f4, f5⟩ := ff
  show wpAny _ _ (assign (.Name y py) X.env (.ref L)) _ _ _
  apply wpAny_assign_Name
  refine store_ok2 (v := V.ref L) I1 nd hy (.inl hyl) rfl ?_ (.inr hyl)
  rintro s2 I2 ⟨ad, sb, had⟩
  have hne : C ≠ ad := by
    rcases had with hz | hz
    · exact fun e => f1 (e.trans hz)
    · exact fun e => f4 y ad hz e.symm
  refine ⟨m, hn.sameBut sb hne, fun h3 sb3 => ⟨_, H1, ?_, q⟩⟩
  exact I2.turned (t' := s2.toks) (fun b o hb e => (sb3.2 b hb).trans e) f0 f1 f3 f4 f5
theorem pi_listK {K : PySem.W.Frag} {l tg : Expr} {tl : TE} (hK : X.K = K) (hl : PE X l tl) : PI X tg l (iList K tl) := hK ▸ pi_list hl
theorem pi_tupK {K : PySem.W.Frag} {l tg : Expr} {tl : TE} (hK : X.K = K) (hl : PE X l tl) : PI X tg l (iTup K tl) := hK ▸ pi_tup hl
end
/-! ### its steps -/
section
variable {K : PySem.W.Frag} {σ : L2.St} {H : Hp} {Q : VK}
def Dc2P (J : It) (ga : TG) (ra : TT) (wb : TI) (gb : TG) (rb : TT) (tk tv : TE) (os us : List Nat) (Q : VK) (σ : L2.St) (H1 : Hp) : Prop := ∀ D, H1 D = none → ∃ W : Nat → Nat → Hp → Prop, (∃ m, W 0 m (upd H1 D (.dK []))) ∧ ∀ i m H2, W i m H2 →
  (J.stop i H2 ∧ Q (.ref D) H2) ∨ (J.go i H2 ∧ ∃ Nx : Hp → Prop, (∀ H3, Nx H3 → ∃ m', m' < m ∧ W (i + 1) m' H3) ∧ ∀ x H3, J.yld i H2 x H3 → ga x (wipe σ os) H3 fun σ2 H4 => wipe σ2 os = wipe σ os ∧ ra σ2 H4 fun b H5 =>
    if b = true then wb σ2 H5 fun J1 H6 => Inner2 J1 gb rb tk tv us D σ2 H6 Nx else Nx H5)
theorem w_dc2 {wa wb : TI} {ga gb : TG} {ra rb : TT} {tk tv : TE} {os us : List Nat} (h : wa σ H fun J H1 => Dc2P J ga ra wb gb rb tk tv os us Q σ H1) : tDc2 wa ga ra wb gb rb tk tv os us σ H Q := h
theorem dc2_it {J : It} {n : Nat} {G : Hp → Prop} {Y : Nat → Hp → V → Hp → Prop} (w : Walk J n G Y) {wb : TI} {ga gb : TG} {ra rb : TT} {tk tv : TE} {os us : List Nat} (Pv : Addr → Nat → Hp → Prop) (h0 : ∀ D, H D = none → Pv D 0 (upd H D (.dK []))) (hG : ∀ D i H1, i ≤ n → Pv D i H1 → G H1)
    (hs : ∀ D i x H1 H2, H D = none → i < n → Pv D i H1 → Y i H1 x H2 → ga x (wipe σ os) H2 fun σ2 H4 => wipe σ2 os = wipe σ os ∧ ra σ2 H4 fun b H5 => if b = true then wb σ2 H5 fun J1 H6 => Inner2 J1 gb rb tk tv us D σ2 H6 (Pv D (i + 1)) else Pv D (i + 1) H5)
    (hd : ∀ D H1, H D = none → Pv D n H1 → Q (.ref D) H1) : Dc2P J ga ra wb gb rb tk tv os us Q σ H := by
  intro D hD
  refine ⟨fun i m H1 => m = n - i ∧ i ≤ n ∧ Pv D i H1, ⟨n, by simp, Nat.zero_le _, h0 D hD⟩, ?_⟩
  rintro i m H1 ⟨rfl, hi, p⟩
  by_cases lt : i < n
  · exact .inr ⟨w.goes i H1 lt (hG D i H1 hi p), Pv D (i + 1), fun H3 q => ⟨n - (i + 1), by omega, rfl, lt, q⟩, fun x H2 y => hs D i x H1 H2 hD lt p (w.yields i H1 x H2 lt (hG D i H1 hi p) y)⟩
  · have e : i = n := by omega
    subst e
    exact .inl ⟨w.stops H1 (hG D i H1 hi p), hd D H1 hD p⟩
theorem inner_it {J : It} {n : Nat} {G : Hp → Prop} {Y : Nat → Hp → V → Hp → Prop} (w : Walk J n G Y) {gb : TG} {rb : TT} {tk tv : TE} {us : List Nat} {D : Addr} {Nx : Hp → Prop} (Pv : Nat → Hp → Prop) (h0 : Pv 0 H) (hG : ∀ i H1, i ≤ n → Pv i H1 → G H1)
    (hs : ∀ i x H1 H2, i < n → Pv i H1 → Y i H1 x H2 → gb x (wipe σ us) H2 fun σ3 H3 => wipe σ3 us = wipe σ us ∧ rb σ3 H3 fun b H4 =>
      if b = true then tk σ3 H4 fun y H5 => tv σ3 H5 fun z H6 => ∃ kvs key, y = kV key ∧ H6 D = some (.dK kvs) ∧ kvs.length < sizeLine ∧ Pv (i + 1) (upd H6 D (.dK (putK kvs key z))) else Pv (i + 1) H4)
    (hd : ∀ H1, Pv n H1 → Nx H1) : Inner2 J gb rb tk tv us D σ H Nx := by
  refine ⟨fun i m H1 => m = n - i ∧ i ≤ n ∧ Pv i H1, ⟨n, by simp, Nat.zero_le _, h0⟩, ?_⟩
  rintro i m H1 ⟨rfl, hi, p⟩
  by_cases lt : i < n
  · exact .inr ⟨w.goes i H1 lt (hG i H1 hi p), Pv (i + 1), fun H3 q => ⟨n - (i + 1), by omega, rfl, lt, q⟩, fun x H2 y => hs i x H1 H2 lt p (w.yields i H1 x H2 lt (hG i H1 hi p) y)⟩
  · have e : i = n := by omega
    subst e
    exact .inl ⟨w.stops H1 (hG i H1 hi p), hd H1 p⟩
/-- a comprehension with a test: the turn i gives sel i, or nothing -/
theorem lcp_sel {J : It} {n : Nat} {G : Hp → Prop} {Y : Nat → Hp → V → Hp → Prop} (w : Walk J n G Y) {g : TG} {tt : TT} {te : TE} {vs : List Nat} (M : List Addr) (sel : Nat → Option V) (hz : n ≤ 1000000) (hG : ∀ H', Kp M H H' → G H')
    (hs : ∀ i x H1 H2 (R : V → Hp → Prop) (R0 : Hp → Prop), i < n → Kp M H H1 → Y i H1 x H2 → (∀ y H4, sel i = some y → Kp M H1 H4 → R y H4) → (∀ H4, sel i = none → Kp M H1 H4 → R0 H4) → g x (wipe σ vs) H2 fun σ2 H3 => wipe σ2 vs = wipe σ vs ∧ tt σ2 H3 fun b H4 => if b = true then te σ2 H4 R else R0 H4)
    (hM : ∀ b ∈ M, ∃ o, H b = some o)
    (hd : ∀ D H', H D = none → Kp M H H' → H' D = some (.lst ((List.range n).filterMap sel)) → Q (.ref D) H') : LcP J g tt te vs Q σ H := by
  intro D hD
  have hDM : D ∉ M := fun z => by obtain ⟨o, e⟩ := hM D z; rw [hD] at e; cases e
  refine lc_it w (fun i H' => Kp M H H' ∧ H' D = some (.lst ((List.range i).filterMap sel))) ⟨Kp.new hD, upd_same⟩ (fun i H' _ z => hG H' z.1) ?_ ?_
  · rintro i x H1 H2 hi ⟨k1, e1⟩ y
    refine hs i x H1 H2 _ _ hi k1 y ?_ ?_
    · intro z H4 hz' k4
      refine ⟨_, k4 _ _ hDM e1, ?_, (k1.trans k4).mutN hD, ?_⟩
      · refine Nat.lt_of_le_of_lt (List.length_filterMap_le _ _) ?_
        rw [List.length_range]
        exact Nat.lt_of_lt_of_le (Nat.lt_of_lt_of_le hi hz) (by decide)
      · rw [upd_same, List.range_succ, List.filterMap_append]
        simp [hz']
    · intro H4 hz' k4
      refine ⟨k1.trans k4, ?_⟩
      rw [k4 _ _ hDM e1, List.range_succ, List.filterMap_append]
      simp [hz']
  · rintro H' ⟨k, e⟩
    exact hd D H' hD k e
/-- {k: v for .. if ..}: the turn i puts sel i, or nothing -/
theorem dcp_sel {J : It} {n : Nat} {G : Hp → Prop} {Y : Nat → Hp → V → Hp → Prop} (w : Walk J n G Y) {g : TG} {tt : TT} {tk tv : TE} {vs : List Nat} (M : List Addr) (sel : Nat → Option (Key × V)) (hz : n ≤ 1000000) (hG : ∀ H', Kp M H H' → G H')
    (hs : ∀ i x H1 H2 (R : V → V → Hp → Prop) (R0 : Hp → Prop), i < n → Kp M H H1 → Y i H1 x H2 → (∀ e H4, sel i = some e → Kp M H1 H4 → R (kV e.1) e.2 H4) → (∀ H4, sel i = none → Kp M H1 H4 → R0 H4) → g x (wipe σ vs) H2 fun σ2 H3 => wipe σ2 vs = wipe σ vs ∧ tt σ2 H3 fun b H4 => if b = true then tk σ2 H4 fun y H5 => tv σ2 H5 fun z H6 => R y z H6 else R0 H4)
    (hM : ∀ b ∈ M, ∃ o, H b = some o)
    (hd : ∀ D H', H D = none → Kp M H H' → H' D = some (.dK (mergeK [] ((List.range n).filterMap sel))) → Q (.ref D) H') : DcP J g tt tk tv vs Q σ H := by
  intro D hD
  have hDM : D ∉ M := fun z => by obtain ⟨o, e⟩ := hM D z; rw [hD] at e; cases e
  refine ⟨fun i m H' => m = n - i ∧ i ≤ n ∧ Kp M H H' ∧ H' D = some (.dK (mergeK [] ((List.range i).filterMap sel))), ⟨n, by simp, Nat.zero_le _, Kp.new hD, upd_same⟩, ?_⟩
  rintro i m H1 ⟨rfl, hi, k1, e1⟩
  by_cases hlt : i < n
  · refine .inr ⟨w.goes i H1 hlt (hG _ k1), fun H' => Kp M H H' ∧ H' D = some (.dK (mergeK [] ((List.range (i + 1)).filterMap sel))), fun H' z => ⟨n - (i + 1), by omega, rfl, hlt, z.1, z.2⟩, fun x H2 y => ?_⟩
    refine hs i x H1 H2 (fun y z H5 => ∃ kvs k, y = kV k ∧ H5 D = some (.dK kvs) ∧ kvs.length < sizeLine ∧ (Kp M H (upd H5 D (.dK (putK kvs k z))) ∧ (upd H5 D (.dK (putK kvs k z))) D = some (.dK (mergeK [] ((List.range (i + 1)).filterMap sel))))) _ hlt k1 (w.yields i H1 x H2 hlt (hG _ k1) y) ?_ ?_
    · intro e H4 he k4
      refine ⟨_, e.1, rfl, k4 _ _ hDM e1, ?_, (k1.trans k4).mutN hD, ?_⟩
      · have h1 := mergeK_len ((List.range i).filterMap sel) []
        have h2 : ((List.range i).filterMap sel).length ≤ i := by
          have := List.length_filterMap_le sel (List.range i)
          rw [List.length_range] at this
          exact this
        exact Nat.lt_of_le_of_lt (Nat.le_trans h1 (show _ ≤ 1000000 by simp only [List.length_nil]; omega)) (by decide)
      · rw [upd_same, List.range_succ, List.filterMap_append]
        simp only [List.filterMap_cons, he, List.filterMap_nil]
        rw [mergeK_snoc]
    · intro H4 he k4
      refine ⟨k1.trans k4, ?_⟩
      rw [k4 _ _ hDM e1, List.range_succ, List.filterMap_append]
      simp [he]
  · have e : i = n := by omega
    subst e
    exact .inl ⟨w.stops H1 (hG _ k1), hd D H1 hD k1 e1⟩
/-! ### a dict that is walked; any, sorted, insert -/
def rInsert : V → List V → Hp → VK → Prop := fun x vs H Q => ∃ (l : Addr) (xs : List V) (i : Int) (y : V), x = .ref l ∧ vs = [.int i, y] ∧ H l = some (.lst xs) ∧ xs.length < sizeLine ∧ 0 ≤ i ∧ i < 2 ^ 63 ∧ Q .non (upd H l (.lst (xs.take i.toNat ++ [y] ++ xs.drop i.toNat)))
theorem m_insert {X : Cx} : MtR X "list.insert" rInsert := mt_insert
theorem w_insert {l : Addr} {xs : List V} {k : Nat} {y : V} (h1 : H l = some (.lst xs)) (h2 : xs.length < sizeLine) (h3 : (k : Int) < 2 ^ 63) (h : ∀ H1, H1 l = some (.lst (xs.take k ++ [y] ++ xs.drop k)) → Off l H H1 → Q .non H1) : rInsert (.ref l) [.int k, y] H Q :=
  ⟨l, xs, k, y, rfl, rfl, h1, h2, by omega, h3, h _ upd_same fun x hx => upd_ne hx⟩
theorem w_any {p : Addr} {bs : List Bool} (h1 : SqL K H p (bs.map V.bl)) (h : Q (.bl (bs.any id)) H) : rAny K [.ref p] H Q := ⟨p, bs, rfl, h1, h⟩
theorem w_sorted {p : Addr} {ns : List Int} (h1 : SqL K H p (ns.map V.int)) (h2 : ns.length < 64) (h : ∀ (ys : List Int) l H1, ys.Perm ns → ys.Pairwise (· ≤ ·) → H l = none → H1 l = some (.lst (ys.map V.int)) → Same H H1 → Q (.ref l) H1) : rSorted K [.ref p] H Q :=
  ⟨p, ns, rfl, h1, h2, fun ys l a b c => h ys l _ a b c upd_same (Same.new c)⟩
section
variable {nx bk ct : L2.St → Hp → Prop} {rt : VK}
theorem w_lock {t : TS} {d : Addr} {kvs : List (Key × V)} (e : H d = some (.dK kvs)) (h : ∀ od H1, H1 d = some (.frz od (.dK kvs)) → Off d H H1 → t ⟨fun σ' H' => H' d = some (.frz od (.dK kvs)) ∧ nx σ' (upd H' d (.dK kvs)), fun v H' => H' d = some (.frz od (.dK kvs)) ∧ rt v (upd H' d (.dK kvs)), fun σ' H' => H' d = some (.frz od (.dK kvs)) ∧ bk σ' (upd H' d (.dK kvs)), fun σ' H' => H' d = some (.frz od (.dK kvs)) ∧ ct σ' (upd H' d (.dK kvs))⟩ σ H1) : tLock t ⟨nx, rt, bk, ct⟩ σ H :=
  ⟨d, _, e, trivial, fun od => h od _ upd_same fun x hx => upd_ne hx⟩
/-- behind the walk the dict is as it was -/
theorem unlock {d : Addr} {kvs : List (Key × V)} {H' : Hp} {R : Hp → Prop} {o : Obj} (e : H' d = some (.frz o (.dK kvs))) (h : ∀ H2, H2 d = some (.dK kvs) → Off d H' H2 → R H2) : H' d = some (.frz o (.dK kvs)) ∧ R (upd H' d (.dK kvs)) := ⟨e, h _ upd_same fun x hx => upd_ne hx⟩
def rKeys (x : V) (H1 : Hp) (R : It → Hp → Prop) : Prop := ∃ d o, x = .ref d ∧ ((∃ kvs, H1 d = some (.frz o (.dK kvs)) ∧ R (Itk d o kvs) H1) ∨ ∃ kvs, H1 d = some (.frz o (.dT kvs)) ∧ R (Itkt d o kvs) H1)
theorem w_keys {td : TE} {R : It → Hp → Prop} (h : td σ H fun x H1 => rKeys x H1 R) : iKeys td σ H R := h
theorem w_keys' {d : Addr} {o : Obj} {kvs : List (Key × V)} {R : It → Hp → Prop} (e : H d = some (.frz o (.dK kvs))) (h : R (Itk d o kvs) H) : rKeys (.ref d) H R := ⟨d, o, rfl, .inl ⟨kvs, e, h⟩⟩
theorem lp_keys {d : Addr} {o : Obj} {kvs : List (Key × V)} {ks : List Int} {g : TG} {tb : TS} (hk : kvs.map (·.1) = ks.map (Sum.inl : Int → Key)) (Pv : Nat → L2.St → Hp → Prop) (h0 : Pv 0 σ H) (hl : ∀ i σ H, i ≤ ks.length → Pv i σ H → H d = some (.frz o (.dK kvs)))
    (hs : ∀ i x σ H, ks[i]? = some x → Pv i σ H → g (.int x) σ H fun σ2 H2 => tb ⟨Pv (i + 1), rt, nx, Pv (i + 1)⟩ σ2 H2) (hd : ∀ σ H, Pv ks.length σ H → nx σ H) : Lp (Itk d o kvs) g tb ⟨nx, rt, bk, ct⟩ σ H := by
  have hn : kvs.length = ks.length := by
    have := congrArg List.length hk
    simpa using this
  refine lp_it walk_keys Pv h0 (fun i σ H hi => hl i σ H (by omega)) ?_ (by rw [hn]; exact hd)
  rintro i x σ H H' hi p ⟨rfl, k, v, e, rfl⟩
  have e2 : (kvs.map (·.1))[i]? = some k := by rw [List.getElem?_map, e]; rfl
  rw [hk, List.getElem?_map] at e2
  obtain ⟨z, e3, rfl⟩ := Option.map_eq_some_iff.mp e2
  exact hs i z σ H' e3 p
end
theorem w_tyes {R : Bool → Hp → Prop} (h : R true H) : tYes σ H R := h
theorem w_dinF {a : Addr} {o : Obj} {kvs : List (Key × V)} {n : Int} (e : H a = some (.frz o (.dK kvs))) (h : Q (.bl (valV kvs (Sum.inl n)).isSome) H) : rDIn (.ref a) (.int n) H Q := ⟨a, _, rfl, .inl ⟨kvs, Sum.inl n, .inr ⟨o, e⟩, rfl, rfl⟩, h⟩
theorem w_dgetF {a : Addr} {o : Obj} {kvs : List (Key × V)} {n : Int} {v : V} (e : H a = some (.frz o (.dK kvs))) (e2 : valV kvs (Sum.inl n) = some v) (h : Q v H) : rDGet (.ref a) (.int n) H Q := ⟨a, v, rfl, .inl ⟨kvs, Sum.inl n, .inr ⟨o, e⟩, rfl, e2.symm⟩, h⟩
/-! ### get, reversed, slices, pop -/
def rDGet1 (a : Addr) (y : V) (H : Hp) (Q : VK) : Prop := ∃ o, DGet H a y o ∧ Q (o.getD .non) H
theorem w_dget1 {td ty : TE} (h : td σ H fun x H1 => rIsD x H1 fun a H1 => ty σ H1 fun y H2 => rDGet1 a y H2 Q) : tDGet1 td ty σ H Q := h
theorem w_dget1I {a : Addr} {kvs : List (Key × V)} {n : Int} (e : H a = some (.dK kvs)) (h : Q ((valV kvs (Sum.inl n)).getD .non) H) : rDGet1 a (.int n) H Q := ⟨_, DGet.k (k := Sum.inl n) e, h⟩
def rRev (K : PySem.W.Frag) (vs : List V) (H : Hp) (R : It → Hp → Prop) : Prop := ∃ (a : Addr) (xs : List V), vs = [.ref a] ∧ SqL K H a xs ∧ R (Itv K a xs.length) H
theorem w_rev {ta : TA} {R : It → Hp → Prop} (h : ta σ H fun vs H1 => rRev K vs H1 R) : iRev K ta σ H R := h
theorem w_rev' {a : Addr} {xs : List V} {R : It → Hp → Prop} (h1 : SqL K H a xs) (h : R (Itv K a xs.length) H) : rRev K [.ref a] H R := ⟨a, xs, rfl, h1, h⟩
theorem lp_rev {nx bk ct : L2.St → Hp → Prop} {rt : VK} {a : Addr} {xs : List V} {g : TG} {tb : TS} (Pv : Nat → L2.St → Hp → Prop) (h0 : Pv 0 σ H) (hl : ∀ i σ H, i ≤ xs.length → Pv i σ H → SqL K H a xs)
    (hs : ∀ i x σ H, i < xs.length → xs[xs.length - 1 - i]? = some x → Pv i σ H → g x σ H fun σ2 H2 => tb ⟨Pv (i + 1), rt, nx, Pv (i + 1)⟩ σ2 H2) (hd : ∀ σ H, Pv xs.length σ H → nx σ H) : Lp (Itv K a xs.length) g tb ⟨nx, rt, bk, ct⟩ σ H := by
  refine lp_it walk_rev Pv h0 hl ?_ hd
  rintro i x σ H H' hi p ⟨rfl, e⟩
  exact hs i x σ H' hi e p
def rPart (x : V) (H : Hp) (R : Option Int → Hp → Prop) : Prop := ∃ i, x = .int i ∧ R (some i) H
theorem w_slice {r : V → Option Int → Option Int → Hp → VK → Prop} {te : TE} {tl th : TO} (h : te σ H fun x H1 => tl σ H1 fun l H2 => th σ H2 fun u H3 => r x l u H3 Q) : L2.tSl r te tl th σ H Q := h
theorem w_noPart {R : Option Int → Hp → Prop} (h : R none H) : tNoPart σ H R := h
theorem w_part {te : TE} {R : Option Int → Hp → Prop} (h : te σ H fun x H1 => rPart x H1 R) : tPart te σ H R := h
theorem w_part' {i : Int} {R : Option Int → Hp → Prop} (h : R (some i) H) : rPart (.int i) H R := ⟨i, rfl, h⟩
theorem w_slL {a : Addr} {xs : List V} {lo hi : Option Int} (h1 : SqL K H a xs) (h : ∀ p H1, H p = none → H1 p = some (.lst (cutV xs lo hi)) → Same H H1 → Q (.ref p) H1) : rSlL K (.ref a) lo hi H Q := ⟨a, xs, rfl, h1, w_new h⟩
theorem cut_last (xs : List V) : cutV xs none (some (-1)) = xs.dropLast := by
  show ((xs.drop 0).take ((if (-1 : Int) < 0 then ((-1 : Int) + (xs.length : Int)).toNat else min (-1 : Int).toNat xs.length) - 0)) = xs.dropLast
  rw [if_pos (by decide), List.drop_zero, List.dropLast_eq_take]
  congr 1
  omega
theorem w_bm0 {r : V → List V → Hp → VK → Prop} {to : TE} (h : to σ H fun x H1 => tyV K "list" x H1 ∧ r x [] H1 Q) : tBM0 K "list" r to σ H Q := h
theorem w_pop {l : Addr} {xs : List V} {y : V} (h1 : H l = some (.lst (xs ++ [y]))) (h : ∀ H1, H1 l = some (.lst xs) → Off l H H1 → Q y H1) : rPop (.ref l) [] H Q :=
  ⟨l, _, y, rfl, rfl, h1, by simp, by rw [List.dropLast_concat]; exact h _ upd_same fun x hx => upd_ne hx⟩
theorem w_retN {nx bk ct : L2.St → Hp → Prop} {rt : VK} (h : rt .non H) : tRetN ⟨nx, rt, bk, ct⟩ σ H := h
theorem range_fm {α β : Type} (f : α → Option β) : ∀ xs : List α, (List.range xs.length).filterMap (fun i => xs[i]?.bind f) = xs.filterMap f
  | [] => rfl
  | x :: r => by
    rw [List.length_cons, List.range_succ_eq_map, List.filterMap_cons, List.filterMap_map, List.filterMap_cons]
    have h := range_fm f r
    show (match f x with | none => List.filterMap (fun i => r[i]?.bind f) (List.range r.length) | some b => b :: List.filterMap (fun i => r[i]?.bind f) (List.range r.length)) = _
    rw [h]
    cases f x <;> rfl
end
end FW

set_option Elab.async false
set_option linter.all false
set_option maxRecDepth 100000
set_option maxHeartbeats 4000000
/-! Data of any kind: what isinstance says of them, and tuples of them to a depth. -/
namespace FW
open PySem PySem.Spec PyProof.Rows L2
inductive Ty (H : Hp) : V → String → Prop where
  | non : Ty H .non "NoneType"
  | bl (b : Bool) : Ty H (.bl b) "bool"
  | int (i : Int) : Ty H (.int i) "int"
  | str (z : Str) : Ty H (.str z) "str"
  | lst {a : Addr} {xs : List V} (e : H a = some (.lst xs)) : Ty H (.ref a) "list"
  | tup {a : Addr} {xs : List V} (e : H a = some (.tup xs)) : Ty H (.ref a) "tuple"
  | dK {a : Addr} {kvs : List (Key × V)} (e : H a = some (.dK kvs)) : Ty H (.ref a) "dict"
section
variable {K : PySem.W.Frag} {σ : L2.St} {H : Hp} {Q : VK} {x : V} {a : String}
theorem Ty.tx (t : Ty H x a) : TyX K H x (.type a) := by
  cases t with
  | non => exact .base .non
  | bl b => exact .base (.bl b)
  | int i => exact .base (.int i)
  | str z => exact .base (.str z)
  | lst e => exact .base (.lst e)
  | tup e => exact .base (.tup e)
  | dK e => exact .base (.dK e)
theorem Ty.kTup (t : Ty H x a) : kitB a "tuple" = some (decide (a = "tuple")) := by
  cases t with
  | non => exact kb_NoneType_tuple
  | bl b => exact kb_bool_tuple
  | int i => exact kb_int_tuple
  | str z => exact kb_str_tuple
  | lst e => exact kb_list_tuple
  | tup e => exact kb_tuple_tuple
  | dK e => exact kb_dict_tuple
theorem Ty.kInt (t : Ty H x a) : kitB a "int" = some (decide (a = "int") || decide (a = "bool")) := by
  cases t with
  | non => exact kb_NoneType_int
  | bl b => exact kb_bool_int
  | int i => exact kb_int_int
  | str z => exact kb_str_int
  | lst e => exact kb_list_int
  | tup e => exact kb_tuple_int
  | dK e => exact kb_dict_int
theorem Ty.kBool (t : Ty H x a) : kitB a "bool" = some (decide (a = "bool")) := by
  cases t with
  | non => exact kb_NoneType_bool
  | bl b => exact kb_bool_bool
  | int i => exact kb_int_bool
  | str z => exact kb_str_bool
  | lst e => exact kb_list_bool
  | tup e => exact kb_tuple_bool
  | dK e => exact kb_dict_bool
theorem w_isTup (t : Ty H x a) (h : Q (.bl (decide (a = "tuple"))) H) : rIsi K [x, .ty "tuple"] H Q := w_isi t.tx t.kTup h
theorem w_isInt (t : Ty H x a) (h : Q (.bl (decide (a = "int") || decide (a = "bool"))) H) : rIsi K [x, .ty "int"] H Q := w_isi t.tx t.kInt h
theorem w_isBool (t : Ty H x a) (h : Q (.bl (decide (a = "bool"))) H) : rIsi K [x, .ty "bool"] H Q := w_isi t.tx t.kBool h
theorem Ty.isTup (t : Ty H x a) (e : a = "tuple") : ∃ p xs, x = .ref p ∧ H p = some (.tup xs) := by
  cases t with
  | tup h => exact ⟨_, _, rfl, h⟩
  | non => exact absurd e (by decide)
  | bl _ => exact absurd e (by decide)
  | int _ => exact absurd e (by decide)
  | str _ => exact absurd e (by decide)
  | lst _ => exact absurd e (by decide)
  | dK _ => exact absurd e (by decide)
theorem Ty.isInt (t : Ty H x a) (e : a = "int") : ∃ i, x = .int i := by
  cases t with
  | int i => exact ⟨i, rfl⟩
  | non => exact absurd e (by decide)
  | bl _ => exact absurd e (by decide)
  | tup _ => exact absurd e (by decide)
  | str _ => exact absurd e (by decide)
  | lst _ => exact absurd e (by decide)
  | dK _ => exact absurd e (by decide)
theorem Ty.ofInt {i : Int} (t : Ty H (.int i) a) : a = "int" := by
  cases t with
  | int i => rfl
theorem Ty.ofTup {p : Addr} {xs : List V} (t : Ty H (.ref p) a) (e : H p = some (.tup xs)) : a = "tuple" := by
  cases t with
  | tup h => rfl
  | lst h => rw [e] at h; cases h
  | dK h => rw [e] at h; cases h
end
/-- data: a tuple of data, or another thing -/
inductive Dat (B : Nat) (H : Hp) : V → Prop where
  | leaf {x : V} {a : String} (t : Ty H x a) (h : a ≠ "tuple") : Dat B H x
  | tup {p : Addr} {xs : List V} (e : H p = some (.tup xs)) (l : xs.length ≤ B) (h : ∀ y ∈ xs, Dat B H y) : Dat B H (.ref p)
theorem Dat.int {B : Nat} {H : Hp} {i : Int} : Dat B H (.int i) := .leaf (.int i) (by decide)
theorem Dat.ty {B : Nat} {H : Hp} {x : V} (h : Dat B H x) : ∃ a, Ty H x a := by
  cases h with
  | leaf t _ => exact ⟨_, t⟩
  | tup e _ _ => exact ⟨_, .tup e⟩
/-- what keeps tuples, and of lists and dicts their kind -/
structure KD (H H' : Hp) : Prop where
  t : KT H H'
  l : ∀ b xs, H b = some (.lst xs) → ∃ ys, H' b = some (.lst ys)
  d : ∀ b kvs, H b = some (.dK kvs) → ∃ kws, H' b = some (.dK kws)
theorem KD.of {H H' : Hp} (k : Same H H') : KD H H' := ⟨KT.of k, fun b xs e => ⟨xs, k _ _ e⟩, fun b kvs e => ⟨kvs, k _ _ e⟩⟩
theorem KD.refl {H : Hp} : KD H H := ⟨KT.refl, fun b xs e => ⟨xs, e⟩, fun b kvs e => ⟨kvs, e⟩⟩
theorem KD.trans {H H1 H2 : Hp} (a : KD H H1) (b : KD H1 H2) : KD H H2 := ⟨a.t.trans b.t, fun c xs e => by
  obtain ⟨ys, e⟩ := a.l c xs e
  exact b.l c ys e, fun c xs e => by
  obtain ⟨ys, e⟩ := a.d c xs e
  exact b.d c ys e⟩
theorem KD.off {p : Addr} {H H' : Hp} {xs ys : List V} (k : Off p H H') (e : H p = some (.lst xs)) (e' : H' p = some (.lst ys)) : KD H H' := ⟨KT.off k e, fun b zs h => by
  by_cases q : b = p
  · subst q; exact ⟨ys, e'⟩
  · exact ⟨zs, k.get q h⟩, fun b kvs h => ⟨kvs, k.get (ne_of h e (fun z => nomatch z)) h⟩⟩
theorem KD.offK {p : Addr} {H H' : Hp} {xs ys : List (Key × V)} (k : Off p H H') (e : H p = some (.dK xs)) (e' : H' p = some (.dK ys)) : KD H H' := ⟨fun b zs h => k.get (ne_of h e (fun z => nomatch z)) h, fun b zs h => ⟨zs, k.get (ne_of h e (fun z => nomatch z)) h⟩, fun b kvs h => by
  by_cases q : b = p
  · subst q; exact ⟨ys, e'⟩
  · exact ⟨kvs, k.get q h⟩⟩
theorem Ty.kd {H H' : Hp} {x : V} {a : String} (t : Ty H x a) (k : KD H H') : Ty H' x a := by
  cases t with
  | non => exact .non
  | bl b => exact .bl b
  | int i => exact .int i
  | str z => exact .str z
  | lst e => obtain ⟨ys, e⟩ := k.l _ _ e; exact .lst e
  | tup e => exact .tup (k.t _ _ e)
  | dK e => obtain ⟨ys, e⟩ := k.d _ _ e; exact .dK e
theorem Dat.kd {B : Nat} {H H' : Hp} {x : V} (h : Dat B H x) (k : KD H H') : Dat B H' x := by
  induction h with
  | leaf t h => exact .leaf (t.kd k) h
  | tup e l _ ih => exact .tup (k.t _ _ e) l fun y hy => ih y hy
theorem Dat.mono {B C : Nat} (hB : B ≤ C) {H : Hp} {x : V} (h : Dat B H x) : Dat C H x := by
  induction h with
  | leaf t h => exact .leaf t h
  | tup e l _ ih => exact .tup e (Nat.le_trans l hB) fun y hy => ih y hy
theorem Dat.cases {B : Nat} {H : Hp} {x : V} (h : Dat B H x) : (∃ a, Ty H x a ∧ a ≠ "tuple") ∨ ∃ (p : Addr) (xs : List V), x = .ref p ∧ H p = some (.tup xs) ∧ xs.length ≤ B ∧ ∀ y ∈ xs, Dat B H y := by
  cases h with
  | leaf t h => exact .inl ⟨_, t, h⟩
  | tup e l h => exact .inr ⟨_, _, rfl, e, l, h⟩
theorem Deck.kd {H H' : Hp} {d c : Addr} {n m : Nat} (D : Deck H d c n) (D' : Deck H' d c m) (o : Off d H H') : KD H H' := by
  obtain ⟨⟨xs, e⟩, _⟩ := D.at
  obtain ⟨⟨ys, e'⟩, _⟩ := D'.at
  exact KD.off o e e'
section
variable {K : PySem.W.Frag} {H : Hp} {Q : VK}
theorem w_slA {a : Addr} {xs : List V} {lo hi : Option Int} (h1 : SqT K H a xs) (h2 : cutV xs lo hi = xs → Q (.ref a) H) (h : ∀ p H1, H p = none → H1 p = some (.tup (cutV xs lo hi)) → Same H H1 → Q (.ref p) H1) : rSlA K (.ref a) lo hi H Q := by
  refine ⟨a, xs, rfl, h1, fun ⟨z1, z2⟩ => h2 ?_, fun _ => w_new h⟩
  unfold cutV
  rw [z1, z2, List.drop_zero, Nat.sub_zero, List.take_length]
/-- new things in turn: the deck, those that were made, what stood at H0 -/
theorem w_newD {H0 : Hp} {d c : Addr} {n B : Nat} {L xs : List V} (D : Deck H d c n) (hL : ∀ y ∈ L, Dat B H y) (kk : Same H0 H) (hx : ∀ y ∈ xs, Dat B H y) (hl : xs.length ≤ B) (h : ∀ p H', Deck H' d c n → (∀ y ∈ V.ref p :: L, Dat B H' y) → Same H0 H' → Q (.ref p) H') : Nw (.tup xs) H Q := by
  refine w_new fun p H' hp e k => h p H' (D.kp (M := []) (Kp.of k) (by simp) (by simp)) (fun y hy => ?_) (Same.trans kk k)
  rcases List.mem_cons.mp hy with rfl | hy
  · exact .tup e hl fun y hy => (hx y hy).kd (KD.of k)
  · exact (hL y hy).kd (KD.of k)
theorem w_newLD {H0 : Hp} {d c : Addr} {n B : Nat} {L xs : List V} (D : Deck H d c n) (hL : ∀ y ∈ L, Dat B H y) (kk : Same H0 H) (hl : xs.length ≤ 1) (h : ∀ p H', Deck H' d c n → (∀ y ∈ V.ref p :: L, Dat B H' y) → Same H0 H' → Q (.ref p) H') : Nw (.lst xs) H Q := by
  refine w_new fun p H' hp e k => h p H' (D.kp (M := []) (Kp.of k) (by simp) (by simp)) (fun y hy => ?_) (Same.trans kk k)
  rcases List.mem_cons.mp hy with rfl | hy
  · exact .leaf (.lst e) (by decide)
  · exact (hL y hy).kd (KD.of k)
theorem w_newB {H0 : Hp} {d c : Addr} {n B : Nat} {L xs : List V} (D : Deck H d c n) (hL : ∀ y ∈ L, Dat B H y) (kk : Same H0 H) (hx : ∀ y ∈ xs, Dat B H y) (h : ∀ p H', Deck H' d c n → (∀ y ∈ xs, Dat B H' y) → H' p = some (.lst xs) → Same H0 H' → Q (.ref p) H') : Nw (.lst xs) H Q :=
  w_new fun p H' hp e k => h p H' (D.kp (M := []) (Kp.of k) (by simp) (by simp)) (fun y hy => (hx y hy).kd (KD.of k)) e (Same.trans kk k)
theorem w_newKD {H0 : Hp} {d c : Addr} {n B : Nat} {L : List V} {kvs : List (Key × V)} (D : Deck H d c n) (hL : ∀ y ∈ L, Dat B H y) (kk : Same H0 H) (h : ∀ p H', Deck H' d c n → (∀ y ∈ V.ref p :: L, Dat B H' y) → Same H0 H' → Q (.ref p) H') : Nw (.dK kvs) H Q := by
  refine w_new fun p H' hp e k => h p H' (D.kp (M := []) (Kp.of k) (by simp) (by simp)) (fun y hy => ?_) (Same.trans kk k)
  rcases List.mem_cons.mp hy with rfl | hy
  · exact .leaf (.dK e) (by decide)
  · exact (hL y hy).kd (KD.of k)
theorem w_dispD {σ : L2.St} {H0 : Hp} {d c : Addr} {n B : Nat} {L : List V} {k : Int} {v : V} (D : Deck H d c n) (hL : ∀ y ∈ L, Dat B H y) (kk : Same H0 H) (h : ∀ p H', Deck H' d c n → (∀ y ∈ V.ref p :: L, Dat B H' y) → Same H0 H' → Q (.ref p) H') : tDisp [(tC (.int k), tC v)] σ H Q := by
  refine w_disp fun p H1 hp e1 k1 => ?_
  refine w_pair (w_c (w_c (w_pnil ?_)))
  refine w_dispE [(Sum.inl k, v)] e1 rfl (show (1 : Nat) ≤ 15 by decide) fun H2 e2 o2 => ?_
  have k2 : Same H H2 := fun b o e => o2.get (ne_of_none e hp) (k1 _ _ e)
  refine h p H2 (D.kp (M := []) (Kp.of k2) (by simp) (by simp)) (fun y hy => ?_) (Same.trans kk k2)
  rcases List.mem_cons.mp hy with rfl | hy
  · exact .leaf (.dK e2) (by decide)
  · exact (hL y hy).kd (KD.of k2)
theorem w_cat {l b : Addr} {xs zs : List V} (h1 : H l = some (.lst xs)) (h2 : H b = some (.lst zs)) (hz : xs.length + zs.length ≤ sizeLine) (h : ∀ p H1, H p = none → H1 p = some (.lst (xs ++ zs)) → Same H H1 → Q (.ref p) H1) : rCat (.ref l) (.ref b) H Q := ⟨l, b, xs, zs, rfl, rfl, h1, h2, hz, w_new h⟩
/-- t[lo:hi]: where it stands, it is the cut -/
theorem w_slAt {a : Addr} {xs : List V} {lo hi : Option Int} (h1 : H a = some (.tup xs)) (h : ∀ p H1, H1 p = some (.tup (cutV xs lo hi)) → Same H H1 → Q (.ref p) H1) : rSlA K (.ref a) lo hi H Q :=
  w_slA (.of h1) (fun e => h a H (by rw [e]; exact h1) (fun _ _ z => z)) (fun p H1 _ e k => h p H1 e k)
theorem w_catAt {a b : Addr} {xs ys : List V} (h1 : H a = some (.tup xs)) (h2 : H b = some (.tup ys)) (hz : xs.length + ys.length ≤ sizeLine) (h : ∀ p H1, H1 p = some (.tup (xs ++ ys)) → Same H H1 → Q (.ref p) H1) : rCatA K (.ref a) (.ref b) H Q := by
  refine ⟨a, b, xs, ys, rfl, rfl, .of h1, .of h2, hz, fun e => ?_, fun _ e => ?_, fun _ _ p hp => h p _ upd_same (Same.new hp)⟩
  · subst e
    exact h b H h2 (fun _ _ z => z)
  · subst e
    exact h a H (by rw [List.append_nil]; exact h1) (fun _ _ z => z)
end
/-! ### except X as e -/
def tTryA (K : PySem.W.Frag) (c : Value) (i : Nat) (tb : WX → TS) (ts : Addr → Value → Option Addr → TS) : TS := fun D σ H => tb (wAs K c i ts (fun _ _ _ _ => False) D) D σ H
def tGuard (P : Prop) (t : TS) : TS := fun D σ H => P ∧ t D σ H
section
variable {X : Cx} {x n : Str} {c : Value} {i : Nat} {body suite : List Stmt} {b₀ : Stmt} {np pos pos' : Pos} {tb : WX → TS} {ts : Addr → Value → Option Addr → TS}
theorem p_tryAs (hs : X.stack = X.env :: X.outer) (hf : X.env.frame = some X.env.locals) (hN : X.N.Nodup) (hi : X.N[i]? = some n) (hln : X.env.kindOf n = some .local) (hc : Names X x c)
    (hb : ∀ (W : WX) (pn : List (Addr × Obj)) (xe : Value → Shared → Prop), Takes (X.tr pn xe) W → PassesOwn (model X.prog X.w) X.A X.env xe → PSs (X.tr pn xe) body (tb W))
    (hsu : ∀ (a : Addr) (oe : Obj) (cls : Value) (d : Option Addr) (pn : List (Addr × Obj)), Zc cls d oe → (∃ vs, oe.data = .fields vs) → PSs (X.suite a ((a, oe) :: pn)) (b₀ :: suite) (ts a cls d)) :
    PS X (.Try body [.ExceptHandler (some (.Name x np)) (some n) (b₀ :: suite) pos'] [] [] pos) (tTryA X.K c i tb ts) := ps_try_as hs hf hN hi hln hc takes0 hb hsu
theorem pss_guard {P : Prop} {ss : List Stmt} {t : TS} (h : P → PSs X ss t) : PSs X ss (tGuard P t) := ⟨fun pins s σ H D I hw => (h hw.1).run pins s σ H D I hw.2⟩
theorem zc_of {C : Addr} {cls : Value} {d : Option Addr} {oe : Obj} (hg : cls = .ref C ∧ d = none) (hz : Zc cls d oe) : Zc (.ref C) none oe := by
  obtain ⟨rfl, rfl⟩ := hg
  exact hz
end
section
variable {K : PySem.W.Frag} {σ : L2.St} {H : Hp} {Q : VK} {nx bk ct : L2.St → Hp → Prop} {rt : VK}
theorem w_tryA {c : Value} {i : Nat} {tb : WX → TS} {ts : Addr → Value → Option Addr → TS} (h : tb (wAs K c i ts (fun _ _ _ _ => False) ⟨nx, rt, bk, ct⟩) ⟨nx, rt, bk, ct⟩ σ H) : tTryA K c i tb ts ⟨nx, rt, bk, ct⟩ σ H := h
theorem w_guard {P : Prop} {t : TS} (p : P) (h : t ⟨nx, rt, bk, ct⟩ σ H) : tGuard P t ⟨nx, rt, bk, ct⟩ σ H := ⟨p, h⟩
theorem w_isE {a D C : Addr} {b : Bool} (e : PySem.W.kitOne K (.ref D) (.ref C) = some b) (h : Q (.bl b) H) : rIsE K D a [.ref a, .ref C] H Q := ⟨.ref C, .ref C, b, rfl, fun u r => r, e, h⟩
theorem w_isEt {a D : Addr} {n : String} {b : Bool} (e : PySem.W.kitOne K (.ref D) (.type n) = some b) (h : Q (.bl b) H) : rIsE K D a [.ref a, .ty n] H Q := ⟨.ty n, .type n, b, rfl, fun u r => r, e, h⟩
end
end FW

set_option Elab.async false
set_option linter.all false
set_option maxRecDepth 100000
set_option maxHeartbeats 4000000
/-! own errors with fields: made, caught, looked at; min of pairs; defaults by keyword -/
namespace FW
section
open PySem PySem.W PySem.Calls PyProof.Rows
variable {prog : Program} {w : World} {A : Around} {E : Value → Shared → Prop} {s : Shared} {K : Frag} {x D : Addr} {ox : Obj} {od : Option Obj}
theorem fo_data {C : Addr} {name : Str} {a g : Value} (hc : (clsIn K C).isSome = true) (ha : findIn K (.ref C) name = some (some a)) (hg : specialIn K a "__get__" = some (some g)) (ht : takesIn K a = some true) : findObj K C od name = some (.bind g a) := by
  obtain ⟨cd, e⟩ := Option.isSome_iff_exists.mp hc
  unfold findObj; rw [e, Option.bind_some, ha, Option.bind_some]; simp [hg, ht]
theorem cls_look {Q : Option Value → Shared → Prop} (C : L2.ExcC K D) (X : K.In s.heap) (I : InstAt s.heap x ox D od) (h : Q (some (.ref D)) { s with toks := s.toks + 1 }) : wpAny (model prog w) A (getAttr? (.ref x) "__class__") Q E s := by
  have hf : findObj K D od "__class__" = some (.bind (.builtin "getset_descriptor.__get__") (.builtin "object.__class__")) := fo_data (by obtain ⟨cd, hc, _⟩ := any_some C.hd; rw [hc]; rfl) C.ha C.hn C.ht
  obtain ⟨hp, g, d, t, os⟩ := s
  have y0 := I.type (M := model prog w); have y1 := looks_findIn (M := model prog w) X C.hg
  have y2 := looks_findIn (M := model prog w) X C.hk; have y3 := looks_find (M := model prog w) X I hf
  have sub : Looks (model prog w) hp (isInstance (.ref x) (.type "BaseException")) true := y0.andThen (looks_subIn X C.hs)
  have n2 : (Value.builtin "BaseException.__getattribute__" == Value.builtin "object.__getattribute__") = false := by decide +kernel
  have n1 : (onTheHeap (Value.ref D) && Value.builtin "BaseException.__getattribute__" == Value.builtin "object.__getattribute__") = false := by rw [n2]; rfl
  unfold getAttr? getAttrBy? getAttrBy
  refine wpAny_bind (wpAny_mkText (wpAny_bind (wpAny_attempt (wpAny_holding (wpAny_bind (y0.at (wpAny_bind (y1.at ?_))))))))
  show wpAny _ _ (if (onTheHeap (Value.ref D) && Value.builtin "BaseException.__getattribute__" == Value.builtin "object.__getattribute__") = true then _ else _) _ _ _; rw [n1, if_neg Bool.false_ne_true]
  unfold getAttrByItsOwn hookBefore; refine wpAny_bind ?_; rw [if_pos (show onTheHeap (Value.ref D) = true from rfl)]; refine y2.at ?_
  refine wpAny_bind (wpAny_attempt (wpAny_holding ?_)); unfold callGetattribute; rw [show (false && onTheHeap (Value.builtin "BaseException.__getattribute__")) = false from rfl, if_neg Bool.false_ne_true]
  unfold boundAndCalled; rw [PySem.F.excAttr_ValueError.ga.bind (.ref x)]; refine wpAny_bind (wpAny_pure ?_)
  show wpAny _ _ (call (.builtin "BaseException.__getattribute__") [.ref x, .str "__class__" t]) _ _ _; refine wpAny_call (codeAny_call_builtin PySem.F.excAttr_ValueError.ga.plain PySem.F.entry_bexc_ga ?_)
  refine @check_slot (model prog w) _ _ ⟨hp, g, d, t + 1, os⟩ "BaseException.__getattribute__" "BaseException" "__getattribute__" (.ref x) [.str "__class__" t] [] _ (by decide +kernel) (by decide +kernel) sub (PySem.F.args_bexc_ga (.ref x) (.str "__class__" t)) ?_; unfold Builtin.«object.__getattribute__»
  refine wpAny_bind (wpAny_of_eq (a := ((Value.ref x : Value), [Value.str "__class__" t])) (by first | rfl | (simp only [slotArgs]; rfl)) ?_); refine wpAny_bind (wpAny_pure (wpAny_bind (y0.at (wpAny_bind (y3.at ?_)))))
  show wpAny _ _ (holding [Value.builtin "object.__class__"] (call (.builtin "getset_descriptor.__get__") [.builtin "object.__class__", .ref x, .ref D]) >>= ret) _ _ _; refine wpAny_bind (wpAny_holding (wpAny_call (class_get (s := ⟨hp, g, d, t + 1, os⟩) (ox := ox) (od := od) X I C.hm ?_)))
  refine wpAny_pure ?_; show wpAny _ _ (handedOut (.ref D)) _ _ _; rw [handedOut_of (v := .ref D) rfl]
  first | exact wpAny_pure (wpAny_pure h) | exact wpAny_pure h | exact wpAny_pure (wpAny_bind (wpAny_pure (wpAny_pure h)))
theorem kitx_of (C : L2.ExcC K D) : KitX K (.ref x) (.ref D) (fun h => InstAt h x ox D od) := by
  have Z : KitX K (.ref x) (.ref D) (fun h => InstAt h x ox D none) := handS_kitx_exc C.hg C.hk C.hs C.hd C.ha C.hn C.ht C.hm
  refine ⟨fun _ _ _ I => I.type, fun _ _ X _ => ?_, Z.ne, fun X I k => cls_look C X I k⟩
  obtain ⟨cd, hc, _⟩ := any_some C.hd
  unfold clsIn at hc
  split at hc
  · rename_i ho
    intro A' Q' E' s' k q
    unfold isType loadHead; exact wpAny_bind (wpAny_loadPart (k _ _ (X _ _ ho)) (wpAny_pure q))
  · cases hc
end
open PySem PySem.Spec PyProof.Rows L2
/-- isinstance(e, c), e the error that the suite holds, with its fields at d -/
def rIsF (K : PySem.W.Frag) (D a : Addr) (d : Option Addr) : List V → Hp → VK → Prop := fun xs H Q => ∃ (c : V) (cv : Value) (b : Bool) (dd : Addr) (fs : List (Str × V)), xs = [.ref a, c] ∧ d = some dd ∧ H dd = some (.xd fs) ∧ (∀ u, RelV c u → u = cv) ∧ PySem.W.kitOne K (.ref D) cv = some b ∧ Q (.bl b) H
theorem call_isF {X : Cx} {a D : Addr} {oe : Obj} {cls : Value} {d : Option Addr} {pn : List (Addr × Obj)} (C : ExcC X.K D) (hc : cls = .ref D) (hz : Zc cls d oe) (hf : ∃ vs, oe.data = .fields vs) : CallR (X.suite a ((a, oe) :: pn)) (.builtin "isinstance") (rIsF X.K D a d) := by
  intro pins s σ H xs us Q I r ⟨c, cv, b, dd, fs, e0, ed, ea, hcv, e, q⟩
  subst e0 hc ed
  cases r with
  | cons rx rr =>
    cases rr with
    | cons rt rr =>
      cases rr
      cases rx
      have ec := hcv _ rt
      subst ec
      obtain ⟨ha, _⟩ := I.pin (a, oe) (List.mem_append.mpr (.inl List.mem_cons_self))
      obtain ⟨vs, hv⟩ := hf
      have hx : ObjOk X.prog X.w H s.heap dd (.xd fs) := I.hok dd _ ea
      obtain ⟨mA, hns, _⟩ := hx
      obtain ⟨od, ho, _⟩ := lookIn_ns hns
      have J : PySem.W.InstAt s.heap a oe D (some od) := ⟨ha, hz.1, by unfold PySem.W.notCls; rw [hv] <;> rfl, by rw [hz.2]; exact ho⟩
      exact PySem.W.kia_one (kitx_of C) I.kIn J e (fun z => nomatch z) fun tk => ⟨.bl b, H, I.kept (t' := tk) fun _ _ z => z, rfl, q⟩
/-- an own error with __init__ -/
structure ExnI (K : PySem.W.Frag) (mg : Str → Option Value) (x : Str) (C fI : Addr) (fd : FuncData) (ps : List Str) (fs : List Str) : Prop where
  g : mg x = some (.ref C)
  T : OexC K C
  i : PySem.W.findIn K (.ref C) "__init__" = some (some (.ref fI))
  t : PySem.W.typeIn K (.ref fI) = some (.type "function")
  b : Binds K fd ps []
  f : XfC K C
  ec : ExcC K C
  nf : ∀ y ∈ fs, PySem.W.findIn K (.ref C) y = some none
/-- a def with keyword-only defaults -/
structure DfK (K : PySem.W.Frag) (mg : Str → Option Value) (x : Str) (st : Stmt) (ps : List Str) (kws : List (Str × V)) (dvs : List V) (f : Addr) (fd : FuncData) : Prop where
  fn : FunD K x x (defArgs st) (defBody st) (defScope st) [] kws f fd
  g : mg x = some (.ref f)
  kp : PySem.W.keepIn K (.ref f) = true
  b : ∃ ds, Vals dvs ds ∧ Binds K fd ps ds
  kb : ∃ g, KBn K fd ps (ps.length - kws.length) (kws.map (·.1)) g (fun vs zs => vs ++ zs)
/-- raise C(..) of two fields -/
def tRaiseO (C : Addr) (W : WX) (sp : Sp) (ta : TA) : TS := fun _ σ H => tMkO C sp [] ta σ H fun cls d H' => W cls d σ H'
section
variable {K : PySem.W.Frag} {σ : L2.St} {H : Hp} {Q : VK} {nx bk ct : L2.St → Hp → Prop} {rt : VK}
theorem w_raiseO {C : Addr} {W : WX} {sp : Sp} {ta : TA} (h : tMkO C sp [] ta σ H fun cls d H' => W cls d σ H') : tRaiseO C W sp ta ⟨nx, rt, bk, ct⟩ σ H := h
theorem w_mkO {C : Addr} {sp : Sp} {ta : TA} {Qx : XK} (h : ta σ H fun vs H1 => vs.length ≤ 1000 ∧ ∀ a, H1 a = none → sp (.ref a :: (vs ++ [])) (upd H1 a (exo a C none)) (fun v H2 => v = .non ∧ ∃ (d : Addr) (fs : List (Str × V)), H2 a = some (exo a C (some d)) ∧ H2 d = some (exd d fs) ∧ H1 d = none ∧ Qx (.ref C) (some d) (upd (del H2 a) d (.xd fs))) (fun _ _ _ => False)) : tMkO C sp [] ta σ H Qx := h
theorem w_callSD {sp : Sp} {dvs : List V} {E : L2.St → XK} {t : TA} (h : t σ H fun vs H1 => sp (vs ++ dvs) H1 Q (E σ)) : tCallSD sp dvs E t σ H Q := h
theorem w_callN {n m : Nat} {sp : Sp} {gV : List V → List V → List V} {E : XK} {t tk : TA} (h : t σ H fun vs H1 => tk σ H1 fun zs H2 => vs.length = n ∧ zs.length = m ∧ sp (gV vs zs) H2 Q E) : tCallN n m sp gV E t tk σ H Q := h
theorem w_xf {a C : Addr} {cls : Value} {d : Option Addr} {f : Str} {te : TE} (h : te σ H fun x H1 => x = .ref a ∧ cls = .ref C ∧ ∃ (dd : Addr) (fs : List (Str × V)) (v : V), d = some dd ∧ H1 dd = some (.xd fs) ∧ fs.lookup f = some v ∧ Q v H1) : tXf a cls d C f te σ H Q := h
theorem w_isF {a D C dd : Addr} {fs : List (Str × V)} {b : Bool} (ed : H dd = some (.xd fs)) (e : PySem.W.kitOne K (.ref D) (.ref C) = some b) (h : Q (.bl b) H) : rIsF K D a (some dd) [.ref a, .ref C] H Q := ⟨.ref C, .ref C, b, dd, fs, rfl, rfl, ed, fun u r => r, e, h⟩
theorem w_isFt {a D dd : Addr} {fs : List (Str × V)} {n : String} {b : Bool} (ed : H dd = some (.xd fs)) (e : PySem.W.kitOne K (.ref D) (.type n) = some b) (h : Q (.bl b) H) : rIsF K D a (some dd) [.ref a, .ty n] H Q := ⟨.ty n, .type n, b, dd, fs, rfl, rfl, ed, fun u r => r, e, h⟩
theorem w_ost {f : Str} {to te : TE} {D : Ends} (h : te σ H fun y H1 => to σ H1 fun x H2 => ∃ a C : Addr, x = .ref a ∧ OexC K C ∧ PySem.W.findIn K (.ref C) f = some none ∧ ((H2 a = some (exo a C none) ∧ ∀ dx, H2 dx = none → dx ≠ a → D.nx σ (upd (upd H2 dx (exd dx [(f, y)])) a (exo a C (some dx)))) ∨ ∃ (dx : Addr) (fs : List (Str × V)), H2 a = some (exo a C (some dx)) ∧ H2 dx = some (exd dx fs) ∧ fs.length ≤ 900 ∧ D.nx σ (upd H2 dx (exd dx ((f, y) :: fs))))) : tOst K f to te D σ H := h
end
/-- what __init__ of two fields leaves -/
def spInit2 (K : PySem.W.Frag) (C : Addr) (f g : Str) : Sp := fun vs H Q _ => ∃ (a : Addr) (x y : V), vs = [.ref a, x, y] ∧ H a = some (exo a C none) ∧ ∀ dx, H dx = none → dx ≠ a → Q .non (upd (upd (upd H dx (exd dx [(f, x)])) a (exo a C (some dx))) dx (exd dx [(g, y), (f, x)]))
def spInit1 (K : PySem.W.Frag) (C : Addr) (f : Str) : Sp := fun vs H Q _ => ∃ (a : Addr) (x : V), vs = [.ref a, x] ∧ H a = some (exo a C none) ∧ ∀ dx, H dx = none → dx ≠ a → Q .non (upd (upd H dx (exd dx [(f, x)])) a (exo a C (some dx)))
/-- the heap behind it -/
theorem mk2_same {K : PySem.W.Frag} {C : Addr} {f g : Str} {x y : V} {H : Hp} {Qx : XK} {a : Addr} (ha : H a = none) (h : ∀ d H', Same H H' → H d = none → H' d = some (.xd [(g, y), (f, x)]) → Qx (.ref C) (some d) H') :
    spInit2 K C f g [.ref a, x, y] (upd H a (exo a C none)) (fun v H2 => v = .non ∧ ∃ (d : Addr) (fs : List (Str × V)), H2 a = some (exo a C (some d)) ∧ H2 d = some (exd d fs) ∧ H d = none ∧ Qx (.ref C) (some d) (upd (del H2 a) d (.xd fs))) (fun _ _ _ => False) := by
  refine ⟨a, x, y, rfl, upd_same, fun dx hd hne => ⟨rfl, dx, _, ?_, upd_same, (upd_none hd).1, h dx _ (fun b o e => ?_) (upd_none hd).1 upd_same⟩⟩
  · rw [upd_ne (Ne.symm hne), upd_same]
  · have n1 : b ≠ dx := ne_of_none e (upd_none hd).1
    have n2 : b ≠ a := ne_of_none e ha
    rw [upd_ne n1, del_ne n2, upd_ne n1, upd_ne n2, upd_ne n1, upd_ne n2]
    exact e
/-! ### min of a list of pairs -/
def LtP (p q : Int × Int) : Prop := p.1 < q.1 ∨ p.1 = q.1 ∧ p.2 < q.2
def rMinP (K : PySem.W.Frag) : List V → Hp → VK → Prop := fun vs H Q => ∃ (a : Addr) (ps : List (Addr × Int × Int)), vs = [V.ref a] ∧ SqL K H a (ps.map fun q => .ref q.1) ∧ (∀ q ∈ ps, H q.1 = some (.tup [.int q.2.1, .int q.2.2])) ∧ ps ≠ [] ∧ ∀ q ∈ ps, (∀ r ∈ ps, ¬ LtP r.2 q.2) → Q (.ref q.1) H
theorem lt_P (p q : Int × Int) : PySem.W.DatumOrd.lt p q = true ↔ LtP p q := by
  show (if p.1 = q.1 then decide (p.2 < q.2) else decide (p.1 < q.1)) = true ↔ _
  unfold LtP
  by_cases e : p.1 = q.1
  · rw [if_pos e, decide_eq_true_iff]; omega
  · rw [if_neg e, decide_eq_true_iff]; omega
theorem minOf_le : ∀ (xs : List (Int × Int)) (x : Int × Int), (∀ r ∈ x :: xs, ¬ LtP r (PySem.W.minOf x xs)) ∧ PySem.W.minOf x xs ∈ x :: xs
  | [], x => ⟨fun r hr => by
      have e : r = x := by simpa using hr
      subst e
      show ¬ LtP r r
      unfold LtP
      omega, by show x ∈ [x]; simp⟩
  | y :: xs, x => by
    have ih := minOf_le xs (if PySem.W.DatumOrd.lt y x = true then y else x)
    have e : PySem.W.minOf x (y :: xs) = PySem.W.minOf (if PySem.W.DatumOrd.lt y x = true then y else x) xs := rfl
    rw [e]
    revert ih
    generalize PySem.W.minOf (if PySem.W.DatumOrd.lt y x = true then y else x) xs = m
    by_cases c : PySem.W.DatumOrd.lt y x = true
    · rw [if_pos c]
      have c' := (lt_P y x).mp c
      intro ih
      refine ⟨fun r hr => ?_, ?_⟩
      · rcases List.mem_cons.mp hr with rfl | h
        · have := ih.1 y (by simp)
          unfold LtP at *
          omega
        · exact ih.1 r h
      · exact List.mem_cons_of_mem _ ih.2
    · rw [if_neg c]
      have c' : ¬ LtP y x := fun z => c ((lt_P y x).mpr z)
      intro ih
      refine ⟨fun r hr => ?_, ?_⟩
      · rcases List.mem_cons.mp hr with rfl | h
        · exact ih.1 r (by simp)
        · rcases List.mem_cons.mp h with rfl | h
          · have := ih.1 x (by simp)
            unfold LtP at *
            omega
          · exact ih.1 r (by simp [h])
      · rcases List.mem_cons.mp ih.2 with h | h
        · rw [h]; simp
        · simp [h]
section
variable {X : Cx} {pins : List (Addr × Obj)} {σ : L2.St} {H : Hp} {s : Shared}
theorem hold_pair (I : Inv X pins σ H s) {p : Addr} {x y : Int} (e : H p = some (.tup [.int x, .int y])) : PySem.W.Holds s.heap (.ref p) (x, y) := by
  obtain ⟨its, rv, hl, _⟩ := I.tuple (.of e)
  cases rv with
  | cons r1 rr =>
    cases rr with
    | cons r2 rr =>
      cases rr
      obtain ⟨t1, rfl⟩ := r1
      obtain ⟨t2, rfl⟩ := r2
      exact PySem.W.holds_pair hl (PySem.W.holds_int _ _) (PySem.W.holds_int _ _)
theorem hold_all (I : Inv X pins σ H s) : ∀ (ps : List (Addr × Int × Int)) (its : List Value), Vals (ps.map fun q => V.ref q.1) its → (∀ q ∈ ps, H q.1 = some (.tup [.int q.2.1, .int q.2.2])) → PySem.W.HoldAll s.heap its (ps.map (·.2)) ∧ its = ps.map fun q => Value.ref q.1
  | [], _, r, _ => by cases r; exact ⟨PySem.W.HoldAll.nil, rfl⟩
  | q :: ps, _, r, h => by
    cases r with
    | cons r1 rr =>
      cases r1
      obtain ⟨h1, h2⟩ := hold_all I ps _ rr fun z hz => h z (by simp [hz])
      exact ⟨PySem.W.HoldAll.cons (hold_pair I (h q (by simp))) h1, by rw [h2]; rfl⟩
theorem c_minP (hc : X.calm = true) (hu : X.A.units + 100 < cLine) : CallR X (.builtin "min") (rMinP X.K) := by
  intro pins s σ H vs us Q I r ⟨a, ps, e0, hs, hp, hne, q⟩
  subst e0
  obtain ⟨its, rv, hl, _⟩ := I.list hs
  rw [Vals.ref1 r]
  obtain ⟨ha, hit⟩ := hold_all I ps its rv hp
  cases ps with
  | nil => exact absurd rfl hne
  | cons p ps =>
    have hdp : PySem.W.Datum.depth (Int × Int) ≤ 50 := by decide
    refine PySem.W.min_list_datum (x := p.2) (xs := ps.map (·.2)) (I.ok.hd hc) hl.isList (by simpa using ha) (by omega) fun i v h' tk hi hv hk => ?_
    have hi' : its[i]? = some v := by simpa using hi
    rw [hit, List.getElem?_map] at hi'
    obtain ⟨z, hz, rfl⟩ := Option.map_eq_some_iff.mp hi'
    have hzm := List.mem_of_getElem? hz
    have e : z.2 = PySem.W.minOf p.2 (ps.map (·.2)) := by
      obtain ⟨as, ra⟩ := (hold_pair I (hp z hzm)).keeps hk
      obtain ⟨bs, rb⟩ := hv
      have e1 := (Reads.unique ra _ _ rb).1
      have e2 := PySem.W.Datum.eqv (z.2.1, z.2.2) (PySem.W.minOf p.2 (ps.map (·.2)))
      rw [← e1, PySem.W.Datum.eqv] at e2
      have e3 : decide ((z.2.1, z.2.2) = PySem.W.minOf p.2 (ps.map (·.2))) = true := by rw [← e2]; simp
      exact of_decide_eq_true e3
    refine ⟨.ref z.1, H, I.kept (t' := tk) hk, rfl, q z hzm fun r hr => ?_⟩
    have := (minOf_le (ps.map (·.2)) p.2).1 r.2 (by
      rcases List.mem_cons.mp hr with rfl | h
      · simp
      · exact List.mem_cons_of_mem _ (List.mem_map_of_mem h))
    rw [e]
    exact this
end
theorem room100 {k : Nat} {A : Around} (r : Room k A) : A.units + 100 < cLine := by have := r.un; omega
theorem w_minP {K : PySem.W.Frag} {H : Hp} {Q : VK} {a : Addr} {ps : List (Addr × Int × Int)} (h1 : SqL K H a (ps.map fun q => .ref q.1)) (h2 : ∀ q ∈ ps, H q.1 = some (.tup [.int q.2.1, .int q.2.2])) (h3 : ps ≠ []) (h : ∀ q ∈ ps, (∀ r ∈ ps, ¬ LtP r.2 q.2) → Q (.ref q.1) H) : rMinP K [.ref a] H Q := ⟨a, ps, rfl, h1, h2, h3, h⟩
end FW

set_option Elab.async false
set_option linter.all false
set_option maxRecDepth 100000
set_option maxHeartbeats 4000000
/-! for i, x in enumerate(t), t a tuple -/
namespace FW
open PySem PySem.Spec PyProof.Rows L2
def ItU (K : PySem.W.Frag) (a : Addr) : It :=
  ⟨fun i H => ∃ (xs : List V) (x : V), SqT K H a xs ∧ xs[i]? = some x,
   fun i H v H' => ∃ T x, v = .ref T ∧ H T = none ∧ H' = upd H T (.tup [.int (i : Nat), x]) ∧ ∀ xs, SqT K H a xs → xs[i]? = some x,
   fun i H => ∃ xs : List V, SqT K H a xs ∧ xs.length = i⟩
section
variable {P : Program} {w : World} {K : PySem.W.Frag} {elts : List Expr} {kk : Nat} {tpos : Pos}
theorem tup_iter_ne {h : Heap} {a it : Addr} {its : Array Value} {i : Nat} (p : h.IsTuple a its) (q : h.IsTupleIter it a i) : a ≠ it := by
  rintro rfl
  obtain ⟨o, e1, c1, _⟩ := p
  obtain ⟨u, e2, c2, _⟩ := q
  rw [e1] at e2
  cases e2
  rw [c1] at c2
  exact absurd c2 (by decide)
theorem tup_enum_ne {h : Heap} {a e it : Addr} {its : Array Value} {c : Int} {old : Value} (p : h.IsTuple a its) (q : IsEnum h e it c old) : e ≠ a := by
  rintro rfl
  obtain ⟨o, e1, c1, _⟩ := p
  have q' : h.get? e = _ := q
  rw [e1] at q'
  cases q'
  have c2 : Value.type "enumerate" = Value.type "tuple" := c1
  exact absurd c2 (by decide)
theorem turn_enumU (a e it : Addr) : Turn P w K (.Tuple elts kk tpos) (ItU K a) [e, it] e (fun i h => (∃ old, IsEnum h e it ((i : Nat) : Int) old) ∧ h.IsTupleIter it a i ∧ e ≠ it) where
  mem := by simp
  obj := fun i h st b hb => by
    obtain ⟨⟨old, he⟩, ⟨o, ho, hc, hd⟩, _⟩ := st
    have hb' : b = e ∨ b = it := by simpa using hb
    rcases hb' with rfl | rfl
    · exact ⟨_, he, fun v q => nomatch q⟩
    · exact ⟨o, ho, fun v q => by rw [hd] at q; cases q⟩
  keep := fun i h h' ⟨⟨old, he⟩, hi, hne⟩ k => ⟨⟨old, k e (by simp) _ he⟩, hi.at fun o z => k it (by simp) o z, hne⟩
  item := by
    intro X hP hw hK hc i pins s σ H E I hf ⟨⟨old, he⟩, hit, hne⟩ ⟨xs, x, hq, hx⟩
    subst hP hw hK
    obtain ⟨its, rv, p, _⟩ := I.tuple hq
    have p' : s.heap.IsTuple a its.toArray := p
    obtain ⟨u, hu, ru⟩ := rv.get hx
    have hl := rv.length
    have hil : i < its.toArray.size := by
      have := (List.getElem?_eq_some_iff.mp hx).1
      simp only [List.size_toArray]
      omega
    have hel := Heap.lt_size he
    have hil2 : it < s.heap.objs.size := by
      obtain ⟨_, z, _⟩ := hit
      exact Heap.lt_size z
    have DD := Draws.tuple (prog := X.prog) (w := X.w) (A := X.A.in1) (I.ok.hd hc) it a (tup_iter_ne p' hit) its.toArray
    refine wpAny_pyNext_enum_itemC DD he (show _ ∧ _ from ⟨hit, p'⟩) hil hne (by simpa using ⟨hne, tup_enum_ne p' he⟩) fun u' h' tk hu' ho hst hT hsz hk => ?_
    have hit' := hst.1
    have eu : u' = u := by
      have z : its.toArray[i]? = some u' := hu'
      rw [List.getElem?_toArray, hu] at z
      exact (Option.some.inj z).symm
    subst eu
    refine ⟨_, rfl, wpAny_letOwnedTupleGo_enum (s := { s with heap := h', toks := tk + 1 }) ho fun h2 he' sb => ?_⟩
    have hT2 := (sb.2 _ (Nat.ne_of_gt hel)).trans hT
    have new : ObjOk X.prog X.w (upd H s.heap.objs.size (.tup [.int (i : Nat), x])) h2 s.heap.objs.size (.tup [.int (i : Nat), x]) :=
      ⟨show 2 ≤ sizeLine by decide, [.int i tk, u'], .cons ⟨_, rfl⟩ (.cons ru .nil), ⟨_, hT2, rfl, _, rfl⟩⟩
    have I1 : Inv X pins σ (upd H s.heap.objs.size (.tup [.int (i : Nat), x])) { s with heap := h2, toks := tk + 1 } :=
      I.turnedNew (ch := [e, it]) (fun b ob hb q => (sb.2 b (fun z => hb (by simp [z]))).trans (hk b ob (fun z => hb (by simp [z])) (fun z => hb (by simp [z])) q)) hf (Nat.le_refl _) new
    refine ⟨.ref s.heap.objs.size, _, I1, rfl, ⟨_, x, rfl, I.hok.fresh (Nat.le_refl _), rfl, fun ys hy => by rw [I.tuple_inj hy hq]; exact hx⟩, ⟨⟨u', ?_⟩, hit'.at fun o q => (sb.2 it (Ne.symm hne)).trans q, hne⟩, fun b hb => ?_⟩
    · rw [show ((i + 1 : Nat) : Int) = (i : Int) + 1 by omega]
      exact he'
    · have hlt : b < s.heap.objs.size := by
        have hb' : b = e ∨ b = it := by simpa using hb
        rcases hb' with rfl | rfl
        · exact hel
        · exact hil2
      rw [upd_ne (Nat.ne_of_lt hlt)]
      exact (hf b hb).1
  done := by
    intro X hP hw hK hc i pins s σ H E I hf ⟨⟨old, he⟩, hit, hne⟩ ⟨xs, hq, hx⟩
    subst hP hw hK
    obtain ⟨its, rv, p, _⟩ := I.tuple hq
    have p' : s.heap.IsTuple a its.toArray := p
    obtain ⟨f0, f1, f2, f3, f4, f5⟩ := hf it (by simp)
    have hl := rv.length
    have hi : its.toArray.size = i := by
      simp only [List.size_toArray]
      omega
    have DD := Draws.tuple (prog := X.prog) (w := X.w) (A := X.A.in1) (I.ok.hd hc) it a (tup_iter_ne p' hit) its.toArray
    refine wpAny_pyNext_enum_endD DD he (show _ ∧ _ from ⟨by rw [hi]; exact hit, p'⟩) fun h' eb => ⟨rfl, I.turned (t' := s.toks) (fun b o hb q => eb b o hb q) f0 f1 f3 f4 f5⟩
  self := fun A i s Q E ⟨⟨_, he⟩, _⟩ h => wpAny_pyIter_enum he h
end
theorem begins_new1 {v : Value} {o : Obj} {Hs : Heap → Prop} (B : Begins v o Hs) : Meets (Builtin.«enumerate.__new__» ⟨[.type "enumerate", v], []⟩) (fun _ R s => Hs s.heap ∧
      R (.ok (.ret (.ref (s.heap.push o).objs.size))) { s with heap := (s.heap.push o).push { cls := .type "enumerate", data := .fields #[.none, .bool false, .ref s.heap.objs.size, rawInt 0, .none, .none] } }) :=
  .of_wp fun prog w A R s ⟨h1, h⟩ => by
    obtain ⟨hp, g, d, tk, os⟩ := s
    have hsub := sub_enumerate
    have q1 : ∀ {A' : Around} {E : Value → Shared → Prop} {Q : Value → Shared → Prop}, Q (.ref hp.objs.size) ⟨hp.push o, g, d, tk, os⟩ → wpAny (model prog w) A' (pyIter v) Q E ⟨hp, g, d, tk, os⟩ := fun q => B.iter prog w _ _ _ _ h1 q
    wp_walk using q1
    refine wpAny_stack_any fun st => wpAny_pure ?_
    split
    · rename_i c _ _ _ _ _
      cases (c == Value.type "enumerate") <;> (wp_walk using q1; exact ⟨_, rfl, h⟩)
    · wp_walk using q1
      exact ⟨_, rfl, h⟩
section
variable {prog : Program} {w : World} {A : Around} {E : Value → Shared → Prop} {s : Shared}
theorem enum_begins1 {v : Value} {o : Obj} {Hs : Heap → Prop} {Q : Value → Shared → Prop} (B : Begins v o Hs) (h1 : Hs s.heap)
    (h : ∀ h', IsEnum h' (s.heap.objs.size + 1) s.heap.objs.size 0 .none → h'.get? s.heap.objs.size = some o → (∀ b o, s.heap.get? b = some o → h'.get? b = some o) → Q (.ref (s.heap.objs.size + 1)) { s with heap := h' }) :
    wpAny (model prog w) A (call (.type "enumerate") [v]) Q E s := by
  refine callType_new F.called_enumerate (by decide) (F.typeCall_enumerate_1 _) (F.newCall_enumerate_1 _) (fun obj => F.args_object_init_2 obj _) F.entry_enumerate_new (begins_new1 B) ⟨h1, ?_⟩
  have hz : (s.heap.push o).objs.size = s.heap.objs.size + 1 := Heap.size_push ..
  show _ ∧ _
  have he := Heap.get?_push_size (s.heap.push o) (o := { cls := .type "enumerate", data := .fields #[.none, .bool false, .ref s.heap.objs.size, rawInt 0, .none, .none] }) rfl
  rw [hz] at he ⊢
  exact ⟨⟨_, he, rfl⟩, h _ he (Heap.get?_push_of_some _ (Heap.get?_push_size _ B.free)) fun b o x => Heap.get?_push_of_some _ (Heap.get?_push_of_some _ x)⟩
end
def rEnumT (K : PySem.W.Frag) (vs : List V) (H : Hp) (R : It → Hp → Prop) : Prop := ∃ a xs, vs = [.ref a] ∧ SqT K H a xs ∧ R (ItU K a) H
def iEnumT (K : PySem.W.Frag) (ta : TA) : TI := fun σ H R => ta σ H fun vs H1 => rEnumT K vs H1 R
theorem pi_enumT {X : Cx} {e : Expr} {ta : TA} {p pos tpos : Pos} {elts : List Expr} {kk : Nat} (hg : Gl X "enumerate") (hm : X.mg "enumerate" = none) (ha : PA X [e] ta) (hs : starEach [e] X.env = [(false, eval e X.env)] := by rfl) :
    PI X (.Tuple elts kk tpos) (.Call (.Name "enumerate" p) [e] [] pos) (iEnumT X.K ta) := by
  refine ⟨fun pins s σ H R I h => Call_ (ld_blt I hg hm boot_enumerate (callWith_type1 (thn (ha.run pos pins s σ H _ I h) fun us s1 ⟨vs, H1, I1, r1, a, xs, ex, hq, q⟩ => ?_) hs rfl))⟩
  subst ex
  cases r1 with
  | cons r rr =>
    cases rr
    cases r
    obtain ⟨its, rv, p', _⟩ := I1.tuple hq
    refine enum_begins1 (begins_tuple a its.toArray) (show s1.heap.IsTuple a its.toArray from p') fun h' he hit hk => wpAny_pyIter_enum he ?_
    have I2 : Inv X pins σ H1 { s1 with heap := h' } := I1.kept (t' := s1.toks) hk
    refine ⟨s1.heap.objs.size + 1, [s1.heap.objs.size + 1, s1.heap.objs.size], _, _, H1, rfl, I2, turn_enumU a (s1.heap.objs.size + 1) s1.heap.objs.size, ⟨⟨.none, he⟩, ⟨_, hit, rfl, rfl⟩, Nat.succ_ne_self _⟩, fun b hb => ?_, q⟩
    have hb' : b = s1.heap.objs.size + 1 ∨ b = s1.heap.objs.size := by simpa using hb
    have hle : s1.heap.objs.size ≤ b := by
      rcases hb' with rfl | rfl
      · exact Nat.le_succ _
      · exact Nat.le_refl _
    exact I1.fpOk hle (I1.hok.fresh hle)
def rLenD (vs : List V) (H : Hp) (Q : VK) : Prop := ∃ a kvs, vs = [V.ref a] ∧ H a = some (.dK kvs) ∧ Q (.int kvs.length) H
theorem c_lenD {X : Cx} : CallR X (.builtin "len") rLenD := call_lenD
theorem w_lenD {H : Hp} {Q : VK} {a : Addr} {kvs : List (Key × V)} (e : H a = some (.dK kvs)) (h : Q (.int kvs.length) H) : rLenD [.ref a] H Q := ⟨a, kvs, rfl, e, h⟩
section
variable {K : PySem.W.Frag} {σ : L2.St} {H : Hp} {a : Addr} {xs : List V}
theorem walk_enumT : Walk (ItU K a) xs.length (fun H => SqT K H a xs) (fun i H v H' => ∃ T x, v = .ref T ∧ H T = none ∧ H' = upd H T (.tup [.int (i : Nat), x]) ∧ xs[i]? = some x) :=
  ⟨fun i H hi h => ⟨xs, xs[i], h, List.getElem?_eq_getElem hi⟩, fun H h => ⟨xs, h, rfl⟩, fun i H x H' hi h ⟨T, y, e1, e2, e3, e4⟩ => ⟨T, y, e1, e2, e3, e4 xs h⟩⟩
theorem w_enum {ta : TA} {R : It → Hp → Prop} (h : ta σ H fun vs H1 => rEnumT K vs H1 R) : iEnumT K ta σ H R := h
theorem w_enum' {R : It → Hp → Prop} (h1 : SqT K H a xs) (h : R (ItU K a) H) : rEnumT K [.ref a] H R := ⟨a, xs, rfl, h1, h⟩
end
/-! ### what keeps all but the deck -/
structure KX (dk : Addr) (H H' : Hp) : Prop extends KD H H' where
  p : Kp [dk] H H'
theorem KX.of {d : Addr} {H H' : Hp} (k : Same H H') : KX d H H' := ⟨KD.of k, Kp.of k⟩
theorem KX.refl {d : Addr} {H : Hp} : KX d H H := ⟨KD.refl, Kp.refl⟩
theorem KX.trans {d : Addr} {H H1 H2 : Hp} (a : KX d H H1) (b : KX d H1 H2) : KX d H H2 := ⟨a.toKD.trans b.toKD, a.p.trans b.p⟩
theorem Deck.kx {H H' : Hp} {d c : Addr} {n m : Nat} (D : Deck H d c n) (D' : Deck H' d c m) (o : Off d H H') : KX d H H' := ⟨D.kd D' o, o.kp (by simp)⟩
instance {d : Addr} {H H' : Hp} : CoeOut (KX d H H') (KD H H') := ⟨KX.toKD⟩
/-- [x for .. if ..]: which are taken is left open; S goes on from turn to turn -/
theorem lcp_some {σ : L2.St} {H : Hp} {Q : VK} {J : It} {n : Nat} {G : Hp → Prop} {Y : Nat → Hp → V → Hp → Prop} (w : Walk J n G Y) {g : TG} {tt : TT} {te : TE} {vs : List Nat} (M : List Addr) (P : V → Prop) (S : Nat → Hp → Prop) (hz : n ≤ 1000000)
    (SD : ∀ D, H D = none → ∀ i H1 o, S i H1 → S i (upd H1 D o)) (hG : ∀ i H', Kp M H H' → S i H' → G H') (S0 : S 0 H)
    (hs : ∀ i x H1 H2 (R : V → Hp → Prop) (R0 : Hp → Prop), i < n → Kp M H H1 → S i H1 → Y i H1 x H2 → (∀ y H4, P y → Kp M H1 H4 → S (i + 1) H4 → R y H4) → (∀ H4, Kp M H1 H4 → S (i + 1) H4 → R0 H4) → g x (wipe σ vs) H2 fun σ2 H3 => wipe σ2 vs = wipe σ vs ∧ tt σ2 H3 fun b H4 => if b = true then te σ2 H4 R else R0 H4)
    (hM : ∀ b ∈ M, ∃ o, H b = some o)
    (hd : ∀ D H' ys, ys.length ≤ n → (∀ y ∈ ys, P y) → H D = none → Kp M H H' → S n H' → H' D = some (.lst ys) → Q (.ref D) H') : LcP J g tt te vs Q σ H := by
  intro D hD
  have hDM : D ∉ M := fun z => by obtain ⟨o, e⟩ := hM D z; rw [hD] at e; cases e
  refine lc_it w (fun i H' => Kp M H H' ∧ S i H' ∧ ∃ ys, ys.length ≤ i ∧ H' D = some (.lst ys) ∧ ∀ y ∈ ys, P y) ⟨Kp.new hD, SD D hD _ _ _ S0, [], Nat.le_refl _, upd_same, by simp⟩ (fun i H' _ z => hG i H' z.1 z.2.1) ?_ ?_
  · rintro i x H1 H2 hi ⟨k1, s1, ys, hl, e1, hp⟩ y
    refine hs i x H1 H2 _ _ hi k1 s1 y ?_ ?_
    · intro z H4 pz k4 s4
      refine ⟨ys, k4 _ _ hDM e1, Nat.lt_of_le_of_lt hl (Nat.lt_of_lt_of_le (Nat.lt_of_lt_of_le hi hz) (by decide)), (k1.trans k4).mutN hD, SD D hD _ _ _ s4, ys ++ [z], by rw [List.length_append]; simpa using hl, upd_same, fun y' hy' => ?_⟩
      rcases List.mem_append.mp hy' with h | h
      · exact hp y' h
      · have e : y' = z := by simpa using h
        rw [e]
        exact pz
    · intro H4 k4 s4
      exact ⟨k1.trans k4, s4, ys, Nat.le_succ_of_le hl, k4 _ _ hDM e1, hp⟩
  · rintro H' ⟨k, sn, ys, hl, e, hp⟩
    exact hd D H' ys hl hp hD k sn e
end FW

set_option Elab.async false
set_option linter.all false
set_option maxRecDepth 100000
set_option maxHeartbeats 4000000
/-! sorted(d) of a dict of ints, of any length -/
namespace FW
open PySem PySem.Spec PyProof.Rows L2
def rSortA (xs : List V) (H : Hp) (Q : VK) : Prop := ∃ (a : Addr) (kvs : List (Key × V)) (ks : List Int), xs = [.ref a] ∧ Rd H a (.dK kvs) ∧ kvs.map (·.1) = ks.map Sum.inl ∧ ks.length ≤ 100000 ∧
    ∀ (ys : List Int) (p : Addr), ys.Perm ks → ys.Pairwise (· ≤ ·) → H p = none → Q (.ref p) (upd H p (.lst (ys.map V.int)))
theorem c_sortA {X : Cx} (hcalm : X.calm = true) : CallR X (.builtin "sorted") rSortA := by
  intro pins s σ H xs us Q I r ⟨a, kvs, ks, ex, hd, hks, hlk, q⟩
  subst ex
  obtain ⟨u, eu, rx⟩ := vals1 r
  subst eu
  cases rx
  obtain ⟨z, lo, vs, rel, dd⟩ := dk_rd I.hok hd
  obtain ⟨ep, hat⟩ := dd.dictAt
  have hkeys : vs.map (·.1) = ks.map Sum.inl := rel.keys.symm.trans hks
  have hl : vs.length = ks.length := by
    have e := congrArg List.length hkeys
    simpa using e
  have h16 : vs.length ≤ sizeLine := by rw [hl, sizeLine_eq]; omega
  refine Calls.call_function_entry kind_sorted plain_sorted entry_sorted (args_sorted1 _) ?_
  unfold Builtin.«sorted»; refine wpAny_bind (m := checkCount "sorted" 1 1 _) (wpAny_pure ?_)
  refine wpAny_bind (PySem.W.kdu_collect (A := X.A.in1) (PySem.W.kdl_dict (knd := mixKind X.prog X.w) (kvs := vs) (ep := ep) lo) (I.ok.hd hcalm) hat h16 fun h' tk acc hk hacc => ?_)
  have hal : acc.toList.length = ks.length := by rw [Array.length_toList, hacc.1, hl]
  have hS : IntsAre acc.toList ks := ints_each hal fun j v e => by
    obtain ⟨k, x, e1, e2⟩ := hacc.2 j v (by rw [← Array.getElem?_toList]; exact e)
    have e3 : (vs.map (·.1))[j]? = some k := by rw [List.getElem?_map, e1]; rfl
    rw [hkeys, List.getElem?_map] at e3
    obtain ⟨y, e4, e5⟩ := Option.map_eq_some_iff.mp e3
    subst e5
    rcases keyIs_shape (show keyIs (Sum.inl y) v = true from e2) with ⟨i, t, ek, ev⟩ | ⟨z, t, ek, ev⟩
    · cases ek
      exact ⟨y, t, e4, ev⟩
    · cases ek
  have I1 : Inv X pins σ H { s with heap := h', toks := tk } := I.kept hk
  have hz : acc.toList.length ≤ sizeLine := by rw [hal, sizeLine_eq]; omega
  refine wpAny_bind (wpAny_newList ?_ hz)
  have hoL : (h'.push (seqObj "list" acc.toList.toArray 0)).get? h'.objs.size = some (seqObj "list" acc.toList.toArray 0) := Heap.get?_push_size _ rfl
  show wpAny _ _ _ _ _ { s with heap := h'.push (seqObj "list" acc.toList.toArray 0), toks := tk }
  refine wpAny_bind (wpAny_holding (wpAny_call_entry slot_list_sort ⟨_, hoL, rfl⟩ entry_list_sort (SrtO.list_sort_ord (s := { s with heap := h'.push (seqObj "list" acc.toList.toArray 0), toks := tk }) SrtO.swo_int hoL hz (fun h2 => SrtO.ints_sortable hS h2) fun out h1 h2 => ⟨_, rfl, ?_⟩) (args_list_sort _)))
  obtain ⟨g1, g2, g3⟩ := SrtO.ints_out hS h1 h2
  obtain ⟨e', he'⟩ := sortedHeap_at (vs := acc.toList) (out := out.toArray) hoL
  have hlen : ((out.map SrtO.iv).map V.int).length ≤ sizeLine := by rw [List.length_map, g2.length_eq, ← hal]; exact hz
  refine wpAny_pure ⟨_, rfl, .ref h'.objs.size, upd H h'.objs.size (.lst ((out.map SrtO.iv).map V.int)), I1.laid (t' := tk) (fun b u e => ?_) (Nat.le_refl _) (show ObjOk X.prog X.w _ _ _ (.lst ((out.map SrtO.iv).map V.int)) from ⟨hlen, out, e', vals_of_ints g1, he'⟩), rfl, q _ _ g2 g3 (I1.hok.fresh (Nat.le_refl _))⟩
  have hb : b < h'.objs.size := Heap.lt_size e
  rw [sortedHeap_old (Nat.ne_of_lt hb) (by rw [size_push']; exact Nat.lt_succ_of_lt hb)]
  exact Heap.get?_push_of_some _ e
theorem w_lenSetI {K : PySem.W.Frag} {σ : L2.St} {H : Hp} {Q : VK} {ta : TE} (h : ta σ H fun x H1 => ∃ (l : Addr) (ns : List Int), x = .ref l ∧ SqL K H1 l (ns.map V.int) ∧ ns.Nodup ∧ ns.length ≤ 4000 ∧ Q (.int (ns.length : Nat)) H1) : RZ.tLenSetI K ta σ H Q := h
theorem w_sortA {H : Hp} {Q : VK} {a : Addr} {kvs : List (Key × V)} {ks : List Int} (e : H a = some (.dK kvs)) (hk : kvs.map (·.1) = ks.map Sum.inl) (hl : ks.length ≤ 100000) (h : ∀ (ys : List Int) p H1, ys.Perm ks → ys.Pairwise (· ≤ ·) → H p = none → H1 p = some (.lst (ys.map V.int)) → Same H H1 → Q (.ref p) H1) : rSortA [.ref a] H Q :=
  ⟨a, kvs, ks, rfl, .inl e, hk, hl, fun ys p g1 g2 hp => h ys p _ g1 g2 hp upd_same (Same.new hp)⟩
end FW

set_option Elab.async false
set_option linter.all false
set_option maxRecDepth 100000
set_option maxHeartbeats 4000000
/-! t[k::w] of a tuple; extend by a tuple; pairs in a list -/
namespace HT
open PySem PySem.Spec PyProof.Rows
section
variable {prog : Program} {w : World} {A : Around} {E : Value → Shared → Prop} {s : Shared}
def places (n k w : Nat) : Nat := (n - k - 1) / w + 1
theorem applied_step {sl : Addr} {vl vs : Value} {k c n : Nat} {Q : Int × Int × Nat → Shared → Prop} (hs : s.heap.IsSliceOf sl vl .none vs) (pl : IsPart vl (some (k : Int))) (ps : IsPart vs (some (c : Int))) (hk : k < n) (hc : 0 < c)
    (h : Q ((k : Int), (c : Int), places n k c) s) : wpAny (model prog w) A (Builtin.Slice.sliceApplied (.ref sl) (pure (n : Int))) Q E s := by
  obtain ⟨os, hos, hcs, hds⟩ := id hs
  unfold Builtin.Slice.sliceApplied Builtin.Slice.sliceFields
  refine wpAny_bind (wpAny_bind (wpAny_field hos hds (x := vl) rfl (wpAny_bind (wpAny_field hos hds (x := .none) rfl (wpAny_bind (wpAny_field hos hds (x := vs) rfl (wpAny_pure ?_)))))))
  refine wpAny_bind (slicePart_ ps ?_)
  show wpAny _ _ (if ((c : Int) == 0) = true then _ else _) _ _ s
  rw [if_neg (by simp; omega)]
  refine wpAny_bind (slicePart_ pl (wpAny_bind (slicePart_none (wpAny_bind (wpAny_pure ?_)))))
  show wpAny _ _ (match Builtin.Slice.sliceAdjust (some (k : Int)) none (c : Int) (n : Int) with | (lo, hi) => pure (lo, (c : Int), Builtin.Slice.slicePlaces lo hi c)) _ _ s
  have e1 : Builtin.Slice.sliceAdjust (some (k : Int)) none (c : Int) (n : Int) = ((k : Int), (n : Int)) := by
    unfold Builtin.Slice.sliceAdjust
    have g1 : ¬ ((c : Int) < 0) := by omega
    have g2 : ¬ ((k : Int) < 0) := by omega
    simp only [g1, g2, if_false]
    rw [Int.min_eq_left (by omega)]
  have e2 : Builtin.Slice.slicePlaces (k : Int) (n : Int) (c : Int) = places n k c := by
    unfold Builtin.Slice.slicePlaces places
    rw [if_pos (by omega), if_pos (by omega)]
    have e3 : ((n : Int) - k - 1) = ((n - k - 1 : Nat) : Int) := by omega
    rw [e3, ← Int.natCast_ediv]
    generalize (n - k - 1) / c = z
    omega
  rw [e1]
  show wpAny _ _ (pure ((k : Int), (c : Int), Builtin.Slice.slicePlaces (k : Int) (n : Int) (c : Int))) _ _ s
  rw [e2]
  exact wpAny_pure h
def stepL {α : Type} (xs : List α) (k c : Nat) : List α := (List.range (places xs.length k c)).filterMap fun j => xs[k + j * c]?
theorem stepL_le {α : Type} (xs : List α) (k c : Nat) : (stepL xs k c).length ≤ places xs.length k c := Nat.le_trans (List.length_filterMap_le _ _) (by rw [List.length_range]; exact Nat.le_refl _)
theorem places_le {n k c : Nat} (hk : k < n) : places n k c ≤ n := by
  unfold places
  have := Nat.div_le_self (n - k - 1) c
  omega
theorem stepL_whole {α : Type} (xs : List α) : stepL xs 0 1 = xs := by
  unfold stepL places
  cases xs with
  | nil => simp
  | cons x r =>
    have e : ((x :: r).length - 0 - 1) / 1 + 1 = (x :: r).length := by simp
    rw [e]
    apply List.ext_getElem?
    intro i
    have h : (List.range (x :: r).length).filterMap (fun j => (x :: r)[0 + j * 1]?) = x :: r := by
      have h2 : (fun j => (x :: r)[0 + j * 1]?) = fun j => (x :: r)[j]? := by funext j; rw [Nat.zero_add, Nat.mul_one]
      rw [h2]
      exact range_get (x :: r)
    rw [h]
where
  range_get {α : Type} : ∀ ys : List α, (List.range ys.length).filterMap (fun j => ys[j]?) = ys
    | [] => rfl
    | y :: ys => by
      rw [List.length_cons, List.range_succ_eq_map, List.filterMap_cons, List.filterMap_map]
      show y :: (List.range ys.length).filterMap (fun j => ys[j]?) = _
      rw [range_get ys]
theorem item_step {t sl : Addr} {items : Array Value} {vl vs : Value} {k c : Nat} {Q : Value → Shared → Prop} (ht : IsTup s.heap t items) (hs : s.heap.IsSliceOf sl vl .none vs) (pl : IsPart vl (some (k : Int))) (ps : IsPart vs (some (c : Int))) (hk : k < items.size) (hc : 0 < c)
    (h1 : k = 0 → c = 1 → Q (.ref t) s) (h2 : ¬ (k = 0 ∧ c = 1) → Q (.ref s.heap.objs.size) { s with heap := s.heap.push { cls := .type "tuple", data := .seq (stepL items.toList k c).toArray } })
    (hsz : items.size ≤ sizeLine) : wpAny (model prog w) A (getItem (.ref t) (.ref sl)) Q E s := by
  have htake : sizeOk (.seq (stepL items.toList k c).toArray) := by
    show (stepL items.toList k c).toArray.size ≤ sizeLine
    rw [List.size_toArray]
    have g1 := stepL_le items.toList k c
    have g2 := places_le (n := items.toList.length) (k := k) (c := c) (by rw [Array.length_toList]; exact hk)
    have g3 : items.toList.length = items.size := Array.length_toList
    rw [g3] at g1 g2
    omega
  obtain ⟨os, hos, hcs, hds⟩ := id hs
  have hTs : s.TypeIs (.ref sl) "slice" := ⟨os, hos, hcs⟩
  unfold getItem; try with_reducible refine wpAny_holding ?_
  first | refine wpAny_bind (wpAny_pure ?_) | skip
  refine wpAny_bind (wpAny_sequenceKey ht.typeIs (by decide) ?_); refine wpAny_bind (wpAny_callSpecial?_slot (name := Str.ofString "__getitem__") ht.typeIs PyProof.Rows.slot_tuple_getitem (wpAny_call_entry PyProof.Rows.slot_tuple_getitem ht.typeIs entry_tuple_getitem ?_ (args_tuple_getitem _ _)))
  show wpAny _ _ (Builtin.Tuple.tupleItemsOf (.ref t) >>= _) _ _ s; refine wpAny_bind (tupleItemsOf_ ht ?_)
  refine wpAny_bind (wpAny_typeOf hTs ?_); rw [if_pos (by decide)]; refine wpAny_bind (applied_step hs pl ps hk hc ?_)
  show wpAny _ _ (if ((k : Int) == 0 && (c : Int) == 1 && (places items.size k c) == items.size) = true then _ else _) _ _ s
  by_cases hw : k = 0 ∧ c = 1
  · obtain ⟨rfl, rfl⟩ := hw
    have hyes : (((0 : Nat) : Int) == 0 && ((1 : Nat) : Int) == 1 && (places items.size 0 1) == items.size) = true := by
      have e : places items.size 0 1 = items.size := by unfold places; rw [Nat.div_one]; omega
      rw [e]; simp
    rw [if_pos hyes]; refine wpAny_bind ?_
    show wpAny _ _ (typeOf (.ref t) >>= fun T => pure (T == .type "tuple")) _ _ s; refine wpAny_bind (wpAny_typeOf ht.typeIs (wpAny_pure ?_))
    first | rw [if_pos (by decide)] | simp only [beq_self_eq_true, if_true]
    first | exact wpAny_bind (wpAny_rule (wpAny_pure ⟨_, rfl, wpAny_pure (h1 rfl rfl)⟩)) | exact wpAny_bind (wpAny_rule (wpAny_bind (wpAny_pure (wpAny_pure ⟨_, rfl, wpAny_pure (h1 rfl rfl)⟩))))
  · have hno : ¬ (((k : Int) == 0 && (c : Int) == 1 && (places items.size k c) == items.size) = true) := by
      intro q
      rw [Bool.and_eq_true, Bool.and_eq_true] at q
      have q1 : (k : Int) = 0 := eq_of_beq q.1.1
      have q2 : (c : Int) = 1 := eq_of_beq q.1.2
      exact hw ⟨by omega, by omega⟩
    have ep : ((List.range (places items.size k c)).filterMap fun (m : Nat) => items[((k : Int) + (m : Int) * c).toNat]?).toArray = (stepL items.toList k c).toArray := by
      unfold stepL
      rw [Array.length_toList]
      congr 2
      funext m
      have e : ((k : Int) + (m : Int) * c).toNat = k + m * c := by
        have : ((k : Int) + (m : Int) * c) = ((k + m * c : Nat) : Int) := by simp
        rw [this]; rfl
      rw [e, Array.getElem?_toList]
    have h := h2 hw
    rw [if_neg hno, ep]
    first | exact wpAny_bind (m := Builtin.Tuple.tupleExact _) (wpAny_newObj_type (wpAny_pure ⟨_, rfl, wpAny_pure h⟩) htake) | exact wpAny_bind (m := Builtin.Tuple.tupleExact _) (wpAny_newObj_type (wpAny_bind (wpAny_pure (wpAny_pure ⟨_, rfl, wpAny_pure h⟩))) htake) | exact wpAny_bind (wpAny_bind (m := Builtin.Tuple.tupleExact _) (wpAny_newObj_type (wpAny_pure (wpAny_pure ⟨_, rfl, wpAny_pure h⟩)) htake)) | exact wpAny_bind (wpAny_bind (m := Builtin.Tuple.tupleExact _) (wpAny_newObj_type (wpAny_pure ⟨_, rfl, wpAny_pure h⟩) htake))
end
end HT
namespace FW
open PySem PySem.Spec PyProof.Rows L2
/-- t[k::w] -/
def rStep (K : PySem.W.Frag) (x y z : V) (H : Hp) (Q : VK) : Prop := ∃ (a : Addr) (xs : List V) (k c : Nat), x = .ref a ∧ y = .int k ∧ z = .int c ∧ SqT K H a xs ∧ k < xs.length ∧ 0 < c ∧ (k = 0 → c = 1 → Q (.ref a) H) ∧ (¬ (k = 0 ∧ c = 1) → Nw (.tup (HT.stepL xs k c)) H Q)
def tStep (K : PySem.W.Frag) (te tl ts : TE) : TE := fun σ H Q => te σ H fun x H1 => tl σ H1 fun y H2 => ts σ H2 fun z H3 => rStep K x y z H3 Q
theorem vals_step {xs : List V} {its : List Value} (r : Vals xs its) (k c n : Nat) : Vals ((List.range n).filterMap fun j => xs[k + j * c]?) ((List.range n).filterMap fun j => its[k + j * c]?) := by
  induction n with
  | zero => exact .nil
  | succ n ih =>
    rw [List.range_succ, List.filterMap_append, List.filterMap_append]
    refine ih.append ?_
    cases e : xs[k + n * c]? with
    | none =>
      have e2 : its[k + n * c]? = none := by
        rw [List.getElem?_eq_none_iff] at e ⊢
        rw [← r.length]; exact e
      simp only [List.filterMap_cons, List.filterMap_nil, e, e2]
      exact .nil
    | some x =>
      obtain ⟨u, hu, ru⟩ := r.get e
      simp only [List.filterMap_cons, List.filterMap_nil, e, hu]
      exact .cons ru .nil
section
variable {X : Cx}
theorem pe_step {e lo st : Expr} {te tl ts : TE} {p2 pos : Pos} (he : PE X e te) (hl : PE X lo tl) (hst : PE X st ts) : PE X (.Subscript e (.Slice (some lo) none (some st) p2) pos) (tStep X.K te tl ts) := by
  refine ⟨fun pins s σ H Q I h => Subscript_ (thn (he.run pins s σ H _ I h) fun v s1 ⟨x, H1, I1, r1, q1⟩ => ?_)⟩
  refine wpAny_Slice (thn (hl.run pins s1 σ H1 _ I1 q1) fun vl s2 ⟨y, H2, I2, r2, q2⟩ => ?_)
  rw [evalPart_none]
  refine wpAny_pure ?_
  refine thn (hst.run pins s2 σ H2 _ I2 q2) fun vs s3 ⟨z, H3, I3, r3, a, xs, k, c, ex, ey, ez, hx, hk, hc, g1, g2⟩ => ?_
  subst ex ey ez
  cases r1
  obtain ⟨t1, rfl⟩ := r2
  obtain ⟨t2, rfl⟩ := r3
  have I4 : Inv X pins σ H3 { s3 with heap := s3.heap.push { cls := .type "slice", data := .fields #[.int (k : Int) t1, .none, .int (c : Int) t2] } } := I3.kept (t' := s3.toks) fun b ob q => Heap.get?_push_of_some _ q
  obtain ⟨its, r, ht, hz⟩ := I4.tuple hx
  have hlen : its.toArray.size = xs.length := by rw [List.size_toArray]; exact r.length.symm
  show wpAny (model X.prog X.w) X.A (subscriptTail e (.Slice (some lo) none (some st) p2) (.ref a) (.ref s3.heap.objs.size)) (EP X pins σ Q) X.xe _
  refine tail_any (ops := [.ref a, .ref s3.heap.objs.size]) ht.typeIs PyProof.Rows.slot_tuple_getitem.lookup ?_ (by with_unfolding_all rfl)
  refine HT.item_step ht (Heap.IsSliceOf.new _ _ _ _) (.int _ t1) (.int _ t2) (by rw [hlen]; exact hk) hc (fun h1 h2 => ⟨.ref a, H3, I4, rfl, g1 h1 h2⟩) (fun hn => ?_) (by rw [hlen]; exact hz)
  refine ⟨.ref _, _, I4.laid (t' := s3.toks) (o := .tup (HT.stepL xs k c)) (fun b ob q => Heap.get?_push_of_some _ q) (Nat.le_refl _) ?_, rfl, g2 hn _ (I4.hok.fresh (Nat.le_refl _))⟩
  refine ⟨Nat.le_trans (HT.stepL_le xs k c) (Nat.le_trans (HT.places_le hk) hz), _, ?_, IsTup.new _ _⟩
  unfold HT.stepL
  have hl2 : its.length = xs.length := r.length.symm
  show Vals _ ((List.range (HT.places its.length k c)).filterMap fun j => its[k + j * c]?)
  rw [hl2]
  exact vals_step r k c _
theorem ext_meets (l : Addr) (items : Array Value) (n : Nat) (b : Addr) (items2 : Array Value) (n2 : Nat) (dd : Option Addr) (sl : Array (Option Value)) (hs0 : ¬(!items.isEmpty && Builtin.List.listTooLong (items.size + items2.size)) = true) (hs1 : items.size ≤ sizeLine) (hs2 : items.size + items2.size ≤ sizeLine + 1) :
    Meets (Builtin.«list.extend» ⟨[.ref l, .ref b], []⟩) (fun _ R s => s.heap.get? l = some { cls := .type "list", dict := none, data := .seq items n, slots := #[] } ∧ s.heap.get? b = some { cls := .type "tuple", dict := dd, data := .seq items2 n2, slots := sl } ∧ R (.ok (.ret Value.none)) { s with heap := s.heap.update l (Obj.mapSeq fun x => x ++ items2), toks := s.toks }) :=
  .of_wp fun prog w A R s h => by
    obtain ⟨hp, g, d, tk, os⟩ := s
    obtain ⟨hl, hb, h⟩ := h
    have f1 := AutoSeq1.idx_int; have f2 := AutoSeq1.sub_tuple_tuple; have f3 := AutoSeq1.sub_list_list; have f4 := AutoSeq1.sub_tuple_list; have f5 := AutoSeq1.sub_list_tuple; have hz' : (items ++ items2).size ≤ sizeLine + 1 := by rw [Array.size_append]; exact hs2
    wp_walk using (wpAny_updateSeq hl rfl (hz := hs1) (_hz' := hz')), AutoSeq1.wpAny_loadPart' hl, AutoSeq1.wpAny_loadPart' hb
    exact ⟨_, rfl, h⟩
def rExtT (K : PySem.W.Frag) : V → List V → Hp → VK → Prop := fun x vs H Q => ∃ l b xs zs, x = .ref l ∧ vs = [.ref b] ∧ H l = some (.lst xs) ∧ H b = some (.tup zs) ∧ xs.length + zs.length ≤ sizeLine ∧ Q .non (upd H l (.lst (xs ++ zs)))
theorem mt_extT : MtM X "list.extend" (rExtT X.K) := by
  intro pins s σ H x vs v us Q I rx rv ⟨l, b, xs, zs, e0, e1, hH, hB, hz, q⟩
  subst e0 e1
  cases rx
  obtain ⟨u, rfl, ru⟩ := rv.one
  cases ru
  obtain ⟨z, its, n, r, hl, e⟩ := I.lstM hH
  obtain ⟨its2, r2, ⟨⟨oc, dd, od, sl⟩, e2, ec, n2, ed⟩, z2⟩ := I.tuple (.of hB)
  have hl2 := r2.length
  dsimp only at ec ed
  subst ec ed
  have hsz : its.toArray.size + its2.toArray.size ≤ sizeLine := by rw [List.size_toArray, List.size_toArray]; omega
  have hlong : ¬ (!its.toArray.isEmpty && Builtin.List.listTooLong (its.toArray.size + its2.toArray.size)) = true := by rw [notLongL hsz, Bool.and_false]; exact Bool.false_ne_true
  refine call_meets F.slot_list_extend ⟨_, e, rfl⟩ F.entry_list_extend (F.args_list_extend_2 _ _) (ext_meets l its.toArray n b its2.toArray n2 dd sl hlong (by rw [List.size_toArray]; omega) (by omega)) ⟨e, e2, ?_⟩
  refine ⟨.non, _, I.lset (its' := its ++ its2) hH e (by simp) (r.append r2) ?_, rfl, q⟩
  rw [List.length_append]; omega
/-- a pair (int, truth) that is not in a list of such -/
def rNotInP (K : PySem.W.Frag) : R2 := fun x y H Q => ∃ (p a : Addr) (v : Int) (b : Bool) (an : List (Addr × Int × Bool)), x = .ref p ∧ y = .ref a ∧ H p = some (.tup [.int v, .bl b]) ∧ SqL K H a (an.map fun q => .ref q.1) ∧ (∀ q ∈ an, H q.1 = some (.tup [.int q.2.1, .bl q.2.2])) ∧ Q (.bl (decide ((v, b) ∉ an.map (·.2)))) H
theorem hold_ib {pins : List (Addr × Obj)} {σ : L2.St} {H : Hp} {s : Shared} (I : Inv X pins σ H s) {p : Addr} {x : Int} {y : Bool} (e : H p = some (.tup [.int x, .bl y])) : PySem.W.Holds s.heap (.ref p) (x, y) := by
  obtain ⟨its, rv, hl, _⟩ := I.tuple (.of e)
  cases rv with
  | cons r1 rr =>
    cases rr with
    | cons r2 rr =>
      cases rr
      obtain ⟨t1, rfl⟩ := r1
      cases r2
      exact PySem.W.holds_pair hl (PySem.W.holds_int _ _) (PySem.W.holds_bool _)
theorem hold_allB {pins : List (Addr × Obj)} {σ : L2.St} {H : Hp} {s : Shared} (I : Inv X pins σ H s) : ∀ (ps : List (Addr × Int × Bool)) (its : List Value), Vals (ps.map fun q => V.ref q.1) its → (∀ q ∈ ps, H q.1 = some (.tup [.int q.2.1, .bl q.2.2])) → PySem.W.HoldAll s.heap its (ps.map (·.2))
  | [], _, r, _ => by cases r; exact PySem.W.HoldAll.nil
  | q :: ps, _, r, h => by
    cases r with
    | cons r1 rr =>
      cases r1
      exact PySem.W.HoldAll.cons (hold_ib I (h q (by simp))) (hold_allB I ps _ rr fun z hz => h z (by simp [hz]))
theorem op_notInP (hu : X.A.units + 100 < cLine) : OpR X (compareOp .NotIn) (rNotInP X.K) := by
  intro pins s σ H x y v u Q I rx ry ⟨p, a, w, b, an, e0, e1, hp, hs, hq, q⟩
  subst e0 e1
  cases rx
  cases ry
  obtain ⟨its, rv, hl, _⟩ := I.list hs
  have hdp : PySem.W.Datum.depth (Int × Bool) ≤ 50 := by decide
  exact PySem.W.notIn_list_datum (xs := an.map (·.2)) (x := (w, b)) hl.isList (by simpa using hold_allB I an its rv hq) (hold_ib I hp) (by omega) ⟨.bl _, H, I, congrArg Value.bool (decide_eq_decide.mpr Iff.rfl), q⟩
end
section
variable {K : PySem.W.Frag} {σ : L2.St} {H : Hp} {Q : VK}
theorem w_step {te tl ts : TE} (h : te σ H fun x H1 => tl σ H1 fun y H2 => ts σ H2 fun z H3 => rStep K x y z H3 Q) : tStep K te tl ts σ H Q := h
theorem w_step' {a : Addr} {xs : List V} {k c : Nat} (h1 : H a = some (.tup xs)) (hk : k < xs.length) (hc : 0 < c) (h : ∀ p H1, H1 p = some (.tup (HT.stepL xs k c)) → Same H H1 → Q (.ref p) H1) : rStep K (.ref a) (.int k) (.int c) H Q :=
  ⟨a, xs, k, c, rfl, rfl, rfl, .of h1, hk, hc, fun e1 e2 => h a H (by subst e1 e2; rw [HT.stepL_whole]; exact h1) (fun _ _ z => z), fun _ => w_new fun p H1 _ e k => h p H1 e k⟩
theorem w_extT {l b : Addr} {xs zs : List V} (h1 : H l = some (.lst xs)) (h2 : H b = some (.tup zs)) (hz : xs.length + zs.length ≤ sizeLine) (h : ∀ H1, H1 l = some (.lst (xs ++ zs)) → Off l H H1 → Q .non H1) : rExtT K (.ref l) [.ref b] H Q :=
  ⟨l, b, xs, zs, rfl, rfl, h1, h2, hz, h _ upd_same fun b n => upd_ne n⟩
theorem w_notInP {p a : Addr} {v : Int} {b : Bool} {an : List (Addr × Int × Bool)} (h1 : H p = some (.tup [.int v, .bl b])) (h2 : SqL K H a (an.map fun q => .ref q.1)) (h3 : ∀ q ∈ an, H q.1 = some (.tup [.int q.2.1, .bl q.2.2])) (h : Q (.bl (decide ((v, b) ∉ an.map (·.2)))) H) : rNotInP K (.ref p) (.ref a) H Q := ⟨p, a, v, b, an, rfl, rfl, h1, h2, h3, h⟩
end
end FW

set_option Elab.async false
set_option linter.all false
set_option maxRecDepth 100000
set_option maxHeartbeats 4000000
/-! a, .., *rest = t: the last target starred, t a tuple -/
namespace FW
open PySem PySem.Spec PyProof.Rows L2
section
variable {prog : Program} {w : World} {A : Around} {E : Value → Shared → Prop} {s : Shared}
theorem walks_shift {I : Addr} {fp wr : List Addr} {G : Array GenState → Array GenState → Prop} {n : Nat} {P : Nat → Value → Prop} {St : Nat → Shared → Prop} (W : WalksS prog w A I fp wr G n P St) {j : Nat} (hj : j ≤ n) : WalksS prog w A I fp wr G (n - j) (fun i => P (j + i)) (fun i => St (j + i)) where
  sub := W.sub
  grefl := W.grefl
  gtrans := W.gtrans
  frame := fun i => W.frame (j + i)
  item := fun i s Q E hi st hQ => W.item (j + i) s Q E (by omega) st fun v s' hp hs hm => hQ v s' hp hs hm
  done := fun s Q E st hQ => W.done s Q E (by rw [show j + (n - j) = n by omega] at st; exact st) hQ
  self := fun i => W.self (j + i)
theorem items_star {t : Addr} {items : Array Value} {j : Nat} {Q : List Value → Shared → Prop} (hh : A.handled = none) (ht : IsTup s.heap t items) (hj : j ≤ items.size) (hz : items.size ≤ sizeLine)
    (h : ∀ (h' : Heap) (tk : Nat), (∀ b o, s.heap.get? b = some o → h'.get? b = some o) → Q (items.toList.take j ++ [.ref h'.objs.size]) { s with heap := h'.push { cls := .type "list", data := .seq (items.toList.drop j).toArray }, toks := tk }) :
    wpAny (model prog w) A (unpackItems (.ref t) (j + 1) (some j)) Q E s := by
  have hlt : t ≠ s.heap.objs.size := by obtain ⟨o, ho, _⟩ := ht; exact Nat.ne_of_lt (Heap.lt_size ho)
  unfold unpackItems
  refine wpAny_bind ?_
  unfold notIterableAtAll
  refine wpAny_bind (wpAny_specialOf ht.typeIs slot_tuple_iter.lookup (wpAny_pure ?_))
  simp only [Bool.false_eq_true, if_false]
  refine wpAny_bind (wpAny_holding (iter_tuple ht ?_))
  refine wpAny_bind (wpAny_holding (draw_tuple hlt j 0 _ _ ⟨_, Heap.get?_push_size _ rfl, rfl, rfl⟩ (ht.push _) (by omega) fun h1 hit1 hs1 => ?_))
  have ht1 : IsTup h1 t items := (ht.push _).extBut hs1.extBut hlt
  rw [List.drop_zero, if_neg (by rw [List.length_take, Array.length_toList]; omega)]
  have hsz1 : s.heap.objs.size < h1.objs.size := by
    obtain ⟨o, ho, _⟩ := hit1
    exact Heap.lt_size ho
  have htl : t < h1.objs.size := by
    obtain ⟨o, ho, _⟩ := ht1
    exact Heap.lt_size ho
  have W := walks_shift (Walks.tuple (prog := prog) (w := w) (A := A.in1) hh s.heap.objs.size t hlt items).toS hj
  refine wpAny_bind (wpAny_holding (wpAny_collect_iter (.inr (.inr (.inr rfl))) W (fun i s' st => by obtain ⟨⟨o, ho, hc, _⟩, _⟩ := st; exact ⟨o, ho, hc⟩) (show _ ∧ _ from ⟨by rw [Nat.zero_add] at hit1; exact hit1, ht1⟩) (fun b hb => ?_) (by simp) (fun s' acc m ia => ?_) (by omega)))
  · have hb' : b = s.heap.objs.size ∨ b = t := by simpa using hb
    rcases hb' with rfl | rfl
    · exact hsz1
    · exact htl
  · have eacc : acc.toList = items.toList.drop j := by
      apply List.ext_getElem?
      intro i
      rw [List.getElem?_drop]
      by_cases hi : i < items.size - j
      · have hi2 : i < acc.size := by rw [ia.1]; exact hi
        have e1 : acc[i]? = some acc[i] := Array.getElem?_eq_getElem hi2
        have e2 := ia.2 i _ e1
        rw [Array.getElem?_toList, Array.getElem?_toList, e1]
        exact e2.symm
      · rw [List.getElem?_eq_none (by rw [Array.length_toList, ia.1]; omega), List.getElem?_eq_none (by rw [Array.length_toList]; omega)]
    have hgens : s'.gens = s.gens := m.gens
    have hdr : s'.drawn = s.drawn := m.drawn
    have hos : s'.os = s.os := m.os
    have hheap := m.heap
    obtain ⟨hp', g', d', tk', os'⟩ := s'
    dsimp only at hgens hdr hos hheap
    subst hgens hdr hos
    have old : ∀ b o, s.heap.get? b = some o → hp'.get? b = some o := fun b o e => by
      have hb : b ≠ s.heap.objs.size := Nat.ne_of_lt (Heap.lt_size e)
      exact hheap b o (by simpa using hb) (hs1.extBut b o hb (Heap.get?_push_of_some _ e))
    rw [eacc]
    have hz2 : (items.toList.drop j).length ≤ sizeLine := by rw [List.length_drop, Array.length_toList]; omega
    simp only [Nat.add_sub_cancel, Nat.sub_self, Nat.not_lt_zero, if_false, Nat.sub_zero, List.take_length, List.drop_length, List.append_nil]
    exact wpAny_bind (wpAny_newList (wpAny_pure (h hp' tk' old)) hz2)
end
/-- n names, then a starred one -/
def gStar (K : PySem.W.Frag) (j : Nat) (t : TGs) : TG := fun v σ H Q => ∃ a xs, v = .ref a ∧ SqT K H a xs ∧ j ≤ xs.length ∧ ∀ L, H L = none → t (xs.take j ++ [.ref L]) σ (upd H L (.lst (xs.drop j))) Q
section
variable {X : Cx} {pos : Pos}
theorem pg_star {es : List Expr} {k : Nat} {t : TGs} {j : Nat} (hc : X.calm = true) (h : PGs X es t) (hn : (assignEach es X.env).length = j + 1 := by rfl) (hst : (assignEach es X.env).findIdx? (·.1) = some j := by rfl) : PG X (.Tuple es k pos) (gStar X.K j t) := by
  refine ⟨fun pins s σ H v u Q I r ⟨a, xs, e1, hq, hl, hw⟩ => ?_⟩
  subst e1
  cases r
  obtain ⟨its, rv, ht, hz⟩ := I.tuple hq
  have hlen := rv.length
  rw [assign_Tuple]
  refine wpAny_bind (wpAny_standAt ?_)
  unfold unpack
  rw [hn, hst]
  refine wpAny_bind (wpAny_holding (items_star (I.ok.hd hc) ht (by rw [List.size_toArray]; omega) (by rw [List.size_toArray]; omega) fun h' tk hk => ?_))
  have I1 : Inv X pins σ H { s with heap := h', toks := tk } := I.kept hk
  have hfr := I1.hok.fresh (Nat.le_refl h'.objs.size)
  have I2 : Inv X pins σ (upd H h'.objs.size (.lst (xs.drop j))) { s with heap := h'.push { cls := .type "list", data := .seq (its.drop j).toArray }, toks := tk } :=
    I1.laid (t' := tk) (o := .lst (xs.drop j)) (fun b o q => Heap.get?_push_of_some _ q) (Nat.le_refl _) ⟨by rw [List.length_drop]; omega, _, 0, rv.drop j, Heap.get?_push_size _ rfl⟩
  exact h.run pins _ σ _ (xs.take j ++ [.ref h'.objs.size]) _ Q I2 ((rv.take j).append (.cons (show RelV (.ref h'.objs.size) (Value.ref h'.objs.size) from rfl) .nil)) (hw _ hfr)
theorem pgs_star {x : Str} {p1 p2 : Pos} {es : List Expr} {t : TG} {u : TGs} (h1 : PG X (.Name x p1) t) (h2 : PGs X es u) : PGs X (.Starred (.Name x p1) p2 :: es) (gCons t u) :=
  ⟨fun pins s σ H vs us Q I r h => (pgs_cons h1 h2).run pins s σ H vs us Q I r h⟩
end
theorem w_gstar {K : PySem.W.Frag} {σ : L2.St} {H : Hp} {j : Nat} {t : TGs} {a : Addr} {xs : List V} {R : L2.St → Hp → Prop} (h1 : SqT K H a xs) (h2 : j ≤ xs.length) (h : ∀ L H1, H L = none → H1 L = some (.lst (xs.drop j)) → Same H H1 → t (xs.take j ++ [.ref L]) σ H1 R) : gStar K j t (.ref a) σ H R :=
  ⟨a, xs, rfl, h1, h2, fun L hL => h L _ hL upd_same (Same.new hL)⟩
end FW

set_option Elab.async false
set_option linter.all false
set_option maxRecDepth 100000
set_option maxHeartbeats 4000000
/-! try with several except clauses, each with or without a name -/
namespace FW
open PySem PySem.Spec PyProof.Rows L2
abbrev Suite := Addr → Value → Option Addr → TS
/-- the ends behind a suite whose name goes -/
def unset (i : Nat) (D : Ends) : Ends := ⟨fun σ H => D.nx (σ.set i none) H, D.rt, fun σ H => D.bk (σ.set i none) H, fun σ H => D.ct (σ.set i none) H⟩
def runCl (o : Option Nat) (ts : Suite) (a : Addr) (cls : Value) (d : Option Addr) (D : Ends) (σ : L2.St) (H : Hp) : Prop :=
  match o with
  | none => ts a cls d D σ H
  | some i => ts a cls d (unset i D) (σ.set i (some (.ref a))) H
def wCl (K : PySem.W.Frag) (Wo : WX) (D : Ends) : List (Value × Option Nat × Suite) → WX
  | [] => Wo
  | (c, o, ts) :: r => fun cls d σ H => ∃ b, PySem.W.exmOne K cls c = some b ∧ (b = true → ∀ a, H a = none → runCl o ts a cls d D σ H) ∧ (b = false → wCl K Wo D r cls d σ H)
inductive ClOk (X : Cx) : List ExceptHandler → List (Value × Option Nat × Suite) → Prop
  | nil : ClOk X [] []
  | only {x : Str} {c : Value} {ts : Suite} {st : Stmt} {sts : List Stmt} {p1 p2 : Pos} {hs : List ExceptHandler} {l : List (Value × Option Nat × Suite)} (nm : Names X x c)
      (su : ∀ a oe cls d pn, Zc cls d oe → (∃ vs, oe.data = .fields vs) → PSs (X.suite a ((a, oe) :: pn)) (st :: sts) (ts a cls d)) (r : ClOk X hs l) :
      ClOk X (.ExceptHandler (some (.Name x p1)) none (st :: sts) p2 :: hs) ((c, none, ts) :: l)
  | as {x n : Str} {c : Value} {i : Nat} {ts : Suite} {st : Stmt} {sts : List Stmt} {p1 p2 : Pos} {hs : List ExceptHandler} {l : List (Value × Option Nat × Suite)} (hi : X.N[i]? = some n) (hl : X.env.kindOf n = some .local) (nm : Names X x c)
      (su : ∀ a oe cls d pn, Zc cls d oe → (∃ vs, oe.data = .fields vs) → PSs (X.suite a ((a, oe) :: pn)) (st :: sts) (ts a cls d)) (r : ClOk X hs l) :
      ClOk X (.ExceptHandler (some (.Name x p1)) (some n) (st :: sts) p2 :: hs) ((c, some i, ts) :: l)
def tTryG (K : PySem.W.Frag) (l : List (Value × Option Nat × Suite)) (Wo : WX) (tb : WX → TS) : TS := fun D σ H => tb (wCl K Wo D l) D σ H
section
variable {X : Cx} {body : List Stmt} {h1 : ExceptHandler} {hs : List ExceptHandler} {l : List (Value × Option Nat × Suite)} {pos : Pos} {tb : WX → TS} {Wo : WX}
theorem p_tryG (stk : X.stack = X.env :: X.outer) (fr : X.env.frame = some X.env.locals) (nd : X.N.Nodup) (tk : Takes X Wo)
    (pb : ∀ W pn xe, Takes (X.tr pn xe) W → PassesOwn (model X.prog X.w) X.A X.env xe → PSs (X.tr pn xe) body (tb W))
    (cl : ClOk X (h1 :: hs) l) : PS X (.Try body (h1 :: hs) [] [] pos) (tTryG X.K l Wo tb) := by
  constructor
  intro pins s σ H D I h
  have ok := I.ok
  have frm : X.A.frames = some (X.env :: X.outer) := by rw [ok.frames, stk]
  apply wpAny_Try_except
  have run := (pb (wCl X.K Wo D l) (X.pn ++ pins) (fun e z1 => wpAny (model X.prog X.w) X.A (noteFrame e X.env) (fun _ z2 => wpAny (model X.prog X.w) X.A (setFlight e none) (fun _ z3 => wpAny (model X.prog X.w) X.A (handleBy e X.env (h1 :: hs)) (SP X pins D) X.xe z3) X.xe z2) X.xe z1) ?caught PassesOwn.looking).run [] s σ H D (I.toTry _) h
  case caught =>
    intro u z xx
    obtain ⟨a, B, zI, pins', σ1, H1, cls, d, rfl, J', nb, up, sky, na, os, ag, wish⟩ := xx
    have J : Inv X pins σ1 H1 zI := J'.ofTry ok
    have sky1 : Sky B (X.env :: X.outer) a (Zc cls d) X.env.locals z.heap := by rw [← stk]; exact sky
    show wpAny (model X.prog X.w) X.A (noteFrame (.ref a) X.env) _ _ _
    refine Sky.land Zc.steady frm fr sky1 ?_
    intro g3 fl up3
    have J3 : Inv X pins σ1 H1 { z with heap := g3 } := J.landed nb fl.1 (up.trans up3) os ag
    obtain ⟨oe, vs, he, hz, hd⟩ := fl.there
    have far : a ∉ frs (X.env :: X.outer) := by
      intro hm
      obtain ⟨_, o2, e2, no⟩ := fl.2.2.1.mem hm
      rw [he] at e2
      cases e2
      exact no _ hd
    have farL : a ≠ X.env.locals := fun q => far (List.mem_filterMap.mpr ⟨X.env, by simp, by rw [fr, q]⟩)
    have farF : a ∉ X.fs := by
      intro hm
      obtain ⟨e, he', q⟩ := List.mem_filterMap.mp hm
      exact far (List.mem_filterMap.mpr ⟨e, by simp [he'], q⟩)
    have S3 := J3.suite he hd na farL farF
    have look : PySem.W.Looks (model X.prog X.w) g3 (typeOf (.ref a)) cls := fun _ _ _ _ k q => wpAny_typeOf_ref (k _ _ he) (by rw [hz.1]; exact q)
    have name : ∀ {x : Str} {c : Value} {p1 : Pos} {Q E : Value → Shared → Prop}, Names X x c → Q c { z with heap := g3 } → wpAny (model X.prog X.w) (X.A.mark (some (.ref a))) (eval (.Name x p1) X.env) Q E { z with heap := g3 } := by
      rintro x c p1 Q E ⟨hg, hdb, hm | ⟨hm, hv, hnn⟩⟩ q
      · exact ld_glob (X := X.suite a ((a, oe) :: (X.pn ++ pins))) S3 hg hm q hdb
      · exact ld_blt (X := X.suite a ((a, oe) :: (X.pn ++ pins))) S3 hg hm hv q hnn hdb
    have all : ∀ {hs' : List ExceptHandler} {l' : List (Value × Option Nat × Suite)}, ClOk X hs' l' → wCl X.K Wo D l' cls d σ1 H1 → wpAny (model X.prog X.w) X.A (handleBy (.ref a) X.env hs') (SP X pins D) X.xe { z with heap := g3 } := by
      intro hs' l' ck
      induction ck with
      | nil =>
        intro wish
        apply wpAny_handleBy_nil
        obtain ⟨_, _, _, oe', vs', T', oT, ts', he', hz', hd', hT, _⟩ := id fl
        unfold PySem.passOn
        apply wpAny_bind
        refine wpAny_field he' hd' hT ?_
        rw [if_neg (by simp)]
        have out : wpAny (model X.prog X.w) X.A (setFlight (.ref a) X.env.frame) (fun _ z4 => wpAny (model X.prog X.w) X.A (throw (.ref a) : Sem Flow) (SP X pins D) X.xe z4) X.xe { z with heap := g3 } := by
          rw [fr]
          refine HandSPX.setFlight_upZ fl ?_
          intro g4 hh4 up4
          exact wpAny_throw (tk _ _ ⟨a, B, zI, pins, σ1, H1, cls, d, rfl, J, nb, (up.trans up3).trans up4, .inr (.inr (by rw [stk]; exact hh4)), na, os, ag, wish⟩)
        first
        | exact wpAny_bind out
        | exact wpAny_bind (wpAny_pure (wpAny_bind out))
      | @only x c ts st sts p1 p2 hs2 l2 nm su r ih =>
        rintro ⟨b, hb, yes, no⟩
        refine wpAny_handleBy_cons (codeAny_handlers_test ?_) (by intro q; cases q)
        have lm := PySem.W.exm_one (M := model X.prog X.w) (J3.kIn) look hb
        refine name nm (lm.here ?_)
        cases b with
        | false => exact ih (no rfl)
        | true =>
          apply codeAny_handlers_suite
          refine HandSPX.lands_againZ fl ?_
          intro g4 fl4 up4
          have J4 : Inv X pins σ1 H1 { z with heap := g4 } := J.landed nb fl4.1 ((up.trans up3).trans up4) os ag
          obtain ⟨oe4, vs4, he4, hz4, hd4⟩ := fl4.there
          have S4 := J4.suite he4 hd4 na farL farF
          refine wpAny_mono ((su a oe4 cls d (X.pn ++ pins) hz4 ⟨_, hd4⟩).run [] _ _ H1 _ S4 (yes rfl a na)) ?_ (fun _ _ q => False.elim q)
          intro f z6 sp
          cases f with
          | ret u =>
            obtain ⟨v6, σ6, H6, S6, r6, q6⟩ := sp
            exact ⟨v6, σ6, H6, S6.unsuite ok, r6, q6⟩
          | _ =>
            obtain ⟨σ6, H6, S6, q6⟩ := sp
            exact ⟨σ6, H6, S6.unsuite ok, q6⟩
      | @as x n c i ts st sts p1 p2 hs2 l2 hi hl nm su r ih =>
        rintro ⟨b, hb, yes, no⟩
        refine wpAny_handleBy_cons (codeAny_handlers_test ?_) (by intro q; cases q)
        have lm := PySem.W.exm_one (M := model X.prog X.w) (J3.kIn) look hb
        refine name nm (lm.here ?_)
        cases b with
        | false => exact ih (no rfl)
        | true =>
          apply codeAny_handlers_suite_as
          refine HandSPX.lands_againZ fl ?_
          intro g4 fl4 up4
          have J4 : Inv X pins σ1 H1 { z with heap := g4 } := J.landed nb fl4.1 ((up.trans up3).trans up4) os ag
          obtain ⟨oe4, vs4, he4, hz4, hd4⟩ := fl4.there
          have S4 := J4.suite he4 hd4 na farL farF
          refine store_ok (X := X.suite a ((a, oe4) :: (X.pn ++ pins))) (v := .ref a) S4 nd hi (.inl hl) rfl ?_ (.inr hl)
          intro z5 S5
          refine wpAny_mono ((su a oe4 cls d (X.pn ++ pins) hz4 ⟨_, hd4⟩).run [] z5 _ H1 _ S5 (yes rfl a na)) ?_ (fun _ _ q => False.elim q)
          intro f z6 sp
          have goes : ∀ {σ6 : L2.St} {H6 : Hp} {Q : Shared → Prop}, Inv (X.suite a ((a, oe4) :: (X.pn ++ pins))) [] σ6 H6 z6 → (∀ z7, Inv X pins (σ6.set i none) H6 z7 → Q z7) → wpAny (model X.prog X.w) X.A (do bindName X.env n .none; unbindBehindTheSuite X.env n p2) (fun _ z7 => Q z7) X.xe z6 :=
            fun S6 hq => gone_ok (S6.unsuite ok) nd hi hl hq
          cases f with
          | ret u =>
            obtain ⟨v6, σ6, H6, S6, r6, q6⟩ := sp
            exact goes S6 fun z7 J7 => ⟨v6, _, _, J7, r6, q6⟩
          | next =>
            obtain ⟨σ6, H6, S6, q6⟩ := sp
            exact goes S6 fun z7 J7 => ⟨_, _, J7, q6⟩
          | brk =>
            obtain ⟨σ6, H6, S6, q6⟩ := sp
            exact goes S6 fun z7 J7 => ⟨_, _, J7, q6⟩
          | cont =>
            obtain ⟨σ6, H6, S6, q6⟩ := sp
            exact goes S6 fun z7 J7 => ⟨_, _, J7, q6⟩
    exact all cl wish
  refine wpAny_mono run ?_ (fun _ _ q => q)
  intro f z1 sp
  cases f with
  | next =>
    obtain ⟨σ1, H1, J1, q⟩ := sp
    exact wpAny_execs_nil ⟨σ1, H1, J1.ofTry ok, q⟩
  | ret u =>
    obtain ⟨v, σ1, H1, J1, r, q⟩ := sp
    exact ⟨v, σ1, H1, J1.ofTry ok, r, q⟩
  | brk =>
    obtain ⟨σ1, H1, J1, q⟩ := sp
    exact ⟨σ1, H1, J1.ofTry ok, q⟩
  | cont =>
    obtain ⟨σ1, H1, J1, q⟩ := sp
    exact ⟨σ1, H1, J1.ofTry ok, q⟩
end
section
variable {K : PySem.W.Frag} {σ : L2.St} {H : Hp} {nx bk ct : L2.St → Hp → Prop} {rt : VK}
theorem w_tryG {l : List (Value × Option Nat × Suite)} {Wo : WX} {tb : WX → TS} (h : tb (wCl K Wo ⟨nx, rt, bk, ct⟩ l) ⟨nx, rt, bk, ct⟩ σ H) : tTryG K l Wo tb ⟨nx, rt, bk, ct⟩ σ H := h
theorem w_clY {c cls : Value} {o : Option Nat} {ts : Suite} {d : Option Addr} {Wo : WX} {D : Ends} {l : List (Value × Option Nat × Suite)} (e : PySem.W.exmOne K cls c = some true) (h : ∀ a, H a = none → runCl o ts a cls d D σ H) : wCl K Wo D ((c, o, ts) :: l) cls d σ H := ⟨true, e, fun _ => h, fun z => nomatch z⟩
theorem w_clN {c cls : Value} {o : Option Nat} {ts : Suite} {d : Option Addr} {Wo : WX} {D : Ends} {l : List (Value × Option Nat × Suite)} (e : PySem.W.exmOne K cls c = some false) (h : wCl K Wo D l cls d σ H) : wCl K Wo D ((c, o, ts) :: l) cls d σ H := ⟨false, e, (fun z => nomatch z), fun _ => h⟩
end
end FW

set_option Elab.async false
set_option linter.all false
set_option maxRecDepth 100000
set_option maxHeartbeats 4000000
/-! {tuple: value for a in as if ..}: a dict keyed by tuples, one clause; pairs looked for in tuples; zip of tuples -/
namespace FW
open PySem PySem.Spec PyProof.Rows L2
section
variable {kx vx ta ia : Expr} {fa : List Expr} {sc : Scope} {ps : Pos}
abbrev one (kx vx ta ia : Expr) (fa : List Expr) (sc : Scope) (ps : Pos) : Expr := .DictComp kx vx [⟨ta, ia, fa, 0⟩] sc ps
theorem turn_one (it : Value) (D : Addr) (env : Env) : compTurn (one kx vx ta ia fa sc ps) 0 it (.ref D) env = (do
    standAt ia.pos
    match ← pyNext it with
    | none => pure (.done .next)
    | some u =>
      letOwnedTupleGo ta it u
      assign ta env u
      let mut good := true
      for c in fa do
        if good then good ← isTrue c env (eval c env)
      if good then
        (do
          let k ← eval kx env
          let v ← holding [k] (eval vx env)
          standAt { kx.pos with endLine := vx.pos.endLine, endCol := vx.pos.endCol }
          holding [k, v] (dictSet D k v))
      again (.compLoop (one kx vx ta ia fa sc ps) 0 it (.ref D) env)) := by rfl
variable {pg : Program} {wd : World} {A : Around} {R : Result → Shared → Prop} {st : Shared} {it : Value} {D : Addr} {env : Env}
theorem loop_one (G : Nat → Shared → Prop)
    (go : ∀ n z, G n z → wpAny (model pg wd) A (pyNext it) (fun r z1 => match r with
      | none => R (.ok .next) z1
      | some u => wpAny (model pg wd) A (letOwnedTupleGo ta it u) (fun _ z2 => wpAny (model pg wd) A (assign ta env u) (fun _ z3 => wpAny (model pg wd) A (testsOf2 fa env) (fun b z4 =>
          if b = true then wpAny (model pg wd) A (eval kx env) (fun k z5 => wpAny (model pg wd) A (eval vx env) (fun v z6 => wpAny (model pg wd) A (dictSet D k v) (fun _ z7 => ∃ m, m < n ∧ G m z7) (fun _ _ => False) z6) (fun _ _ => False) z5) (fun _ _ => False) z4
          else ∃ m, m < n ∧ G m z4) (fun _ _ => False) z3) (fun _ _ => False) z2) (fun _ _ => False) z1) (fun _ _ => False) z)
    (n : Nat) (h : G n st) : codeAny (model pg wd) A (.compLoop (one kx vx ta ia fa sc ps) 0 it (.ref D) env) R st := by
  refine codeAny_loop rfl G ?_ n h
  intro n z hz
  show wpAny _ A ((compTurn (one kx vx ta ia fa sc ps) 0 it (.ref D) env).onRaise _) _ _ z
  apply wpAny_noted
  rw [turn_one]
  apply wpAny_bind
  apply wpAny_standAt
  apply wpAny_bind
  refine thnF (go n z hz) fun r z1 h1 => ?_
  cases r with
  | none => exact wpAny_pure h1
  | some u =>
    apply wpAny_bind
    refine thnF h1 fun _ z2 h2 => ?_
    apply wpAny_bind
    refine thnF h2 fun _ z3 h3 => ?_
    apply wpAny_bind
    refine thnF h3 fun b z4 h4 => ?_
    cases b with
    | false => exact wpAny_pure ⟨rfl, h4⟩
    | true =>
      apply wpAny_bind
      apply wpAny_bind
      refine thnF h4 fun k z5 h5 => ?_
      apply wpAny_bind
      apply wpAny_holding
      refine thnF h5 fun v z6 h6 => ?_
      apply wpAny_bind
      apply wpAny_standAt
      apply wpAny_holding
      exact thnF h6 fun _ z7 h7 => wpAny_pure ⟨rfl, h7⟩
end
section
variable {X : Cx}
theorem t_dictSet {pins : List (Addr × Obj)} {σ : L2.St} {H : Hp} {s : Shared} {E : Value → Shared → Prop} {D b : Addr} {kvs : List (List Key × V)} {k : List Key} {v : V} {r : Value} {Q : Unit → Shared → Prop} (hu : X.A.units + 1 < cLine) (I : Inv X pins σ H s) (hD : H D = some (.dT kvs)) (hz : kvs.length < sizeLine)
    (eb : H b = some (.tup (k.map kV))) (rv : RelV v r) (h : ∀ s', Inv X pins σ (upd H D (.dT (putK kvs k v))) s' → Q () s') : wpAny (model X.prog X.w) X.A (dictSet D (.ref b) r) Q E s := by
  obtain ⟨z, hd, xs, rel, dd⟩ := dt_of I.hok hD
  have hzv : xs.length ≤ sizeLine := by rw [← Paired.length rel]; exact z
  have hl : (putK kvs k v).length ≤ sizeLine := by have := length_putK kvs k v; omega
  refine wpAny_dictSet_heap (hsz := hzv) (show X.A.units < cLine by omega) (key_of I.hok eb) dd fun h' dd' hs => h _ ?_
  obtain ⟨q, es, ep, hq, h2, h3, h4, _, h5⟩ := dd'
  refine d_write I (by rw [hD]; exact True.intro) hs ⟨q, hq⟩ ⟨hl, hd, _, (rel.put k eb rv).keeps fun c ys ec => ?_, q, es, ep, hq, h2, h3, h4, h5⟩
  rw [upd_ne (ne_of ec hD (fun z => nomatch z))]
  exact ec
variable {kx vx ta ia : Expr} {fa : List Expr} {sc : Scope} {ps qs : Pos} {own : List (Str × Nat)} {wa : TI} {ga : TG} {ra : TT} {tk tv : TE}
def DcTP (J : It) (g : TG) (tt : TT) (tk tv : TE) (vs : List Nat) (Q : VK) (σ : L2.St) (H1 : Hp) : Prop := ∀ D, H1 D = none → ∃ W : Nat → Nat → Hp → Prop, (∃ m, W 0 m (upd H1 D (.dT []))) ∧ ∀ i m H, W i m H →
  (J.stop i H ∧ Q (.ref D) H) ∨ (J.go i H ∧ ∃ Nx : Hp → Prop, (∀ H', Nx H' → ∃ m', m' < m ∧ W (i + 1) m' H') ∧ ∀ x H', J.yld i H x H' → g x (wipe σ vs) H' fun σ2 H2 => wipe σ2 vs = wipe σ vs ∧ tt σ2 H2 fun b H3 =>
    if b = true then tk σ2 H3 fun y H4 => tv σ2 H4 fun z H5 => ∃ kvs k b, y = .ref b ∧ H5 b = some (.tup (k.map kV)) ∧ H5 D = some (.dT kvs) ∧ kvs.length < sizeLine ∧ Nx (upd H5 D (.dT (putK kvs k z))) else Nx H3)
def tDcT (wi : TI) (g : TG) (tt : TT) (tk tv : TE) (vs : List Nat) : TE := fun σ H Q => wi σ H fun J H1 => DcTP J g tt tk tv vs Q σ H1
theorem dct_run {pins : List (Addr × Obj)} {s : Shared} {σ : L2.St} {H : Hp} {Q : VK} {use : Option (Value → Sem Unit)} {Qf : Value → Shared → Prop}
    (hu : X.A.units + 1 < cLine) (calm : X.calm = true) (nd : X.N.Nodup) (I : Inv X pins σ H s) (pa : PI X ta ia wa) (ok : BlkOk X.N X.env.scope sc own)
    (pga : ∀ z G C cl fp, PG (X.blk z G sc (compEnvC sc cl C X.env) fp) ta ga) (pra : ∀ z G C cl fp, PTs (X.blk z G sc (compEnvC sc cl C X.env) fp) fa ra)
    (pk : ∀ z G C cl fp, PE (X.blk z G sc (compEnvC sc cl C X.env) fp) kx tk) (pv' : ∀ z G C cl fp, PE (X.blk z G sc (compEnvC sc cl C X.env) fp) vx tv)
    (hfa : ∀ y, foldedSetIterable ia X.env y = pure y)
    (h : tDcT wa ga ra tk tv (own.map (·.2)) σ H Q)
    (fin : ∀ D C z m H', Inv X pins σ H' z → Q (.ref D) H' → z.heap.Ns C m → FpOk X pins H' C → compPost (model X.prog X.w) X.A X.xe use Qf (.ref D) C (.ok .next) z) :
    wpAny (model X.prog X.w) X.A (comprehension (one kx vx ta ia fa sc ps) sc X.env qs newDict false (eval ia X.env) use) Qf X.xe s := by
  have cellsOk : ∀ y ∈ sc.names, y.2 = .free → ∃ c, X.env.cells.lookup y.1 = some c := by
    intro y hy e
    rcases ok.free y hy e with k | k
    · exact I.ok.has _ (.inl k)
    · exact I.ok.has _ (.inr k)
  refine wpAny_comprehension_free (use := use) rfl hfa (closure_ok cellsOk) ok.kind (fun y hy e => by rw [ok.uniq y hy, e]) ?_
  refine thn (pa.run pins s σ H _ I h) fun _ _ hx => thn hx fun _ z2 hz2 => ?_
  obtain ⟨it, fp, tn, J, G2, rfl, I2, T, at2, far2, q⟩ := hz2
  refine wpAny_newObj_type (newEnv_comp ?_)
  obtain ⟨D, hD⟩ : ∃ D, D = z2.heap.objs.size := ⟨_, rfl⟩
  rw [← hD]
  have freeD : G2 D = none := I2.hok.fresh (Nat.le_of_eq hD.symm)
  obtain ⟨W, ⟨m0, w0⟩, turn⟩ := q D freeD
  obtain ⟨z3, e3⟩ : ∃ z3 : Shared, z3 = { z2 with heap := z2.heap.push { cls := .type "dict", data := .dict #[] } } := ⟨_, rfl⟩
  have h3 : z3.heap = z2.heap.push { cls := .type "dict", data := .dict #[] } := by rw [e3]
  have I3 : Inv X pins σ (upd G2 D (.dT [])) z3 := by
    rw [e3]
    refine I2.laid (t' := z2.toks) (fun _ _ e => Heap.get?_push_of_some _ e) (Nat.le_of_eq hD.symm) ?_
    rw [hD]
    exact dt_empty z2.heap I2.big
  have small : ∀ b ∈ fp, b < z2.heap.objs.size := by
    intro b hb
    obtain ⟨_, e, _⟩ := T.obj _ _ at2 b hb
    exact Heap.lt_size e
  have far3 : ∀ b ∈ fp, FpOk X pins (upd G2 D (.dT [])) b ∧ b < z3.heap.objs.size := by
    intro b hb
    have lt := small b hb
    constructor
    · refine ⟨?_, (far2 b hb).2⟩
      rw [upd_ne (by rw [hD]; exact Nat.ne_of_lt lt)]
      exact (far2 b hb).1
    · rw [h3, Heap.size_push]
      exact Nat.lt_succ_of_lt lt
  have at3 : tn 0 z3.heap := T.keep _ _ _ at2 fun _ _ _ e => by rw [h3]; exact Heap.get?_push_of_some _ e
  have I4 := block_start I3 ok nd far3
  obtain ⟨cl, hcl⟩ : ∃ cl, cl = cellsFrom (z3.heap.objs.size + 1) sc.names (cloFrom X.env.cells sc.names []) := ⟨_, rfl⟩
  rw [← hcl] at I4
  have gA := pga z3 (upd G2 D (.dT [])) z3.heap.objs.size cl fp
  have tA := pra z3 (upd G2 D (.dT [])) z3.heap.objs.size cl fp
  have eK := pk z3 (upd G2 D (.dT [])) z3.heap.objs.size cl fp
  have eV := pv' z3 (upd G2 D (.dT [])) z3.heap.objs.size cl fp
  show codeAny _ _ (.compStart (one kx vx ta ia fa sc ps) 0 (.ref it) (.ref D) (compEnvC sc (cellsFrom (({ z2 with heap := z2.heap.push { cls := .type "dict", data := .dict #[] } } : Shared).heap.objs.size + 1) sc.names (cloFrom X.env.cells sc.names [])) ({ z2 with heap := z2.heap.push { cls := .type "dict", data := .dict #[] } } : Shared).heap.objs.size X.env))
    (compPost (model X.prog X.w) X.A X.xe use Qf (.ref D) ({ z2 with heap := z2.heap.push { cls := .type "dict", data := .dict #[] } } : Shared).heap.objs.size) { ({ z2 with heap := z2.heap.push { cls := .type "dict", data := .dict #[] } } : Shared) with heap := pushCells (({ z2 with heap := z2.heap.push { cls := .type "dict", data := .dict #[] } } : Shared).heap.push { cls := .type "dict", data := .dict #[] }) sc.names }
  rw [← e3, ← hcl]
  have none3 : ∀ b ∈ fp, (upd G2 D (.dT [])) b = none := fun b hb => (far3 b hb).1.1
  obtain ⟨ev, hev⟩ : ∃ ev, ev = compEnvC sc cl z3.heap.objs.size X.env := ⟨_, rfl⟩
  rw [← hev] at I4 gA tA eK eV ⊢
  have evL : ev.locals = z3.heap.objs.size := by rw [hev]; rfl
  obtain ⟨G3, hG3⟩ : ∃ G3, G3 = upd G2 D (.dT []) := ⟨_, rfl⟩
  rw [← hG3] at I3 I4 gA tA eK eV w0 none3 far3
  obtain ⟨z4, e4⟩ : ∃ z4 : Shared, z4 = { z3 with heap := pushCells (z3.heap.push { cls := .type "dict", data := .dict #[] }) sc.names } := ⟨_, rfl⟩
  rw [← e4] at I4 ⊢
  have at4 : tn 0 z4.heap := T.keep _ _ _ at3 fun _ _ _ e => by rw [e4]; exact pushCells_keeps _ _ _ _ (Heap.get?_push_of_some _ e)
  have aside : ∀ {σ' : L2.St} {G : Hp} {z : Shared}, Inv (X.blk z3 G3 sc ev fp) [] σ' G z → (∀ b ∈ fp, G b = none) → ∀ b ∈ fp, FpOk (X.blk z3 G3 sc ev fp) [] G b := by
    intro σ' G z J' hn b hb
    exact ⟨hn b hb, (J'.ok.exf b hb).1, J'.ok.exfs b hb, .inl hb, fun x c e => (J'.ok.exf b hb).2 x c e, fun p hp => absurd (show p ∈ ([] : List (Addr × Obj)) ++ [] from hp) (by simp)⟩
  have whole : codeAny (model X.prog X.w) X.A (.compLoop (one kx vx ta ia fa sc ps) 0 (.ref it) (.ref D) ev) (compPost (model X.prog X.w) X.A X.xe use Qf (.ref D) z3.heap.objs.size) z4 := by
    refine loop_one (fun n z => ∃ i G, Inv (X.blk z3 G3 sc ev fp) [] (wipe σ (own.map (·.2))) G z ∧ tn i z.heap ∧ (∀ b ∈ fp, G b = none) ∧ W i n G) ?_ m0 ⟨0, G3, I4, at4, none3, w0⟩
    rintro n z5 ⟨i, G5, I5, at5, none5, w5⟩
    rcases turn i n G5 w5 with ⟨stop, qq⟩ | ⟨goes, Nx, hNx, step⟩
    · refine thnF (T.done (X.blk z3 G3 sc ev fp) rfl rfl rfl calm i [] z5 _ G5 (fun _ _ => False) I5 (aside I5 none5) at5 stop) ?_
      rintro r z6 ⟨rfl, I6⟩
      have I7 : Inv X pins σ G5 z6 := I3.call' (ch := fp) I6.os I6.base I6.hok I6.bare fun b hb =>
        let f := (far3 b hb).1
        ⟨f.2.2.2.1, f.2.1, f.2.2.2.2.1, f.2.2.2.2.2⟩
      have noC : G5 z3.heap.objs.size = none := by
        have y : G5 ev.locals = none := I6.free
        rw [evL] at y
        exact y
      obtain ⟨m, hn, _⟩ := I6.loc
      have hn' : z6.heap.Ns ev.locals m := hn
      rw [evL] at hn'
      exact fin D _ z6 m G5 I7 qq hn' (I3.fpOk (Nat.le_refl _) noC)
    · refine thnF (T.item (X.blk z3 G3 sc ev fp) rfl rfl rfl calm i [] z5 _ G5 (fun _ _ => False) I5 (aside I5 none5) at5 goes) ?_
      rintro r z6 ⟨u, rfl, h6⟩
      refine thnF h6 ?_
      rintro _ z7 ⟨x, G7, I7, r7, y7, at7, none7⟩
      refine thnF (gA.run _ z7 _ G7 x u _ (I7.pinned (aside I7 none7) (T.obj _ _ at7)) r7 (step x G7 y7)) ?_
      rintro _ z8 ⟨σ8, G8, I8, hw8, q8⟩
      refine thnF (tA.run _ z8 σ8 G8 _ I8 q8) ?_
      rintro b z9 ⟨G9, I9, q9⟩
      have over : ∀ {z : Shared} {G : Hp}, Inv (X.blk z3 G3 sc ev fp) ([] ++ pinsAt fp z7.heap) σ8 G z → Nx G →
          ∃ m, m < n ∧ ∃ i G, Inv (X.blk z3 G3 sc ev fp) [] (wipe σ (own.map (·.2))) G z ∧ tn i z.heap ∧ (∀ b ∈ fp, G b = none) ∧ W i m G := by
        intro z G I' nx
        obtain ⟨m', lt, w'⟩ := hNx G nx
        have pins' : ∀ b ∈ fp, ∀ o, z7.heap.get? b = some o → z.heap.get? b = some o ∧ G b = none := by
          intro b hb o e
          have y := I'.pin (b, o) (List.mem_append_right _ (List.mem_append_right _ (mem_pinsAt hb e)))
          exact ⟨y.1, y.2.1⟩
        refine ⟨m', lt, i + 1, G, (I'.unpinned (pins := [])).weak (by rw [← hw8, wipe_length]) (fun j v e => by rw [← hw8] at e; exact (wipe_some e).1), T.keep _ _ _ at7 (fun b hb o e => (pins' b hb o e).1), ?_, w'⟩
        intro b hb
        obtain ⟨o, e, _⟩ := T.obj _ _ at7 b hb
        exact (pins' b hb o e).2
      cases b with
      | false =>
        have q9' : Nx G9 := q9
        show ∃ m, m < n ∧ _
        exact over I9 q9'
      | true =>
        have q9' : tk σ8 G9 fun y H4 => tv σ8 H4 fun z H5 => ∃ kvs k b, y = .ref b ∧ H5 b = some (.tup (k.map kV)) ∧ H5 D = some (.dT kvs) ∧ kvs.length < sizeLine ∧ Nx (upd H5 D (.dT (putK kvs k z))) := q9
        show wpAny _ _ (eval kx ev) _ _ z9
        refine thnF (eK.run _ z9 σ8 G9 _ I9 q9') ?_
        rintro _ z17 ⟨yk, G17, I17, r17, q17⟩
        refine thnF (eV.run _ z17 σ8 G17 _ I17 q17) ?_
        rintro _ z18 ⟨yv, G18, I18, r18, kvs, key, b, rfl, hb18, hD18, lt18, nx⟩
        cases r17
        exact t_dictSet (X := X.blk z3 G3 sc ev fp) hu I18 hD18 lt18 hb18 r18 fun _ I19 => over I19 nx
  exact codeAny_compStart_dict whole (T.self X.A 0 _ _ _ at4 whole)
/-- name = {..}, the name a local of the def -/
theorem ps_setDcT {i : Nat} {y : Str} {py spos : Pos} (hu : X.A.units + 1 < cLine) (calm : X.calm = true) (nd : X.N.Nodup) (hy : X.N[i]? = some y) (hyl : X.env.scope.names.lookup y = some .local)
    (hsw : swapsWith (one kx vx ta ia fa sc ps) (some (.Name y py)) spos.line X.env = pure true)
    (pa : PI X ta ia wa) (ok : BlkOk X.N X.env.scope sc own)
    (pga : ∀ z G C cl fp, PG (X.blk z G sc (compEnvC sc cl C X.env) fp) ta ga) (pra : ∀ z G C cl fp, PTs (X.blk z G sc (compEnvC sc cl C X.env) fp) fa ra)
    (pk : ∀ z G C cl fp, PE (X.blk z G sc (compEnvC sc cl C X.env) fp) kx tk) (pv' : ∀ z G C cl fp, PE (X.blk z G sc (compEnvC sc cl C X.env) fp) vx tv)
    (hfa : ∀ y, foldedSetIterable ia X.env y = pure y := by intro _; rfl) :
    PS X (.Assign [.Name y py] (one kx vx ta ia fa sc ps) spos) (tAsg (tDcT wa ga ra tk tv (own.map (·.2))) (gName i)) := by
  constructor
  intro pins s σ H Ed I h
  rw [exec_Assign_Name_used y py _ _ hsw]
  apply wpAny_bind
  apply wpAny_standAt
  apply wpAny_bind
  show wpAny _ X.A (comprehension (one kx vx ta ia fa sc ps) sc X.env (firstIterPos [⟨ta, ia, fa, 0⟩] ps) newDict false (eval ia X.env) (some (assign (.Name y py) X.env)) >>= fun _ => pure ()) _ _ s
  apply wpAny_bind
  have h' : tDcT wa ga ra tk tv (own.map (·.2)) σ H (fun x H1 => gName i x σ H1 Ed.nx) := h
  refine thn (dct_run (Qf := fun _ s1 => SP X pins Ed .next s1) hu calm nd I pa ok pga pra pk pv' hfa h' ?_) (fun _ _ z => wpAny_pure (wpAny_pure z))
  intro L C s1 m H1 I1 q hn ff
  obtain ⟨f0, f1, f2, f3, f4, f5⟩ := ff
  show wpAny _ _ (assign (.Name y py) X.env (.ref L)) _ _ _
  apply wpAny_assign_Name
  refine store_ok2 (v := V.ref L) I1 nd hy (.inl hyl) rfl ?_ (.inr hyl)
  rintro s2 I2 ⟨ad, sb, had⟩
  have hne : C ≠ ad := by
    rcases had with hz | hz
    · exact fun e => f1 (e.trans hz)
    · exact fun e => f4 y ad hz e.symm
  refine ⟨m, hn.sameBut sb hne, fun h3 sb3 => ⟨_, H1, ?_, q⟩⟩
  exact I2.turned (t' := s2.toks) (fun b o hb e => (sb3.2 b hb).trans e) f0 f1 f3 f4 f5
/-- a pair of ints that is not in a tuple of such -/
def rNotInT (K : PySem.W.Frag) : R2 := fun x y H Q => ∃ (p a : Addr) (v b : Int) (an : List (Addr × Int × Int)), x = .ref p ∧ y = .ref a ∧ H p = some (.tup [.int v, .int b]) ∧ SqT K H a (an.map fun q => .ref q.1) ∧ (∀ q ∈ an, H q.1 = some (.tup [.int q.2.1, .int q.2.2])) ∧ Q (.bl (decide ((v, b) ∉ an.map (·.2)))) H
theorem op_notInT (hu : X.A.units + 100 < cLine) : OpR X (compareOp .NotIn) (rNotInT X.K) := by
  intro pins s σ H x y v u Q I rx ry ⟨p, a, w, b, an, e0, e1, hp, hs, hq, q⟩
  subst e0 e1
  cases rx
  cases ry
  obtain ⟨its, rv, hl, _⟩ := I.tuple hs
  have hdp : PySem.W.Datum.depth (Int × Int) ≤ 50 := by decide
  exact PySem.W.notIn_tuple_datum (xs := an.map (·.2)) (x := (w, b)) hl (by simpa using (hold_all I an its rv hq).1) (hold_pair I hp) (by omega) ⟨.bl _, H, I, congrArg Value.bool (decide_eq_decide.mpr Iff.rfl), q⟩
end
section
variable {K : PySem.W.Frag} {σ : L2.St} {H : Hp} {Q : VK} {nx bk ct : L2.St → Hp → Prop} {rt : VK}
theorem w_dct {wi : TI} {g : TG} {tt : TT} {tk tv : TE} {vs : List Nat} (h : wi σ H fun J H1 => DcTP J g tt tk tv vs Q σ H1) : tDcT wi g tt tk tv vs σ H Q := h
/-- each turn adds a pair: the k-th is es[k] -/
theorem dct_map {J : It} {n : Nat} {G : Hp → Prop} {Y : Nat → Hp → V → Hp → Prop} (w : Walk J n G Y) {g : TG} {tk tv : TE} {vs : List Nat} (es : List (List Key × V)) (hn : es.length = n) (hz : n ≤ 1000000) (hG : ∀ H', Same H H' → G H')
    (hs : ∀ i x H1 H2 (R : V → V → Hp → Prop), i < n → Same H H1 → Y i H1 x H2 → (∀ e b H4, es[i]? = some e → H4 b = some (.tup (e.1.map kV)) → Same H1 H4 → R (.ref b) e.2 H4) → g x (wipe σ vs) H2 fun σ2 H3 => wipe σ2 vs = wipe σ vs ∧ tk σ2 H3 fun y H4 => tv σ2 H4 fun z H5 => R y z H5)
    (hd : ∀ D H', H D = none → Same H H' → H' D = some (.dT (es.foldl (fun acc e => putK acc e.1 e.2) [])) → Q (.ref D) H') : DcTP J g tYes tk tv vs Q σ H := by
  intro D hD
  refine ⟨fun i m H' => m = n - i ∧ i ≤ n ∧ Same H H' ∧ H' D = some (.dT ((es.take i).foldl (fun acc e => putK acc e.1 e.2) [])), ⟨n, by simp, Nat.zero_le _, Same.new hD, upd_same⟩, ?_⟩
  rintro i m H1 ⟨rfl, hi, k1, e1⟩
  by_cases hlt : i < n
  · refine .inr ⟨w.goes i H1 hlt (hG _ k1), fun H' => Same H H' ∧ H' D = some (.dT ((es.take (i + 1)).foldl (fun acc e => putK acc e.1 e.2) [])), fun H' z => ⟨n - (i + 1), by omega, rfl, hlt, z.1, z.2⟩, fun x H2 y => ?_⟩
    refine hs i x H1 H2 (fun y z H5 => ∃ kvs k b, y = .ref b ∧ H5 b = some (.tup (k.map kV)) ∧ H5 D = some (.dT kvs) ∧ kvs.length < sizeLine ∧ (Same H (upd H5 D (.dT (putK kvs k z))) ∧ (upd H5 D (.dT (putK kvs k z))) D = some (.dT ((es.take (i + 1)).foldl (fun acc e => putK acc e.1 e.2) [])))) hlt k1 (w.yields i H1 x H2 hlt (hG _ k1) y) ?_
    intro e b H4 he hb k4
    refine ⟨(es.take i).foldl (fun acc e => putK acc e.1 e.2) [], e.1, b, rfl, hb, k4 _ _ e1, ?_, fun c o ec => ?_, ?_⟩
    · have len : ∀ (l acc : List (List Key × V)), (l.foldl (fun acc e => putK acc e.1 e.2) acc).length ≤ acc.length + l.length := by
        intro l
        induction l with
        | nil => intro acc; simp
        | cons x r ih =>
          intro acc
          have h1 := ih (putK acc x.1 x.2)
          have h2 := putK_len' acc x.1 x.2
          simp only [List.foldl_cons, List.length_cons] at *
          omega
      have h1 := len (es.take i) []
      have h2 : (es.take i).length ≤ 1000000 := by rw [List.length_take]; omega
      exact Nat.lt_of_le_of_lt (Nat.le_trans h1 (by simpa using h2)) (by decide)
    · rw [upd_ne (ne_of_none ec hD)]
      exact k4 _ _ (k1 _ _ ec)
    · rw [upd_same, List.take_add_one, he, List.foldl_append]
      rfl
  · have e : i = n := by omega
    subst e
    rw [List.take_of_length_le (by omega)] at e1
    exact .inl ⟨w.stops H1 (hG _ k1), hd D H1 hD k1 e1⟩
theorem valV_foldT (k : List Key) : ∀ (es acc : List (List Key × V)), (valV (es.foldl (fun acc e => putK acc e.1 e.2) acc) k).isSome = ((valV acc k).isSome || es.any fun e => decide (e.1 = k)) := by
  intro es
  induction es with
  | nil => intro acc; simp
  | cons e r ih =>
    intro acc
    rw [List.foldl_cons, ih, valV_put, List.any_cons]
    by_cases h : k = e.1
    · rw [if_pos h, decide_eq_true h.symm]; simp
    · rw [if_neg h, decide_eq_false (fun z => h z.symm)]; simp
theorem w_dinT {a b : Addr} {kvs : List (List Key × V)} {k : List Key} (e : H a = some (.dT kvs)) (eb : H b = some (.tup (k.map kV))) (h : Q (.bl (valV kvs k).isSome) H) : rDIn (.ref a) (.ref b) H Q := ⟨a, _, rfl, DGet.t e eb, h⟩
theorem w_dnotinT {a b : Addr} {kvs : List (List Key × V)} {k : List Key} (e : H a = some (.dT kvs)) (eb : H b = some (.tup (k.map kV))) (h : Q (.bl (!(valV kvs k).isSome)) H) : rDNotIn (.ref a) (.ref b) H Q := ⟨a, _, rfl, DGet.t e eb, h⟩
theorem w_notInT {p a : Addr} {v b : Int} {an : List (Addr × Int × Int)} (h1 : H p = some (.tup [.int v, .int b])) (h2 : SqT K H a (an.map fun q => .ref q.1)) (h3 : ∀ q ∈ an, H q.1 = some (.tup [.int q.2.1, .int q.2.2])) (h : Q (.bl (decide ((v, b) ∉ an.map (·.2)))) H) : rNotInT K (.ref p) (.ref a) H Q := ⟨p, a, v, b, an, rfl, rfl, h1, h2, h3, h⟩
/-- for a, b in zip(tuple, tuple) -/
def rZipA (K : PySem.W.Frag) (vs : List V) (H : Hp) (R : It → Hp → Prop) : Prop := ∃ a b xs ys, vs = [.ref a, .ref b] ∧ ((SqL K H a xs ∧ SqL K H b ys ∧ R (Itz K a b) H) ∨ (SqT K H a xs ∧ SqT K H b ys ∧ R (RZ.ItzT K a b) H))
theorem w_zipA {ta : TA} {R : It → Hp → Prop} (h : ta σ H fun vs H1 => rZipA K vs H1 R) : RZ.iZipA K ta σ H R := h
theorem w_zipT' {a b : Addr} {xs ys : List V} {R : It → Hp → Prop} (h1 : SqT K H a xs) (h2 : SqT K H b ys) (h : R (RZ.ItzT K a b) H) : rZipA K [.ref a, .ref b] H R := ⟨a, b, xs, ys, rfl, .inr ⟨h1, h2, h⟩⟩
theorem lp_zipT {a b : Addr} {xs ys : List V} {g : TG} {tb : TS} (hl : xs.length = ys.length) (Pv : Nat → L2.St → Hp → Prop) (h0 : Pv 0 σ H) (hq : ∀ i σ H, Pv i σ H → SqT K H a xs ∧ SqT K H b ys)
    (hs : ∀ i x y T σ H H', xs[i]? = some x → ys[i]? = some y → Pv i σ H → H T = none → H' T = some (.tup [x, y]) → Same H H' → g (.ref T) σ H' fun σ2 H2 => tb ⟨Pv (i + 1), rt, nx, Pv (i + 1)⟩ σ2 H2) (hd : ∀ σ H, Pv xs.length σ H → nx σ H) : Lp (RZ.ItzT K a b) g tb ⟨nx, rt, bk, ct⟩ σ H :=
  RZ.for_zipT (D := ⟨nx, rt, bk, ct⟩) hl Pv h0 hq (fun i x y T σ H hx hy p hT => hs i x y T σ H _ hx hy p hT upd_same (Same.new hT)) hd
end
end FW

set_option Elab.async false
set_option linter.all false
set_option maxRecDepth 100000
set_option maxHeartbeats 4000000
/-! try: .. except (A, B): .. -/
namespace FW
open PySem PySem.Spec PyProof.Rows L2
def wTwo (K : PySem.W.Frag) (c1 c2 : Value) (ts : Suite) (D : Ends) : WX := fun cls d σ H => PySem.W.exmAny K cls [c1, c2] = some true ∧ ∀ a, H a = none → ts a cls d D σ H
def tTry2 (K : PySem.W.Frag) (c1 c2 : Value) (tb : WX → TS) (ts : Suite) : TS := fun D σ H => tb (wTwo K c1 c2 ts D) D σ H
theorem flying_on {B : Heap} {l : List Env} {a : Addr} {Z : Obj → Prop} {h h' : Heap} (f : HandSPX.FlyingZ B l a Z h) (k : ∀ b o, h.get? b = some o → h'.get? b = some o) : HandSPX.FlyingZ B l a Z h' := by
  obtain ⟨f1, f2, f3, oe, vs, T, oT, ts, g1, g2, g3, g4, g5, g6, g7, g8, g9⟩ := f
  exact ⟨fun b o e => k _ _ (f1 b o e), f2, f3.of_keeps (fun b o e _ => ⟨o, k _ _ e, rfl⟩), oe, vs, T, oT, ts, k _ _ g1, g2, g3, g4, g5, g6, k _ _ g7, g8, g9⟩
section
variable {X : Cx} {body sts : List Stmt} {st : Stmt} {x1 x2 : Str} {c1 c2 : Value} {p1 p2 p3 p4 p5 : Pos} {kk : Nat} {tb : WX → TS} {ts : Suite}
theorem p_try2 (stk : X.stack = X.env :: X.outer) (fr : X.env.frame = some X.env.locals) (n1 : Names X x1 c1) (n2 : Names X x2 c2)
    (pb : ∀ W pn xe, Takes (X.tr pn xe) W → PassesOwn (model X.prog X.w) X.A X.env xe → PSs (X.tr pn xe) body (tb W))
    (su : ∀ a oe cls d pn, Zc cls d oe → (∃ vs, oe.data = .fields vs) → PSs (X.suite a ((a, oe) :: pn)) (st :: sts) (ts a cls d)) :
    PS X (.Try body [.ExceptHandler (some (.Tuple [.Name x1 p1, .Name x2 p2] kk p3)) none (st :: sts) p4] [] [] p5) (tTry2 X.K c1 c2 tb ts) := by
  constructor
  intro pins s σ H D I h
  have ok := I.ok
  have frm : X.A.frames = some (X.env :: X.outer) := by rw [ok.frames, stk]
  apply wpAny_Try_except
  have run := (pb (wTwo X.K c1 c2 ts D) (X.pn ++ pins) (fun e z1 => wpAny (model X.prog X.w) X.A (noteFrame e X.env) (fun _ z2 => wpAny (model X.prog X.w) X.A (setFlight e none) (fun _ z3 => wpAny (model X.prog X.w) X.A (handleBy e X.env [.ExceptHandler (some (.Tuple [.Name x1 p1, .Name x2 p2] kk p3)) none (st :: sts) p4]) (SP X pins D) X.xe z3) X.xe z2) X.xe z1) ?caught PassesOwn.looking).run [] s σ H D (I.toTry _) h
  case caught =>
    intro u z xx
    obtain ⟨a, B, zI, pins', σ1, H1, cls, d, rfl, J', nb, up, sky, na, os, ag, hm, wish⟩ := xx
    have J : Inv X pins σ1 H1 zI := J'.ofTry ok
    have sky1 : Sky B (X.env :: X.outer) a (Zc cls d) X.env.locals z.heap := by rw [← stk]; exact sky
    show wpAny (model X.prog X.w) X.A (noteFrame (.ref a) X.env) _ _ _
    refine Sky.land Zc.steady frm fr sky1 ?_
    intro g3 fl up3
    have J3 : Inv X pins σ1 H1 { z with heap := g3 } := J.landed nb fl.1 (up.trans up3) os ag
    obtain ⟨oe, vs, he, hz, hd⟩ := fl.there
    have far : a ∉ frs (X.env :: X.outer) := by
      intro hm
      obtain ⟨_, o2, e2, no⟩ := fl.2.2.1.mem hm
      rw [he] at e2
      cases e2
      exact no _ hd
    have farL : a ≠ X.env.locals := fun q => far (List.mem_filterMap.mpr ⟨X.env, by simp, by rw [fr, q]⟩)
    have farF : a ∉ X.fs := by
      intro hm
      obtain ⟨e, he', q⟩ := List.mem_filterMap.mp hm
      exact far (List.mem_filterMap.mpr ⟨e, by simp [he'], q⟩)
    have S3 := J3.suite he hd na farL farF
    have name : ∀ {x : Str} {c : Value} {p1 : Pos} {Q E : Value → Shared → Prop}, Names X x c → Q c { z with heap := g3 } → wpAny (model X.prog X.w) (X.A.mark (some (.ref a))) (eval (.Name x p1) X.env) Q E { z with heap := g3 } := by
      rintro x c p1 Q E ⟨hg, hdb, hm | ⟨hm, hv, hnn⟩⟩ q
      · exact ld_glob (X := X.suite a ((a, oe) :: (X.pn ++ pins))) S3 hg hm q hdb
      · exact ld_blt (X := X.suite a ((a, oe) :: (X.pn ++ pins))) S3 hg hm hv q hnn hdb
    refine wpAny_handleBy_cons (codeAny_handlers_test ?_) (by intro q; cases q)
    refine wpAny_Tuple_spliced ?_
    show wpAny _ _ (spliced ((false, eval (.Name x1 p1) X.env) :: backTo p3 (starEach [.Name x2 p2] X.env))) _ _ _
    refine Calls.spliced_cons (name n1 ?_)
    show wpAny _ _ (spliced ((false, eval (.Name x2 p2) X.env) :: [])) _ _ _
    refine Calls.spliced_cons (name n2 ?_)
    refine Calls.spliced_nil ⟨by show (2 : Nat) ≤ sizeLine; decide, ?_⟩
    obtain ⟨g4, hg4⟩ : ∃ g4, g4 = g3.push { cls := .type "tuple", data := .seq [c1, c2].toArray } := ⟨_, rfl⟩
    have kp : ∀ b o, g3.get? b = some o → g4.get? b = some o := fun b o e => by rw [hg4]; exact Heap.get?_push_of_some _ e
    have tup : g4.get? g3.objs.size = some { cls := .type "tuple", data := .seq [c1, c2].toArray } := by rw [hg4]; exact Heap.get?_push_size _ rfl
    show wpAny _ _ (excMatches (.ref a) (.ref g3.objs.size)) _ _ { z with heap := g3.push { cls := .type "tuple", data := .seq [c1, c2].toArray } }
    rw [← hg4]
    have fl4 := flying_on fl kp
    have up4 := up3.trans (Heap.UpToSlots.of_keeps kp)
    have J4 : Inv X pins σ1 H1 { z with heap := g4 } := J.landed nb fl4.1 (up.trans up4) os ag
    have look : PySem.W.Looks (model X.prog X.w) g4 (typeOf (.ref a)) cls := fun _ _ _ _ k q => wpAny_typeOf_ref (k _ _ (kp _ _ he)) (by rw [hz.1]; exact q)
    have lm := PySem.W.exm_tup2 (M := model X.prog X.w) J4.kIn look tup hm
    refine lm.here ?_
    apply codeAny_handlers_suite
    refine HandSPX.lands_againZ fl4 ?_
    intro g5 fl5 up5
    have J5 : Inv X pins σ1 H1 { z with heap := g5 } := J.landed nb fl5.1 ((up.trans up4).trans up5) os ag
    obtain ⟨oe5, vs5, he5, hz5, hd5⟩ := fl5.there
    have S5 := J5.suite he5 hd5 na farL farF
    refine wpAny_mono ((su a oe5 cls d (X.pn ++ pins) hz5 ⟨_, hd5⟩).run [] _ _ H1 _ S5 (wish a na)) ?_ (fun _ _ q => False.elim q)
    intro f z6 sp
    cases f with
    | ret u =>
      obtain ⟨v6, σ6, H6, S6, r6, q6⟩ := sp
      exact ⟨v6, σ6, H6, S6.unsuite ok, r6, q6⟩
    | _ =>
      obtain ⟨σ6, H6, S6, q6⟩ := sp
      exact ⟨σ6, H6, S6.unsuite ok, q6⟩
  refine wpAny_mono run ?_ (fun _ _ q => q)
  intro f z1 sp
  cases f with
  | next =>
    obtain ⟨σ1, H1, J1, q⟩ := sp
    exact wpAny_execs_nil ⟨σ1, H1, J1.ofTry ok, q⟩
  | ret u =>
    obtain ⟨v, σ1, H1, J1, r, q⟩ := sp
    exact ⟨v, σ1, H1, J1.ofTry ok, r, q⟩
  | brk =>
    obtain ⟨σ1, H1, J1, q⟩ := sp
    exact ⟨σ1, H1, J1.ofTry ok, q⟩
  | cont =>
    obtain ⟨σ1, H1, J1, q⟩ := sp
    exact ⟨σ1, H1, J1.ofTry ok, q⟩
end
theorem w_try2 {K : PySem.W.Frag} {σ : L2.St} {H : Hp} {nx bk ct : L2.St → Hp → Prop} {rt : VK} {c1 c2 : Value} {tb : WX → TS} {ts : Suite} (h : tb (wTwo K c1 c2 ts ⟨nx, rt, bk, ct⟩) ⟨nx, rt, bk, ct⟩ σ H) : tTry2 K c1 c2 tb ts ⟨nx, rt, bk, ct⟩ σ H := h
end FW

set_option Elab.async false
set_option linter.all false
set_option maxRecDepth 100000
set_option maxHeartbeats 4000000
namespace FW
open PySem L2
def top (i : Nat) : Stmt := PySem.Challenge.pw_fewasks_k23_papers_looked_at.main.body.getD i (.Pass ⟨0, 0, 0, 0⟩)
abbrev s_Contrary___init__ : Stmt := inClass (top 2) 0
abbrev N_Contrary___init__ : List Str := ["self", "upper", "lower"]
theorem sc_Contrary___init__ : FnScope N_Contrary___init__ ["self", "upper", "lower"] (defScope s_Contrary___init__) := ⟨rfl, rfl, rfl, by decide +kernel, rfl, by decide +kernel, by decide +kernel⟩
abbrev s_Unsettled___init__ : Stmt := inClass (top 3) 0
abbrev N_Unsettled___init__ : List Str := ["self", "version"]
theorem sc_Unsettled___init__ : FnScope N_Unsettled___init__ ["self", "version"] (defScope s_Unsettled___init__) := ⟨rfl, rfl, rfl, by decide +kernel, rfl, by decide +kernel, by decide +kernel⟩
abbrev s_is_whole : Stmt := top 5
abbrev N_is_whole : List Str := ["thing"]
theorem sc_is_whole : FnScope N_is_whole ["thing"] (defScope s_is_whole) := ⟨rfl, rfl, rfl, by decide +kernel, rfl, by decide +kernel, by decide +kernel⟩
abbrev s_spans : Stmt := top 6
abbrev N_spans : List Str := ["shape", "rows", "steps", "version", "parent", "found", "one"]
theorem sc_spans : FnScope N_spans ["shape"] (defScope s_spans) := ⟨rfl, rfl, rfl, by decide +kernel, rfl, by decide +kernel, by decide +kernel⟩
abbrev s_no_clash : Stmt := top 8
abbrev N_no_clash : List Str := ["rows", "answers", "no", "upper", "lower", "version", "truth"]
theorem sc_no_clash : FnScope N_no_clash ["rows", "answers"] (defScope s_no_clash) := ⟨rfl, rfl, rfl, by decide +kernel, rfl, by decide +kernel, by decide +kernel⟩
abbrev s_settled : Stmt := top 9
abbrev N_settled : List Str := ["shape", "answers", "rows", "no", "held", "has", "lacks", "left", "version", "truth", "low"]
theorem sc_settled : FnScope N_settled ["shape", "answers"] (defScope s_settled) := ⟨rfl, rfl, rfl, by decide +kernel, rfl, by decide +kernel, by decide +kernel⟩
abbrev s_way_down : Stmt := top 11
abbrev N_way_down : List Str := ["shape", "rows", "top", "bottom", "way", "version", "parent"]
theorem sc_way_down : FnScope N_way_down ["shape", "rows", "top", "bottom"] (defScope s_way_down) := ⟨rfl, rfl, rfl, by decide +kernel, rfl, by decide +kernel, by decide +kernel⟩
abbrev s_paper : Stmt := top 12
abbrev N_paper : List Str := ["shape", "answers", "left", "rows", "told", "version", "tops", "lows", "upper", "truth", "lower"]
theorem sc_paper : FnScope N_paper ["shape", "answers"] (defScope s_paper) := ⟨rfl, rfl, rfl, by decide +kernel, rfl, by decide +kernel, by decide +kernel⟩
abbrev s_is_way : Stmt := top 13
abbrev N_is_way : List Str := ["links", "thing", "version", "at"]
theorem sc_is_way : FnScope N_is_way ["links", "thing"] (defScope s_is_way) := ⟨rfl, rfl, rfl, by decide +kernel, rfl, by decide +kernel, by decide +kernel⟩
abbrev s_shows : Stmt := top 14
abbrev N_shows : List Str := ["links", "truths", "version", "thing", "word", "way"]
theorem sc_shows : FnScope N_shows ["links", "truths", "version", "thing"] (defScope s_shows) := ⟨rfl, rfl, rfl, by decide +kernel, rfl, by decide +kernel, by decide +kernel⟩
abbrev s_right_paper : Stmt := top 15
abbrev N_right_paper : List Str := ["shape", "answers", "thing", "links", "truths", "version", "row", "link", "truth"]
theorem sc_right_paper : FnScope N_right_paper ["shape", "answers", "thing"] (defScope s_right_paper) := ⟨rfl, rfl, rfl, by decide +kernel, rfl, by decide +kernel, by decide +kernel⟩
abbrev s_law_deck : Stmt := top 17
abbrev N_law_deck : List Str := ["_law_script"]
theorem sc_law_deck : FnScope N_law_deck ["_law_script"] (defScope s_law_deck) := ⟨rfl, rfl, rfl, by decide +kernel, rfl, by decide +kernel, by decide +kernel⟩
abbrev s_law_mixed : Stmt := top 18
abbrev N_law_mixed : List Str := ["_law_cell", "_law_turn"]
theorem sc_law_mixed : FnScope N_law_mixed ["_law_cell", "_law_turn"] (defScope s_law_mixed) := ⟨rfl, rfl, rfl, by decide +kernel, rfl, by decide +kernel, by decide +kernel⟩
abbrev s_law_draw : Stmt := top 19
abbrev N_law_draw : List Str := ["_law_deck_here", "_law_many", "_law_cells", "_law_found", "_law_number"]
theorem sc_law_draw : FnScope N_law_draw ["_law_deck_here", "_law_many"] (defScope s_law_draw) := ⟨rfl, rfl, rfl, by decide +kernel, rfl, by decide +kernel, by decide +kernel⟩
abbrev s_law_int : Stmt := top 20
abbrev N_law_int : List Str := ["_law_thing"]
theorem sc_law_int : FnScope N_law_int ["_law_thing"] (defScope s_law_int) := ⟨rfl, rfl, rfl, by decide +kernel, rfl, by decide +kernel, by decide +kernel⟩
abbrev s_law_shape : Stmt := top 21
abbrev N_law_shape : List Str := ["_law_deck_here", "_law_most", "_law_versions", "_law_last", "_law_far", "_law_road", "_law_links", "_law_k", "_law_j", "_law_hit"]
theorem sc_law_shape : FnScope N_law_shape ["_law_deck_here", "_law_most"] (defScope s_law_shape) := ⟨rfl, rfl, rfl, by decide +kernel, rfl, by decide +kernel, by decide +kernel⟩
abbrev s_law_spans : Stmt := top 22
abbrev N_law_spans : List Str := ["_law_web", "_law_rows", "_law_version", "_law_found", "_law_two", "_law_low"]
theorem sc_law_spans : FnScope N_law_spans ["_law_web"] (defScope s_law_spans) := ⟨rfl, rfl, rfl, by decide +kernel, rfl, by decide +kernel, by decide +kernel⟩
abbrev s_law_lower : Stmt := top 23
abbrev N_law_lower : List Str := ["_law_deck_here", "_law_rows", "_law_held", "_law_version", "_law_low"]
theorem sc_law_lower : FnScope N_law_lower ["_law_deck_here", "_law_rows"] (defScope s_law_lower) := ⟨rfl, rfl, rfl, by decide +kernel, rfl, by decide +kernel, by decide +kernel⟩
abbrev s_law_odd : Stmt := top 24
abbrev N_law_odd : List Str := ["_law_deck_here", "_law_some"]
theorem sc_law_odd : FnScope N_law_odd ["_law_deck_here"] (defScope s_law_odd) := ⟨rfl, rfl, rfl, by decide +kernel, rfl, by decide +kernel, by decide +kernel⟩
abbrev s_law_bent : Stmt := top 25
abbrev N_law_bent : List Str := ["_law_deck_here", "_law_thing", "_law_depth", "_law_road", "_law_at"]
theorem sc_law_bent : FnScope N_law_bent ["_law_deck_here", "_law_thing", "_law_depth"] (defScope s_law_bent) := ⟨rfl, rfl, rfl, by decide +kernel, rfl, by decide +kernel, by decide +kernel⟩
abbrev s_law_answers : Stmt := top 26
abbrev N_law_answers : List Str := ["_law_deck_here", "_law_web", "_law_held", "_law_told", "_law_version"]
theorem sc_law_answers : FnScope N_law_answers ["_law_deck_here", "_law_web", "_law_held"] (defScope s_law_answers) := ⟨rfl, rfl, rfl, by decide +kernel, rfl, by decide +kernel, by decide +kernel⟩
abbrev s_law_wild : Stmt := top 27
abbrev N_law_wild : List Str := ["_law_deck_here", "_law_web", "_law_told", "_law_version"]
theorem sc_law_wild : FnScope N_law_wild ["_law_deck_here", "_law_web"] (defScope s_law_wild) := ⟨rfl, rfl, rfl, by decide +kernel, rfl, by decide +kernel, by decide +kernel⟩
abbrev s_law_clash : Stmt := top 28
abbrev N_law_clash : List Str := ["_law_rows", "_law_answers_here", "_law_pairs", "_law_one", "_law_other"]
theorem sc_law_clash : FnScope N_law_clash ["_law_rows", "_law_answers_here"] (defScope s_law_clash) := ⟨rfl, rfl, rfl, by decide +kernel, rfl, by decide +kernel, by decide +kernel⟩
abbrev s_law_is_way : Stmt := top 29
abbrev N_law_is_way : List Str := ["_law_web", "_law_thing", "_law_one", "_law_k"]
theorem sc_law_is_way : FnScope N_law_is_way ["_law_web", "_law_thing"] (defScope s_law_is_way) := ⟨rfl, rfl, rfl, by decide +kernel, rfl, by decide +kernel, by decide +kernel⟩
abbrev s_law_is_paper : Stmt := top 30
abbrev N_law_is_paper : List Str := ["_law_web", "_law_answers_here", "_law_thing", "_law_k", "_law_row", "_law_good", "_law_one"]
theorem sc_law_is_paper : FnScope N_law_is_paper ["_law_web", "_law_answers_here", "_law_thing"] (defScope s_law_is_paper) := ⟨rfl, rfl, rfl, by decide +kernel, rfl, by decide +kernel, by decide +kernel⟩
abbrev s_law_truth : Stmt := top 31
abbrev N_law_truth : List Str := ["_law_found", "_law_due"]
theorem sc_law_truth : FnScope N_law_truth ["_law_found", "_law_due"] (defScope s_law_truth) := ⟨rfl, rfl, rfl, by decide +kernel, rfl, by decide +kernel, by decide +kernel⟩
abbrev s_law_walk : Stmt := top 32
abbrev N_law_walk : List Str := ["_law_deck_here", "_law_web", "_law_version", "_law_walk_here", "_law_k", "_law_lows", "_law_two"]
theorem sc_law_walk : FnScope N_law_walk ["_law_deck_here", "_law_web", "_law_version"] (defScope s_law_walk) := ⟨rfl, rfl, rfl, by decide +kernel, rfl, by decide +kernel, by decide +kernel⟩
abbrev s_law_made_up : Stmt := top 33
abbrev N_law_made_up : List Str := ["_law_deck_here", "_law_web", "_law_told", "_law_version", "_law_upper", "_law_walk_here"]
theorem sc_law_made_up : FnScope N_law_made_up ["_law_deck_here", "_law_web"] (defScope s_law_made_up) := ⟨rfl, rfl, rfl, by decide +kernel, rfl, by decide +kernel, by decide +kernel⟩
abbrev s_law : Stmt := top 34
abbrev N_law : List Str := ["_law_script", "_law_deck_here", "_law_road", "_law_turns", "_law_web", "_law_rows", "_law_answers_here", "_law_thing", "_law_k", "_law_due"]
theorem sc_law : FnScope N_law ["_law_script"] (defScope s_law) := ⟨rfl, rfl, rfl, by decide +kernel, rfl, by decide +kernel, by decide +kernel⟩
structure Df (K : PySem.W.Frag) (mg : Str → Option Value) (x : Str) (st : Stmt) (ps : List Str) (f : Addr) (fd : FuncData) : Prop where
  fn : Fun K x x st f fd
  b : Binds K fd ps []
  g : mg x = some (.ref f)
structure Txt (K : PySem.W.Frag) (mg : Str → Option Value) : Prop where
  n_len : mg "len" = none
  n_list : mg "list" = none
  n_isinstance : mg "isinstance" = none
  n_int : mg "int" = none
  n_bool : mg "bool" = none
  n_str : mg "str" = none
  n_tuple : mg "tuple" = none
  n_range : mg "range" = none
  n_sorted : mg "sorted" = none
  n_any : mg "any" = none
  n_min : mg "min" = none
  n_zip : mg "zip" = none
local macro_rules | `(tactic| walk_at "sq") => `(tactic| first | assumption | exact SqL.of (by assumption) | exact SqT.of (by assumption))
local macro_rules | `(tactic| walk_at "c") => `(tactic| first | ((with_reducible refine cdivw ?_ ?_) <;> first | decide | omega | assumption) | ((with_reducible refine cmul_r ?_ ?_) <;> first | decide | omega) | ((with_reducible refine cmul_l ?_ ?_) <;> first | decide | omega) | with_reducible assumption | decide | omega | exact ⟨by decide, by decide, by first | decide | omega⟩)
local macro_rules | `(tactic| walk_at "at") => `(tactic| first | assumption | exact rfl)
local macro_rules | `(tactic| walk_at "ty") => `(tactic| first | exact .base (.int _) | exact .base (.bl _) | exact .base (.str _) | exact .base .non | exact .base (.tup (by assumption)) | exact .base (.lst (by assumption)) | exact .base (.dK (by assumption)))
local macro_rules | `(tactic| walk_at "kb") => `(tactic| first | exact kb_int_int | exact kb_int_bool | exact kb_int_str | exact kb_int_tuple | exact kb_int_list | exact kb_int_dict | exact kb_bool_int | exact kb_bool_bool | exact kb_bool_str | exact kb_bool_tuple | exact kb_bool_list | exact kb_bool_dict | exact kb_str_int | exact kb_str_bool | exact kb_str_str | exact kb_str_tuple | exact kb_str_list | exact kb_str_dict | exact kb_tuple_int | exact kb_tuple_bool | exact kb_tuple_str | exact kb_tuple_tuple | exact kb_tuple_list | exact kb_tuple_dict | exact kb_list_int | exact kb_list_bool | exact kb_list_str | exact kb_list_tuple | exact kb_list_list | exact kb_list_dict | exact kb_dict_int | exact kb_dict_bool | exact kb_dict_str | exact kb_dict_tuple | exact kb_dict_list | exact kb_dict_dict | exact kb_NoneType_int | exact kb_NoneType_bool | exact kb_NoneType_str | exact kb_NoneType_tuple | exact kb_NoneType_list | exact kb_NoneType_dict)
local macro_rules | `(tactic| walk_at "s") => `(tactic| first
  | with_reducible refine w_seqA ?_
  | with_reducible refine w_seqD ?_
  | with_reducible refine w_seqF ?_
  | with_reducible refine w_seqW ?_
  | with_reducible refine w_seqG ?_
  | with_reducible refine w_seqP ?_
  | with_reducible refine w_asg ?_
  | ((with_reducible refine' w_var ?hv ?_); (case hv => exact rfl))
  | with_reducible refine w_c ?_
  | ((with_reducible refine w_name ?_); dsimp only [List.set_cons_zero, List.set_cons_succ])
  | with_reducible refine w_name ?_
  | with_reducible refine w_op ?_
  | with_reducible refine w_un ?_
  | with_reducible refine w_neg ?_
  | with_reducible refine w_i0 ?_
  | ((with_reducible refine w_i ?hc ?_); (case hc => walk_at "c"))
  | with_reducible refine w_eqI ?_
  | with_reducible refine w_neI ?_
  | ((with_reducible refine' w_ixL ?h1 ?h2 ?_); (case h1 => walk_at "sq"); (case h2 => walk_at "at"))
  | ((with_reducible refine' w_ixT ?h1 ?h2 ?_); (case h1 => walk_at "sq"); (case h2 => walk_at "at"))
  | ((with_reducible refine' w_ixSL ?h1 ?h2 ?_); (case h1 => walk_at "sq"); (case h2 => walk_at "at"))
  | ((with_reducible refine' w_ixST ?h1 ?h2 ?_); (case h1 => walk_at "sq"); (case h2 => walk_at "at"))
  | with_reducible refine w_neB ?_
  | with_reducible refine w_eqN ?_
  | with_reducible refine w_sub ?_
  | with_reducible refine w_if ?_
  | with_reducible refine w_test ?_
  | with_reducible refine w_tb ?_
  | with_reducible refine w_bl ?_
  | with_reducible refine w_and ?_
  | with_reducible refine w_or ?_
  | with_reducible refine w_not ?_
  | with_reducible refine w_andV ?_
  | with_reducible refine w_orV ?_
  | with_reducible refine w_notV ?_
  | with_reducible refine w_ret ?_
  | with_reducible refine w_drop ?_
  | with_reducible refine w_next ?_
  | with_reducible refine w_cb ?_
  | with_reducible refine w_nil ?_
  | with_reducible refine w_cons ?_
  | with_reducible refine w_call ?_
  | with_reducible refine w_lst ?_
  | with_reducible refine w_tup ?_
  | with_reducible refine w_bm ?_
  | ((with_reducible refine' w_tyL ?h1 ?_); (case h1 => assumption))
  | ((with_reducible refine' w_lenL ?h1 ?_); (case h1 => walk_at "sq"))
  | ((with_reducible refine' w_lenT ?h1 ?_); (case h1 => walk_at "sq"))
  | ((with_reducible refine w_sz ?h1 ?_); (case h1 => first | decide | (simp only [List.length_cons, List.length_nil]; decide)))
  | with_reducible refine w_min2 ?_
  | with_reducible refine w_max2 ?_
  | with_reducible refine w_tupRg ?_
  | with_reducible refine w_rg2 ?_
  | with_reducible refine w_rg2' ?_
  | with_reducible refine w_bits ?_
  | with_reducible refine w_bits' ?_
  | with_reducible refine w_for ?_
  | with_reducible refine w_rng1 ?_
  | ((with_reducible refine w_rng1' ?h1 ?h2 ?_); (case h1 => omega); (case h2 => omega))
  | with_reducible refine w_rng2 ?_
  | ((with_reducible refine w_rng2' ?h1 ?_); (case h1 => omega))
  | with_reducible refine w_itL ?_
  | ((with_reducible refine' w_itL' ?h1 ?_); (case h1 => walk_at "sq"))
  | with_reducible refine w_itT ?_
  | ((with_reducible refine' w_itT' ?h1 ?_); (case h1 => walk_at "sq"))
  | with_reducible refine w_lc ?_
  | ((with_reducible refine' w_isi ?ty ?hk ?_); (case ty => walk_at "ty"); (case hk => walk_at "kb"))
  | with_reducible refine iteT ?_
  | with_reducible refine iteF ?_
  | with_reducible refine w_nT ?_
  | with_reducible refine w_nF ?_
  | with_reducible refine w_eqS ?_
  | with_reducible refine w_eqB ?_
  | ((with_reducible refine' w_sum ?h1 ?_); (case h1 => walk_at "sq"))
  | ((with_reducible refine' w_gtup ?h1 ?h2 ?_); (case h1 => walk_at "sq"); (case h2 => exact rfl))
  | with_reducible refine w_gcons ?_
  | with_reducible refine w_gnil ?_
  | with_reducible refine w_din ?_
  | with_reducible refine w_dnotin ?_
  | with_reducible refine w_dget ?_
  | ((with_reducible refine' w_dinI ?h1 ?_); (case h1 => assumption))
  | ((with_reducible refine' w_dnotinI ?h1 ?_); (case h1 => assumption))
  | ((with_reducible refine' w_dgetI ?h1 ?h2 ?_); (case h1 => assumption); (case h2 => assumption))
  | with_reducible refine w_dnewK ?_
  | with_reducible refine w_dput ?_
  | with_reducible refine w_dget2 ?_
  | ((with_reducible refine' w_isD ?h1 ?_); (case h1 => assumption))
  | ((with_reducible refine' w_dget2I ?h1 ?_); (case h1 => assumption))
  | with_reducible refine w_dsetd ?_
  | ((with_reducible refine' w_leT2 ?h1 ?h2 ?_); (case h1 => walk_at "sq"); (case h2 => walk_at "sq"))
  | ((with_reducible refine' w_inT ?h1 ?_); (case h1 => walk_at "sq"))
  | ((with_reducible refine' w_ninT ?h1 ?_); (case h1 => walk_at "sq"))
  | ((with_reducible refine' w_inL ?h1 ?_); (case h1 => walk_at "sq"))
  | ((with_reducible refine' w_ninL ?h1 ?_); (case h1 => walk_at "sq"))
  | with_reducible refine w_pair ?_
  | with_reducible refine w_pnil ?_
  | with_reducible refine w_callS ?_
  | with_reducible refine w_try ?_
  | with_reducible refine w_isB ?_
  | with_reducible refine w_isN ?_
  | with_reducible refine w_notN ?_
  | with_reducible refine w_chain ?_
  | with_reducible refine w_tru ?_
  | ((with_reducible refine' w_trL ?h1 ?_); (case h1 => walk_at "sq"))
  | ((with_reducible refine' w_trT ?h1 ?_); (case h1 => walk_at "sq"))
  | with_reducible refine w_dc ?_
  | with_reducible refine w_dc2 ?_
  | with_reducible refine w_dget1 ?_
  | ((with_reducible refine' w_dget1I ?h1 ?_); (case h1 => assumption))
  | with_reducible refine w_rev ?_
  | ((with_reducible refine' w_rev' ?h1 ?_); (case h1 => walk_at "sq"))
  | with_reducible refine w_slice ?_
  | with_reducible refine w_noPart ?_
  | with_reducible refine w_part ?_
  | with_reducible refine w_part' ?_
  | with_reducible refine w_enum ?_
  | ((with_reducible refine' w_enum' ?h1 ?_); (case h1 => walk_at "sq"))
  | with_reducible refine w_bm0 ?_
  | with_reducible refine w_retN ?_
  | with_reducible refine w_tyes ?_
  | with_reducible refine w_keys ?_
  | ((with_reducible refine' w_keys' ?h1 ?_); (case h1 => assumption))
  | ((with_reducible refine' w_dinF ?h1 ?_); (case h1 => assumption))
  | ((with_reducible refine' w_dgetF ?h1 ?h2 ?_); (case h1 => assumption); (case h2 => assumption))
  | ((with_reducible refine' w_any ?h1 ?_); (case h1 => walk_at "sq"))
  | with_reducible refine w_zipA ?_
  | ((with_reducible refine' w_zipT' ?h1 ?h2 ?_); (case h1 => walk_at "sq"); (case h2 => walk_at "sq"))
  | with_reducible refine w_dct ?_
  | with_reducible refine w_tryG ?_
  | dsimp only [Bool.not_true, Bool.not_false]
  )
local macro_rules | `(tactic| walk_at "p") => `(tactic| first | assumption | omega | (simp only [List.length_cons, List.length_nil, List.length_map]; omega) | exact rfl | decide)
local macro_rules | `(tactic| walk_at "d") => `(tactic| first
  | ((with_reducible refine w_yes ?hp ?_); (case hp => walk_at "p"))
  | ((with_reducible refine w_no ?hp ?_); (case hp => walk_at "p"))
  | ((with_reducible refine w_nyes ?hp ?_); (case hp => walk_at "p"))
  | ((with_reducible refine w_nno ?hp ?_); (case hp => walk_at "p")))
local macro_rules | `(tactic| walk_at "g") => `(tactic| repeat walk_at "s")
local macro_rules | `(tactic| walk_at "dg") => `(tactic| (walk_at "d"; repeat walk_at "s"))
local macro_rules | `(tactic| walk_at "x") => `(tactic| ((try dsimp only [cxOf, Cx.nox, Cx.wish]); repeat walk_at "s"))
def spDeck (K : PySem.W.Frag) : Sp := fun vs H Q _ => ∃ (a : Addr) (ns : List Int), vs = [.ref a] ∧ SqL K H a (ns.map V.int) ∧
  ∀ H' d c, Same H H' → H d = none → H c = none → Deck H' d c 0 → Q (.ref d) H'
def spMixed : Sp := fun vs H Q _ => ∃ (x t : Int), vs = [.int x, .int t] ∧ 0 ≤ t ∧ t ≤ 2 ^ 41 ∧ ∀ i, Q (.int i) H
def spDraw : Sp := fun vs H Q _ => ∃ (d c : Addr) (n : Nat) (m : Int), vs = [.ref d, .int m] ∧ Deck H d c n ∧ n < MOSTD ∧ 0 < m ∧ m < 2 ^ 64 ∧
  ∀ (i : Nat) H', (i : Int) < m → Deck H' d c (n + 1) → Off d H H' → Q (.int i) H'
theorem w_deck {K : PySem.W.Frag} {H : Hp} {Q : VK} {E : XK} {a : Addr} {ns : List Int} (h1 : SqL K H a (ns.map V.int)) (h : ∀ H' d c, Same H H' → H d = none → H c = none → Deck H' d c 0 → Q (.ref d) H') : spDeck K ([V.ref a] ++ []) H Q E := ⟨a, ns, rfl, h1, h⟩
theorem w_draw {H : Hp} {Q : VK} {E : XK} {d c : Addr} {n : Nat} {m : Int} (D : Deck H d c n) (hn : n < MOSTD) (h0 : 0 < m) (h1 : m < 2 ^ 64) (h : ∀ (i : Nat) H', (i : Int) < m → Deck H' d c (n + 1) → Off d H H' → Q (.int i) H') : spDraw ([V.ref d, V.int m] ++ []) H Q E := ⟨d, c, n, m, rfl, D, hn, h0, h1, h⟩
theorem dk0 {c : Addr} {a b t : V} : atI [V.ref c, a, b, t] 0 = some (.ref c) := rfl
theorem dk1 {c a b t : V} : atI [c, a, b, t] 1 = some a := rfl
theorem dk2 {c a b t : V} : atI [c, a, b, t] 2 = some b := rfl
theorem dk3 {c a b t : V} : atI [c, a, b, t] 3 = some t := rfl
section
variable {P : Program} {w : World} {K : PySem.W.Frag} {mg : Str → Option Value} {base : Heap}
theorem ok_deck {f : Addr} {fd : FuncData} (T : Txt K mg) (F : Fun K "_law_deck" "_law_deck" s_law_deck f fd) : FnOk P w K mg base CX0 1 f fd ["_law_script"] (spDeck K) := by
  refine F.ok sc_law_deck (fun vs H Q E h => ?_) (fun cdv A outer s H vs Q E hr h => ?_)
  · obtain ⟨a, ns, rfl, _⟩ := h
    rfl
  · obtain ⟨a, ns, rfl, hS, q⟩ := h
    refine ⟨_,
      (pss_one
        (ps_ret (pe_lst (pa_cons (pe_callTy (r := rListOf K) c_listOf (by rfl) T.n_list (by decide +kernel) (pa_cons (pv 0) pa_nil)) (pa_cons pe_int (pa_cons pe_int (pa_cons pe_int pa_nil)))))))
      , ?_⟩
    walk_at "x"
    refine w_listL hS fun c H1 hc e1 k1 => ?_
    walk_at "g"
    refine w_new fun d H2 hd e2 k2 => ?_
    refine q _ d c (Same.trans k1 k2) (k1.free hd) hc ⟨⟨ns, 0, 0, 0, e2, k2 _ _ e1, Nat.le_refl _⟩, ne_of_none e1 hd⟩
theorem ok_mixed {f : Addr} {fd : FuncData} (T : Txt K mg) (F : Fun K "_law_mixed" "_law_mixed" s_law_mixed f fd) : FnOk P w K mg base CX0 1 f fd ["_law_cell", "_law_turn"] spMixed := by
  refine F.ok sc_law_mixed (fun vs H Q E h => ?_) (fun cdv A outer s H vs Q E hr h => ?_)
  · obtain ⟨x, t, rfl, _⟩ := h
    rfl
  · obtain ⟨x, t, rfl, h0, h1, q⟩ := h
    refine ⟨_,
      (pss_one
        (ps_ret (pe_op op_mod (pe_op op_pow (pe_op op_add (pe_op op_add (pe_op op_mod (pv 0) pe_int) (pe_op op_mul (pv 1) pe_int)) pe_int) pe_int) pe_int)))
      , ?_⟩
    have e := Int.emod_lt_of_pos x (show (0 : Int) < 2147483629 by decide)
    have e2 := Int.emod_nonneg x (show (2147483629 : Int) ≠ 0 by decide)
    walk_at "x"
    exact q _
theorem ok_draw {f fM : Addr} {fd fdM : FuncData} (T : Txt K mg) (F : Fun K "_law_draw" "_law_draw" s_law_draw f fd) (D_law_mixed : Df K mg "_law_mixed" s_law_mixed ["_law_cell", "_law_turn"] fM fdM) : FnOk P w K mg base CX0 2 f fd ["_law_deck_here", "_law_many"] spDraw := by
  have G_law_mixed : FnOk P w K mg base CX0 1 fM fdM ["_law_cell", "_law_turn"] spMixed := ok_mixed T D_law_mixed.fn
  refine F.ok sc_law_draw (fun vs H Q E h => ?_) (fun cdv A outer s H vs Q E hr h => ?_)
  · obtain ⟨d, c, n, m, rfl, _⟩ := h
    rfl
  · obtain ⟨d, c, n, m, rfl, ⟨⟨cs, a, b, t, e1, e2, e3⟩, ne⟩, hn, hm, hm2, q⟩ := h
    have hn' : t < 1099511627776 := Nat.lt_of_le_of_lt e3 hn
    refine ⟨_,
      (pss_cons
        (ps_set (i := 2) sc_law_draw.nd rfl (.inl rfl) (pe_ix (r := rIxL K) ix_list (pv 0) pe_int (fun _ _ => rfl)))
      (pss_cons
        (ps_asg (pe_op op_add (pe_ix (r := rIxL K) ix_list (pv 0) pe_int (fun _ _ => rfl)) pe_int) (pg_sub (pv 0) pe_int set_list))
      (pss_cons
        (ps_if (PW.pt (pw_and (pt_cmpR op_eq (pe_ix (r := rIxL K) ix_list (pv 0) pe_int (fun _ _ => rfl)) pe_int (nomark _)) (pw_and1 (pt_cmpR op_lt (pe_ix (r := rIxL K) ix_list (pv 0) pe_int (fun _ _ => rfl)) (pe_callB (r := rLen K) c_len (by rfl) T.n_len (by decide +kernel) (pa_cons (pv 2) pa_nil)) (nomark _)))))
          (pss_cons
            (ps_asg (pe_op op_add (pe_ix (r := rIxL K) ix_list (pv 0) pe_int (fun _ _ => rfl)) pe_int) (pg_sub (pv 0) pe_int set_list))
          (pss_cons
            (ps_if (pt_cmpR op_lt (pe_ix (r := rIxL K) ix_list (pv 2) (pe_op op_sub (pe_ix (r := rIxL K) ix_list (pv 0) pe_int (fun _ _ => rfl)) pe_int) (fun _ _ => rfl)) (pe_op op_pow pe_int pe_int) (nomark _))
              (pss_one
                (ps_ret (pe_op op_mod (pe_call G_law_mixed (hr.mono (by omega)) (by rfl) D_law_mixed.g D_law_mixed.fn.kp D_law_mixed.b .nil pass0 (pa_cons (pe_ix (r := rIxL K) ix_list (pv 2) (pe_op op_sub (pe_ix (r := rIxL K) ix_list (pv 0) pe_int (fun _ _ => rfl)) pe_int) (fun _ _ => rfl)) (pa_cons (pe_ix (r := rIxL K) ix_list (pv 0) pe_int (fun _ _ => rfl)) pa_nil))) (pv 1))))
              pss_nil)
          (pss_one
            (ps_asg (pe_ix (r := rIxL K) ix_list (pv 2) (pe_op op_sub (pe_ix (r := rIxL K) ix_list (pv 0) pe_int (fun _ _ => rfl)) pe_int) (fun _ _ => rfl)) (pg_sub (pv 0) pe_int set_list)))))
          pss_nil)
      (pss_cons
        (ps_if (pt_cmpR op_gt (pe_ix (r := rIxL K) ix_list (pv 0) pe_int (fun _ _ => rfl)) pe_int (nomark _))
          (pss_cons
            (ps_set (i := 3) sc_law_draw.nd rfl (.inl rfl) (pe_op op_mod (pe_ix (r := rIxL K) ix_list (pv 0) pe_int (fun _ _ => rfl)) (pv 1)))
          (pss_cons
            (ps_asg (pe_op op_fdivW (pe_ix (r := rIxL K) ix_list (pv 0) pe_int (fun _ _ => rfl)) (pv 1)) (pg_sub (pv 0) pe_int set_list))
          (pss_one
            (ps_ret (pv 3)))))
          pss_nil)
      (pss_cons
        (ps_set (i := 4) sc_law_draw.nd rfl (.inl rfl) (pe_op op_mul (pe_ix (r := rIxL K) ix_list (pv 0) pe_int (fun _ _ => rfl)) pe_int))
      (pss_cons
        (ps_if (pt_cmpR op_gt (pe_callB (r := rLen K) c_len (by rfl) T.n_len (by decide +kernel) (pa_cons (pv 2) pa_nil)) pe_int (nomark _))
          (pss_one
            (ps_set (i := 4) sc_law_draw.nd rfl (.inl rfl) (pe_op op_add (pv 4) (pe_op op_mod (pe_ix (r := rIxL K) ix_list (pv 2) (pe_op op_mod (pe_op op_mul (pe_ix (r := rIxL K) ix_list (pv 0) pe_int (fun _ _ => rfl)) pe_int) (pe_callB (r := rLen K) c_len (by rfl) T.n_len (by decide +kernel) (pa_cons (pv 2) pa_nil))) (fun _ _ => rfl)) pe_int))))
          pss_nil)
      (pss_one
        (ps_ret (pe_op op_mod (pe_call G_law_mixed (hr.mono (by omega)) (by rfl) D_law_mixed.g D_law_mixed.fn.kp D_law_mixed.b .nil pass0 (pa_cons (pv 4) (pa_cons (pe_ix (r := rIxL K) ix_list (pv 0) pe_int (fun _ _ => rfl)) pa_nil))) (pv 1))))))))))
      , ?_⟩
    rw [show L2.start N_law_draw [V.ref d, V.int m] = [some (.ref d), some (.int m), none, none, none] from rfl]
    -- cells = deck[0]; deck[3] = deck[3] + 1
    walk_at "x"
    refine w_setL e1 rfl rfl fun H1 g0 o0 => ?_
    have fin : ∀ (H' : Hp) (a' : Nat) (b' i : Int), 0 ≤ i → i < m → H' d = some (.lst [.ref c, .int a', .int b', .int (t + 1)]) → Off d H H' → Q (.int i) H' := fun H' a' b' i i0 i1 g1 g2 => by
      have z := q i.toNat H' (by omega) ⟨⟨cs, a', b', t + 1, g1, (g2 c ne).trans e2, by omega⟩, ne⟩ g2
      rw [Int.toNat_of_nonneg i0] at z
      exact z
    have md : ∀ x : Int, 0 ≤ x % m ∧ x % m < m := fun x => ⟨Int.emod_nonneg x (by omega), Int.emod_lt_of_pos x hm⟩
    have g0 : H1 d = some (.lst [.ref c, .int a, .int b, .int ((t : Int) + 1)]) := g0
    have c1 : H1 c = some (.lst (cs.map V.int)) := (o0 c ne).trans e2
    -- if deck[2] == 0 and deck[1] < len(cells): ..
    refine w_seqJ (fun σ' H2 => σ' = [some (.ref d), some (.int m), some (.ref c), none, none] ∧ ∃ (a' : Nat) (b' : Int), H2 d = some (.lst [.ref c, .int a', .int b', .int ((t : Int) + 1)]) ∧ Off d H H2) ?_ ?_
    · rintro σ' H2 ⟨rfl, a', b', g2, o2⟩
      have c2 : H2 c = some (.lst (cs.map V.int)) := (o2 c ne).trans e2
      refine w_seqJ (fun σ' H3 => σ' = [some (.ref d), some (.int m), some (.ref c), none, none] ∧ H3 = H2) ?_ ?_
      · rintro σ' H3 ⟨rfl, rfl⟩
        -- number = deck[3] * 48271; if len(cells) > 0: ..
        walk_at "g"
        refine w_seqJ (fun σ' H4 => (∃ z : Int, σ' = [some (.ref d), some (.int m), some (.ref c), none, some (.int z)]) ∧ H4 = H3) ?_ ?_
        · rintro σ' H4 ⟨⟨z, rfl⟩, rfl⟩
          walk_at "g"
          refine ⟨_, _, rfl, by omega, by omega, fun y => ?_⟩
          walk_at "g"
          exact fin _ a' b' _ (md y).1 (md y).2 g2 o2
        · intro U hU
          walk_at "g"
          refine w_ite (fun hl => ?_) (fun hl => ?_)
          · obtain ⟨v, hv1, hv2⟩ := at_lt (xs := cs.map V.int) (i := ((t : Int) + 1) * 7 % ((cs.map V.int).length : Int)) (Int.emod_nonneg _ (by omega)) (Int.emod_lt_of_pos _ hl)
            rw [List.getElem?_map] at hv1
            obtain ⟨y, _, rfl⟩ := Option.map_eq_some_iff.mp hv1
            walk_at "g"
            exact hU _ _ ⟨⟨_, rfl⟩, rfl⟩
          · exact hU _ _ ⟨⟨_, rfl⟩, rfl⟩
      · intro U hU
        walk_at "g"
        refine w_ite (fun hl => ?_) (fun hl => ?_)
        · walk_at "g"
          refine w_setL g2 rfl rfl fun H9 g9 o9 => ?_
          walk_at "g"
          exact fin _ a' (b' / m) _ (md b').1 (md b').2 g9 (o2.trans o9)
        · exact hU _ _ ⟨rfl, rfl⟩
    · intro U hU
      have no : U [some (.ref d), some (.int m), some (.ref c), none, none] H1 := hU _ _ ⟨rfl, a, b, g0, o0⟩
      walk_at "g"
      refine w_ite (fun hl => ?_) (fun _ => no)
      walk_at "g"
      refine w_ite (fun hl2 => ?_) (fun _ => no)
      obtain ⟨v, hv1, hv2⟩ := at_lt (xs := cs.map V.int) (i := ((a + 1 : Nat) : Int) - 1) (by omega) (by omega)
      rw [List.getElem?_map] at hv1
      obtain ⟨y, _, rfl⟩ := Option.map_eq_some_iff.mp hv1
      walk_at "g"
      refine w_setL g0 rfl rfl fun H2 g2 o2 => ?_
      have g2 : H2 d = some (.lst [.ref c, .int ((a + 1 : Nat) : Int), .int b, .int ((t : Int) + 1)]) := g2
      have o2 : Off d H H2 := o0.trans o2
      have c2 : H2 c = some (.lst (cs.map V.int)) := (o2 c ne).trans e2
      refine w_seq ?_
      walk_at "g"
      refine w_ite (fun hl => ?_) (fun hl => ?_)
      · walk_at "g"
        refine ⟨_, _, rfl, by omega, by omega, fun y => ?_⟩
        walk_at "g"
        exact fin _ (a + 1) b _ (md y).1 (md y).2 g2 o2
      · walk_at "g"
        refine w_setL g2 rfl rfl fun H9 g9 o9 => ?_
        exact hU _ _ ⟨rfl, a + 1, y, g9, o2.trans o9⟩
end
/-! ### shapes on the heap -/
def VL (H : Hp) (a : Addr) (vs : List Int) : Prop := H a = some (.tup (vs.map V.int))
def PL (H : Hp) (b : Addr) (ps : List (Addr × Int × Int)) : Prop := H b = some (.tup (ps.map fun q => .ref q.1)) ∧ ∀ q ∈ ps, H q.1 = some (.tup [.int q.2.1, .int q.2.2])
def ShAt (H : Hp) (t : Addr) (vs : List Int) (ps : List (Addr × Int × Int)) : Prop := ∃ a b, H t = some (.tup [.ref a, .ref b]) ∧ VL H a vs ∧ PL H b ps
theorem VL.kt {H H' : Hp} {a : Addr} {vs : List Int} (h : VL H a vs) (k : KT H H') : VL H' a vs := k _ _ h
theorem PL.kt {H H' : Hp} {a : Addr} {ps : List (Addr × Int × Int)} (h : PL H a ps) (k : KT H H') : PL H' a ps := ⟨k _ _ h.1, fun q hq => k _ _ (h.2 q hq)⟩
theorem ShAt.kt {H H' : Hp} {t : Addr} {vs : List Int} {ps : List (Addr × Int × Int)} (h : ShAt H t vs ps) (k : KT H H') : ShAt H' t vs ps := by
  obtain ⟨a, b, e, v, p⟩ := h
  exact ⟨a, b, k _ _ e, v.kt k, p.kt k⟩
def LexL (x y : Int × Int) : Prop := x.1 < y.1 ∨ x.1 = y.1 ∧ x.2 < y.2
structure ShOk (vs : List Int) (ls : List (Int × Int)) : Prop where
  vr : vs.Pairwise (· < ·)
  v0 : ∀ v ∈ vs, 0 ≤ v
  lr : ls.Pairwise LexL
  lm : ∀ q ∈ ls, q.1 ∈ vs ∧ q.2 ∈ vs ∧ q.2 < q.1
theorem drop_of {α : Type} {xs : List α} {i : Nat} {x : α} (h : xs[i]? = some x) : xs.drop i = x :: xs.drop (i + 1) := by
  obtain ⟨h1, h2⟩ := List.getElem?_eq_some_iff.mp h
  rw [List.drop_eq_getElem_cons h1, h2]
theorem map_at {α : Type} {f : α → V} {xs : List α} {i : Nat} {v : V} (h : (xs.map f)[i]? = some v) : ∃ x, xs[i]? = some x ∧ v = f x := by
  rw [List.getElem?_map] at h
  obtain ⟨y, h1, h2⟩ := Option.map_eq_some_iff.mp h
  exact ⟨y, h1, h2.symm⟩
/-! ### shapes as they are drawn: the lists while they grow -/
structure LInv (vs : List Int) (z : Int) (j : Nat) (ls : List (Int × Int)) : Prop where
  pw : ls.Pairwise LexL
  mem : ∀ q ∈ ls, (q.1 ∈ vs ∧ q.2 ∈ vs ∧ q.2 < q.1) ∨ (q.1 = z ∧ q.2 ∈ vs.take j)
theorem LInv.skip {vs : List Int} {z : Int} {j : Nat} {ls : List (Int × Int)} (h : LInv vs z j ls) : LInv vs z (j + 1) ls := by
  refine ⟨h.pw, fun q hq => ?_⟩
  rcases h.mem q hq with a | ⟨a, b⟩
  · exact .inl a
  · exact .inr ⟨a, List.mem_of_mem_take (by rw [List.take_take, Nat.min_eq_left (Nat.le_succ j)]; exact b)⟩
theorem take_lt {vs : List Int} (h : vs.Pairwise (· < ·)) {j : Nat} {t x : Int} (ht : vs[j]? = some t) (hx : x ∈ vs.take j) : x < t := by
  have e : vs = vs.take j ++ vs.drop j := (List.take_append_drop j vs).symm
  rw [e, List.pairwise_append] at h
  refine h.2.2 x hx t ?_
  rw [drop_of ht]
  simp
theorem LInv.snoc {vs : List Int} {z t : Int} {j : Nat} {ls : List (Int × Int)} (h : LInv vs z j ls) (hv : vs.Pairwise (· < ·)) (hz : ∀ v ∈ vs, v < z) (ht : vs[j]? = some t) : LInv vs z (j + 1) (ls ++ [(z, t)]) := by
  constructor
  · rw [List.pairwise_append]
    refine ⟨h.pw, List.pairwise_singleton _ _, fun q hq y hy => ?_⟩
    have e : y = (z, t) := by simpa using hy
    subst e
    rcases h.mem q hq with a | ⟨a, b⟩
    · exact .inl (hz _ a.1)
    · exact .inr ⟨a, take_lt hv ht b⟩
  · intro q hq
    rcases List.mem_append.mp hq with a | a
    · exact h.skip.mem q a
    · have e : q = (z, t) := by simpa using a
      subst e
      refine .inr ⟨rfl, ?_⟩
      rw [List.take_add_one, ht]
      simp
theorem LInv.start {vs : List Int} {ls : List (Int × Int)} (h : ShOk vs ls) (z : Int) : LInv vs z 0 ls := ⟨h.lr, fun q hq => .inl (h.lm q hq)⟩
theorem LInv.done {vs : List Int} {z : Int} {j : Nat} {ls : List (Int × Int)} (h : LInv vs z j ls) (hv : vs.Pairwise (· < ·)) (h0 : ∀ v ∈ vs, 0 ≤ v) (hz : ∀ v ∈ vs, v < z) (z0 : 0 ≤ z) : ShOk (vs ++ [z]) ls := by
  refine ⟨?_, fun v hv' => ?_, h.pw, fun q hq => ?_⟩
  · rw [List.pairwise_append]
    exact ⟨hv, List.pairwise_singleton _ _, fun x hx y hy => by
      have e : y = z := by simpa using hy
      subst e
      exact hz x hx⟩
  · rcases List.mem_append.mp hv' with a | a
    · exact h0 v a
    · have e : v = z := by simpa using a
      subst e
      exact z0
  · rcases h.mem q hq with ⟨a, b, c⟩ | ⟨a, b⟩
    · exact ⟨List.mem_append_left _ a, List.mem_append_left _ b, c⟩
    · have m := List.mem_of_mem_take b
      exact ⟨by rw [a]; simp, List.mem_append_left _ m, by rw [a]; exact hz _ m⟩
theorem pick4 {j : Nat} (h : (j : Int) < 4) : ∃ m : Int, atI [V.int 3, V.int 2, V.int 6, V.int 9] (j : Int) = some (.int m) ∧ 0 < m ∧ m < 2 ^ 64 := by
  match j, h with
  | 0, _ => exact ⟨3, rfl, by decide, by decide⟩
  | 1, _ => exact ⟨2, rfl, by decide, by decide⟩
  | 2, _ => exact ⟨6, rfl, by decide, by decide⟩
  | 3, _ => exact ⟨9, rfl, by decide, by decide⟩
  | j + 4, h => omega
theorem mostd {n m : Nat} (h : n + 10000 ≤ MOSTD) (e : m < 10000) : n + m < MOSTD := by omega
theorem at_map {vs : List Int} {j : Nat} {t : Int} (h : vs[j]? = some t) : atI (vs.map V.int) (j : Int) = some (.int t) := atI_nat (by rw [List.getElem?_map, h]; rfl)
def spShape : Sp := fun vs H Q _ => ∃ (d c : Addr) (n m : Nat), vs = [.ref d, .int m] ∧ Deck H d c n ∧ n + 10000 ≤ MOSTD ∧ m ≤ 60 ∧
  ∀ H' t ns ps, Deck H' d c (n + 10000) → Kp [d] H H' → ShAt H' t ns ps → ShOk ns (ps.map (·.2)) → ns.length ≤ m → ps.length ≤ 100 * m → Q (.ref t) H'
section
variable {P : Program} {w : World} {K : PySem.W.Frag} {mg : Str → Option Value} {base : Heap}
theorem ok_shape {f fM fD : Addr} {fd fdM fdD : FuncData} (T : Txt K mg) (F : Fun K "_law_shape" "_law_shape" s_law_shape f fd) (D_law_mixed : Df K mg "_law_mixed" s_law_mixed ["_law_cell", "_law_turn"] fM fdM)
    (D_law_draw : Df K mg "_law_draw" s_law_draw ["_law_deck_here", "_law_many"] fD fdD) : FnOk P w K mg base CX0 3 f fd ["_law_deck_here", "_law_most"] spShape := by
  have G_law_draw : FnOk P w K mg base CX0 2 fD fdD ["_law_deck_here", "_law_many"] spDraw := ok_draw T D_law_draw.fn D_law_mixed
  refine F.ok sc_law_shape (fun vs H Q E h => ?_) (fun cdv A outer s H vs Q E hr h => ?_)
  · obtain ⟨d, c, n, m, rfl, _⟩ := h
    rfl
  · obtain ⟨d, c, n, m, rfl, D0, hn, hm, q⟩ := h
    refine ⟨_,
      (pss_cons
        (ps_set (i := 2) sc_law_shape.nd rfl (.inl rfl) (pe_lst pa_nil))
      (pss_cons
        (ps_set (i := 3) sc_law_shape.nd rfl (.inl rfl) (pe_un un_neg pe_int))
      (pss_cons
        (ps_set (i := 4) sc_law_shape.nd rfl (.inl rfl) (pe_call G_law_draw (hr.mono (by omega)) (by rfl) D_law_draw.g D_law_draw.fn.kp D_law_draw.b .nil pass0 (pa_cons (pv 0) (pa_cons pe_int pa_nil))))
      (pss_cons
        (ps_set (i := 5) sc_law_shape.nd rfl (.inl rfl) (pe_call G_law_draw (hr.mono (by omega)) (by rfl) D_law_draw.g D_law_draw.fn.kp D_law_draw.b .nil pass0 (pa_cons (pv 0) (pa_cons pe_int pa_nil))))
      (pss_cons
        (ps_set (i := 6) sc_law_shape.nd rfl (.inl rfl) (pe_lst pa_nil))
      (pss_cons
        (ps_for PassesOwn.never rfl (pi_range1 (by rfl) T.n_range (pa_cons (pe_call G_law_draw (hr.mono (by omega)) (by rfl) D_law_draw.g D_law_draw.fn.kp D_law_draw.b .nil pass0 (pa_cons (pv 0) (pa_cons (pe_op op_add (pv 1) pe_int) pa_nil))) pa_nil)) (pg_name (i := 7) sc_law_shape.nd rfl (.inl rfl))
          (pss_cons
            (ps_set (i := 3) sc_law_shape.nd rfl (.inl rfl) (pe_op op_add (pe_op op_add (pv 3) pe_int) (pe_call G_law_draw (hr.mono (by omega)) (by rfl) D_law_draw.g D_law_draw.fn.kp D_law_draw.b .nil pass0 (pa_cons (pv 0) (pa_cons pe_int pa_nil)))))
          (pss_cons
            (ps_if (PW.pt (pw_and (pt_cmpR op_eq (pv 4) pe_int (nomark _)) (pw_and1 (pt_cmpR op_eq (pe_call G_law_draw (hr.mono (by omega)) (by rfl) D_law_draw.g D_law_draw.fn.kp D_law_draw.b .nil pass0 (pa_cons (pv 0) (pa_cons pe_int pa_nil))) pe_int (nomark _)))))
              (pss_one
                (ps_set (i := 3) sc_law_shape.nd rfl (.inl rfl) (pe_op op_add (pv 3) (pe_call G_law_draw (hr.mono (by omega)) (by rfl) D_law_draw.g D_law_draw.fn.kp D_law_draw.b .nil pass0 (pa_cons (pv 0) (pa_cons (pe_op op_pow pe_int pe_int) pa_nil))))))
              pss_nil)
          (pss_cons
            (ps_for PassesOwn.never rfl (pi_range1 (by rfl) T.n_range (pa_cons (pv 7) pa_nil)) (pg_name (i := 8) sc_law_shape.nd rfl (.inl rfl))
              (pss_cons
                (ps_set (i := 9) sc_law_shape.nd rfl (.inl rfl) (pe_cmpR op_eq (pe_call G_law_draw (hr.mono (by omega)) (by rfl) D_law_draw.g D_law_draw.fn.kp D_law_draw.b .nil pass0 (pa_cons (pv 0) (pa_cons (pe_ix (r := rIxL K) ix_list (pe_lst (pa_cons pe_int (pa_cons pe_int (pa_cons pe_int (pa_cons pe_int pa_nil))))) (pv 5) (fun _ _ => rfl)) pa_nil))) pe_int (nomark _)))
              (pss_cons
                (ps_if (PW.pt (pw_and (pt_cmpR op_eq (pv 5) pe_int (nomark _)) (pw_and1 (pt_cmpR op_gt (pe_op op_sub (pv 7) (pv 8)) pe_int (nomark _)))))
                  (pss_one
                    (ps_set (i := 9) sc_law_shape.nd rfl (.inl rfl) pe_bl))
                  pss_nil)
              (pss_cons
                (ps_if (PW.pt (pw_and (pt_cmpR op_eq (pv 5) pe_int (nomark _)) (pw_and1 (pt_cmpR op_eq (pv 8) (pe_op op_sub (pv 7) pe_int) (nomark _)))))
                  (pss_one
                    (ps_set (i := 9) sc_law_shape.nd rfl (.inl rfl) pe_bl))
                  pss_nil)
              (pss_one
                (ps_if (pt_val (pv 9))
                  (pss_one
                    (ps_expr (pe_bm PySem.F.plainAttrs_list PySem.F.slot_list_append PySem.F.type_list_append mt_append (pv 6) (pa_cons (pe_tup (pa_cons (pv 3) (pa_cons (pe_ix (r := rIxL K) ix_list (pv 2) (pv 8) (fun _ _ => rfl)) pa_nil))) pa_nil))))
                  pss_nil))))))
          (pss_one
            (ps_expr (pe_bm PySem.F.plainAttrs_list PySem.F.slot_list_append PySem.F.type_list_append mt_append (pv 2) (pa_cons (pv 3) pa_nil))))))))
      (pss_one
        (ps_ret (pe_tup (pa_cons (pe_callTy (r := rTupOf K) c_tupOf (by rfl) T.n_tuple (by decide +kernel) (pa_cons (pv 2) pa_nil)) (pa_cons (pe_callTy (r := rTupOf K) c_tupOf (by rfl) T.n_tuple (by decide +kernel) (pa_cons (pv 6) pa_nil)) pa_nil)))))))))))
      , ?_⟩
    rw [show L2.start N_law_shape [V.ref d, V.int m] = [some (.ref d), some (.int m), none, none, none, none, none, none, none, none] from rfl]
    walk_at "x"
    refine w_new fun l1 H1 hl1 e1 k1 => ?_
    have D1 := D0.kp (M := []) (Kp.of k1) (by simp) (by simp)
    obtain ⟨n1d, n1c⟩ := D0.ne1 hl1
    walk_at "g"
    refine w_draw D1 (mostd (m := 0) hn (by omega)) (by decide) (by decide) fun far H2 hfar D2 o2 => ?_
    walk_at "g"
    refine w_draw D2 (mostd (m := 1) hn (by omega)) (by decide) (by decide) fun road H3 hroad D3 o3 => ?_
    walk_at "g"
    have e3 := o3.get n1d (o2.get n1d e1)
    refine w_new fun l2 H4 hl2 e4 k4 => ?_
    have D4 := D3.kp (M := []) (Kp.of k4) (by simp) (by simp)
    obtain ⟨n2d, n2c⟩ := D3.ne1 hl2
    have n21 : l1 ≠ l2 := ne_of_none e3 hl2
    have e1' := k4 _ _ e3
    have kk : Kp [d] H H4 := (Kp.of k1).trans ((o2.kp (by simp)).trans ((o3.kp (by simp)).trans (Kp.of k4)))
    have hl2H : H l2 = none := nofree (((Kp.of k1).trans ((o2.kp (by simp)).trans (o3.kp (by simp)))) : Kp [d] H H3) (by simpa using n2d) hl2
    walk_at "g"
    refine w_draw D4 (mostd (m := 2) hn (by omega)) (by omega) (by omega) fun many H5 hmany D5 o5 => ?_
    walk_at "g"
    refine lp_range (fun k σ H' => ∃ (ns : List Int) (ps : List (Addr × Int × Int)) (last : Int) (y7 y8 y9 : Option V), σ = [some (.ref d), some (.int m), some (.ref l1), some (.int last), some (.int far), some (.int road), some (.ref l2), y7, y8, y9] ∧
      Deck H' d c (n + 3 + 100 * k) ∧ H' l1 = some (.lst (ns.map V.int)) ∧ H' l2 = some (.lst (ps.map fun q => .ref q.1)) ∧ (∀ q ∈ ps, H' q.1 = some (.tup [.int q.2.1, .int q.2.2])) ∧
      ns.length = k ∧ ShOk ns (ps.map (·.2)) ∧ (∀ v ∈ ns, v ≤ last) ∧ -1 ≤ last ∧ ps.length ≤ 100 * k ∧ Kp [d] H H') ?_ ?_ ?_
    · exact ⟨[], [], -1, none, none, none, rfl, D5, o5.get n1d e1', o5.get n2d e4, by simp, rfl, ⟨List.Pairwise.nil, by simp, List.Pairwise.nil, by simp⟩, by simp, by omega, Nat.zero_le _, kk.trans (o5.kp (by simp))⟩
    · rintro k σ H6 hk ⟨ns, ps, last, y7, y8, y9, rfl, D6, el1, el2, hps, hlen, S, hlast, hl1', hpl, k6⟩
      have hk60 : k < 60 := by omega
      walk_at "g"
      refine w_draw D6 (by have : 3 + 100 * k < 10000 := by omega
                           omega) (by decide) (by decide) fun r1 H7 hr1 D7 o7 => ?_
      walk_at "g"
      -- last is raised
      refine w_seqJ (fun σ' H' => ∃ (z : Int), σ' = [some (.ref d), some (.int m), some (.ref l1), some (.int z), some (.int far), some (.int road), some (.ref l2), some (.int (0 + k)), y8, y9] ∧ last < z ∧ Deck H' d c (n + 3 + 100 * k + 3) ∧ Off d H6 H') ?_ ?_
      · rintro σ' H8 ⟨z, rfl, hz, D8, o8⟩
        have hzv : ∀ v ∈ ns, v < z := fun v hv => by have := hlast v hv; omega
        have hps8 : ∀ q ∈ ps, H8 q.1 = some (.tup [.int q.2.1, .int q.2.2]) := fun q hq => by
          obtain ⟨⟨xs, e⟩, _⟩ := D6.at
          exact o8.tup e (hps q hq)
        walk_at "g"
        refine lp_range (fun j σ H' => ∃ (ps' : List (Addr × Int × Int)) (y8 y9 : Option V), σ = [some (.ref d), some (.int m), some (.ref l1), some (.int z), some (.int far), some (.int road), some (.ref l2), some (.int (0 + k)), y8, y9] ∧
          Deck H' d c (n + 3 + 100 * k + 3 + j) ∧ H' l1 = some (.lst (ns.map V.int)) ∧ H' l2 = some (.lst (ps'.map fun q => .ref q.1)) ∧ (∀ q ∈ ps', H' q.1 = some (.tup [.int q.2.1, .int q.2.2])) ∧
          LInv ns z j (ps'.map (·.2)) ∧ ps'.length ≤ 100 * k + j ∧ Kp [d] H H') ?_ ?_ ?_
        · exact ⟨ps, _, _, rfl, D8, o8.get n1d el1, o8.get n2d el2, hps8, LInv.start S z, hpl, k6.trans (o8.kp (by simp))⟩
        · rintro j σ H9 hj ⟨ps', w8, w9, rfl, D9, g1, g2, gp, L, hpl', k9⟩
          have hjk : j < k := by omega
          have hjn : j < ns.length := by omega
          obtain ⟨t, ht⟩ : ∃ t, ns[j]? = some t := ⟨ns[j], List.getElem?_eq_getElem hjn⟩
          walk_at "g"
          refine w_new fun pp H10 hpp e10 k10 => ?_
          have D10 := D9.kp (M := []) (Kp.of k10) (by simp) (by simp)
          obtain ⟨npd, npc⟩ := D9.ne1 hpp
          obtain ⟨mm, emm, hmm0, hmm1⟩ := pick4 hroad
          walk_at "g"
          refine w_draw D10 (by have : 3 + 100 * k + 3 + j < 10000 := by omega
                                omega) hmm0 hmm1 fun r2 H11 hr2 D11 o11 => ?_
          walk_at "g"
          have g1' := o11.get n1d (k10 _ _ g1)
          have g2' := o11.get n2d (k10 _ _ g2)
          have gp' : ∀ q ∈ ps', H11 q.1 = some (.tup [.int q.2.1, .int q.2.2]) := fun q hq => by
            obtain ⟨⟨xs, e⟩, _⟩ := D10.at
            exact o11.tup e (k10 _ _ (gp q hq))
          have k11 : Kp [d] H H11 := k9.trans ((Kp.of k10).trans (o11.kp (by simp)))
          refine w_seqJ (fun σ' H' => (∃ b : Bool, σ' = [some (.ref d), some (.int m), some (.ref l1), some (.int z), some (.int far), some (.int road), some (.ref l2), some (.int (0 + k)), some (.int (0 + j)), some (.bl b)]) ∧ H' = H11) ?_ ?_
          · rintro σ' H' ⟨⟨b1, rfl⟩, rfl⟩
            refine w_seqJ (fun σ' H'' => (∃ b : Bool, σ' = [some (.ref d), some (.int m), some (.ref l1), some (.int z), some (.int far), some (.int road), some (.ref l2), some (.int (0 + k)), some (.int (0 + j)), some (.bl b)]) ∧ H'' = H') ?_ ?_
            · rintro σ' H'' ⟨⟨b2, rfl⟩, rfl⟩
              walk_at "g"
              refine w_itB (fun _ => ?_) (fun _ => ?_)
              · have hat := at_map ht
                rw [show (j : Int) = 0 + (j : Int) by omega] at hat
                walk_at "g"
                refine w_new fun pr H12 hpr e12 k12 => ?_
                have g2'' := k12 _ _ g2'
                walk_at "g"
                refine w_app g2'' (by rw [List.length_map]; exact Nat.lt_of_le_of_lt (show ps'.length ≤ 10000 by omega) (by decide)) fun H13 e13 o13 => ?_
                have D12 := D11.kp (M := []) (Kp.of k12) (by simp) (by simp)
                refine ⟨ps' ++ [(pr, z, t)], _, _, rfl, D12.kp (M := [l2]) (o13.kp (by simp)) (by simpa using Ne.symm n2d) (by simpa using Ne.symm n2c), o13.get n21 (k12 _ _ g1'), by rw [e13, List.map_append]; rfl, ?_, ?_, by rw [List.length_append]; simp; omega, Off.keep (k11.trans (Kp.of k12)) o13 hl2H⟩
                · intro q hq
                  rcases List.mem_append.mp hq with a | a
                  · exact o13.tup g2'' (k12 _ _ (gp' q a))
                  · have e : q = (pr, z, t) := by simpa using a
                    subst e
                    exact o13.tup g2'' e12
                · rw [List.map_append]
                  exact L.snoc S.vr hzv ht
              · walk_at "g"
                exact ⟨ps', _, _, rfl, D11, g1', g2', gp', L.skip, by omega, k11⟩
            · intro U hU
              walk_at "g"
              refine w_ite (fun _ => ?_) (fun _ => hU _ _ ⟨⟨_, rfl⟩, rfl⟩)
              walk_at "g"
              refine w_ite (fun _ => ?_) (fun _ => hU _ _ ⟨⟨_, rfl⟩, rfl⟩)
              walk_at "g"
              exact hU _ _ ⟨⟨_, rfl⟩, rfl⟩
          · intro U hU
            walk_at "g"
            refine w_ite (fun _ => ?_) (fun _ => hU _ _ ⟨⟨_, rfl⟩, rfl⟩)
            walk_at "g"
            refine w_ite (fun _ => ?_) (fun _ => hU _ _ ⟨⟨_, rfl⟩, rfl⟩)
            walk_at "g"
            exact hU _ _ ⟨⟨_, rfl⟩, rfl⟩
        · rintro σ H9 ⟨ps', w8, w9, rfl, D9, g1, g2, gp, L, hpl', k9⟩
          walk_at "g"
          refine w_app g1 (by rw [List.length_map]; exact small1000 (by omega)) fun H10 e10 o10 => ?_
          have hkk : (0 + (k : Int)).toNat = k := by omega
          rw [hkk] at L D9
          have kz : Kp [d] H H10 := Off.keep k9 o10 hl1
          refine ⟨ns ++ [z], ps', z, _, _, _, rfl, (D9.kp (M := [l1]) (o10.kp (by simp)) (by simpa using Ne.symm n1d) (by simpa using Ne.symm n1c)).mono (by omega), by rw [e10, List.map_append]; rfl, o10.get (Ne.symm n21) g2, fun q hq => o10.tup g1 (gp q hq), by rw [List.length_append]; simp; omega, L.done S.vr S.v0 hzv (by omega), ?_, by omega, by omega, kz⟩
          intro v hv
          rcases List.mem_append.mp hv with a | a
          · have := hzv v a
            omega
          · have e : v = z := by simpa using a
            omega
      · intro U hU
        walk_at "g"
        refine w_ite (fun _ => ?_) (fun _ => hU _ _ ⟨_, rfl, by omega, D7.mono (by omega), o7⟩)
        walk_at "g"
        refine w_draw D7 (by have : 3 + 100 * k + 1 < 10000 := by omega
                             omega) (by decide) (by decide) fun r2 H8 hr2 D8 o8 => ?_
        walk_at "g"
        refine w_ite (fun _ => ?_) (fun _ => hU _ _ ⟨_, rfl, by omega, D8.mono (by omega), o7.trans o8⟩)
        walk_at "g"
        refine w_draw D8 (by have : 3 + 100 * k + 2 < 10000 := by omega
                             omega) (by decide) (by decide) fun r3 H9 hr3 D9 o9 => ?_
        walk_at "g"
        exact hU _ _ ⟨_, rfl, by omega, D9, o7.trans (o8.trans o9)⟩
    · rintro σ H6 ⟨ns, ps, last, y7, y8, y9, rfl, D6, el1, el2, hps, hlen, S, hlast, hl1', hpl, k6⟩
      walk_at "g"
      refine w_tupL (.of el1) fun t1 H7 ht1 e7 k7 => ?_
      have el2' := k7 _ _ el2
      walk_at "g"
      refine w_tupL (.of el2') fun t2 H8 ht2 e8 k8 => ?_
      walk_at "g"
      refine w_new fun t3 H9 ht3 e9 k9 => ?_
      have ks := Same.trans k7 (Same.trans k8 k9)
      refine q H9 t3 ns ps ((D6.kp (M := []) (Kp.of ks) (by simp) (by simp)).mono (by omega)) (k6.trans (Kp.of ks)) ⟨t1, t2, e9, k9 _ _ (k8 _ _ e7), k9 _ _ e8, fun q hq => ks _ _ (hps q hq)⟩ S (by omega) (by omega)
end
/-! ### what is below what -/
inductive Bel (ls : List (Int × Int)) : Int → Int → Prop where
  | refl (v : Int) : Bel ls v v
  | step {v p x : Int} (h : (v, p) ∈ ls) (r : Bel ls p x) : Bel ls v x
theorem Bel.mem {vs : List Int} {ls : List (Int × Int)} (S : ShOk vs ls) {v x : Int} (h : Bel ls v x) (hv : v ∈ vs) : x ∈ vs := by
  induction h with
  | refl v => exact hv
  | step h r ih => exact ih (S.lm _ h).2.1
theorem Bel.le {vs : List Int} {ls : List (Int × Int)} (S : ShOk vs ls) {v x : Int} (h : Bel ls v x) : x ≤ v := by
  induction h with
  | refl v => omega
  | step h r ih => have := (S.lm _ h).2.2; dsimp only at this; omega
theorem Bel.trans {ls : List (Int × Int)} {a b c : Int} (h : Bel ls a b) (r : Bel ls b c) : Bel ls a c := by
  induction h with
  | refl v => exact r
  | step h _ ih => exact .step h (ih r)
theorem Bel.iff {ls : List (Int × Int)} {v x : Int} : Bel ls v x ↔ x = v ∨ ∃ p, (v, p) ∈ ls ∧ Bel ls p x := by
  constructor
  · intro h
    cases h with
    | refl => exact .inl rfl
    | step h r => exact .inr ⟨_, h, r⟩
  · rintro (rfl | ⟨p, h, r⟩)
    · exact .refl _
    · exact .step h r
theorem rise_ext : ∀ (xs ys : List Int), xs.Pairwise (· < ·) → ys.Pairwise (· < ·) → (∀ x, x ∈ xs ↔ x ∈ ys) → xs = ys
  | [], [], _, _, _ => rfl
  | [], y :: ys, _, _, h => by have := (h y).mpr (by simp); simp at this
  | x :: xs, [], _, _, h => by have := (h x).mp (by simp); simp at this
  | x :: xs, y :: ys, h1, h2, h => by
    rw [List.pairwise_cons] at h1 h2
    have e : x = y := by
      have a := (h x).mp (by simp)
      have b := (h y).mpr (by simp)
      rcases List.mem_cons.mp a with a | a
      · exact a
      · rcases List.mem_cons.mp b with b | b
        · exact b.symm
        · have := h2.1 x a
          have := h1.1 y b
          omega
    subst e
    rw [rise_ext xs ys h1.2 h2.2 fun z => ?_]
    constructor
    · intro hz
      rcases List.mem_cons.mp ((h z).mp (by simp [hz])) with e | e
      · have := h1.1 z hz
        omega
      · exact e
    · intro hz
      rcases List.mem_cons.mp ((h z).mpr (by simp [hz])) with e | e
      · have := h2.1 z hz
        omega
      · exact e
structure RowOk (ls : List (Int × Int)) (v : Int) (ys : List Int) : Prop where
  rise : ys.Pairwise (· < ·)
  mem : ∀ x, x ∈ ys ↔ Bel ls v x
theorem RowOk.uniq {ls : List (Int × Int)} {v : Int} {ys zs : List Int} (a : RowOk ls v ys) (b : RowOk ls v zs) : ys = zs :=
  rise_ext _ _ a.rise b.rise fun x => (a.mem x).trans (b.mem x).symm
/-- a rising order of unlike numbers is strictly rising -/
theorem strict_of {ys ks : List Int} (p : ys.Perm ks) (s : ys.Pairwise (· ≤ ·)) (n : ks.Nodup) : ys.Pairwise (· < ·) := by
  have h : ys.Nodup := p.nodup_iff.mpr n
  have h2 : ys.Pairwise (fun a b => a ≤ b ∧ a ≠ b) := s.and h
  exact h2.imp fun {a b} z => by omega
def addK (ks : List Int) (x : Int) : List Int := if x ∈ ks then ks else ks ++ [x]
theorem mem_addK {ks : List Int} {x y : Int} : y ∈ addK ks x ↔ y ∈ ks ∨ y = x := by
  unfold addK
  by_cases h : x ∈ ks
  · rw [if_pos h]
    constructor
    · exact .inl
    · rintro (a | rfl)
      · exact a
      · exact h
  · rw [if_neg h]
    simp
theorem nd_addK {ks : List Int} {x : Int} (h : ks.Nodup) : (addK ks x).Nodup := by
  unfold addK
  by_cases e : x ∈ ks
  · rw [if_pos e]; exact h
  · rw [if_neg e]
    exact List.nodup_append.mpr ⟨h, by simp, fun a ha b hb => by
      have : b = x := by simpa using hb
      subst this
      exact fun z => e (z ▸ ha)⟩
theorem putK_keys {fk : List (Key × V)} {ks : List Int} {x : Int} {v : V} (h : fk.map (·.1) = ks.map (Sum.inl : Int → Key)) : (putK fk (Sum.inl x) v).map (·.1) = (addK ks x).map (Sum.inl : Int → Key) := by
  have he : (fk.any fun kv => decide (kv.1 = (Sum.inl x : Key))) = true ↔ x ∈ ks := by
    rw [List.any_eq_true]
    constructor
    · rintro ⟨kv, hk, e⟩
      have m : (Sum.inl x : Key) ∈ ks.map Sum.inl := by
        rw [← h, ← of_decide_eq_true e]
        exact List.mem_map_of_mem hk
      obtain ⟨y, hy, e2⟩ := List.mem_map.mp m
      exact Sum.inl.inj e2 ▸ hy
    · intro hx
      have m : (Sum.inl x : Key) ∈ fk.map (·.1) := by
        rw [h]
        exact List.mem_map_of_mem hx
      obtain ⟨kv, hk, e⟩ := List.mem_map.mp m
      exact ⟨kv, hk, decide_eq_true e⟩
  unfold putK addK
  by_cases e : x ∈ ks
  · rw [if_pos (he.mpr e), if_pos e, ← h, List.map_map]
    apply List.map_congr_left
    intro kv _
    show (if kv.1 = Sum.inl x then (kv.1, v) else kv).1 = kv.1
    by_cases q : kv.1 = (Sum.inl x : Key)
    · rw [if_pos q]
    · rw [if_neg q]
  · rw [if_neg (fun z => e (he.mp z)), if_neg e, List.map_append, List.map_append, h]
    rfl
theorem nodup_le : ∀ (ks vs : List Int), ks.Nodup → (∀ x ∈ ks, x ∈ vs) → ks.length ≤ vs.length
  | [], _, _, _ => Nat.zero_le _
  | k :: ks, vs, h, hs => by
    rw [List.nodup_cons] at h
    have hk := hs k (by simp)
    have ih := nodup_le ks (vs.erase k) h.2 fun x hx => (List.mem_erase_of_ne (fun z => h.1 (by rw [← z]; exact hx))).mpr (hs x (by simp [hx]))
    rw [List.length_erase_of_mem hk] at ih
    have : 0 < vs.length := List.length_pos_of_mem hk
    rw [List.length_cons]
    omega
structure FoundAt (H : Hp) (f : Addr) (ks : List Int) : Prop where
  at' : ∃ fk, H f = some (.dK fk) ∧ fk.map (·.1) = ks.map (Sum.inl : Int → Key)
  nd : ks.Nodup
theorem FoundAt.put {H1 : Hp} {f : Addr} {ks : List Int} {fk : List (Key × V)} {x : Int} {v : V} (hk : fk.map (·.1) = ks.map (Sum.inl : Int → Key)) (nd : ks.Nodup) (e : H1 f = some (.dK (putK fk (Sum.inl x) v))) : FoundAt H1 f (addK ks x) := ⟨⟨_, e, putK_keys hk⟩, nd_addK nd⟩
/-- the rows so far: of the versions done; each row a list that stood not in H0 -/
def RowsAt (H0 H : Hp) (R : Addr) (ls : List (Int × Int)) (dn : List Int) : Prop := ∃ kvs, H R = some (.dK kvs) ∧ kvs.map (·.1) = dn.map (Sum.inl : Int → Key) ∧ (∀ n, n ∉ dn → valV kvs (Sum.inl n) = none) ∧
  ∀ v ∈ dn, ∃ a ys, valV kvs (Sum.inl v) = some (.ref a) ∧ H a = some (.lst (ys.map V.int)) ∧ RowOk ls v ys ∧ H0 a = none
/-- what keeps lists and dicts but at p -/
theorem RowsAt.kp {H0 H H' : Hp} {R : Addr} {ls : List (Int × Int)} {dn : List Int} {M : List Addr} (h : RowsAt H0 H R ls dn) (k : Kp M H H') (hR : R ∉ M) (hM : ∀ b ∈ M, ∀ xs, H b ≠ some (.lst xs)) : RowsAt H0 H' R ls dn := by
  obtain ⟨kvs, e, hl, hn, hv⟩ := h
  refine ⟨kvs, k _ _ hR e, hl, hn, fun v hv' => ?_⟩
  obtain ⟨a, ys, e1, e2, r, n⟩ := hv v hv'
  exact ⟨a, ys, e1, k _ _ (fun z => hM a z _ e2) e2, r, n⟩
theorem RowsAt.put {H0 H H' : Hp} {R p : Addr} {ls : List (Int × Int)} {dn : List Int} {v : Int} {ys : List Int} {kvs : List (Key × V)} (e : H R = some (.dK kvs)) (hl : kvs.map (·.1) = dn.map (Sum.inl : Int → Key)) (nv : v ∉ dn) (hn : ∀ n, n ∉ dn → valV kvs (Sum.inl n) = none)
    (hv : ∀ v ∈ dn, ∃ a ys, valV kvs (Sum.inl v) = some (.ref a) ∧ H a = some (.lst (ys.map V.int)) ∧ RowOk ls v ys ∧ H0 a = none) (e' : H' R = some (.dK (putK kvs (Sum.inl v) (.ref p)))) (o : Off R H H') (hp : H p = some (.lst (ys.map V.int))) (r : RowOk ls v ys) (h0 : H0 p = none) : RowsAt H0 H' R ls (dn ++ [v]) := by
  have nl : ∀ b xs, H b = some (.lst xs) → b ≠ R := fun b xs z => ne_of z e (fun q => nomatch q)
  refine ⟨_, e', ?_, fun n hn' => ?_, fun x hx => ?_⟩
  · rw [putK_keys hl]
    unfold addK
    rw [if_neg nv]
  · rw [valV_put, if_neg (fun z => hn' (by rw [Sum.inl.inj z]; simp))]
    exact hn n fun z => hn' (List.mem_append_left _ z)
  · rw [valV_put]
    by_cases q : x = v
    · subst q
      rw [if_pos rfl]
      exact ⟨p, ys, rfl, o.get (nl _ _ hp) hp, r, h0⟩
    · rw [if_neg (fun z => q (Sum.inl.inj z))]
      rcases List.mem_append.mp hx with a | a
      · obtain ⟨a, zs, e1, e2, r', n⟩ := hv x a
        exact ⟨a, zs, e1, o.get (nl _ _ e2) e2, r', n⟩
      · exact absurd (by simpa using a) q
/-- the rows as they are read: the lists' addresses are none of M -/
def RowsK (M : List Addr) (H : Hp) (R : Addr) (ls : List (Int × Int)) (dn : List Int) : Prop := ∃ kvs, H R = some (.dK kvs) ∧ kvs.map (·.1) = dn.map (Sum.inl : Int → Key) ∧ (∀ n, n ∉ dn → valV kvs (Sum.inl n) = none) ∧ ∀ v ∈ dn, ∃ a ys, valV kvs (Sum.inl v) = some (.ref a) ∧ H a = some (.lst (ys.map V.int)) ∧ RowOk ls v ys ∧ a ∉ M
theorem RowsK.kp {M N : List Addr} {H H' : Hp} {R : Addr} {ls : List (Int × Int)} {dn : List Int} (h : RowsK M H R ls dn) (k : Kp N H H') (hN : ∀ x ∈ N, x ∈ M) (hR : R ∉ N) : RowsK M H' R ls dn := by
  obtain ⟨kvs, e, hl, hn, hv⟩ := h
  refine ⟨kvs, k _ _ hR e, hl, hn, fun v hv' => ?_⟩
  obtain ⟨a, ys, e1, e2, r, n⟩ := hv v hv'
  exact ⟨a, ys, e1, k _ _ (fun z => n (hN a z)) e2, r, n⟩
theorem RowsK.off {M : List Addr} {H H' : Hp} {R p : Addr} {ls : List (Int × Int)} {dn : List Int} {xs : List V} (h : RowsK M H R ls dn) (o : Off p H H') (hp : p ∈ M) (e : H p = some (.lst xs)) : RowsK M H' R ls dn := by
  obtain ⟨kvs, eR, _⟩ := id h
  exact h.kp (N := [p]) (o.kp (by simp)) (by simpa using hp) (by simpa using ne_of eR e (fun z => nomatch z))
/-- a list that was laid behind is changed -/
theorem RowsK.offN {M : List Addr} {H H1 H' : Hp} {R p : Addr} {ls : List (Int × Int)} {dn : List Int} (h : RowsK M H R ls dn) (k : Same H H1) (o : Off p H1 H') (hp : H p = none) : RowsK M H' R ls dn :=
  h.kp (N := []) (Off.keep (Kp.of k) o hp) (by simp) (by simp)
theorem RowsAt.toK {H0 H : Hp} {R : Addr} {ls : List (Int × Int)} {dn : List Int} {M : List Addr} (h : RowsAt H0 H R ls dn) (hM : ∀ x ∈ M, H0 x ≠ none ∨ H x = none) : RowsK M H R ls dn := by
  obtain ⟨kvs, e, hl, hn, hv⟩ := h
  refine ⟨kvs, e, hl, hn, fun v hv' => ?_⟩
  obtain ⟨a, ys, e1, e2, r, n⟩ := hv v hv'
  refine ⟨a, ys, e1, e2, r, fun z => ?_⟩
  rcases hM a z with h | h
  · exact h n
  · rw [h] at e2; cases e2
theorem map_erase {α β : Type} (f : α → β) : ∀ (xs : List α) (k : Nat), (xs.map f).eraseIdx k = (xs.eraseIdx k).map f
  | [], _ => rfl
  | _ :: _, 0 => rfl
  | x :: xs, k + 1 => by
    show f x :: (xs.map f).eraseIdx k = f x :: (xs.eraseIdx k).map f
    rw [map_erase f xs k]
def par (ls : List (Int × Int)) (v : Int) : List Int := (ls.filter fun q => decide (q.1 = v)).map (·.2)
theorem mem_par {ls : List (Int × Int)} {v p : Int} : p ∈ par ls v ↔ (v, p) ∈ ls := by
  unfold par
  rw [List.mem_map]
  constructor
  · rintro ⟨q, hq, rfl⟩
    obtain ⟨h1, h2⟩ := List.mem_filter.mp hq
    have e : q.1 = v := of_decide_eq_true h2
    rw [← e]
    exact h1
  · intro h
    exact ⟨(v, p), List.mem_filter.mpr ⟨h, decide_eq_true rfl⟩, rfl⟩
theorem par_snoc {ls : List (Int × Int)} {v w p : Int} : par (ls ++ [(v, p)]) w = if v = w then par ls w ++ [p] else par ls w := by
  unfold par
  rw [List.filter_append, List.map_append]
  by_cases e : v = w
  · rw [if_pos e]
    simp [e]
  · rw [if_neg e]
    simp [e]
def StepsAt (H0 H : Hp) (S : Addr) (ls : List (Int × Int)) : Prop := ∃ (kvs : List (Key × V)) (A : Int → Addr), H S = some (.dK kvs) ∧ kvs.length ≤ ls.length ∧
  (∀ v, par ls v = [] → valV kvs (Sum.inl v) = none) ∧ (∀ v, par ls v ≠ [] → valV kvs (Sum.inl v) = some (.ref (A v)) ∧ H (A v) = some (.lst ((par ls v).map V.int)) ∧ H0 (A v) = none) ∧
  ∀ v w, par ls v ≠ [] → par ls w ≠ [] → v ≠ w → A v ≠ A w
def spSpans : Sp := fun vs H Q _ => ∃ (t : Addr) (ns : List Int) (ps : List (Addr × Int × Int)), vs = [.ref t] ∧ ShAt H t ns ps ∧ ShOk ns (ps.map (·.2)) ∧ ns.length < 64 ∧ ps.length ≤ 100000 ∧
  ∀ H' D, Same H H' → H D = none → RowsAt H H' D (ps.map (·.2)) ns → Q (.ref D) H'
section
variable {P : Program} {w : World} {K : PySem.W.Frag} {mg : Str → Option Value} {base : Heap}
theorem ok_spans {f : Addr} {fd : FuncData} (T : Txt K mg) (F : Fun K "spans" "spans" s_spans f fd) : FnOk P w K mg base CX0 1 f fd ["shape"] spSpans := by
  refine F.ok sc_spans (fun vs H Q E h => ?_) (fun cdv A outer s H vs Q E hr h => ?_)
  · obtain ⟨t, ns, ps, rfl, _⟩ := h
    rfl
  · obtain ⟨t, ns, ps, rfl, ⟨a, b, e1, e2, e3⟩, S, hl, hl2, q⟩ := h
    have hu := hu_of hr
    have e3' := e3.1
    refine ⟨_,
      (pss_cons
        (ps_set (i := 1) sc_spans.nd rfl (.inl rfl) pe_dnewK)
      (pss_cons
        (ps_set (i := 2) sc_spans.nd rfl (.inl rfl) pe_dnewK)
      (pss_cons
        (ps_for PassesOwn.never rfl (pi_tup (pe_ix (r := rIxT K) ix_tup (pv 0) pe_int (fun _ _ => rfl))) (pg_tup rfl (pgs_cons (pg_name (i := 3) sc_spans.nd rfl (.inl rfl)) (pgs_cons (pg_name (i := 4) sc_spans.nd rfl (.inl rfl)) pgs_nil)))
          (pss_one
            (ps_expr (pe_bm PySem.F.plainAttrs_list PySem.F.slot_list_append PySem.F.type_list_append mt_append (pe_dsetd (pv 2) (pv 3) (pe_lst pa_nil) ⟨rfl, rfl, rfl, rfl⟩) (pa_cons (pv 4) pa_nil)))))
      (pss_cons
        (ps_for PassesOwn.never rfl (pi_tup (pe_ix (r := rIxT K) ix_tup (pv 0) pe_int (fun _ _ => rfl))) (pg_name (i := 3) sc_spans.nd rfl (.inl rfl))
          (pss_cons
            (ps_set (i := 5) sc_spans.nd rfl (.inl rfl) (pe_disp (pps_cons (pv 3) pe_bl pps_nil) (by rfl) (by rfl) (fun z => by cases z) (by decide)))
          (pss_cons
            (ps_for PassesOwn.never rfl (pi_list (pe_dget2 hu (pv 2) (pv 3) (pe_lst pa_nil) ⟨rfl, rfl, rfl, rfl⟩)) (pg_name (i := 4) sc_spans.nd rfl (.inl rfl))
              (pss_one
                (ps_for PassesOwn.never rfl (pi_list (pe_dget hu (pv 1) (pv 4) (fun _ _ => rfl))) (pg_name (i := 6) sc_spans.nd rfl (.inl rfl))
                  (pss_one
                    (ps_dput hu (pv 5) (pv 6) pe_bl rfl)))))
          (pss_one
            (ps_dput hu (pv 1) (pv 3) (pe_callB (c_sortD rfl) (by rfl) T.n_sorted (by decide +kernel) (pa_cons (pv 5) pa_nil)) rfl)))))
      (pss_one
        (ps_ret (pv 1)))))))
      , ?_⟩
    rw [show L2.start N_spans [V.ref t] = [some (.ref t), none, none, none, none, none, none] from rfl]
    walk_at "x"
    refine w_new fun R H1 hR eR k1 => ?_
    walk_at "g"
    refine w_new fun S' H2 hS eS k2 => ?_
    have nRS : R ≠ S' := ne_of_none eR hS
    have hS0 : H S' = none := k1.free hS
    have e1' := k2 _ _ (k1 _ _ e1)
    have e2' : H2 a = some (.tup (ns.map V.int)) := k2 _ _ (k1 _ _ e2)
    have eb' := k2 _ _ (k1 _ _ e3')
    walk_at "g"
    refine lp_tup (xs := ps.map fun q => .ref q.1) (fun i σ H' => ∃ (y3 y4 : Option V), σ = [some (.ref t), some (.ref R), some (.ref S'), y3, y4, none, none] ∧ Same H H' ∧ H' R = some (.dK []) ∧ StepsAt H H' S' ((ps.take i).map (·.2))) ?_ ?_ ?_ ?_
    · exact ⟨none, none, rfl, Same.trans k1 k2, k2 _ _ eR, [], fun _ => 0, eS, Nat.le_refl _, fun _ _ => rfl, fun v h => absurd rfl h, fun v _ h => absurd rfl h⟩
    · rintro i σ H3 _ ⟨_, _, _, k3, _⟩
      exact .of (k3 _ _ e3')
    · rintro i y σ H3 hy ⟨y3, y4, rfl, k3, eR3, kvs, A3, eS3, hlen, hn, hv, hinj⟩
      obtain ⟨x, hx, rfl⟩ := map_at hy
      have ex := k3 _ _ (e3.2 x (List.mem_of_getElem? hx))
      have hil : i < ps.length := (List.getElem?_eq_some_iff.mp hx).1
      walk_at "g"
      refine w_new fun z H4 hz ez k4 => ?_
      have eS4 := k4 _ _ eS3
      have eR4 := k4 _ _ eR3
      have nzS : S' ≠ z := ne_of_none eS3 hz
      have hz0 : H z = none := k3.free hz
      have tk : (ps.take (i + 1)).map (·.2) = (ps.take i).map (·.2) ++ [x.2] := by
        rw [List.take_add_one, hx, List.map_append]
        rfl
      have hlen2 : kvs.length ≤ i := Nat.le_trans hlen (by rw [List.length_map, List.length_take]; omega)
      refine w_dsetdI eS4 (Nat.lt_of_le_of_lt (Nat.le_trans hlen2 (by omega)) (show 100000 < sizeLine by decide)) (fun u hu' => ?_) (fun hno H5 e5 o5 => ?_)
      · -- there is a list of its own already
        have hp : par ((ps.take i).map (·.2)) x.2.1 ≠ [] := fun z0 => by
          rw [hn _ z0] at hu'
          cases hu'
        obtain ⟨v1, v2, v3⟩ := hv _ hp
        rw [v1] at hu'
        cases hu'
        have v2' := k4 _ _ v2
        walk_at "g"
        refine w_app v2' ?_ fun H5 e5 o5 => ?_
        · rw [List.length_map]
          unfold par
          rw [List.length_map]
          refine Nat.lt_of_le_of_lt (List.length_filter_le _ _) ?_
          rw [List.length_map, List.length_take]
          exact Nat.lt_of_le_of_lt (show min i ps.length ≤ 100000 by omega) (by decide)
        · have nl : ∀ c kv, H4 c = some (.dK kv) → c ≠ A3 x.2.1 := fun c kv e => ne_of e v2' (fun z => nomatch z)
          have ne' : ∀ w, par ((ps.take (i + 1)).map (·.2)) w ≠ [] → par ((ps.take i).map (·.2)) w ≠ [] := fun w hw => by
            rw [tk, par_snoc] at hw
            by_cases q1 : x.2.1 = w
            · rw [← q1]; exact hp
            · rw [if_neg q1] at hw; exact hw
          refine ⟨_, _, rfl, fun c o e => o5.get (ne_of_none e v3) (k4 _ _ (k3 _ _ e)), o5.get (nl _ _ eR4) eR4, kvs, A3, o5.get (nl _ _ eS4) eS4, by rw [tk, List.length_append]; omega, fun w hw => ?_, fun w hw => ?_, fun v w' h1 h2 => hinj v w' (ne' v h1) (ne' w' h2)⟩
          · rw [tk, par_snoc] at hw
            by_cases q1 : x.2.1 = w
            · rw [if_pos q1] at hw
              simp at hw
            · rw [if_neg q1] at hw
              exact hn w hw
          · have hw' := ne' w hw
            obtain ⟨u1, u2, u3⟩ := hv w hw'
            refine ⟨u1, ?_, u3⟩
            rw [tk, par_snoc]
            by_cases q1 : x.2.1 = w
            · rw [if_pos q1, ← q1, e5, List.map_append]
              rfl
            · rw [if_neg q1]
              exact o5.get (fun z0 => hinj w x.2.1 hw' hp (fun z1 => q1 z1.symm) z0) (k4 _ _ u2)
      · -- a new list
        have ez5 := o5.get (Ne.symm nzS) ez
        have hp0 : par ((ps.take i).map (·.2)) x.2.1 = [] := by
          cases hq : par ((ps.take i).map (·.2)) x.2.1 with
          | nil => rfl
          | cons u r =>
            have := (hv x.2.1 (by rw [hq]; simp)).1
            rw [this] at hno
            cases hno
        walk_at "g"
        refine w_app ez5 (by decide) fun H6 e6 o6 => ?_
        have nz : ∀ c o, H3 c = some o → c ≠ z := fun c o e => ne_of_none e hz
        have nS : ∀ c xs, H4 c = some (.lst xs) → c ≠ S' := fun c xs e => ne_of e eS4 (fun z => nomatch z)
        refine ⟨_, _, rfl, fun c o e => o6.get (nz _ _ (k3 _ _ e)) (o5.get (ne_of_none e hS0) (k4 _ _ (k3 _ _ e))), o6.get (nz _ _ eR3) (o5.get nRS eR4), _, fun w => if w = x.2.1 then z else A3 w, o6.get nzS e5, ?_, fun w hw => ?_, fun w hw => ?_, fun v w' h1 h2 hne => ?_⟩
        · have := putK_len' kvs (Sum.inl x.2.1) (V.ref z)
          rw [tk, List.length_append]
          simp only [List.length_cons, List.length_nil]
          omega
        · rw [tk, par_snoc] at hw
          by_cases q1 : x.2.1 = w
          · rw [if_pos q1] at hw
            simp at hw
          · rw [if_neg q1] at hw
            rw [valV_put, if_neg (fun z0 => q1 (Sum.inl.inj z0).symm)]
            exact hn w hw
        · rw [tk, par_snoc] at hw ⊢
          rw [valV_put]
          by_cases q1 : x.2.1 = w
          · rw [if_pos (congrArg Sum.inl q1.symm)]
            simp only [if_pos q1, if_pos q1.symm]
            refine ⟨trivial, ?_, hz0⟩
            rw [← q1, hp0, e6]
            rfl
          · rw [if_neg q1] at hw
            rw [if_neg (fun z0 => q1 (Sum.inl.inj z0).symm)]
            simp only [if_neg q1, if_neg (Ne.symm q1)]
            obtain ⟨u1, u2, u3⟩ := hv w hw
            exact ⟨u1, o6.get (nz _ _ u2) (o5.get (nS _ _ (k4 _ _ u2)) (k4 _ _ u2)), u3⟩
        · rw [tk, par_snoc] at h1 h2
          by_cases q1 : x.2.1 = v
          · have q2 : ¬ x.2.1 = w' := fun z0 => hne (q1.symm.trans z0)
            rw [if_neg q2] at h2
            simp only [if_pos q1.symm, if_neg (Ne.symm q2)]
            exact Ne.symm (nz _ _ (hv w' h2).2.1)
          · rw [if_neg q1] at h1
            by_cases q2 : x.2.1 = w'
            · simp only [if_neg (Ne.symm q1), if_pos q2.symm]
              exact nz _ _ (hv v h1).2.1
            · rw [if_neg q2] at h2
              simp only [if_neg (Ne.symm q1), if_neg (Ne.symm q2)]
              exact hinj v w' h1 h2 hne
    · -- the second loop
      rintro σ H3 ⟨y3, y4, rfl, k3, eR3, T3⟩
      rw [List.length_map, List.take_length] at T3
      have e1'' := k3 _ _ e1
      have e2'' : H3 a = some (.tup (ns.map V.int)) := k3 _ _ e2
      have nRS3 : R ≠ S' := nRS
      walk_at "g"
      refine lp_tup (xs := ns.map V.int) (fun i σ H' => ∃ (y3 y4 y5 y6 : Option V), σ = [some (.ref t), some (.ref R), some (.ref S'), y3, y4, y5, y6] ∧ Kp [R] H3 H' ∧ Same H H' ∧ RowsAt H H' R (ps.map (·.2)) (ns.take i)) ?_ ?_ ?_ ?_
      · exact ⟨_, _, _, _, rfl, Kp.refl, k3, [], eR3, rfl, fun _ _ => rfl, by simp⟩
      · rintro i σ H4 _ ⟨_, _, _, _, _, _, k4, _⟩
        exact .of (k4 _ _ e2)
      · rintro i y σ H4 hy ⟨y3, y4, y5, y6, rfl, k4, s4, RA⟩
        obtain ⟨v, hv, rfl⟩ := map_at hy
        have hvm : v ∈ ns := List.mem_of_getElem? hv
        obtain ⟨skv, A3, eS3, slen, sn, sv, sinj⟩ := T3
        have eS4 := k4 _ _ (by simpa using Ne.symm nRS) eS3
        walk_at "g"
        refine w_disp fun fo H5 hfo efo k5 => ?_
        walk_at "g"
        refine w_dispE [(Sum.inl v, V.bl true)] efo rfl (by simp) fun H6 e6 o6 => ?_
        have k6 : Same H4 H6 := fun c o e => o6.get (ne_of_none e hfo) (k5 _ _ e)
        have eS6 := k6 _ _ eS4
        walk_at "g"
        refine w_new fun z H7 hz ez k7 => ?_
        have eS7 := k7 _ _ eS6
        have s7 : Same H4 H7 := Same.trans k6 k7
        have kp3 : Kp [R] H3 H7 := k4.trans (Kp.of s7)
        obtain ⟨pa, epa, hpa⟩ : ∃ pa, (valV skv (Sum.inl v)).getD (.ref z) = .ref pa ∧ H7 pa = some (.lst ((par (ps.map (·.2)) v).map V.int)) := by
          cases hq : par (ps.map (·.2)) v with
          | nil => exact ⟨z, by rw [sn v hq]; rfl, ez⟩
          | cons u r =>
            have hne : par (ps.map (·.2)) v ≠ [] := by rw [hq]; simp
            obtain ⟨u1, u2, u3⟩ := sv v hne
            refine ⟨A3 v, by rw [u1]; rfl, ?_⟩
            rw [← hq]
            exact kp3 _ _ (by simpa using ne_of u2 eR3 (fun z => nomatch z)) u2
        refine w_dget2I eS7 ?_
        rw [epa]
        walk_at "g"
        obtain ⟨kvs, eR4, rl, rn, rv⟩ := RA
        have nRf : R ≠ fo := ne_of_none eR4 hfo
        have eR7 := s7 _ _ eR4
        have efo7 : H7 fo = some (.dK (mergeK [] [(Sum.inl v, V.bl true)])) := k7 _ _ e6
        have hlt : ∀ p, p ∈ par (ps.map (·.2)) v → p ∈ ns.take i := fun p hp => by
          obtain ⟨m1, m2, m3⟩ := S.lm _ (mem_par.mp hp)
          obtain ⟨j, hj, ej⟩ := List.getElem_of_mem m2
          have hj2 : ns[j]? = some p := by rw [List.getElem?_eq_getElem hj, ej]
          have hji : j < i := by
            rcases Nat.lt_or_ge j i with h | h
            · exact h
            · rcases Nat.eq_or_lt_of_le h with h | h
              · subst h
                rw [hv] at hj2
                have := Option.some.inj hj2
                dsimp only at m3
                omega
              · have hiv : i < ns.length := (List.getElem?_eq_some_iff.mp hv).1
                have := (List.pairwise_iff_getElem.mp S.vr) i j hiv hj h
                have ev : ns[i] = v := (List.getElem?_eq_some_iff.mp hv).2
                rw [ev, ej] at this
                dsimp only at m3
                omega
          exact List.mem_take_iff_getElem.mpr ⟨j, by omega, ej⟩
        have inN : ∀ p ∈ par (ps.map (·.2)) v, ∀ x, Bel (ps.map (·.2)) p x → x ∈ ns := fun p hp x hx => hx.mem S (S.lm _ (mem_par.mp hp)).2.1
        refine lp_list (xs := (par (ps.map (·.2)) v).map V.int) (fun j σ H' => ∃ (ks : List Int) (y4 y6 : Option V), σ = [some (.ref t), some (.ref R), some (.ref S'), some (.int v), y4, some (.ref fo), y6] ∧ Kp [fo] H7 H' ∧ FoundAt H' fo ks ∧ ∀ x, x ∈ ks ↔ x = v ∨ ∃ p ∈ (par (ps.map (·.2)) v).take j, Bel (ps.map (·.2)) p x) ?_ ?_ ?_ ?_
        · exact ⟨[v], _, _, rfl, Kp.refl, ⟨⟨_, efo7, rfl⟩, by simp⟩, fun x => by simp⟩
        · rintro j σ H8 _ ⟨ks, _, _, _, k8, _⟩
          exact .of (k8 _ _ (by simpa using ne_of hpa efo7 (fun z => nomatch z)) hpa)
        · rintro j y σ H8 hy ⟨ks, w4, w6, rfl, k8, F8, hks⟩
          obtain ⟨p, hp, rfl⟩ := map_at hy
          have hpm : p ∈ par (ps.map (·.2)) v := List.mem_of_getElem? hp
          obtain ⟨ap, ys, r1, r2, r3, r4⟩ := rv p (hlt p hpm)
          have eR8 := k8 _ _ (by simpa using nRf) eR7
          have r28 : H8 ap = some (.lst (ys.map V.int)) := k8 _ _ (by simpa using ne_of (s7 _ _ r2) efo7 (fun z => nomatch z)) (s7 _ _ r2)
          walk_at "g"
          refine lp_list (xs := ys.map V.int) (fun m σ H' => ∃ (ks' : List Int) (y6 : Option V), σ = [some (.ref t), some (.ref R), some (.ref S'), some (.int v), some (.int p), some (.ref fo), y6] ∧ Kp [fo] H7 H' ∧ FoundAt H' fo ks' ∧ ∀ x, x ∈ ks' ↔ x ∈ ks ∨ x ∈ ys.take m) ?_ ?_ ?_ ?_
          · exact ⟨ks, _, rfl, k8, F8, fun x => by simp⟩
          · rintro m σ H9 _ ⟨ks', _, _, k9, _⟩
            exact .of (k9 _ _ (by simpa using ne_of (s7 _ _ r2) efo7 (fun z => nomatch z)) (s7 _ _ r2))
          · rintro m y σ H9 hy ⟨ks', w6', rfl, k9, ⟨⟨fk, ef, hfk⟩, nd9⟩, hks'⟩
            obtain ⟨x, hx, rfl⟩ := map_at hy
            have hlen : fk.length < sizeLine := by
              have h1 : fk.length = ks'.length := by
                have := congrArg List.length hfk
                simpa using this
              have h2 : ks'.length ≤ ns.length := nodup_le ks' ns nd9 fun u hu' => by
                rcases (hks' u).mp hu' with a | a
                · rcases (hks u).mp a with rfl | ⟨p', hp', b⟩
                  · exact hvm
                  · exact inN p' (List.mem_of_mem_take hp') u b
                · exact inN p hpm u ((r3.mem u).mp (List.mem_of_mem_take a))
              exact small1000 (by omega)
            walk_at "g"
            refine w_dputI ef hlen fun H10 e10 o10 => ?_
            refine ⟨addK ks' x, _, rfl, k9.trans (o10.kp (by simp)), FoundAt.put hfk nd9 e10, fun u => ?_⟩
            rw [mem_addK, hks', List.take_add_one, hx]
            simp only [Option.toList_some, List.mem_append, List.mem_singleton]
            rw [or_assoc]
          · rintro σ H9 ⟨ks', w6', rfl, k9, F9, hks'⟩
            rw [List.length_map, List.take_length] at hks'
            refine ⟨ks', _, _, rfl, k9, F9, fun x => ?_⟩
            rw [hks', hks, List.take_add_one, hp, r3.mem]
            simp only [Option.toList_some, List.mem_append, List.mem_singleton]
            constructor
            · rintro ((a | ⟨p', b, c⟩) | a)
              · exact .inl a
              · exact .inr ⟨p', .inl b, c⟩
              · exact .inr ⟨p, .inr rfl, a⟩
            · rintro (a | ⟨p', b | rfl, c⟩)
              · exact .inl (.inl a)
              · exact .inl (.inr ⟨p', b, c⟩)
              · exact .inr c
        · rintro σ H8 ⟨ks, w4, w6, rfl, k8, ⟨⟨fk, ef, hfk⟩, nd8⟩, hks⟩
          rw [List.length_map, List.take_length] at hks
          have hsub : ∀ u ∈ ks, u ∈ ns := fun u hu' => by
            rcases (hks u).mp hu' with rfl | ⟨p', hp', b⟩
            · exact hvm
            · exact inN p' hp' u b
          have hkl := nodup_le ks ns nd8 hsub
          walk_at "g"
          refine w_sortD ef hfk (by omega) fun ys L H9 hperm hsort hL eL k9 => ?_
          have eR8 := k8 _ _ (by simpa using nRf) eR7
          have eR9 := k9 _ _ eR8
          have hrow : RowOk (ps.map (·.2)) v ys := ⟨strict_of hperm hsort nd8, fun x => by
            rw [hperm.mem_iff, hks, Bel.iff]
            constructor
            · rintro (a | ⟨p', b, c⟩)
              · exact .inl a
              · exact .inr ⟨p', mem_par.mp b, c⟩
            · rintro (a | ⟨p', b, c⟩)
              · exact .inl a
              · exact .inr ⟨p', mem_par.mpr b, c⟩⟩
          have hL0 : H L = none := by
            cases hq : H L with
            | none => rfl
            | some o =>
              have z1 := s4 _ _ hq
              have z2 : H8 L = some o := k8 _ _ (by simpa using ne_of_none z1 hfo) (s7 _ _ z1)
              rw [hL] at z2
              cases z2
          have rl' : kvs.length = (ns.take i).length := by
            have := congrArg List.length rl
            simpa using this
          have hkv : kvs.length < sizeLine := small1000 (Nat.le_trans (Nat.le_of_eq rl') (by rw [List.length_take]; omega))
          have nvt : v ∉ ns.take i := fun z => by
            have := take_lt S.vr hv z
            omega
          walk_at "g"
          refine w_dputI eR9 hkv fun H10 e10 o10 => ?_
          have kk : Kp [R] H4 H9 := fun c o nR e => k9 _ _ (k8 _ _ (by simpa using ne_of_none e hfo) (s7 _ _ e))
          have kS : Same H H9 := fun c o e => by
            have := s4 _ _ e
            exact k9 _ _ (k8 _ _ (by simpa using ne_of_none this hfo) (s7 _ _ this))
          refine ⟨_, _, _, _, rfl, k4.trans (kk.trans (o10.kp (by simp))), fun c o e => o10.get (ne_of_none e hR) (kS _ _ e), ?_⟩
          rw [List.take_add_one, hv]
          refine RowsAt.put (kvs := kvs) eR9 rl nvt rn (fun v' hv' => ?_) e10 o10 eL hrow hL0
          obtain ⟨a', zs, g1, g2, g3, g4⟩ := rv v' hv'
          exact ⟨a', zs, g1, kk _ _ (by simpa using ne_of g2 eR4 (fun z => nomatch z)) g2, g3, g4⟩
      · rintro σ H4 ⟨y3, y4, y5, y6, rfl, k4, s4, RA⟩
        rw [List.length_map, List.take_length] at RA
        walk_at "g"
        exact q H4 R s4 (by exact hR) RA
end
section
variable {P : Program} {w : World} {K : PySem.W.Frag} {mg : Str → Option Value} {base : Heap}
theorem ok_lspans {f : Addr} {fd : FuncData} (T : Txt K mg) (F : Fun K "_law_spans" "_law_spans" s_law_spans f fd) : FnOk P w K mg base CX0 1 f fd ["_law_web"] spSpans := by
  refine F.ok sc_law_spans (fun vs H Q E h => ?_) (fun cdv A outer s H vs Q E hr h => ?_)
  · obtain ⟨t, ns, ps, rfl, _⟩ := h
    rfl
  · obtain ⟨t, ns, ps, rfl, ⟨a, b, e1, e2, e3⟩, S, hl, hl2, q⟩ := h
    have hu := hu_of hr
    have e3' := e3.1
    refine ⟨_,
      (pss_cons
        (ps_set (i := 1) sc_law_spans.nd rfl (.inl rfl) pe_dnewK)
      (pss_cons
        (ps_for PassesOwn.never rfl (pi_tup (pe_ix (r := rIxT K) ix_tup (pv 0) pe_int (fun _ _ => rfl))) (pg_name (i := 2) sc_law_spans.nd rfl (.inl rfl))
          (pss_cons
            (ps_set (i := 3) sc_law_spans.nd rfl (.inl rfl) (pe_disp (pps_cons (pv 2) pe_bl pps_nil) (by rfl) (by rfl) (fun z => by cases z) (by decide)))
          (pss_cons
            (ps_for PassesOwn.never rfl (pi_tup (pe_ix (r := rIxT K) ix_tup (pv 0) pe_int (fun _ _ => rfl))) (pg_name (i := 4) sc_law_spans.nd rfl (.inl rfl))
              (pss_one
                (ps_if (pt_cmpR op_eq (pe_ix (r := rIxT K) ix_tup (pv 4) pe_int (fun _ _ => rfl)) (pv 2) (nomark _))
                  (pss_one
                    (ps_for PassesOwn.never rfl (pi_list (pe_dget hu (pv 1) (pe_ix (r := rIxT K) ix_tup (pv 4) pe_int (fun _ _ => rfl)) (fun _ _ => rfl))) (pg_name (i := 5) sc_law_spans.nd rfl (.inl rfl))
                      (pss_one
                        (ps_dput hu (pv 3) (pv 5) pe_bl rfl))))
                  pss_nil)))
          (pss_one
            (ps_dput hu (pv 1) (pv 2) (pe_callB (c_sortD rfl) (by rfl) T.n_sorted (by decide +kernel) (pa_cons (pv 3) pa_nil)) rfl)))))
      (pss_one
        (ps_ret (pv 1)))))
      , ?_⟩
    rw [show L2.start N_law_spans [V.ref t] = [some (.ref t), none, none, none, none, none] from rfl]
    walk_at "x"
    refine w_new fun R H3 hR eR3 k3 => ?_
    have e1' := k3 _ _ e1
    have e2' : H3 a = some (.tup (ns.map V.int)) := k3 _ _ e2
    walk_at "g"
    refine lp_tup (xs := ns.map V.int) (fun i σ H' => ∃ (y2 y3 y4 y5 : Option V), σ = [some (.ref t), some (.ref R), y2, y3, y4, y5] ∧ Same H H' ∧ RowsAt H H' R (ps.map (·.2)) (ns.take i)) ?_ ?_ ?_ ?_
    · exact ⟨_, _, _, _, rfl, k3, [], eR3, rfl, fun _ _ => rfl, by simp⟩
    · rintro i σ H4 _ ⟨_, _, _, _, _, k4, _⟩
      exact .of (k4 _ _ e2)
    · rintro i y σ H4 hy ⟨y3, y4, y5, y6, rfl, s4, RA⟩
      obtain ⟨v, hv, rfl⟩ := map_at hy
      have hvm : v ∈ ns := List.mem_of_getElem? hv
      walk_at "g"
      refine w_disp fun fo H5 hfo efo k5 => ?_
      walk_at "g"
      refine w_dispE [(Sum.inl v, V.bl true)] efo rfl (by simp) fun H6 e6 o6 => ?_
      have k6 : Same H4 H6 := fun c o e => o6.get (ne_of_none e hfo) (k5 _ _ e)
      have e1'' := k6 _ _ (s4 _ _ e1)
      walk_at "g"
      obtain ⟨kvs, eR4, rl, rn, rv⟩ := RA
      have nRf : R ≠ fo := ne_of_none eR4 hfo
      have eR6 := k6 _ _ eR4
      have hlt : ∀ p, (v, p) ∈ ps.map (·.2) → p ∈ ns.take i := fun p hp => by
        obtain ⟨m1, m2, m3⟩ := S.lm _ hp
        obtain ⟨j, hj, ej⟩ := List.getElem_of_mem m2
        have hj2 : ns[j]? = some p := by rw [List.getElem?_eq_getElem hj, ej]
        have hji : j < i := by
          rcases Nat.lt_or_ge j i with h | h
          · exact h
          · rcases Nat.eq_or_lt_of_le h with h | h
            · subst h
              rw [hv] at hj2
              have := Option.some.inj hj2
              dsimp only at m3
              omega
            · have hiv : i < ns.length := (List.getElem?_eq_some_iff.mp hv).1
              have := (List.pairwise_iff_getElem.mp S.vr) i j hiv hj h
              have ev : ns[i] = v := (List.getElem?_eq_some_iff.mp hv).2
              rw [ev, ej] at this
              dsimp only at m3
              omega
        exact List.mem_take_iff_getElem.mpr ⟨j, by omega, ej⟩
      have inN : ∀ p, (v, p) ∈ ps.map (·.2) → ∀ x, Bel (ps.map (·.2)) p x → x ∈ ns := fun p hp x hx => hx.mem S (S.lm _ hp).2.1
      have eb6 := k6 _ _ (s4 _ _ e3')
      walk_at "g"
      refine lp_tup (xs := ps.map fun q => .ref q.1) (fun j σ H' => ∃ (ks : List Int) (y4 y5 : Option V), σ = [some (.ref t), some (.ref R), some (.int v), some (.ref fo), y4, y5] ∧ Kp [fo] H6 H' ∧ FoundAt H' fo ks ∧ ∀ x, x ∈ ks ↔ x = v ∨ ∃ p, (v, p) ∈ (ps.take j).map (·.2) ∧ Bel (ps.map (·.2)) p x) ?_ ?_ ?_ ?_
      · exact ⟨[v], _, _, rfl, Kp.refl, ⟨⟨_, e6, rfl⟩, by simp⟩, fun x => by simp⟩
      · rintro j σ H8 _ ⟨ks, _, _, _, k8, _⟩
        exact .of (k8 _ _ (by simpa using ne_of eb6 e6 (fun z => nomatch z)) eb6)
      · rintro j y σ H8 hy ⟨ks, w4, w5, rfl, k8, F8, hks⟩
        obtain ⟨x, hx, rfl⟩ := map_at hy
        have hxm : x ∈ ps := List.mem_of_getElem? hx
        have hxl : x.2 ∈ ps.map (·.2) := List.mem_map_of_mem hxm
        have ex6 := k6 _ _ (s4 _ _ (e3.2 x hxm))
        have ex : H8 x.1 = some (.tup [.int x.2.1, .int x.2.2]) := k8 _ _ (by simpa using ne_of ex6 e6 (fun z => nomatch z)) ex6
        have tk : (ps.take (j + 1)).map (·.2) = (ps.take j).map (·.2) ++ [x.2] := by
          rw [List.take_add_one, hx, List.map_append]
          rfl
        have eR8 := k8 _ _ (by simpa using nRf) eR6
        walk_at "g"
        refine w_ite (fun hxv => ?_) (fun hxv => ?_)
        · have hp : (v, x.2.2) ∈ ps.map (·.2) := by rw [← hxv]; exact hxl
          obtain ⟨ap, ys, r1, r2, r3, r4⟩ := rv x.2.2 (hlt _ hp)
          have r28 : H8 ap = some (.lst (ys.map V.int)) := k8 _ _ (by simpa using ne_of (k6 _ _ r2) e6 (fun z => nomatch z)) (k6 _ _ r2)
          walk_at "g"
          refine lp_list (xs := ys.map V.int) (fun m σ H' => ∃ (ks' : List Int) (y5 : Option V), σ = [some (.ref t), some (.ref R), some (.int v), some (.ref fo), some (.ref x.1), y5] ∧ Kp [fo] H6 H' ∧ FoundAt H' fo ks' ∧ ∀ u, u ∈ ks' ↔ u ∈ ks ∨ u ∈ ys.take m) ?_ ?_ ?_ ?_
          · exact ⟨ks, _, rfl, k8, F8, fun x => by simp⟩
          · rintro m σ H9 _ ⟨ks', _, _, k9, _⟩
            exact .of (k9 _ _ (by simpa using ne_of (k6 _ _ r2) e6 (fun z => nomatch z)) (k6 _ _ r2))
          · rintro m y σ H9 hy ⟨ks', w6', rfl, k9, ⟨⟨fk, ef, hfk⟩, nd9⟩, hks'⟩
            obtain ⟨u, hu', rfl⟩ := map_at hy
            have hlen : fk.length < sizeLine := by
              have h1 : fk.length = ks'.length := by
                have := congrArg List.length hfk
                simpa using this
              have h2 : ks'.length ≤ ns.length := nodup_le ks' ns nd9 fun z hz => by
                rcases (hks' z).mp hz with a | a
                · rcases (hks z).mp a with rfl | ⟨p', hp', b⟩
                  · exact hvm
                  · exact inN p' (by
                      obtain ⟨q', hq', e'⟩ := List.mem_map.mp hp'
                      exact List.mem_map.mpr ⟨q', List.mem_of_mem_take hq', e'⟩) z b
                · exact inN _ hp z ((r3.mem z).mp (List.mem_of_mem_take a))
              exact small1000 (by omega)
            walk_at "g"
            refine w_dputI ef hlen fun H10 e10 o10 => ?_
            refine ⟨addK ks' u, _, rfl, k9.trans (o10.kp (by simp)), FoundAt.put hfk nd9 e10, fun z => ?_⟩
            rw [mem_addK, hks', List.take_add_one, hu']
            simp only [Option.toList_some, List.mem_append, List.mem_singleton]
            rw [or_assoc]
          · rintro σ H9 ⟨ks', w6', rfl, k9, F9, hks'⟩
            rw [List.length_map, List.take_length] at hks'
            refine ⟨ks', _, _, rfl, k9, F9, fun u => ?_⟩
            rw [hks', hks, tk, r3.mem]
            simp only [List.mem_append, List.mem_singleton]
            constructor
            · rintro ((a | ⟨p', b, c⟩) | a)
              · exact .inl a
              · exact .inr ⟨p', .inl b, c⟩
              · exact .inr ⟨x.2.2, .inr (by rw [← hxv]), a⟩
            · rintro (a | ⟨p', b | b, c⟩)
              · exact .inl (.inl a)
              · exact .inl (.inr ⟨p', b, c⟩)
              · have e' : x.2.2 = p' := by rw [← b]
                exact .inr (by rw [e']; exact c)
        · walk_at "g"
          refine ⟨ks, _, _, rfl, k8, F8, fun u => ?_⟩
          rw [hks, tk]
          simp only [List.mem_append, List.mem_singleton]
          constructor
          · rintro (a | ⟨p', b, c⟩)
            · exact .inl a
            · exact .inr ⟨p', .inl b, c⟩
          · rintro (a | ⟨p', b | b, c⟩)
            · exact .inl a
            · exact .inr ⟨p', b, c⟩
            · exact absurd (by rw [← b]) hxv
      · rintro σ H8 ⟨ks, w4, w6, rfl, k8, ⟨⟨fk, ef, hfk⟩, nd8⟩, hks⟩
        rw [List.length_map, List.take_length] at hks
        have hsub : ∀ u ∈ ks, u ∈ ns := fun u hu' => by
          rcases (hks u).mp hu' with rfl | ⟨p', hp', b⟩
          · exact hvm
          · exact inN p' hp' u b
        have hkl := nodup_le ks ns nd8 hsub
        walk_at "g"
        refine w_sortD ef hfk (by omega) fun ys L H9 hperm hsort hL eL k9 => ?_
        have eR8 := k8 _ _ (by simpa using nRf) eR6
        have eR9 := k9 _ _ eR8
        have hrow : RowOk (ps.map (·.2)) v ys := ⟨strict_of hperm hsort nd8, fun x => by
          rw [hperm.mem_iff, hks, Bel.iff]⟩
        have kS : Same H H9 := fun c o e => by
          have := s4 _ _ e
          exact k9 _ _ (k8 _ _ (by simpa using ne_of_none this hfo) (k6 _ _ this))
        have hL0 : H L = none := by
          cases hq : H L with
          | none => rfl
          | some o =>
            have z1 := s4 _ _ hq
            have z2 : H8 L = some o := k8 _ _ (by simpa using ne_of_none z1 hfo) (k6 _ _ z1)
            rw [hL] at z2
            cases z2
        have rl' : kvs.length = (ns.take i).length := by
          have := congrArg List.length rl
          simpa using this
        have hkv : kvs.length < sizeLine := small1000 (Nat.le_trans (Nat.le_of_eq rl') (by rw [List.length_take]; omega))
        have nvt : v ∉ ns.take i := fun z => by
          have := take_lt S.vr hv z
          omega
        walk_at "g"
        refine w_dputI eR9 hkv fun H10 e10 o10 => ?_
        refine ⟨_, _, _, _, rfl, fun c o e => o10.get (ne_of_none e hR) (kS _ _ e), ?_⟩
        rw [List.take_add_one, hv]
        refine RowsAt.put (kvs := kvs) eR9 rl nvt rn (fun v' hv' => ?_) e10 o10 eL hrow hL0
        obtain ⟨a', zs, g1, g2, g3, g4⟩ := rv v' hv'
        exact ⟨a', zs, g1, k9 _ _ (k8 _ _ (by simpa using ne_of_none g2 hfo) (k6 _ _ g2)), g3, g4⟩
    · rintro σ H4 ⟨y3, y4, y5, y6, rfl, s4, RA⟩
      rw [List.length_map, List.take_length] at RA
      walk_at "g"
      exact q H4 R s4 hR RA
end
/-- the rows as they are read, the dict's own place left out -/
def RowsV (M : List Addr) (H : Hp) (kvs : List (Key × V)) (ls : List (Int × Int)) (dn : List Int) : Prop := ∀ v ∈ dn, ∃ a ys, valV kvs (Sum.inl v) = some (.ref a) ∧ H a = some (.lst (ys.map V.int)) ∧ RowOk ls v ys ∧ a ∉ M
theorem RowsV.kp {M N : List Addr} {H H' : Hp} {kvs : List (Key × V)} {ls : List (Int × Int)} {dn : List Int} (h : RowsV M H kvs ls dn) (k : Kp N H H') (hN : ∀ x ∈ N, x ∈ M) : RowsV M H' kvs ls dn := fun v hv => by
  obtain ⟨a, ys, e1, e2, r, n⟩ := h v hv
  exact ⟨a, ys, e1, k _ _ (fun z => n (hN a z)) e2, r, n⟩
theorem RowsV.off {M : List Addr} {H H' : Hp} {p : Addr} {kvs : List (Key × V)} {ls : List (Int × Int)} {dn : List Int} (h : RowsV M H kvs ls dn) (o : Off p H H') (hp : ∀ xs, H p ≠ some (.lst xs)) : RowsV M H' kvs ls dn := fun v hv => by
  obtain ⟨a, ys, e1, e2, r, n⟩ := h v hv
  exact ⟨a, ys, e1, o.get (fun z => hp _ (z ▸ e2)) e2, r, n⟩
theorem RowsV.len {M : List Addr} {H : Hp} {kvs : List (Key × V)} {ls : List (Int × Int)} {dn vs ys : List Int} {v : Int} (S : ShOk vs ls) (hv : v ∈ vs) (r : RowOk ls v ys) : ys.length ≤ vs.length :=
  nodup_le ys vs (r.rise.imp (fun {a b} h => Int.ne_of_lt h)) fun x hx => ((r.mem x).mp hx).mem S hv
/-! ### answers -/
def AL (H : Hp) (b : Addr) (an : List (Addr × Int × Bool)) : Prop := H b = some (.tup (an.map fun q => .ref q.1)) ∧ ∀ q ∈ an, H q.1 = some (.tup [.int q.2.1, .bl q.2.2])
theorem AL.kt {H H' : Hp} {a : Addr} {an : List (Addr × Int × Bool)} (h : AL H a an) (k : KT H H') : AL H' a an := ⟨k _ _ h.1, fun q hq => k _ _ (h.2 q hq)⟩
/-- what is held by the answers, what lacks -/
def hasP (ls : List (Int × Int)) (an : List (Int × Bool)) (v : Int) : Prop := ∃ u, (u, true) ∈ an ∧ Bel ls u v
def lackP (ls : List (Int × Int)) (an : List (Int × Bool)) (v : Int) : Prop := ∃ u, (u, false) ∈ an ∧ Bel ls v u
noncomputable def hasB (ls : List (Int × Int)) (an : List (Int × Bool)) (v : Int) : Bool := @decide (hasP ls an v) (Classical.propDecidable _)
noncomputable def lackB (ls : List (Int × Int)) (an : List (Int × Bool)) (v : Int) : Bool := @decide (lackP ls an v) (Classical.propDecidable _)
theorem hasB_iff {ls : List (Int × Int)} {an : List (Int × Bool)} {v : Int} : hasB ls an v = true ↔ hasP ls an v := by unfold hasB; exact @decide_eq_true_iff _ (Classical.propDecidable _)
theorem lackB_iff {ls : List (Int × Int)} {an : List (Int × Bool)} {v : Int} : lackB ls an v = true ↔ lackP ls an v := by unfold lackB; exact @decide_eq_true_iff _ (Classical.propDecidable _)
noncomputable def hasL (ls : List (Int × Int)) (an : List (Int × Bool)) (ns : List Int) : List Int := ns.filter (hasB ls an)
noncomputable def lackL (ls : List (Int × Int)) (an : List (Int × Bool)) (ns : List Int) : List Int := ns.filter fun v => !hasB ls an v && lackB ls an v
noncomputable def leftL (ls : List (Int × Int)) (an : List (Int × Bool)) (ns : List Int) : List Int := ns.filter fun v => !hasB ls an v && !lackB ls an v
def noL (an : List (Addr × Int × Bool)) : List Int := (an.filter fun q => !q.2.2).map (·.2.1)
def yesL (an : List (Addr × Int × Bool)) : List Int := (an.filter fun q => q.2.2).map (·.2.1)
theorem mem_noL {an : List (Addr × Int × Bool)} {x : Int} : x ∈ noL an ↔ (x, false) ∈ an.map (·.2) := by
  unfold noL
  rw [List.mem_map, List.mem_map]
  constructor
  · rintro ⟨q, hq, rfl⟩
    obtain ⟨h1, h2⟩ := List.mem_filter.mp hq
    exact ⟨q, h1, by obtain ⟨a, b, c⟩ := q; cases c with | true => simp at h2 | false => rfl⟩
  · rintro ⟨q, hq, e⟩
    exact ⟨q, List.mem_filter.mpr ⟨hq, by rw [e]; rfl⟩, by rw [e]⟩
theorem mem_yesL {an : List (Addr × Int × Bool)} {x : Int} : x ∈ yesL an ↔ (x, true) ∈ an.map (·.2) := by
  unfold yesL
  rw [List.mem_map, List.mem_map]
  constructor
  · rintro ⟨q, hq, rfl⟩
    obtain ⟨h1, h2⟩ := List.mem_filter.mp hq
    exact ⟨q, h1, by obtain ⟨a, b, c⟩ := q; cases c with | true => rfl | false => simp at h2⟩
  · rintro ⟨q, hq, e⟩
    exact ⟨q, List.mem_filter.mpr ⟨hq, by rw [e]⟩, by rw [e]⟩
def noF (q : Addr × Int × Bool) : Option (Key × V) := if q.2.2 = true then none else some (Sum.inl q.2.1, .bl true)
def yesF (q : Addr × Int × Bool) : Option V := if q.2.2 = true then some (.int q.2.1) else none
theorem noF_map : ∀ an : List (Addr × Int × Bool), an.filterMap noF = (noL an).map fun x => ((Sum.inl x : Key), V.bl true)
  | [] => rfl
  | ⟨a, x, b⟩ :: r => by
    have h := noF_map r
    cases b with
    | true =>
      show r.filterMap noF = _
      rw [h]; rfl
    | false =>
      show ((Sum.inl x : Key), V.bl true) :: r.filterMap noF = _
      rw [h]; rfl
theorem yesF_map : ∀ an : List (Addr × Int × Bool), an.filterMap yesF = (yesL an).map V.int
  | [] => rfl
  | ⟨a, x, b⟩ :: r => by
    have h := yesF_map r
    cases b with
    | true =>
      show V.int x :: r.filterMap yesF = _
      rw [h]; rfl
    | false =>
      show r.filterMap yesF = _
      rw [h]; rfl
theorem yesL_len (an : List (Addr × Int × Bool)) : (yesL an).length ≤ an.length := by
  unfold yesL
  rw [List.length_map]
  exact List.length_filter_le _ _
theorem no_in (an : List (Addr × Int × Bool)) (x : Int) : (valV (mergeK [] ((List.range an.length).filterMap fun i => an[i]?.bind noF)) (Sum.inl x)).isSome = decide (x ∈ noL an) := by
  rw [range_fm, noF_map]
  exact known_in (noL an) (fun _ => .bl true) x
/-- no answer is against another: nothing is raised -/
def Clear (ls : List (Int × Int)) (an : List (Int × Bool)) : Prop := ∀ u l, (u, true) ∈ an → (l, false) ∈ an → ¬ Bel ls u l
def Clash (ls : List (Int × Int)) (an : List (Int × Bool)) (p : Int × Int) : Prop := (p.1, true) ∈ an ∧ (p.2, false) ∈ an ∧ Bel ls p.1 p.2
def LeastC (ls : List (Int × Int)) (an : List (Int × Bool)) (p : Int × Int) : Prop := Clash ls an p ∧ ∀ r, Clash ls an r → ¬ LtP r p
theorem LeastC.uniq {ls : List (Int × Int)} {an : List (Int × Bool)} {p q : Int × Int} (a : LeastC ls an p) (b : LeastC ls an q) : p = q := by
  have h1 := a.2 q b.1
  have h2 := b.2 p a.1
  unfold LtP at h1 h2
  obtain ⟨p1, p2⟩ := p
  obtain ⟨q1, q2⟩ := q
  simp only at h1 h2
  have e1 : p1 = q1 := by omega
  have e2 : p2 = q2 := by omega
  rw [e1, e2]
theorem LeastC.not {ls : List (Int × Int)} {an : List (Int × Bool)} {p : Int × Int} (a : LeastC ls an p) : ¬ Clear ls an := fun h => h p.1 p.2 a.1.1 a.1.2.1 a.1.2.2
theorem take_le {ys : List Int} (h : ys.Pairwise (· ≤ ·)) {i : Nat} {u x : Int} (hu : ys[i]? = some u) (hx : x ∈ ys) (hlt : x < u) : x ∈ ys.take i := by
  have e : ys = ys.take i ++ u :: ys.drop (i + 1) := by rw [← drop_of hu, List.take_append_drop]
  have hd : (ys.drop i).Pairwise (· ≤ ·) := h.drop
  rw [drop_of hu, List.pairwise_cons] at hd
  rw [e] at hx
  rcases List.mem_append.mp hx with z | z
  · exact z
  · rcases List.mem_cons.mp z with rfl | z
    · omega
    · have := hd.1 x z
      omega
def spNoClashX (C : Addr) : Sp := fun vs H Q E => ∃ (R A : Addr) (kvs : List (Key × V)) (ls : List (Int × Int)) (ns : List Int) (an : List (Addr × Int × Bool)), vs = [.ref R, .ref A] ∧ H R = some (.dK kvs) ∧ RowsV [] H kvs ls ns ∧ AL H A an ∧ an.length < 64 ∧ (∀ q ∈ an, q.2.1 ∈ ns) ∧
  (Clear ls (an.map (·.2)) → ∀ H', Same H H' → Q .non H') ∧ ∀ p d H', LeastC ls (an.map (·.2)) p → Same H H' → H d = none → H' d = some (.xd [("lower", .int p.2), ("upper", .int p.1)]) → E (.ref C) (some d) H'
section
variable {P : Program} {w : World} {K : PySem.W.Frag} {mg : Str → Option Value} {base : Heap}
theorem ok_cinit {f C : Addr} {fd : FuncData} (F : Fun K "__init__" "Contrary.__init__" s_Contrary___init__ f fd) (XT : OexC K C) (n1 : PySem.W.findIn K (.ref C) "upper" = some none) (n2 : PySem.W.findIn K (.ref C) "lower" = some none) : FnOk P w K mg base CX0 1 f fd ["self", "upper", "lower"] (spInit2 K C "upper" "lower") := by
  refine F.ok sc_Contrary___init__ (fun vs H Q E h => ?_) (fun cdv A outer s H vs Q E hr h => ?_)
  · obtain ⟨a, x, y, rfl, _⟩ := h
    rfl
  · obtain ⟨a, x, y, rfl, e, q⟩ := h
    refine ⟨_,
      (pss_cons
        (ps_ost (pv 0) (pv 1))
      (pss_one
        (ps_ost (pv 0) (pv 2))))
      , ?_⟩
    rw [show L2.start N_Contrary___init__ [V.ref a, x, y] = [some (.ref a), some x, some y] from rfl]
    refine w_seq (w_ost ?_)
    walk_at "x"
    refine ⟨a, C, rfl, XT, n1, .inl ⟨e, fun dx hd hne => ?_⟩⟩
    refine w_ost ?_
    walk_at "g"
    exact ⟨a, C, rfl, XT, n2, .inr ⟨dx, _, upd_same, by rw [upd_ne hne, upd_same], by simp, q dx hd hne⟩⟩
theorem ok_noclashX {f fI C_Contrary : Addr} {fd fdI : FuncData} (T : Txt K mg) (F : Fun K "no_clash" "no_clash" s_no_clash f fd) (FI : Fun K "__init__" "Contrary.__init__" s_Contrary___init__ fI fdI) (X_Contrary : ExnI K mg "Contrary" C_Contrary fI fdI ["self", "upper", "lower"] ["upper", "lower"]) : FnOk P w K mg base (L2.CX P w) 3 f fd ["rows", "answers"] (spNoClashX C_Contrary) := by
  have G_Contrary___init__ : FnOk P w K mg base CX0 1 fI fdI ["self", "upper", "lower"] (spInit2 K C_Contrary "upper" "lower") := ok_cinit FI X_Contrary.T (X_Contrary.nf "upper" (by simp)) (X_Contrary.nf "lower" (by simp))
  refine F.okX sc_no_clash (fun vs H Q E h => ?_) (fun cdv A outer s H vs Q E hr h => ?_)
  · obtain ⟨R, A, kvs, ls, ns, an, rfl, _⟩ := h
    rfl
  · obtain ⟨R, Aa, kvs, ls, ns, an, rfl, eR, rv, ⟨hA, hAe⟩, hl, hm, q, qx⟩ := h
    have hu := hu_of hr
    refine ⟨_,
      (pss_cons
        (ps_setDc (i := 2) (own := [("version", 5), ("truth", 6)]) (g := (gTup K 2 (gCons (gName 5) (gCons (gName 6) gNil)))) rfl sc_no_clash.nd rfl rfl (sw_trueD rfl rfl rfl (by decide +kernel)) (pi_tup (pv 1)) (blkOk_by (own := [("version", 5), ("truth", 6)]) (N := N_no_clash) (sc := defScope s_no_clash) (by decide +kernel)) (fun _ _ _ _ _ => (pg_tup rfl (pgs_cons (pg_name (i := 5) sc_no_clash.nd rfl (.inl rfl)) (pgs_cons (pg_name (i := 6) sc_no_clash.nd rfl (.inl rfl)) pgs_nil)))) (fun _ _ _ _ _ => (pts_one (pt_not (pt_val (pv 6))))) (fun _ _ _ _ _ => (pv 5)) (fun _ _ _ _ _ => pe_bl))
      (pss_one
        (ps_for (passes_of rfl) rfl (pi_list (pe_callB (r := rSorted K) cr_sorted (by rfl) T.n_sorted (by decide +kernel) (pa_cons (pe_lc (own := [("version", 5), ("truth", 6)]) (g := (gTup K 2 (gCons (gName 5) (gCons (gName 6) gNil)))) rfl sc_no_clash.nd (pi_tup (pv 1)) (blkOk_by (own := [("version", 5), ("truth", 6)]) (N := N_no_clash) (sc := defScope s_no_clash) (by decide +kernel)) (fun _ _ _ _ _ => (pg_tup rfl (pgs_cons (pg_name (i := 5) sc_no_clash.nd rfl (.inl rfl)) (pgs_cons (pg_name (i := 6) sc_no_clash.nd rfl (.inl rfl)) pgs_nil)))) (fun _ _ _ _ _ => (pts_one (pt_val (pv 6)))) (fun _ _ _ _ _ => (pv 5))) pa_nil))) (pg_name (i := 3) sc_no_clash.nd rfl (.inl rfl))
          (pss_one
            (ps_for (passes_of rfl) rfl (pi_list (pe_dget hu (pv 0) (pv 3) (fun _ _ => rfl))) (pg_name (i := 4) sc_no_clash.nd rfl (.inl rfl))
              (pss_one
                (ps_if (pt_cmp (pc_din hu (pv 4) (pv 2)))
                  (pss_one
                    (ps_raise rfl (takes_of rfl rfl rfl rfl) (pmk_oex X_Contrary.T X_Contrary.i X_Contrary.t G_Contrary___init__ (hr.mono (by omega)) X_Contrary.b .nil pass0 (by rfl) X_Contrary.g (pa_cons (pv 3) (pa_cons (pv 4) pa_nil)))))
                  pss_nil)))))))
      , ?_⟩
    rw [show L2.start N_no_clash [V.ref R, V.ref Aa] = [some (.ref R), some (.ref Aa), none, none, none, none, none] from rfl]
    walk_at "x"
    refine dcp_sel (walk_tup (K := K) (a := Aa) (xs := an.map fun q => .ref q.1)) [] (fun i => an[i]?.bind noF) (by rw [List.length_map]; omega) (fun H' k => .of (k _ _ (by simp) hA)) ?_ (by simp) ?_
    · rintro i x H1 H2 Rr R0 hi k1 ⟨rfl, hx⟩ h1 h2
      obtain ⟨y, hy, rfl⟩ := map_at hx
      have ey := k1 _ _ (by simp) (hAe y (List.mem_of_getElem? hy))
      walk_at "g"
      refine ⟨rfl, ?_⟩
      walk_at "g"
      refine w_itNB (fun hb => ?_) (fun hb => ?_)
      · walk_at "g"
        exact h1 (Sum.inl y.2.1, .bl true) _ (by rw [hy]; show noF y = _; unfold noF; rw [hb]; rfl) Kp.refl
      · exact h2 _ (by rw [hy]; show noF y = _; unfold noF; rw [hb]; rfl) Kp.refl
    · intro N H1 hN k1 eN
      rw [List.length_map] at eN
      have k1' := k1.same
      have eR1 := k1' _ _ eR
      have hA1 := k1' _ _ hA
      have rv1 := rv.kp (N := []) k1 (by simp)
      walk_at "g"
      refine lcp_sel (walk_tup (K := K) (a := Aa) (xs := an.map fun q => .ref q.1)) [] (fun i => an[i]?.bind yesF) (by rw [List.length_map]; omega) (fun H' k => .of (k _ _ (by simp) hA1)) ?_ (by simp) ?_
      · rintro i x H2 H3 Rr R0 hi k2 ⟨rfl, hx⟩ h1 h2
        obtain ⟨y, hy, rfl⟩ := map_at hx
        have ey := k2 _ _ (by simp) (k1' _ _ (hAe y (List.mem_of_getElem? hy)))
        walk_at "g"
        refine ⟨rfl, ?_⟩
        walk_at "g"
        refine w_itB (fun hb => ?_) (fun hb => ?_)
        · walk_at "g"
          exact h1 _ _ (by rw [hy]; show yesF y = _; unfold yesF; rw [hb]; rfl) Kp.refl
        · exact h2 _ (by rw [hy]; show yesF y = _; unfold yesF; rw [hb]; rfl) Kp.refl
      · intro L H2 hL k2 eL
        rw [List.length_map, range_fm, yesF_map] at eL
        walk_at "g"
        refine w_sorted (.of eL) (by have := yesL_len an; omega) fun ys S H3 hp hs hS eS k3 => ?_
        have kk : Same H1 H3 := Same.trans k2.same k3
        walk_at "g"
        refine lp_list (xs := ys.map V.int) (fun i σ H' => ∃ (y3 y4 : Option V), σ = [some (.ref R), some (.ref Aa), some (.ref N), y3, y4, none, none] ∧ H' = H3 ∧ ∀ u ∈ ys.take i, ∀ l, ¬ Clash ls (an.map (·.2)) (u, l)) ⟨_, _, rfl, rfl, by simp⟩ ?_ ?_ ?_
        · rintro i σ H' _ ⟨_, _, _, rfl, _⟩
          exact .of eS
        · rintro i y σ H' hy ⟨y3, y4, rfl, rfl, hno⟩
          obtain ⟨u, hu', rfl⟩ := map_at hy
          have huy : (u, true) ∈ an.map (·.2) := mem_yesL.mp (hp.mem_iff.mp (List.mem_of_getElem? hu'))
          have hun : u ∈ ns := by
            obtain ⟨z, hz, e⟩ := List.mem_map.mp huy
            have := hm z hz
            rw [e] at this
            exact this
          obtain ⟨a, zs, v1, v2, v3, v4⟩ := rv1 u hun
          have eR3 := kk _ _ eR1
          have v2' := kk _ _ v2
          have eN3 := kk _ _ eN
          walk_at "g"
          refine lp_list (xs := zs.map V.int) (fun j σ H'' => ∃ (y4 : Option V), σ = [some (.ref R), some (.ref Aa), some (.ref N), some (.int u), y4, none, none] ∧ H'' = H' ∧ ∀ l ∈ zs.take j, l ∉ noL an) ⟨_, rfl, rfl, by simp⟩ ?_ ?_ ?_
          · rintro j σ H'' _ ⟨_, _, rfl, _⟩
            exact .of v2'
          · rintro j y σ H'' hy' ⟨y4, rfl, rfl, hj⟩
            obtain ⟨l, hl', rfl⟩ := map_at hy'
            have hlm := List.mem_of_getElem? hl'
            walk_at "g"
            rw [no_in]
            refine w_ite (fun hin => ?_) (fun hin => ?_)
            · have cl : Clash ls (an.map (·.2)) (u, l) := ⟨huy, mem_noL.mp hin, (v3.mem l).mp hlm⟩
              have least : LeastC ls (an.map (·.2)) (u, l) := by
                refine ⟨cl, fun r hr' hlt => ?_⟩
                rcases hlt with h | ⟨h1, h2⟩
                · exact hno r.1 (take_le hs hu' (hp.mem_iff.mpr (mem_yesL.mpr hr'.1)) h) r.2 hr'
                · have hb : Bel ls u r.2 := by
                    have := hr'.2.2
                    rw [h1] at this
                    exact this
                  exact hj r.2 (take_le (v3.rise.imp Int.le_of_lt) hl' ((v3.mem r.2).mpr hb) h2) (mem_noL.mpr hr'.2.1)
              refine w_mkO ?_
              walk_at "g"
              refine ⟨by simp, fun a ha => mk2_same ha fun d H4 k4 hd e4 => ?_⟩
              exact qx (u, l) d H4 least (Same.trans k1' (Same.trans kk k4)) ((Same.trans k1' kk).free hd) e4
            · walk_at "g"
              refine ⟨_, rfl, rfl, fun x hx => ?_⟩
              rw [List.take_add_one, hl'] at hx
              rcases List.mem_append.mp hx with h | h
              · exact hj x h
              · have e : x = l := by simpa using h
                rw [e]
                exact hin
          · rintro σ H'' ⟨y4, rfl, rfl, hj⟩
            rw [List.length_map, List.take_length] at hj
            refine ⟨_, _, rfl, rfl, fun x hx l hcl => ?_⟩
            rw [List.take_add_one, hu'] at hx
            rcases List.mem_append.mp hx with h | h
            · exact hno x h l hcl
            · have e : x = u := by simpa using h
              subst e
              exact hj l ((v3.mem l).mpr hcl.2.2) (mem_noL.mpr hcl.2.1)
        · rintro σ H' ⟨y3, y4, rfl, rfl, hno⟩
          rw [List.length_map, List.take_length] at hno
          exact q (fun u l h1 h2 h3 => hno u (hp.mem_iff.mpr (mem_yesL.mpr h1)) l ⟨h1, h2, h3⟩) _ (Same.trans k1' kk)
end
def spSettledX (C : Addr) : Sp := fun vs H Q E => ∃ (t A : Addr) (ns : List Int) (ps : List (Addr × Int × Int)) (an : List (Addr × Int × Bool)), vs = [.ref t, .ref A] ∧ ShAt H t ns ps ∧ ShOk ns (ps.map (·.2)) ∧ ns.length < 64 ∧ ps.length ≤ 100000 ∧ AL H A an ∧ an.length < 64 ∧ (∀ q ∈ an, q.2.1 ∈ ns) ∧
  (Clear (ps.map (·.2)) (an.map (·.2)) → ∀ H' r a1 a2 a3, Same H H' → H' r = some (.tup [.ref a1, .ref a2, .ref a3]) → VL H' a1 (hasL (ps.map (·.2)) (an.map (·.2)) ns) → VL H' a2 (lackL (ps.map (·.2)) (an.map (·.2)) ns) → VL H' a3 (leftL (ps.map (·.2)) (an.map (·.2)) ns) → Q (.ref r) H') ∧ ∀ p d H', LeastC (ps.map (·.2)) (an.map (·.2)) p → Same H H' → H d = none → H' d = some (.xd [("lower", .int p.2), ("upper", .int p.1)]) → E (.ref C) (some d) H'
theorem val_keys {kvs : List (Key × V)} {ks : List Int} (h : kvs.map (·.1) = ks.map (Sum.inl : Int → Key)) (x : Int) : (valV kvs (Sum.inl x)).isSome = decide (x ∈ ks) := by
  rw [Bool.eq_iff_iff, decide_eq_true_iff]
  constructor
  · intro z
    obtain ⟨v, e⟩ := Option.isSome_iff_exists.mp z
    have m := valV_in e
    rw [h] at m
    obtain ⟨y, hy, e2⟩ := List.mem_map.mp m
    exact Sum.inl.inj e2 ▸ hy
  · intro z
    cases e : valV kvs (Sum.inl x) with
    | some v => rfl
    | none => exact absurd (by rw [h]; exact List.mem_map_of_mem z) (valV_not e)
theorem hasP.mem {ns : List Int} {ls : List (Int × Int)} {an : List (Int × Bool)} {v : Int} (S : ShOk ns ls) (hm : ∀ q ∈ an, q.1 ∈ ns) (h : hasP ls an v) : v ∈ ns := by
  obtain ⟨u, hu, b⟩ := h
  exact b.mem S (hm _ hu)
theorem filter_snoc {p : Int → Bool} {ns : List Int} {i : Nat} {v : Int} (h : ns[i]? = some v) : (ns.take (i + 1)).filter p = if p v = true then (ns.take i).filter p ++ [v] else (ns.take i).filter p := by
  rw [List.take_add_one, h, List.filter_append]
  by_cases e : p v = true
  · rw [if_pos e]; simp [e]
  · rw [if_neg e]; simp [e]
theorem hasL_snoc {ls : List (Int × Int)} {an : List (Int × Bool)} {ns : List Int} {i : Nat} {v : Int} (h : ns[i]? = some v) : hasL ls an (ns.take (i + 1)) = if hasB ls an v = true then hasL ls an (ns.take i) ++ [v] else hasL ls an (ns.take i) := filter_snoc h
theorem lackL_snoc {ls : List (Int × Int)} {an : List (Int × Bool)} {ns : List Int} {i : Nat} {v : Int} (h : ns[i]? = some v) : lackL ls an (ns.take (i + 1)) = if (!hasB ls an v && lackB ls an v) = true then lackL ls an (ns.take i) ++ [v] else lackL ls an (ns.take i) := filter_snoc h
theorem leftL_snoc {ls : List (Int × Int)} {an : List (Int × Bool)} {ns : List Int} {i : Nat} {v : Int} (h : ns[i]? = some v) : leftL ls an (ns.take (i + 1)) = if (!hasB ls an v && !lackB ls an v) = true then leftL ls an (ns.take i) ++ [v] else leftL ls an (ns.take i) := filter_snoc h
section
variable {P : Program} {w : World} {K : PySem.W.Frag} {mg : Str → Option Value} {base : Heap}
theorem ok_settledX {f fS fN fI C_Contrary : Addr} {fd fdS fdN fdI : FuncData} (T : Txt K mg) (F : Fun K "settled" "settled" s_settled f fd) (D_spans : Df K mg "spans" s_spans ["shape"] fS fdS) (D_no_clash : Df K mg "no_clash" s_no_clash ["rows", "answers"] fN fdN)
    (FI : Fun K "__init__" "Contrary.__init__" s_Contrary___init__ fI fdI) (X_Contrary : ExnI K mg "Contrary" C_Contrary fI fdI ["self", "upper", "lower"] ["upper", "lower"]) : FnOk P w K mg base (L2.CX P w) 4 f fd ["shape", "answers"] (spSettledX C_Contrary) := by
  have G_spans : FnOk P w K mg base CX0 1 fS fdS ["shape"] spSpans := ok_spans T D_spans.fn
  have G_no_clash : FnOk P w K mg base (L2.CX P w) 3 fN fdN ["rows", "answers"] (spNoClashX C_Contrary) := ok_noclashX T D_no_clash.fn FI X_Contrary
  refine F.okX sc_settled (fun vs H Q E h => ?_) (fun cdv A outer s H vs Q E hr h => ?_)
  · obtain ⟨t, A, ns, ps, an, rfl, _⟩ := h
    rfl
  · obtain ⟨t, Aa, ns, ps, an, rfl, hS, S, hl, hl2, hA, hal, ham, q, qx⟩ := h
    have hu := hu_of hr
    refine ⟨_,
      (pss_cons
        (ps_set (i := 2) sc_settled.nd rfl (.inr rfl) (pe_call G_spans (hr.mono (by omega)) (by rfl) D_spans.g D_spans.fn.kp D_spans.b .nil pass0 (pa_cons (pv 0) pa_nil)))
      (pss_cons
        (ps_expr (pe_call G_no_clash (hr.mono (by omega)) (by rfl) D_no_clash.g D_no_clash.fn.kp D_no_clash.b .nil (passes_call (takes_of rfl rfl rfl rfl) (fun _ _ _ _ h => h)) (pa_cons (pv 2) (pa_cons (pv 1) pa_nil))))
      (pss_cons
        (ps_set (i := 3) sc_settled.nd rfl (.inr rfl) (pe_dc (own := [("version", 8), ("truth", 9)]) (g := (gTup K 2 (gCons (gName 8) (gCons (gName 9) gNil)))) rfl sc_settled.nd (pi_tup (pv 1)) (blkOk_by (own := [("version", 8), ("truth", 9)]) (N := N_settled) (sc := defScope s_settled) (by decide +kernel)) (fun _ _ _ _ _ => (pg_tup rfl (pgs_cons (pg_name (i := 8) sc_settled.nd rfl (.inl rfl)) (pgs_cons (pg_name (i := 9) sc_settled.nd rfl (.inl rfl)) pgs_nil)))) (fun _ _ _ _ _ => (pts_one (pt_not (pt_val (pv 9))))) (fun _ _ _ _ _ => (pv 8)) (fun _ _ _ _ _ => pe_bl)))
      (pss_cons
        (ps_setDc2 (i := 4) (own := [("version", 8), ("truth", 9), ("low", 10)]) (us := [10]) (ga := (gTup K 2 (gCons (gName 8) (gCons (gName 9) gNil)))) (gb := (gName 10)) rfl sc_settled.nd rfl rfl (sw_trueD rfl rfl rfl (by decide +kernel)) (pi_tup (pv 1)) (blkOk_by (own := [("version", 8), ("truth", 9), ("low", 10)]) (N := N_settled) (sc := defScope s_settled) (by decide +kernel)) (by decide) (fun _ _ _ _ _ => (pg_tup rfl (pgs_cons (pg_name (i := 8) sc_settled.nd rfl (.inl rfl)) (pgs_cons (pg_name (i := 9) sc_settled.nd rfl (.inl rfl)) pgs_nil)))) (fun _ _ _ _ _ => (pts_one (pt_val (pv 9)))) (fun _ _ _ _ _ => (pi_listK (K := K) rfl (pe_dget hu (pv 2) (pv 8) (fun _ _ => rfl)))) (fun _ _ _ _ _ => (pg_name (i := 10) sc_settled.nd rfl (.inl rfl))) (fun _ _ _ _ _ => pts_nil) (fun _ _ _ _ _ => (pv 10)) (fun _ _ _ _ _ => pe_bl))
      (pss_cons
        (ps_set (i := 5) sc_settled.nd rfl (.inl rfl) (pe_lst pa_nil))
      (pss_cons
        (ps_set (i := 6) sc_settled.nd rfl (.inl rfl) (pe_lst pa_nil))
      (pss_cons
        (ps_set (i := 7) sc_settled.nd rfl (.inl rfl) (pe_lst pa_nil))
      (pss_cons
        (ps_for (passes_of rfl) rfl (pi_tup (pe_ix (r := rIxT K) ix_tup (pv 0) pe_int (fun _ _ => rfl))) (pg_name (i := 8) sc_settled.nd rfl (.inl rfl))
          (pss_one
            (ps_if (pt_cmp (pc_din hu (pv 8) (pv 4)))
              (pss_one
                (ps_expr (pe_bm PySem.F.plainAttrs_list PySem.F.slot_list_append PySem.F.type_list_append mt_append (pv 5) (pa_cons (pv 8) pa_nil))))
              (pss_one
                (ps_if (pt_val (pe_callB (r := rAny K) (cr_any rfl) (by rfl) T.n_any (by decide +kernel) (pa_cons (pe_lc (own := [("low", 10)]) (g := (gName 10)) rfl sc_settled.nd (pi_list (pe_dget hu (pv 2) (pv 8) (fun _ _ => rfl))) (blkOk_by (own := [("low", 10)]) (N := N_settled) (sc := defScope s_settled) (by decide +kernel)) (fun _ _ _ _ _ => (pg_name (i := 10) sc_settled.nd rfl (.inl rfl))) (fun _ _ _ _ _ => pts_nil) (fun _ _ _ _ _ => (pe_cmp (pc_din hu (pv 10) (pv 3))))) pa_nil)))
                  (pss_one
                    (ps_expr (pe_bm PySem.F.plainAttrs_list PySem.F.slot_list_append PySem.F.type_list_append mt_append (pv 6) (pa_cons (pv 8) pa_nil))))
                  (pss_one
                    (ps_expr (pe_bm PySem.F.plainAttrs_list PySem.F.slot_list_append PySem.F.type_list_append mt_append (pv 7) (pa_cons (pv 8) pa_nil)))))))))
      (pss_one
        (ps_ret (pe_tup (pa_cons (pe_callTy (r := rTupOf K) c_tupOf (by rfl) T.n_tuple (by decide +kernel) (pa_cons (pv 5) pa_nil)) (pa_cons (pe_callTy (r := rTupOf K) c_tupOf (by rfl) T.n_tuple (by decide +kernel) (pa_cons (pv 6) pa_nil)) (pa_cons (pe_callTy (r := rTupOf K) c_tupOf (by rfl) T.n_tuple (by decide +kernel) (pa_cons (pv 7) pa_nil)) pa_nil))))))))))))))
      , ?_⟩
    rw [show L2.start N_settled [V.ref t, V.ref Aa] = [some (.ref t), some (.ref Aa), none, none, none, none, none, none, none, none, none] from rfl]
    walk_at "x"
    refine ⟨t, ns, ps, rfl, hS, S, hl, hl2, fun H1 R k1 hR RA => ?_⟩
    obtain ⟨kvs, eR, hks, _, rv0⟩ := RA
    have rv : RowsV [] H1 kvs (ps.map (·.2)) ns := fun v hv => by
      obtain ⟨a, ys, v1, v2, v3, v4⟩ := rv0 v hv
      exact ⟨a, ys, v1, v2, v3, by simp⟩
    have hA1 := hA.kt (KT.of k1)
    walk_at "g"
    refine ⟨R, Aa, kvs, _, ns, an, rfl, eR, rv, hA1, hal, ham, fun hc H2 k2 => ?_, fun p d H2 hp k2 hd e => qx p d H2 hp (Same.trans k1 k2) (k1.free hd) e⟩
    have eR2 := k2 _ _ eR
    have rv2 := rv.kp (N := []) (Kp.of k2) (by simp)
    obtain ⟨hAt, hAe⟩ := hA1.kt (KT.of k2)
    walk_at "g"
    refine dcp_sel (walk_tup (K := K) (a := Aa) (xs := an.map fun q => .ref q.1)) [] (fun i => an[i]?.bind noF) (by rw [List.length_map]; omega) (fun H' k => .of (k _ _ (by simp) hAt)) ?_ (by simp) ?_
    · rintro i x H3 H4 Rr R0 hi k3 ⟨rfl, hx⟩ h1 h2
      obtain ⟨y, hy, rfl⟩ := map_at hx
      have ey := k3 _ _ (by simp) (hAe y (List.mem_of_getElem? hy))
      walk_at "g"
      refine ⟨rfl, ?_⟩
      walk_at "g"
      refine w_itNB (fun hb => ?_) (fun hb => ?_)
      · walk_at "g"
        exact h1 (Sum.inl y.2.1, .bl true) _ (by rw [hy]; show noF y = _; unfold noF; rw [hb]; rfl) Kp.refl
      · exact h2 _ (by rw [hy]; show noF y = _; unfold noF; rw [hb]; rfl) Kp.refl
    · intro N H3 hN k3' eN
      rw [List.length_map] at eN
      have k3 := k3'.same
      have eR3 := k3 _ _ eR2
      have rv3 := rv2.kp (N := []) k3' (by simp)
      have hAt3 := k3 _ _ hAt
      walk_at "g"
      refine dc2_it (walk_tup (K := K) (a := Aa) (xs := an.map fun q => .ref q.1)) (fun D i H' => Same H3 H' ∧ ∃ (ks : List Int), FoundAt H' D ks ∧ ∀ x, x ∈ ks ↔ hasP (ps.map (·.2)) ((an.take i).map (·.2)) x) ?_ ?_ ?_ ?_
      · intro D hD
        refine ⟨Same.new hD, [], ⟨⟨[], upd_same, rfl⟩, List.nodup_nil⟩, fun x => ?_⟩
        constructor
        · intro z; cases z
        · rintro ⟨u, hu', _⟩
          simp at hu'
      · rintro D i H' _ ⟨k4, _⟩
        exact .of (k4 _ _ hAt3)
      · rintro D i x H4 H5 hD hi ⟨k4, ks, FA, hin⟩ ⟨rfl, hx⟩
        obtain ⟨y, hy, rfl⟩ := map_at hx
        have hym := List.mem_of_getElem? hy
        have ey := k4 _ _ (k3 _ _ (hAe y hym))
        have tk : (an.take (i + 1)).map (·.2) = (an.take i).map (·.2) ++ [y.2] := by
          rw [List.take_add_one, hy, List.map_append]
          rfl
        have hmt : ∀ z ∈ (an.take i).map (·.2), z.1 ∈ ns := fun z hz => by
          obtain ⟨z', hz', rfl⟩ := List.mem_map.mp hz
          exact ham _ (List.mem_of_mem_take hz')
        walk_at "g"
        refine ⟨rfl, ?_⟩
        walk_at "g"
        refine w_itB (fun hb => ?_) (fun hb => ?_)
        · obtain ⟨a, zs, v1, v2, v3, _⟩ := rv3 y.2.1 (ham y hym)
          have eR5 := k4 _ _ eR3
          have v2' := k4 _ _ v2
          walk_at "g"
          refine inner_it (walk_list (K := K) (a := a) (xs := zs.map V.int)) (fun j H' => Same H3 H' ∧ ∃ (ks : List Int), FoundAt H' D ks ∧ ∀ x, x ∈ ks ↔ hasP (ps.map (·.2)) ((an.take i).map (·.2)) x ∨ x ∈ zs.take j) ?_ ?_ ?_ ?_
          · exact ⟨k4, ks, FA, fun x => by rw [hin]; simp⟩
          · rintro j H' _ ⟨k5, _⟩
            exact .of (k5 _ _ v2)
          · rintro j x H6 H7 hj ⟨k6, ks6, ⟨⟨fk, ef, hfk⟩, nd6⟩, hin6⟩ ⟨rfl, hx6⟩
            obtain ⟨u, hu', rfl⟩ := map_at hx6
            refine w_name ⟨rfl, ?_⟩
            walk_at "g"
            have hlen : fk.length < sizeLine := by
              have h1 : fk.length = ks6.length := by
                have := congrArg List.length hfk
                simpa using this
              have h2 : ks6.length ≤ ns.length := nodup_le ks6 ns nd6 fun z hz => by
                rcases (hin6 z).mp hz with a | a
                · exact a.mem S hmt
                · exact ((v3.mem z).mp (List.mem_of_mem_take a)).mem S (ham y hym)
              exact small1000 (by omega)
            refine ⟨fk, Sum.inl u, rfl, ef, hlen, ?_, addK ks6 u, FoundAt.put hfk nd6 upd_same, fun z => ?_⟩
            · exact (Kp.mutN (M := []) (Kp.of k6) hD).same
            · rw [mem_addK, hin6, List.take_add_one, hu']
              simp only [Option.toList_some, List.mem_append, List.mem_singleton]
              rw [or_assoc]
          · rintro H6 ⟨k6, ks6, FA6, hin6⟩
            rw [List.length_map, List.take_length] at hin6
            refine ⟨k6, ks6, FA6, fun z => ?_⟩
            rw [hin6, tk, v3.mem]
            constructor
            · rintro (⟨u, h1, h2⟩ | h1)
              · exact ⟨u, List.mem_append_left _ h1, h2⟩
              · exact ⟨y.2.1, List.mem_append_right _ (by rw [← hb]; simp), h1⟩
            · rintro ⟨u, h1, h2⟩
              rcases List.mem_append.mp h1 with h1 | h1
              · exact .inl ⟨u, h1, h2⟩
              · have e : (u, true) = y.2 := by simpa using h1
                rw [← e]
                exact .inr h2
        · refine ⟨k4, ks, FA, fun z => ?_⟩
          rw [hin, tk]
          constructor
          · rintro ⟨u, h1, h2⟩
            exact ⟨u, List.mem_append_left _ h1, h2⟩
          · rintro ⟨u, h1, h2⟩
            rcases List.mem_append.mp h1 with h1 | h1
            · exact ⟨u, h1, h2⟩
            · have e : (u, true) = y.2 := by simpa using h1
              rw [← e] at hb
              cases hb
      · rintro D H4 hD ⟨k4, ks, ⟨⟨fk, ef, hfk⟩, nd4⟩, hin⟩
        rw [List.length_map, List.take_length] at hin
        have hinB : ∀ x, (valV fk (Sum.inl x)).isSome = hasB (ps.map (·.2)) (an.map (·.2)) x := fun x => by
          rw [val_keys hfk, Bool.eq_iff_iff, decide_eq_true_iff, hin, hasB_iff]
        walk_at "g"
        refine w_new fun a1 H5 h1 e1 k5 => ?_
        walk_at "g"
        refine w_new fun a2 H6 h2 e2 k6 => ?_
        walk_at "g"
        refine w_new fun a3 H7 h3 e3 k7 => ?_
        have n12 : a1 ≠ a2 := ne_of_none e1 h2
        have n13 : a1 ≠ a3 := ne_of_none (k6 _ _ e1) h3
        have n23 : a2 ≠ a3 := ne_of_none e2 h3
        have k47 : Same H4 H7 := Same.trans k5 (Same.trans k6 k7)
        have k37 : Same H3 H7 := Same.trans k4 k47
        have kk : Same H H7 := Same.trans k1 (Same.trans k2 (Same.trans k3 k37))
        obtain ⟨ta, tb, et, ea, eb⟩ := hS.kt (KT.of kk)
        have ea' : H7 ta = some (.tup (ns.map V.int)) := ea
        have f1 : H4 a1 = none := h1
        have f2 : H4 a2 = none := k5.free h2
        have f3 : H4 a3 = none := k5.free (k6.free h3)
        walk_at "g"
        refine lp_tup (xs := ns.map V.int) (fun i σ H' => ∃ (y8 : Option V), σ = [some (.ref t), some (.ref Aa), some (.ref R), some (.ref N), some (.ref D), some (.ref a1), some (.ref a2), some (.ref a3), y8, none, none] ∧ Same H4 H' ∧ H' a1 = some (.lst ((hasL (ps.map (·.2)) (an.map (·.2)) (ns.take i)).map V.int)) ∧ H' a2 = some (.lst ((lackL (ps.map (·.2)) (an.map (·.2)) (ns.take i)).map V.int)) ∧ H' a3 = some (.lst ((leftL (ps.map (·.2)) (an.map (·.2)) (ns.take i)).map V.int))) ?_ ?_ ?_ ?_
        · exact ⟨_, rfl, k47, k7 _ _ (k6 _ _ e1), k7 _ _ e2, e3⟩
        · rintro i σ H' _ ⟨_, _, k8, _⟩
          refine .of (k8 _ _ ?_)
          have z := hS.kt (KT.of (Same.trans k1 (Same.trans k2 (Same.trans k3 k4))))
          obtain ⟨ta', tb', et', ea2, _⟩ := z
          have z2 := k47 _ _ et'
          rw [et] at z2
          cases z2
          exact ea2
        · rintro i y σ H8 hy ⟨y8, rfl, k8, g1, g2, g3⟩
          obtain ⟨v, hv, rfl⟩ := map_at hy
          have hvn := List.mem_of_getElem? hv
          have sz : ∀ p : Int → Bool, (List.filter p (ns.take i)).length < sizeLine := fun p => small1000 (Nat.le_trans (List.length_filter_le _ _) (by rw [List.length_take]; omega))
          have ef8 := k8 _ _ ef
          have s1 := hasL_snoc (ls := ps.map (·.2)) (an := an.map (·.2)) hv
          have s2 := lackL_snoc (ls := ps.map (·.2)) (an := an.map (·.2)) hv
          have s3 := leftL_snoc (ls := ps.map (·.2)) (an := an.map (·.2)) hv
          walk_at "g"
          rw [hinB]
          refine w_itB (fun hb => ?_) (fun hb => ?_)
          · walk_at "g"
            refine w_app g1 (by rw [List.length_map]; exact sz _) fun H9 e9 o9 => ?_
            refine ⟨_, rfl, (Off.keep (M := []) (Kp.of k8) o9 f1).same, ?_, ?_, ?_⟩
            · rw [e9, s1, if_pos hb, List.map_append]; rfl
            · rw [o9.get n12.symm g2, s2, if_neg (by rw [hb]; simp)]
            · rw [o9.get n13.symm g3, s3, if_neg (by rw [hb]; simp)]
          · obtain ⟨a, zs, v1, v2, v3, _⟩ := rv3 v hvn
            have eR8 := k8 _ _ (k4 _ _ eR3)
            have v2' := k8 _ _ (k4 _ _ v2)
            have eN8 := k8 _ _ (k4 _ _ eN)
            have zl : zs.length ≤ ns.length := RowsV.len (M := []) (H := H3) (kvs := kvs) (dn := ns) S hvn v3
            walk_at "g"
            refine lcp_map (walk_list (K := K) (a := a) (xs := zs.map V.int)) [] ((zs.map fun x => decide (x ∈ noL an)).map V.bl) (by simp) (by rw [List.length_map]; omega) (fun H' k => .of (k _ _ (by simp) v2')) ?_ (by simp) ?_
            · rintro j x H9 H10 Rr hj k9 ⟨rfl, hx⟩ hR
              obtain ⟨u, hu', rfl⟩ := map_at hx
              have eN9 := k9 _ _ (by simp) eN8
              refine w_name ⟨rfl, ?_⟩
              walk_at "g"
              rw [no_in]
              exact hR _ _ (by rw [List.getElem?_map, List.getElem?_map, hu']; rfl) Kp.refl
            · intro L H9 hL k9' eL
              have k9 := k9'.same
              have g1' := k9 _ _ g1
              have g2' := k9 _ _ g2
              have g3' := k9 _ _ g3
              have eany : (zs.map fun x => decide (x ∈ noL an)).any id = lackB (ps.map (·.2)) (an.map (·.2)) v := by
                rw [Bool.eq_iff_iff, lackB_iff, List.any_eq_true]
                constructor
                · rintro ⟨b, hb1, hb2⟩
                  obtain ⟨u, hu1, rfl⟩ := List.mem_map.mp hb1
                  exact ⟨u, mem_noL.mp (of_decide_eq_true hb2), (v3.mem u).mp hu1⟩
                · rintro ⟨u, hu1, hu2⟩
                  exact ⟨true, List.mem_map.mpr ⟨u, (v3.mem u).mpr hu2, decide_eq_true (mem_noL.mpr hu1)⟩, rfl⟩
              walk_at "g"
              rw [eany]
              refine w_itB (fun hc' => ?_) (fun hc' => ?_)
              · walk_at "g"
                refine w_app g2' (by rw [List.length_map]; exact sz _) fun H10 e10 o10 => ?_
                refine ⟨_, rfl, (Off.keep (M := []) (Kp.of (Same.trans k8 k9)) o10 f2).same, ?_, ?_, ?_⟩
                · rw [o10.get n12 g1', s1, if_neg (by rw [hb]; simp)]
                · rw [e10, s2, if_pos (by rw [hb, hc']; rfl), List.map_append]; rfl
                · rw [o10.get n23.symm g3', s3, if_neg (by rw [hb, hc']; simp)]
              · walk_at "g"
                refine w_app g3' (by rw [List.length_map]; exact sz _) fun H10 e10 o10 => ?_
                refine ⟨_, rfl, (Off.keep (M := []) (Kp.of (Same.trans k8 k9)) o10 f3).same, ?_, ?_, ?_⟩
                · rw [o10.get n13 g1', s1, if_neg (by rw [hb]; simp)]
                · rw [o10.get n23 g2', s2, if_neg (by rw [hb, hc']; simp)]
                · rw [e10, s3, if_pos (by rw [hb, hc']; rfl), List.map_append]; rfl
        · rintro σ H8 ⟨y8, rfl, k8, g1, g2, g3⟩
          rw [List.length_map, List.take_length] at g1 g2 g3
          walk_at "g"
          refine w_tupL (.of g1) fun b1 H9 hb1 eb1 k9 => ?_
          have g2' := k9 _ _ g2
          have g3' := k9 _ _ g3
          walk_at "g"
          refine w_tupL (.of g2') fun b2 H10 hb2 eb2 k10 => ?_
          have g3'' := k10 _ _ g3'
          walk_at "g"
          refine w_tupL (.of g3'') fun b3 H11 hb3 eb3 k11 => ?_
          walk_at "g"
          refine w_new fun r H12 hr12 e12 k12 => ?_
          refine q hc H12 r b1 b2 b3 ?_ e12 (k12 _ _ (k11 _ _ (k10 _ _ eb1))) (k12 _ _ (k11 _ _ eb2)) (k12 _ _ eb3)
          exact Same.trans k1 (Same.trans k2 (Same.trans k3 (Same.trans k4 (Same.trans k8 (Same.trans k9 (Same.trans k10 (Same.trans k11 k12)))))))
end
/-! ### walks down by links -/
noncomputable def nextP (ls : List (Int × Int)) (b v : Int) : Option (Int × Int) := ls.find? fun q => decide (q.1 = v) && @decide (Bel ls q.2 b) (Classical.propDecidable _)
inductive WayR (ls : List (Int × Int)) (b : Int) : Int → List Int → Prop where
  | stop : WayR ls b b [b]
  | step {v : Int} {q : Int × Int} {c : List Int} (h : v ≠ b) (e : nextP ls b v = some q) (r : WayR ls b q.2 c) : WayR ls b v (v :: c)
theorem WayR.det {ls : List (Int × Int)} {b v : Int} {c d : List Int} (x : WayR ls b v c) (y : WayR ls b v d) : c = d := by
  induction x generalizing d with
  | stop =>
    cases y with
    | stop => rfl
    | step h _ _ => exact absurd rfl h
  | step h e r ih =>
    cases y with
    | stop => exact absurd rfl h
    | step h2 e2 r2 =>
      rw [e] at e2
      cases e2
      rw [ih r2]
theorem nextP_some {ls : List (Int × Int)} {b v : Int} {q : Int × Int} (h : nextP ls b v = some q) : q ∈ ls ∧ q.1 = v ∧ Bel ls q.2 b := by
  unfold nextP at h
  have h1 := List.find?_some h
  rw [Bool.and_eq_true] at h1
  exact ⟨List.mem_of_find?_eq_some h, of_decide_eq_true h1.1, @of_decide_eq_true _ (Classical.propDecidable _) h1.2⟩
/-- a walk, as right papers want it -/
structure WayOk (ls : List (Int × Int)) (a b : Int) (c : List Int) : Prop where
  hd : ∃ r, c = a :: r
  lt : c.getLast? = some b
  lk : ∀ (i : Nat) (x y : Int), c[i]? = some x → c[i + 1]? = some y → (x, y) ∈ ls
theorem WayR.ok {ls : List (Int × Int)} {b v : Int} {c : List Int} (x : WayR ls b v c) : WayOk ls v b c := by
  induction x with
  | stop => exact ⟨⟨[], rfl⟩, rfl, fun i x y _ h => by simp at h⟩
  | @step v q c h e r ih =>
    obtain ⟨h1, h2, h3⟩ := nextP_some e
    obtain ⟨r', hr⟩ := ih.hd
    refine ⟨⟨c, rfl⟩, ?_, fun i x y hx hy => ?_⟩
    · rw [hr, List.getLast?_cons_cons, ← hr]
      exact ih.lt
    · cases i with
      | zero =>
        have e1 : v = x := by simpa using hx
        rw [hr] at hy
        have e2 : q.2 = y := by simpa using hy
        rw [← e1, ← e2, ← h2]
        exact h1
      | succ i => exact ih.lk i x y (by simpa using hx) (by simpa using hy)
def spWay : Sp := fun vs H Q _ => ∃ (t R : Addr) (top bot : Int) (kvs : List (Key × V)) (ns : List Int) (ps : List (Addr × Int × Int)), vs = [.ref t, .ref R, .int top, .int bot] ∧ ShAt H t ns ps ∧ ShOk ns (ps.map (·.2)) ∧ ns.length < 64 ∧ ps.length ≤ 100000 ∧ H R = some (.dK kvs) ∧ RowsV [] H kvs (ps.map (·.2)) ns ∧ top ∈ ns ∧ Bel (ps.map (·.2)) top bot ∧
  ∀ H' r c, Same H H' → VL H' r c → WayR (ps.map (·.2)) bot top c → c.length ≤ 64 → Q (.ref r) H'
theorem find_at {α : Type} {p : α → Bool} : ∀ {l : List α} {i : Nat} {q : α}, l[i]? = some q → p q = true → (∀ x ∈ l.take i, p x = false) → l.find? p = some q
  | [], i, q, h, _, _ => by simp at h
  | x :: l, 0, q, h, hp, _ => by
    have e : x = q := by simpa using h
    rw [List.find?_cons, e, hp]
  | x :: l, i + 1, q, h, hp, hn => by
    have hx := hn x (by simp)
    rw [List.find?_cons, hx]
    exact find_at (by simpa using h) hp fun y hy => hn y (by simp [hy])
theorem at_last1 (pre : List Int) (v : Int) : atI ((pre ++ [v]).map V.int) (-1) = some (.int v) := by
  rw [List.map_append]
  exact atI_last (pre.map V.int) (.int v)
section
variable {P : Program} {w : World} {K : PySem.W.Frag} {mg : Str → Option Value} {base : Heap}
theorem ok_way {f : Addr} {fd : FuncData} (T : Txt K mg) (F : Fun K "way_down" "way_down" s_way_down f fd) : FnOk P w K mg base CX0 1 f fd ["shape", "rows", "top", "bottom"] spWay := by
  refine F.ok sc_way_down (fun vs H Q E h => ?_) (fun cdv A outer s H vs Q E hr h => ?_)
  · obtain ⟨t, R, top, bot, kvs, ns, ps, rfl, _⟩ := h
    rfl
  · obtain ⟨t, R, top, bot, kvs, ns, ps, rfl, hS, S, hl, hl2, eR, rv, htop, hbel, q⟩ := h
    have hu := hu_of hr
    obtain ⟨Vt, Lt, et, ev, epl, epe⟩ := id hS
    refine ⟨_,
      (pss_cons
        (ps_set (i := 4) sc_way_down.nd rfl (.inl rfl) (pe_lst (pa_cons (pv 2) pa_nil)))
      (pss_cons
        (ps_while PassesOwn.never (pt_cmpR op_ne (pe_ix (r := rIxL K) ix_list (pv 4) (pe_un un_neg pe_int) (fun _ _ => rfl)) (pv 3) (nomark _))
          (pss_one
            (ps_for PassesOwn.never rfl (pi_tup (pe_ix (r := rIxT K) ix_tup (pv 0) pe_int (fun _ _ => rfl))) (pg_tup rfl (pgs_cons (pg_name (i := 5) sc_way_down.nd rfl (.inl rfl)) (pgs_cons (pg_name (i := 6) sc_way_down.nd rfl (.inl rfl)) pgs_nil)))
              (pss_one
                (ps_if (PW.pt (pw_and (pt_cmpR op_eq (pv 5) (pe_ix (r := rIxL K) ix_list (pv 4) (pe_un un_neg pe_int) (fun _ _ => rfl)) (nomark _)) (pw_and1 (pt_cmpR (r := rIn K false) op_in_seq (pv 3) (pe_dget hu (pv 1) (pv 6) (fun _ _ => rfl)) rfl))))
                  (pss_cons
                    (ps_expr (pe_bm PySem.F.plainAttrs_list PySem.F.slot_list_append PySem.F.type_list_append mt_append (pv 4) (pa_cons (pv 6) pa_nil)))
                  (pss_one
                    ps_break))
                  pss_nil)))))
      (pss_one
        (ps_ret (pe_callTy (r := rTupOf K) c_tupOf (by rfl) T.n_tuple (by decide +kernel) (pa_cons (pv 4) pa_nil))))))
      , ?_⟩
    rw [show L2.start N_way_down [V.ref t, V.ref R, V.int top, V.int bot] = [some (.ref t), some (.ref R), some (.int top), some (.int bot), none, none, none] from rfl]
    walk_at "x"
    refine w_new fun Wy H1 hWy eWy k1 => ?_
    have off : ∀ {x : Addr} {o : HO}, H x = some o → x ∉ [Wy] := fun {x o} e => by simpa using ne_of_none e hWy
    walk_at "g"
    refine w_whileN (fun m σ H' => ∃ (v : Int) (pre : List Int) (y5 y6 : Option V), σ = [some (.ref t), some (.ref R), some (.int top), some (.int bot), some (.ref Wy), y5, y6] ∧ m = v.toNat ∧ Kp [Wy] H1 H' ∧ H' Wy = some (.lst ((pre ++ [v]).map V.int)) ∧ v ∈ ns ∧ Bel (ps.map (·.2)) v bot ∧ (∀ c, WayR (ps.map (·.2)) bot v c → WayR (ps.map (·.2)) bot top (pre ++ c)) ∧ (pre ++ [v]).Pairwise (fun a b => b < a) ∧ ∀ x ∈ pre ++ [v], x ∈ ns) top.toNat ?_ ?_
    · exact ⟨top, [], _, _, rfl, rfl, Kp.refl, eWy, htop, hbel, fun c h => h, by simp, fun x hx => by
        have e : x = top := by simpa using hx
        rw [e]; exact htop⟩
    · rintro m σ H2 ⟨v, pre, y5, y6, rfl, rfl, k2, e2, hv, hb, hw, hpw, hin⟩
      have k02 : Same H H2 := fun x o e => k2 _ _ (off e) (k1 _ _ e)
      have hat := at_last1 pre v
      have plen : (pre ++ [v]).length ≤ ns.length := nodup_le _ _ (hpw.imp fun {a b} h => by omega) hin
      walk_at "g"
      refine w_itN (fun hne => ?_) (fun heq => ?_)
      · refine w_turn ?_
        have et2 := k02 _ _ et
        have epl2 := k02 _ _ epl
        have eR2 := k02 _ _ eR
        walk_at "g"
        refine lp_tup (xs := ps.map fun q => .ref q.1) (fun i σ H' => H' = H2 ∧ (∃ (y5 y6 : Option V), σ = [some (.ref t), some (.ref R), some (.int top), some (.int bot), some (.ref Wy), y5, y6]) ∧ ∀ q ∈ (ps.map (·.2)).take i, ¬ (q.1 = v ∧ Bel (ps.map (·.2)) q.2 bot)) ⟨rfl, ⟨_, _, rfl⟩, by simp⟩ ?_ ?_ ?_
        · rintro i σ H' _ ⟨rfl, _⟩
          exact .of epl2
        · rintro i y σ H' hy ⟨rfl, ⟨y5, y6, rfl⟩, hno⟩
          obtain ⟨z, hz, rfl⟩ := map_at hy
          have hzm := List.mem_of_getElem? hz
          have ez := k02 _ _ (epe z hzm)
          have hz2 : (ps.map (·.2))[i]? = some z.2 := by rw [List.getElem?_map, hz]; rfl
          have hlm := S.lm z.2 (List.mem_of_getElem? hz2)
          obtain ⟨ra, ys, v1, v2, v3, _⟩ := rv z.2.2 hlm.2.1
          have v2' := k02 _ _ v2
          have tk : ∀ q ∈ (ps.map (·.2)).take (i + 1), q ∈ (ps.map (·.2)).take i ∨ q = z.2 := fun q hq => by
            rw [List.take_add_one, hz2] at hq
            simpa using hq
          have skip : ¬ (z.2.1 = v ∧ Bel (ps.map (·.2)) z.2.2 bot) → ∀ q ∈ (ps.map (·.2)).take (i + 1), ¬ (q.1 = v ∧ Bel (ps.map (·.2)) q.2 bot) := fun hn q hq => by
            rcases tk q hq with h | rfl
            · exact hno q h
            · exact hn
          walk_at "g"
          refine w_ite (fun c1 => ?_) (fun c1 => ?_)
          · walk_at "g"
            refine w_ite (fun c2 => ?_) (fun c2 => ?_)
            · have hb2 : Bel (ps.map (·.2)) z.2.2 bot := (v3.mem bot).mp c2
              walk_at "g"
              refine w_app e2 (by rw [List.length_map]; exact small1000 (by omega)) fun H3 e3 o3 => ?_
              have hnx : nextP (ps.map (·.2)) bot v = some z.2 := find_at hz2 (by
                rw [Bool.and_eq_true]
                exact ⟨decide_eq_true c1, @decide_eq_true _ (Classical.propDecidable _) hb2⟩) fun x hx => by
                rw [Bool.and_eq_false_iff]
                by_cases e : x.1 = v
                · exact .inr (@decide_eq_false _ (Classical.propDecidable _) fun y => hno x hx ⟨e, y⟩)
                · exact .inl (decide_eq_false e)
              have hlt : z.2.2 < v := by have := hlm.2.2; omega
              have h0 := S.v0 _ hlm.2.1
              show ∃ m', m' < v.toNat ∧ _
              refine ⟨z.2.2.toNat, by omega, z.2.2, pre ++ [v], _, _, rfl, rfl, k2.trans (o3.kp (by simp)), by rw [e3, List.map_append (l₂ := [z.2.2])]; rfl, hlm.2.1, hb2, fun c hc => ?_, ?_, fun x hx => ?_⟩
              · rw [List.append_assoc]
                exact hw _ (.step hne hnx hc)
              · refine List.pairwise_append.mpr ⟨hpw, by simp, fun a ha b hb' => ?_⟩
                have e : b = z.2.2 := by simpa using hb'
                subst e
                rcases List.mem_append.mp ha with h | h
                · have := (List.pairwise_append.mp hpw).2.2 a h v (by simp)
                  omega
                · have e : a = v := by simpa using h
                  omega
              · rcases List.mem_append.mp hx with h | h
                · exact hin x h
                · have e : x = z.2.2 := by simpa using h
                  rw [e]
                  exact hlm.2.1
            · walk_at "g"
              exact ⟨rfl, ⟨_, _, rfl⟩, skip fun h => c2 ((v3.mem bot).mpr h.2)⟩
          · walk_at "g"
            exact ⟨rfl, ⟨_, _, rfl⟩, skip fun h => c1 h.1⟩
        · rintro σ H' ⟨rfl, _, hno⟩
          rw [List.length_map, show (ps.map (·.2)).take ps.length = ps.map (·.2) by rw [List.take_of_length_le (by simp)]] at hno
          rcases Bel.iff.mp hb with h | ⟨p, hp, hpb⟩
          · exact absurd h.symm hne
          · exact absurd ⟨rfl, hpb⟩ (hno _ hp)
      · walk_at "g"
        refine w_tupL (.of e2) fun r H3 hr3 er k3 => ?_
        refine q H3 r _ (Same.trans k02 k3) er (hw _ ?_) (by omega)
        rw [heq]
        exact .stop
end
/-! ### papers as things of any kind -/
def spWholeG : Sp := fun vs H Q _ => ∃ (x : V) (a : String), vs = [x] ∧ Ty H x a ∧ Q (.bl (decide (a = "int"))) H
theorem int_inj : ∀ {xs ys : List Int}, xs.map V.int = ys.map V.int → xs = ys
  | [], [], _ => rfl
  | [], _ :: _, h => by simp at h
  | _ :: _, [], h => by simp at h
  | x :: xs, y :: ys, h => by
    rw [List.map_cons, List.map_cons, List.cons.injEq] at h
    rw [V.int.inj h.1, int_inj h.2]
theorem Dat.back {B : Nat} {H H1 : Hp} {a : Addr} {xs : List V} (d : Dat B H (.ref a)) (k : Same H H1) (e : H1 a = some (.tup xs)) : H a = some (.tup xs) := by
  rcases d.cases with ⟨s, t, hne⟩ | ⟨p, ys, e1, e2, _⟩
  · cases t with
    | lst h => have z := k _ _ h; rw [e] at z; cases z
    | tup h => exact absurd rfl hne
    | dK h => have z := k _ _ h; rw [e] at z; cases z
  · cases e1
    have z := k _ _ e2
    rw [e] at z
    cases z
    exact e2
theorem Dat.elem {B : Nat} {H : Hp} {a : Addr} {xs : List V} (d : Dat B H (.ref a)) (e : H a = some (.tup xs)) : xs.length ≤ B ∧ ∀ y ∈ xs, Dat B H y := by
  rcases d.cases with ⟨s, t, hne⟩ | ⟨p, ys, e1, e2, h⟩
  · exact absurd (t.ofTup e) hne
  · cases e1
    rw [e] at e2
    cases e2
    exact h
theorem Ty.kStr {H : Hp} {x : V} {a : String} (t : Ty H x a) : kitB a "str" = some (decide (a = "str")) := by
  cases t with
  | non => exact kb_NoneType_str
  | bl b => exact kb_bool_str
  | int i => exact kb_int_str
  | str z => exact kb_str_str
  | lst e => exact kb_list_str
  | tup e => exact kb_tuple_str
  | dK e => exact kb_dict_str
theorem w_isStr {K : PySem.W.Frag} {H : Hp} {Q : VK} {x : V} {a : String} (t : Ty H x a) (h : Q (.bl (decide (a = "str"))) H) : rIsi K [x, .ty "str"] H Q := w_isi t.tx t.kStr h
theorem Ty.isStr {H : Hp} {x : V} {a : String} (t : Ty H x a) (e : a = "str") : ∃ z, x = .str z := by
  cases t with
  | str z => exact ⟨z, rfl⟩
  | non => exact absurd e (by decide)
  | bl _ => exact absurd e (by decide)
  | tup _ => exact absurd e (by decide)
  | int _ => exact absurd e (by decide)
  | lst _ => exact absurd e (by decide)
  | dK _ => exact absurd e (by decide)
theorem Ty.ofStr {H : Hp} {z : Str} {a : String} (t : Ty H (.str z) a) : a = "str" := by
  cases t with
  | str i => rfl
def Lk (ls : List (Int × Int)) (c : List Int) : Prop := ∀ (i : Nat) (u v : Int), c[i]? = some u → c[i + 1]? = some v → (u, v) ∈ ls
def WayV (H : Hp) (ls : List (Int × Int)) (x : V) (c : List Int) : Prop := ∃ a, x = .ref a ∧ H a = some (.tup (c.map V.int)) ∧ c ≠ [] ∧ Lk ls c
def EndsOk (an : List (Int × Bool)) (v : Int) (w : Str) (c : List Int) : Prop := (w = "held" ∧ c.getLast? = some v ∧ ∃ u, c.head? = some u ∧ (u, true) ∈ an) ∨ (w = "lacks" ∧ c.head? = some v ∧ ∃ u, c.getLast? = some u ∧ (u, false) ∈ an)
def RowV (H : Hp) (ls : List (Int × Int)) (an : List (Int × Bool)) (v : Int) (x : V) : Prop := ∃ p w y c, x = .ref p ∧ H p = some (.tup [.str w, y]) ∧ WayV H ls y c ∧ EndsOk an v w c
def PapV (H : Hp) (ls : List (Int × Int)) (an : List (Int × Bool)) (ns : List Int) (x : V) : Prop := ∃ p xs, x = .ref p ∧ H p = some (.tup xs) ∧ xs.length = ns.length ∧ ∀ (i : Nat) (y : V) (v : Int), xs[i]? = some y → ns[i]? = some v → RowV H ls an v y
theorem WayV.on {H H1 : Hp} {ls : List (Int × Int)} {x : V} {c : List Int} (k : Same H H1) (h : WayV H ls x c) : WayV H1 ls x c := by
  obtain ⟨a, rfl, e, h⟩ := h
  exact ⟨a, rfl, k _ _ e, h⟩
theorem WayV.back {B : Nat} {H H1 : Hp} {ls : List (Int × Int)} {x : V} {c : List Int} (d : Dat B H x) (k : Same H H1) (h : WayV H1 ls x c) : WayV H ls x c := by
  obtain ⟨a, rfl, e, h⟩ := h
  exact ⟨a, rfl, d.back k e, h⟩
theorem RowV.on {H H1 : Hp} {ls : List (Int × Int)} {an : List (Int × Bool)} {v : Int} {x : V} (k : Same H H1) (h : RowV H ls an v x) : RowV H1 ls an v x := by
  obtain ⟨p, w, y, c, rfl, e, h, h2⟩ := h
  exact ⟨p, w, y, c, rfl, k _ _ e, h.on k, h2⟩
theorem RowV.back {B : Nat} {H H1 : Hp} {ls : List (Int × Int)} {an : List (Int × Bool)} {v : Int} {x : V} (d : Dat B H x) (k : Same H H1) (h : RowV H1 ls an v x) : RowV H ls an v x := by
  obtain ⟨p, w, y, c, rfl, e, h, h2⟩ := h
  have e' := d.back k e
  exact ⟨p, w, y, c, rfl, e', h.back ((d.elem e').2 y (by simp)) k, h2⟩
theorem PapV.on {H H1 : Hp} {ls : List (Int × Int)} {an : List (Int × Bool)} {ns : List Int} {x : V} (k : Same H H1) (h : PapV H ls an ns x) : PapV H1 ls an ns x := by
  obtain ⟨p, xs, rfl, e, hl, h⟩ := h
  exact ⟨p, xs, rfl, k _ _ e, hl, fun i y v h1 h2 => (h i y v h1 h2).on k⟩
theorem PapV.back {B : Nat} {H H1 : Hp} {ls : List (Int × Int)} {an : List (Int × Bool)} {ns : List Int} {x : V} (d : Dat B H x) (k : Same H H1) (h : PapV H1 ls an ns x) : PapV H ls an ns x := by
  obtain ⟨p, xs, rfl, e, hl, h⟩ := h
  have e' := d.back k e
  exact ⟨p, xs, rfl, e', hl, fun i y v h1 h2 => (h i y v h1 h2).back ((d.elem e').2 y (List.mem_of_getElem? h1)) k⟩
/-- all of a walk are versions where one end is -/
theorem Lk.mem {ns : List Int} {ls : List (Int × Int)} {c : List Int} (S : ShOk ns ls) (h : Lk ls c) {v : Int} (hv : v ∈ ns) (he : c.head? = some v ∨ c.getLast? = some v) : ∀ x ∈ c, x ∈ ns := by
  intro x hx
  obtain ⟨i, hi, e⟩ := List.getElem_of_mem hx
  have ei : c[i]? = some x := by rw [List.getElem?_eq_getElem hi, e]
  by_cases h1 : i + 1 < c.length
  · exact (S.lm _ (h i x c[i + 1] ei (List.getElem?_eq_getElem h1))).1
  · by_cases h0 : i = 0
    · subst h0
      have e1 : c = [x] := by
        match c, ei, h1 with
        | [y], ei, _ => simpa using ei
        | y :: z :: r, _, h1 => simp at h1
      rw [e1] at he
      have : x = v := by simpa using he
      rw [this]
      exact hv
    · obtain ⟨j, rfl⟩ : ∃ j, i = j + 1 := ⟨i - 1, by omega⟩
      exact (S.lm _ (h j c[j] x (List.getElem?_eq_getElem (by omega)) ei)).2.1
theorem head_at {c : List Int} {u : Int} (h : c.head? = some u) : atI (c.map V.int) 0 = some (.int u) := by
  cases c with
  | nil => cases h
  | cons x r =>
    have e : x = u := by simpa using h
    subst e
    exact atI_nat (xs := (x :: r).map V.int) (j := 0) rfl
theorem last_at {c : List Int} {u : Int} (h : c.getLast? = some u) : atI (c.map V.int) (-1) = some (.int u) := by
  have hne : c ≠ [] := by intro z; subst z; cases h
  have e : c = c.dropLast ++ [u] := by
    rw [List.getLast?_eq_some_getLast hne] at h
    rw [← Option.some.inj h, List.dropLast_concat_getLast]
  rw [e, List.map_append]
  exact atI_last (c.dropLast.map V.int) (.int u)
theorem ends_of {c : List Int} (h : c ≠ []) : ∃ u v, c.head? = some u ∧ c.getLast? = some v := by
  cases c with
  | nil => exact absurd rfl h
  | cons x r => exact ⟨x, (x :: r).getLast h, rfl, List.getLast?_eq_some_getLast h⟩
def TrOk (an : List (Int × Bool)) (kvs : List (Key × V)) : Prop := (∀ x v, valV kvs (Sum.inl x) = some v → ∃ b, v = .bl b ∧ (x, b) ∈ an) ∧ ∀ x b, (x, b) ∈ an → valV kvs (Sum.inl x) = some (.bl b)
def LkOk (ls : List (Int × Int)) (kvs : List (List Key × V)) : Prop := ∀ a b : Int, (valV kvs [Sum.inl a, Sum.inl b]).isSome = decide ((a, b) ∈ ls)
def spIsWay : Sp := fun as H Q _ => ∃ (L : Addr) (y : V) (B : Nat) (kvs : List (List Key × V)) (ls : List (Int × Int)), as = [.ref L, y] ∧ H L = some (.dT kvs) ∧ LkOk ls kvs ∧ Dat B H y ∧ B ≤ 100000 ∧
  (∀ c, WayV H ls y c → ∀ H', Same H H' → Q (.bl true) H') ∧ ((∀ c, ¬ WayV H ls y c) → ∀ H', Same H H' → Q (.bl false) H')
def spShows : Sp := fun as H Q _ => ∃ (L Tr : Addr) (v : Int) (y : V) (B : Nat) (kvs : List (List Key × V)) (tvs : List (Key × V)) (ls : List (Int × Int)) (an : List (Int × Bool)), as = [.ref L, .ref Tr, .int v, y] ∧ H L = some (.dT kvs) ∧ LkOk ls kvs ∧ H Tr = some (.dK tvs) ∧ TrOk an tvs ∧ (an.map (·.1)).Nodup ∧ Dat B H y ∧ B ≤ 100000 ∧
  (RowV H ls an v y → ∀ H', Same H H' → Q (.bl true) H') ∧ (¬ RowV H ls an v y → ∀ H', Same H H' → Q (.bl false) H')
def spRightPaper : Sp := fun as H Q _ => ∃ (t A : Addr) (y : V) (B : Nat) (ns : List Int) (ps : List (Addr × Int × Int)) (an : List (Addr × Int × Bool)), as = [.ref t, .ref A, y] ∧ ShAt H t ns ps ∧ ShOk ns (ps.map (·.2)) ∧ ns.length < 64 ∧ ps.length ≤ 100000 ∧ AL H A an ∧ an.length < 64 ∧ (∀ q ∈ an, q.2.1 ∈ ns) ∧ (an.map (·.2.1)).Nodup ∧ Dat B H y ∧ B ≤ 100000 ∧
  (Clear (ps.map (·.2)) (an.map (·.2)) → PapV H (ps.map (·.2)) (an.map (·.2)) ns y → ∀ H', Same H H' → Q (.bl true) H') ∧ (¬ (Clear (ps.map (·.2)) (an.map (·.2)) ∧ PapV H (ps.map (·.2)) (an.map (·.2)) ns y) → ∀ H', Same H H' → Q (.bl false) H')
def spLIsWay : Sp := fun as H Q _ => ∃ (t : Addr) (y : V) (B : Nat) (ns : List Int) (ps : List (Addr × Int × Int)), as = [.ref t, y] ∧ ShAt H t ns ps ∧ ns.length < 64 ∧ Dat B H y ∧ B ≤ 100000 ∧
  (∀ c, WayV H (ps.map (·.2)) y c → (∀ x ∈ c, x ∈ ns) → ∀ H', Same H H' → Q (.bl true) H') ∧ ((∀ c, ¬ (WayV H (ps.map (·.2)) y c ∧ ∀ x ∈ c, x ∈ ns)) → ∀ H', Same H H' → Q (.bl false) H')
def spLIsPaper : Sp := fun as H Q _ => ∃ (t A : Addr) (y : V) (B : Nat) (ns : List Int) (ps : List (Addr × Int × Int)) (an : List (Addr × Int × Bool)), as = [.ref t, .ref A, y] ∧ ShAt H t ns ps ∧ ShOk ns (ps.map (·.2)) ∧ ns.length < 64 ∧ AL H A an ∧ an.length < 64 ∧ Dat B H y ∧ B ≤ 100000 ∧
  (PapV H (ps.map (·.2)) (an.map (·.2)) ns y → ∀ H', Same H H' → Q (.bl true) H') ∧ (¬ PapV H (ps.map (·.2)) (an.map (·.2)) ns y → ∀ H', Same H H' → Q (.bl false) H')
theorem ints_of : ∀ {xs : List V}, (∀ y ∈ xs, ∃ n, y = .int n) → ∃ c : List Int, xs = c.map V.int
  | [], _ => ⟨[], rfl⟩
  | y :: xs, h => by
    obtain ⟨n, rfl⟩ := h y (by simp)
    obtain ⟨c, rfl⟩ := ints_of (xs := xs) fun z hz => h z (by simp [hz])
    exact ⟨n :: c, rfl⟩
theorem take_mem {α : Type} {xs : List α} {i : Nat} {y z : α} (hy : xs[i]? = some y) (hz : z ∈ xs.take (i + 1)) : z ∈ xs.take i ∨ z = y := by
  rw [List.take_add_one, hy] at hz
  simpa using hz
theorem at_nat {xs : List V} {i : Nat} {v : V} {z : Int} (hz : z = (i : Int)) (h : xs[i]? = some v) : atI xs z = some v := by
  rw [hz]
  exact atI_nat h
/-! is it an int, is it a tuple of rising ints: of a thing of any kind (@F@) -/
section
variable {P : Program} {w : World} {K : PySem.W.Frag} {mg : Str → Option Value} {base : Heap}
theorem ok_is_wholeG {f : Addr} {fd : FuncData} (T : Txt K mg) (F : Fun K "is_whole" "is_whole" s_is_whole f fd) : FnOk P w K mg base CX0 1 f fd ["thing"] spWholeG := by
  refine F.ok sc_is_whole (fun vs H Q E h => ?_) (fun cdv A outer s H vs Q E hr h => ?_)
  · obtain ⟨x, a, rfl, _⟩ := h
    rfl
  · obtain ⟨x, a, rfl, t, q⟩ := h
    refine ⟨_,
      (pss_one
        (ps_ret (pe_and (pe_callB (r := rIsi K) call_isi (by rfl) T.n_isinstance (by decide +kernel) (pa_cons (pv 0) (pa_cons (pe_bltn (v := .ty "int") (u := .type "int") (by rfl) T.n_int (by decide +kernel) rfl) pa_nil))) (pe_one (pe_not (pe_callB (r := rIsi K) call_isi (by rfl) T.n_isinstance (by decide +kernel) (pa_cons (pv 0) (pa_cons (pe_bltn (v := .ty "bool") (u := .type "bool") (by rfl) T.n_bool (by decide +kernel) rfl) pa_nil))))))))
      , ?_⟩
    rw [show L2.start N_is_whole [x] = [some x] from rfl]
    walk_at "x"
    refine w_isInt t ?_
    walk_at "g"
    refine w_itB (fun hb => ?_) (fun hb => ?_)
    · walk_at "g"
      refine w_isBool t ?_
      walk_at "g"
      by_cases e : a = "bool"
      · rw [decide_eq_true e]
        rw [decide_eq_false (fun z : a = "int" => by rw [z] at e; exact absurd e (by decide))] at q
        exact q
      · rw [decide_eq_false e]
        rw [decide_eq_false e, Bool.or_false] at hb
        rw [hb] at q
        exact q
    · walk_at "g"
      rw [decide_eq_false (fun z : a = "int" => by rw [decide_eq_true z] at hb; cases hb)] at q
      exact q
end
/-! is it an int, is it a tuple of rising ints: of a thing of any kind (@F@) -/
section
variable {P : Program} {w : World} {K : PySem.W.Frag} {mg : Str → Option Value} {base : Heap}
theorem ok_law_intG {f : Addr} {fd : FuncData} (T : Txt K mg) (F : Fun K "_law_int" "_law_int" s_law_int f fd) : FnOk P w K mg base CX0 1 f fd ["_law_thing"] spWholeG := by
  refine F.ok sc_law_int (fun vs H Q E h => ?_) (fun cdv A outer s H vs Q E hr h => ?_)
  · obtain ⟨x, a, rfl, _⟩ := h
    rfl
  · obtain ⟨x, a, rfl, t, q⟩ := h
    refine ⟨_,
      (pss_one
        (ps_ret (pe_and (pe_callB (r := rIsi K) call_isi (by rfl) T.n_isinstance (by decide +kernel) (pa_cons (pv 0) (pa_cons (pe_bltn (v := .ty "int") (u := .type "int") (by rfl) T.n_int (by decide +kernel) rfl) pa_nil))) (pe_one (pe_not (pe_callB (r := rIsi K) call_isi (by rfl) T.n_isinstance (by decide +kernel) (pa_cons (pv 0) (pa_cons (pe_bltn (v := .ty "bool") (u := .type "bool") (by rfl) T.n_bool (by decide +kernel) rfl) pa_nil))))))))
      , ?_⟩
    rw [show L2.start N_law_int [x] = [some x] from rfl]
    walk_at "x"
    refine w_isInt t ?_
    walk_at "g"
    refine w_itB (fun hb => ?_) (fun hb => ?_)
    · walk_at "g"
      refine w_isBool t ?_
      walk_at "g"
      by_cases e : a = "bool"
      · rw [decide_eq_true e]
        rw [decide_eq_false (fun z : a = "int" => by rw [z] at e; exact absurd e (by decide))] at q
        exact q
      · rw [decide_eq_false e]
        rw [decide_eq_false e, Bool.or_false] at hb
        rw [hb] at q
        exact q
    · walk_at "g"
      rw [decide_eq_false (fun z : a = "int" => by rw [decide_eq_true z] at hb; cases hb)] at q
      exact q
end
section
variable {P : Program} {w : World} {K : PySem.W.Frag} {mg : Str → Option Value} {base : Heap}
theorem ok_isway {f fW : Addr} {fd fdW : FuncData} (T : Txt K mg) (F : Fun K "is_way" "is_way" s_is_way f fd) (D_is_whole : Df K mg "is_whole" s_is_whole ["thing"] fW fdW) : FnOk P w K mg base CX0 2 f fd ["links", "thing"] spIsWay := by
  have G_is_whole : FnOk P w K mg base CX0 1 fW fdW ["thing"] spWholeG := ok_is_wholeG T D_is_whole.fn
  refine F.ok sc_is_way (fun vs H Q E h => ?_) (fun cdv A outer s H vs Q E hr h => ?_)
  · obtain ⟨L, y, B, kvs, ls, rfl, _⟩ := h
    rfl
  · obtain ⟨L, y, B, kvs, ls, rfl, eL, lk, hd, hB, q1, q2⟩ := h
    have hu := hu_of hr
    refine ⟨_,
      (pss_cons
        (ps_if (PW.pt (pw_or (pt_not (pt_val (pe_callB (r := rIsi K) call_isi (by rfl) T.n_isinstance (by decide +kernel) (pa_cons (pv 1) (pa_cons (pe_bltn (v := .ty "tuple") (u := .type "tuple") (by rfl) T.n_tuple (by decide +kernel) rfl) pa_nil))))) (pw_or1 (pt_cmpR op_eq (pe_callB (r := rLen K) c_len (by rfl) T.n_len (by decide +kernel) (pa_cons (pv 1) pa_nil)) pe_int (nomark _)))))
          (pss_one
            (ps_ret pe_bl))
          pss_nil)
      (pss_cons
        (ps_for PassesOwn.never rfl (pi_tup (pv 1)) (pg_name (i := 2) sc_is_way.nd rfl (.inl rfl))
          (pss_one
            (ps_if (pt_not (pt_val (pe_call G_is_whole (hr.mono (by omega)) (by rfl) D_is_whole.g D_is_whole.fn.kp D_is_whole.b .nil pass0 (pa_cons (pv 2) pa_nil))))
              (pss_one
                (ps_ret pe_bl))
              pss_nil)))
      (pss_cons
        (ps_for PassesOwn.never rfl (pi_range2 (by rfl) T.n_range (pa_cons pe_int (pa_cons (pe_callB (r := rLen K) c_len (by rfl) T.n_len (by decide +kernel) (pa_cons (pv 1) pa_nil)) pa_nil))) (pg_name (i := 3) sc_is_way.nd rfl (.inl rfl))
          (pss_one
            (ps_if (pt_cmp (pc_dnotin hu (pe_tup (pa_cons (pe_ix (r := rIxT K) ix_tup (pv 1) (pe_op op_sub (pv 3) pe_int) (fun _ _ => rfl)) (pa_cons (pe_ix (r := rIxT K) ix_tup (pv 1) (pv 3) (fun _ _ => rfl)) pa_nil))) (pv 0)))
              (pss_one
                (ps_ret pe_bl))
              pss_nil)))
      (pss_one
        (ps_ret pe_bl)))))
      , ?_⟩
    rw [show L2.start N_is_way [V.ref L, y] = [some (.ref L), some y, none, none] from rfl]
    refine w_seq ?_
    walk_at "x"
    rcases hd.cases with ⟨ay, ty, hne⟩ | ⟨a, xs, rfl, ea, hxB, hxs⟩
    · refine w_isTup ty ?_
      rw [decide_eq_false hne]
      walk_at "g"
      refine q2 ?_ H (fun _ _ z => z)
      rintro c ⟨a, rfl, h, _⟩
      exact hne (ty.ofTup h)
    walk_at "g"
    refine w_ite (fun h0 => ?_) (fun h0 => ?_)
    · walk_at "g"
      refine q2 ?_ H (fun _ _ z => z)
      rintro c ⟨a', e, h, hne, _⟩
      cases e
      rw [ea] at h
      cases h
      rw [List.length_map] at h0
      exact hne (List.length_eq_zero_iff.mp (by omega))
    walk_at "g"
    refine lp_tup (xs := xs) (fun i σ H' => H' = H ∧ (∃ (y2 : Option V), σ = [some (.ref L), some (.ref a), y2, none]) ∧ ∀ z ∈ xs.take i, ∃ n, z = .int n) ⟨rfl, ⟨_, rfl⟩, by simp⟩ ?_ ?_ ?_
    · rintro i σ H' _ ⟨rfl, _⟩
      exact .of ea
    · rintro i z σ H' hz ⟨rfl, ⟨y2, rfl⟩, hall⟩
      have hzm := List.mem_of_getElem? hz
      obtain ⟨az, tz⟩ := (hxs z hzm).ty
      walk_at "g"
      refine ⟨z, az, rfl, tz, ?_⟩
      walk_at "g"
      refine w_itN (fun hn => ?_) (fun hn => ?_)
      · walk_at "g"
        refine q2 ?_ H' (fun _ _ z => z)
        rintro c ⟨a', e, h, _⟩
        cases e
        rw [ea] at h
        cases h
        obtain ⟨n, _, rfl⟩ := map_at hz
        exact hn tz.ofInt
      · walk_at "g"
        refine ⟨rfl, ⟨_, rfl⟩, fun u hu' => ?_⟩
        rcases take_mem hz hu' with h | rfl
        · exact hall u h
        · exact tz.isInt hn
    · rintro σ H' ⟨rfl, ⟨y2, rfl⟩, hall⟩
      rw [List.take_length] at hall
      obtain ⟨c, rfl⟩ := ints_of hall
      have hcl : c.length ≤ 100000 := by rw [List.length_map] at hxB; omega
      walk_at "g"
      refine lp_range (fun i σ Hc => Same H' Hc ∧ (∃ (y3 : Option V), σ = [some (.ref L), some (.ref a), y2, y3]) ∧ ∀ (j : Nat), j < i → ∀ u v, c[j]? = some u → c[j + 1]? = some v → (u, v) ∈ ls) ⟨fun _ _ z => z, ⟨_, rfl⟩, by simp⟩ ?_ ?_
      · rintro i σ Hc hi ⟨kc, ⟨y3, rfl⟩, hl⟩
        have hi' : i + 1 < c.length := by rw [List.length_map] at hi; omega
        obtain ⟨u, eu⟩ : ∃ u, c[i]? = some u := ⟨_, List.getElem?_eq_getElem (by omega)⟩
        obtain ⟨v, ev⟩ : ∃ v, c[i + 1]? = some v := ⟨_, List.getElem?_eq_getElem hi'⟩
        have eac := kc _ _ ea
        have eLc := kc _ _ eL
        have a1 : atI (c.map V.int) (1 + (i : Int) - 1) = some (.int u) := at_nat (i := i) (by omega) (by rw [List.getElem?_map, eu]; rfl)
        have a2 : atI (c.map V.int) (1 + (i : Int)) = some (.int v) := at_nat (i := i + 1) (by omega) (by rw [List.getElem?_map, ev]; rfl)
        walk_at "g"
        refine w_new fun p H1 hp ep k1 => ?_
        have eL1 := k1 _ _ eLc
        walk_at "g"
        refine w_dnotinT (k := [Sum.inl u, Sum.inl v]) eL1 ep ?_
        rw [lk]
        walk_at "g"
        refine w_itN (fun hn => ?_) (fun hn => ?_)
        · walk_at "g"
          refine q2 ?_ _ (Same.trans kc k1)
          rintro c' ⟨a', e, h, _, hlk⟩
          cases e
          rw [ea] at h
          have e2 : c = c' := int_inj (by simpa using h)
          subst e2
          exact hn (hlk i u v eu ev)
        · walk_at "g"
          refine ⟨Same.trans kc k1, ⟨_, rfl⟩, fun j hj u' v' h1 h2 => ?_⟩
          by_cases e : j = i
          · subst e
            rw [eu] at h1
            rw [ev] at h2
            cases h1
            cases h2
            exact hn
          · exact hl j (by omega) u' v' h1 h2
      · rintro σ Hc ⟨kc, ⟨y3, rfl⟩, hl⟩
        walk_at "g"
        refine q1 c ⟨a, rfl, ea, fun z => ?_, fun j u v h1 h2 => ?_⟩ _ kc
        · subst z
          exact h0 rfl
        · refine hl j ?_ u v h1 h2
          have := (List.getElem?_eq_some_iff.mp h2).1
          rw [List.length_map]
          omega
theorem ok_shows {f fI fW : Addr} {fd fdI fdW : FuncData} (T : Txt K mg) (F : Fun K "shows" "shows" s_shows f fd) (D_is_way : Df K mg "is_way" s_is_way ["links", "thing"] fI fdI) (D_is_whole : Df K mg "is_whole" s_is_whole ["thing"] fW fdW) : FnOk P w K mg base CX0 3 f fd ["links", "truths", "version", "thing"] spShows := by
  have G_is_way : FnOk P w K mg base CX0 2 fI fdI ["links", "thing"] spIsWay := ok_isway T D_is_way.fn D_is_whole
  refine F.ok sc_shows (fun vs H Q E h => ?_) (fun cdv A outer s H vs Q E hr h => ?_)
  · obtain ⟨L, Tr, v, y, B, kvs, tvs, ls, an, rfl, _⟩ := h
    rfl
  · obtain ⟨L, Tr, v, y, B, kvs, tvs, ls, an, rfl, eL, lk, eT, ht, hnd, hd, hB, q1, q2⟩ := h
    have hu := hu_of hr
    refine ⟨_,
      (pss_cons
        (ps_if (PW.pt (pw_or (pt_not (pt_val (pe_callB (r := rIsi K) call_isi (by rfl) T.n_isinstance (by decide +kernel) (pa_cons (pv 3) (pa_cons (pe_bltn (v := .ty "tuple") (u := .type "tuple") (by rfl) T.n_tuple (by decide +kernel) rfl) pa_nil))))) (pw_or (pt_cmpR op_ne (pe_callB (r := rLen K) c_len (by rfl) T.n_len (by decide +kernel) (pa_cons (pv 3) pa_nil)) pe_int (nomark _)) (pw_or1 (pt_not (pt_val (pe_callB (r := rIsi K) call_isi (by rfl) T.n_isinstance (by decide +kernel) (pa_cons (pe_ix (r := rIxT K) ix_tup (pv 3) pe_int (fun _ _ => rfl)) (pa_cons (pe_bltn (v := .ty "str") (u := .type "str") (by rfl) T.n_str (by decide +kernel) rfl) pa_nil)))))))))
          (pss_one
            (ps_ret pe_bl))
          pss_nil)
      (pss_cons
        (ps_asg (pv 3) (pg_tup rfl (pgs_cons (pg_name (i := 4) sc_shows.nd rfl (.inl rfl)) (pgs_cons (pg_name (i := 5) sc_shows.nd rfl (.inl rfl)) pgs_nil))))
      (pss_cons
        (ps_if (pt_not (pt_val (pe_call G_is_way (hr.mono (by omega)) (by rfl) D_is_way.g D_is_way.fn.kp D_is_way.b .nil pass0 (pa_cons (pv 0) (pa_cons (pv 5) pa_nil)))))
          (pss_one
            (ps_ret pe_bl))
          pss_nil)
      (pss_cons
        (ps_if (pt_cmpR op_eq (pv 4) pe_str (nomark _))
          (pss_one
            (ps_ret (pe_and (pe_cmpR op_eq (pe_ix (r := rIxT K) ix_tup (pv 5) (pe_un un_neg pe_int) (fun _ _ => rfl)) (pv 2) (nomark _)) (pe_and (pe_cmp (pc_din hu (pe_ix (r := rIxT K) ix_tup (pv 5) pe_int (fun _ _ => rfl)) (pv 1))) (pe_one (pe_dget hu (pv 1) (pe_ix (r := rIxT K) ix_tup (pv 5) pe_int (fun _ _ => rfl)) (fun _ _ => rfl)))))))
          pss_nil)
      (pss_one
        (ps_ret (pe_and (pe_cmpR op_eq (pv 4) pe_str (nomark _)) (pe_and (pe_cmpR op_eq (pe_ix (r := rIxT K) ix_tup (pv 5) pe_int (fun _ _ => rfl)) (pv 2) (nomark _)) (pe_and (pe_cmp (pc_din hu (pe_ix (r := rIxT K) ix_tup (pv 5) (pe_un un_neg pe_int) (fun _ _ => rfl)) (pv 1))) (pe_one (pe_not (pe_dget hu (pv 1) (pe_ix (r := rIxT K) ix_tup (pv 5) (pe_un un_neg pe_int) (fun _ _ => rfl)) (fun _ _ => rfl)))))))))))))
      , ?_⟩
    rw [show L2.start N_shows [V.ref L, V.ref Tr, V.int v, y] = [some (.ref L), some (.ref Tr), some (.int v), some y, none, none] from rfl]
    refine w_seq ?_
    walk_at "x"
    rcases hd.cases with ⟨ay, ty, hne⟩ | ⟨a, xs, rfl, ea, hxB, hxs⟩
    · refine w_isTup ty ?_
      rw [decide_eq_false hne]
      walk_at "g"
      refine q2 ?_ H (fun _ _ z => z)
      rintro ⟨p, w, z, c, rfl, h, _⟩
      exact hne (ty.ofTup h)
    walk_at "g"
    refine w_itN (fun h0 => ?_) (fun h0 => ?_)
    · walk_at "g"
      refine q2 ?_ H (fun _ _ z => z)
      rintro ⟨p, w, z, c, e, h, _⟩
      cases e
      rw [ea] at h
      cases h
      exact h0 rfl
    obtain ⟨x0, x1, rfl⟩ : ∃ x0 x1, xs = [x0, x1] := by
      match xs, h0 with
      | [x0, x1], _ => exact ⟨x0, x1, rfl⟩
      | [], h => exact absurd h (by decide)
      | [_], h =>
        simp only [List.length_cons, List.length_nil] at h
        omega
      | _ :: _ :: _ :: _, h =>
        simp only [List.length_cons] at h
        omega
    obtain ⟨a0, t0⟩ := (hxs x0 (by simp)).ty
    walk_at "g"
    refine w_isStr t0 ?_
    walk_at "g"
    refine w_itN (fun hs => ?_) (fun hs => ?_)
    · walk_at "g"
      refine q2 ?_ H (fun _ _ z => z)
      rintro ⟨p, w, z, c, e, h, _⟩
      cases e
      rw [ea] at h
      cases h
      exact hs t0.ofStr
    obtain ⟨wd, rfl⟩ := t0.isStr hs
    walk_at "g"
    refine w_seq ?_
    walk_at "g"
    refine ⟨L, x1, B, kvs, ls, rfl, eL, lk, hxs x1 (by simp), hB, fun c hW H1 k1 => ?_, fun hW H1 k1 => ?_⟩
    · obtain ⟨b, rfl, eb, hne, hlk⟩ := id hW
      obtain ⟨u, l, hu1, hl1⟩ := ends_of hne
      have eb1 := k1 _ _ eb
      have eT1 := k1 _ _ eT
      have au := head_at hu1
      have al := last_at hl1
      have row : RowV H ls an v (.ref a) → EndsOk an v wd c := by
        rintro ⟨p, w, z, c', e, h, hW', h2⟩
        cases e
        rw [ea] at h
        cases h
        obtain ⟨b', e, eb', _⟩ := hW'
        cases e
        rw [eb] at eb'
        have e2 : c = c' := int_inj (by simpa using eb')
        subst e2
        exact h2
      walk_at "g"
      refine w_seq ?_
      walk_at "g"
      refine w_ite (fun hh => ?_) (fun hh => ?_)
      · walk_at "g"
        have key : ∀ {b : Bool}, (b = true ↔ l = v ∧ (u, true) ∈ an) → Q (.bl b) H1 := fun {b} hb => by
          cases b with
          | true =>
            obtain ⟨h1, h2⟩ := hb.mp rfl
            exact q1 ⟨a, wd, _, c, rfl, ea, hW, .inl ⟨hh, by rw [hl1, h1], u, hu1, h2⟩⟩ _ k1
          | false =>
            refine q2 (fun hr' => ?_) _ k1
            rcases row hr' with ⟨_, h1, u', h2, h3⟩ | ⟨h1, _⟩
            · rw [hl1] at h1
              rw [hu1] at h2
              cases h1
              cases h2
              exact Bool.noConfusion (hb.mpr ⟨rfl, h3⟩)
            · rw [hh] at h1
              exact absurd h1 (by decide)
        refine w_ite (fun hlv => ?_) (fun hlv => ?_)
        · walk_at "g"
          refine w_itB (fun hin => ?_) (fun hin => ?_)
          · obtain ⟨tv, etv⟩ := Option.isSome_iff_exists.mp hin
            obtain ⟨b, rfl, hb⟩ := ht.1 u tv etv
            walk_at "g"
            refine key ⟨fun e => ⟨hlv, by rw [← e]; exact hb⟩, fun ⟨_, h⟩ => ?_⟩
            have := ht.2 u true h
            rw [etv] at this
            cases this
            rfl
          · exact key ⟨fun e => Bool.noConfusion e, fun ⟨_, h⟩ => by
              rw [ht.2 u true h] at hin
              cases hin⟩
        · exact key ⟨fun e => Bool.noConfusion e, fun ⟨h, _⟩ => absurd h hlv⟩
      · walk_at "g"
        have key : ∀ {b : Bool}, (b = true ↔ wd = "lacks" ∧ u = v ∧ (l, false) ∈ an) → Q (.bl b) H1 := fun {b} hb => by
          cases b with
          | true =>
            obtain ⟨h0, h1, h2⟩ := hb.mp rfl
            exact q1 ⟨a, wd, _, c, rfl, ea, hW, .inr ⟨h0, by rw [hu1, h1], l, hl1, h2⟩⟩ _ k1
          | false =>
            refine q2 (fun hr' => ?_) _ k1
            rcases row hr' with ⟨h1, _⟩ | ⟨h0, h1, u', h2, h3⟩
            · exact hh h1
            · rw [hu1] at h1
              rw [hl1] at h2
              cases h1
              cases h2
              exact Bool.noConfusion (hb.mpr ⟨h0, rfl, h3⟩)
        refine w_ite (fun hwd => ?_) (fun hwd => ?_)
        · walk_at "g"
          refine w_ite (fun huv => ?_) (fun huv => ?_)
          · walk_at "g"
            refine w_itB (fun hin => ?_) (fun hin => ?_)
            · obtain ⟨tv, etv⟩ := Option.isSome_iff_exists.mp hin
              obtain ⟨b, rfl, hb⟩ := ht.1 l tv etv
              walk_at "g"
              refine key ⟨fun e => ⟨hwd, huv, ?_⟩, fun ⟨_, _, h⟩ => ?_⟩
              · have e' : b = false := by simpa using e
                rw [← e']
                exact hb
              · have := ht.2 l false h
                rw [etv] at this
                cases this
                rfl
            · exact key ⟨fun e => Bool.noConfusion e, fun ⟨_, _, h⟩ => by
                rw [ht.2 l false h] at hin
                cases hin⟩
          · exact key ⟨fun e => Bool.noConfusion e, fun ⟨_, h, _⟩ => absurd h huv⟩
        · exact key ⟨fun e => Bool.noConfusion e, fun ⟨h, _⟩ => absurd h hwd⟩
    · walk_at "g"
      refine q2 ?_ _ k1
      rintro ⟨p, w, z, c, e, h, hW', _⟩
      cases e
      rw [ea] at h
      cases h
      exact hW c hW'
end
theorem merge_app : ∀ (es acc : List (Key × V)), (es.map (·.1)).Nodup → (∀ e ∈ es, e.1 ∉ acc.map (·.1)) → mergeK acc es = acc ++ es := by
  intro es
  induction es with
  | nil => intro acc _ _; show acc = _; simp
  | cons e r ih =>
    intro acc hn ha
    rw [List.map_cons, List.nodup_cons] at hn
    have e1 : putK acc e.1 e.2 = acc ++ [e] := putK_new e.2 (by
      cases q : valV acc e.1 with
      | none => rfl
      | some v => exact absurd (valV_in q) (ha e (by simp)))
    show mergeK (putK acc e.1 e.2) r = _
    rw [e1, ih _ hn.2 fun x hx => ?_, List.append_assoc]
    · rfl
    · rw [List.map_append, List.mem_append]
      rintro (h | h)
      · exact ha x (by simp [hx]) h
      · have e2 : x.1 = e.1 := by simpa using h
        exact hn.1 (e2 ▸ List.mem_map_of_mem hx)
theorem val_mem : ∀ {es : List (Key × V)}, (es.map (·.1)).Nodup → ∀ {k : Key} {v : V}, valV es k = some v ↔ (k, v) ∈ es
  | [], _, k, v => by rw [valV_nil]; simp
  | e :: r, hn, k, v => by
    rw [List.map_cons, List.nodup_cons] at hn
    by_cases h : e.1 = k
    · rw [valV_pos h]
      constructor
      · intro z
        cases z
        rw [← h]
        simp
      · intro z
        rcases List.mem_cons.mp z with h2 | h2
        · rw [← h2]
        · exact absurd (List.mem_map_of_mem (f := Prod.fst) h2) (by rw [← h]; exact hn.1)
    · rw [valV_neg h, val_mem hn.2]
      constructor
      · intro z; exact List.mem_cons_of_mem _ z
      · intro z
        rcases List.mem_cons.mp z with h2 | h2
        · exact absurd (by rw [← h2]) h
        · exact h2
theorem trOk {an : List (Addr × Int × Bool)} (hn : (an.map (·.2.1)).Nodup) : TrOk (an.map (·.2)) (mergeK [] (an.map fun q => ((Sum.inl q.2.1 : Key), V.bl q.2.2))) := by
  have nd : ((an.map fun q => ((Sum.inl q.2.1 : Key), V.bl q.2.2)).map (·.1)).Nodup := by
    rw [List.map_map]
    have e : (Prod.fst ∘ fun q : Addr × Int × Bool => ((Sum.inl q.2.1 : Key), V.bl q.2.2)) = Sum.inl ∘ fun q : Addr × Int × Bool => q.2.1 := rfl
    rw [e, ← List.map_map]
    exact List.Pairwise.map _ (fun a b h z => h (Sum.inl.inj z)) hn
  rw [merge_app _ _ nd (by simp), List.nil_append]
  constructor
  · intro x v h
    obtain ⟨q, hq, e⟩ := List.mem_map.mp ((val_mem nd).mp h)
    have e1 : q.2.1 = x := Sum.inl.inj (Prod.mk.inj e).1
    exact ⟨q.2.2, (Prod.mk.inj e).2.symm, by rw [← e1]; exact List.mem_map_of_mem (f := fun q : Addr × Int × Bool => q.2) hq⟩
  · intro x b h
    obtain ⟨q, hq, e⟩ := List.mem_map.mp h
    exact (val_mem nd).mpr (List.mem_map.mpr ⟨q, hq, by rw [e]⟩)
theorem lkOk (ps : List (Addr × Int × Int)) : LkOk (ps.map (·.2)) ((ps.map fun q => ([(Sum.inl q.2.1 : Key), Sum.inl q.2.2], V.bl true)).foldl (fun acc e => putK acc e.1 e.2) []) := by
  intro a b
  rw [valV_foldT, valV_nil, Bool.eq_iff_iff, decide_eq_true_iff]
  simp only [Option.isSome_none, Bool.false_or, List.any_eq_true, decide_eq_true_iff]
  constructor
  · rintro ⟨e, he, h⟩
    obtain ⟨q, hq, rfl⟩ := List.mem_map.mp he
    have h1 : q.2.1 = a := by simpa using (List.cons.inj h).1
    have h2 : q.2.2 = b := by simpa using (List.cons.inj h).2
    exact List.mem_map.mpr ⟨q, hq, by rw [← h1, ← h2]⟩
  · intro h
    obtain ⟨q, hq, e⟩ := List.mem_map.mp h
    exact ⟨_, List.mem_map_of_mem hq, by rw [e]⟩
section
variable {P : Program} {w : World} {K : PySem.W.Frag} {mg : Str → Option Value} {base : Heap}
theorem ok_rightpaper {f fS fN fT fI fW fY fH C_Contrary : Addr} {fd fdS fdN fdT fdI fdW fdY fdH : FuncData} (T : Txt K mg) (F : Fun K "right_paper" "right_paper" s_right_paper f fd) (D_spans : Df K mg "spans" s_spans ["shape"] fS fdS) (D_no_clash : Df K mg "no_clash" s_no_clash ["rows", "answers"] fN fdN) (D_settled : Df K mg "settled" s_settled ["shape", "answers"] fT fdT)
    (FI : Fun K "__init__" "Contrary.__init__" s_Contrary___init__ fI fdI) (X_Contrary : ExnI K mg "Contrary" C_Contrary fI fdI ["self", "upper", "lower"] ["upper", "lower"]) (xm : PySem.W.exmOne K (.ref C_Contrary) (.ref C_Contrary) = some true) (D_is_whole : Df K mg "is_whole" s_is_whole ["thing"] fW fdW) (D_is_way : Df K mg "is_way" s_is_way ["links", "thing"] fY fdY) (D_shows : Df K mg "shows" s_shows ["links", "truths", "version", "thing"] fH fdH) :
    FnOk P w K mg base CX0 5 f fd ["shape", "answers", "thing"] spRightPaper := by
  have G_settled : FnOk P w K mg base (L2.CX P w) 4 fT fdT ["shape", "answers"] (spSettledX C_Contrary) := ok_settledX T D_settled.fn D_spans D_no_clash FI X_Contrary
  have G_shows : FnOk P w K mg base CX0 3 fH fdH ["links", "truths", "version", "thing"] spShows := ok_shows T D_shows.fn D_is_way D_is_whole
  refine F.ok sc_right_paper (fun vs H Q E h => ?_) (fun cdv A outer s H vs Q E hr h => ?_)
  · obtain ⟨t, A, y, B, ns, ps, an, rfl, _⟩ := h
    rfl
  · obtain ⟨t, Aa, y, B, ns, ps, an, rfl, hS, S, hl, hl2, hA, hal, ham, hnd, hd, hB, q1, q2⟩ := h
    have hu := hu_of hr
    refine ⟨_,
      (pss_cons
        (p_try rfl rfl ⟨rfl, by decide, .inl X_Contrary.g⟩ (fun W pn xe tk po =>
          (pss_one
            (ps_expr (pe_callS G_settled (hr.mono (by omega)) (by rfl) D_settled.g D_settled.fn.kp D_settled.b (fun σ => passAt tk σ) (pa_cons (pv 0) (pa_cons (pv 1) pa_nil))))))
        (fun a oe cls d pn _ _ =>
          (pss_one
            (ps_ret pe_bl))))
      (pss_cons
        (ps_if (PW.pt (pw_or (pt_not (pt_val (pe_callB (r := rIsi K) call_isi (by rfl) T.n_isinstance (by decide +kernel) (pa_cons (pv 2) (pa_cons (pe_bltn (v := .ty "tuple") (u := .type "tuple") (by rfl) T.n_tuple (by decide +kernel) rfl) pa_nil))))) (pw_or1 (pt_cmpR op_ne (pe_callB (r := rLen K) c_len (by rfl) T.n_len (by decide +kernel) (pa_cons (pv 2) pa_nil)) (pe_callB (r := rLen K) c_len (by rfl) T.n_len (by decide +kernel) (pa_cons (pe_ix (r := rIxT K) ix_tup (pv 0) pe_int (fun _ _ => rfl)) pa_nil)) (nomark _)))))
          (pss_one
            (ps_ret pe_bl))
          pss_nil)
      (pss_cons
        (ps_setDcT (i := 3) (own := [("link", 7)]) (ga := (gName 7)) hu rfl sc_right_paper.nd rfl rfl (sw_trueD rfl rfl rfl (by decide +kernel)) (pi_tup (pe_ix (r := rIxT K) ix_tup (pv 0) pe_int (fun _ _ => rfl))) (blkOk_by (own := [("link", 7)]) (N := N_right_paper) (sc := defScope s_right_paper) (by decide +kernel)) (fun _ _ _ _ _ => (pg_name (i := 7) sc_right_paper.nd rfl (.inl rfl))) (fun _ _ _ _ _ => pts_nil) (fun _ _ _ _ _ => (pv 7)) (fun _ _ _ _ _ => pe_bl))
      (pss_cons
        (ps_setDc (i := 4) (own := [("version", 5), ("truth", 8)]) (g := (gTup K 2 (gCons (gName 5) (gCons (gName 8) gNil)))) rfl sc_right_paper.nd rfl rfl (sw_trueD rfl rfl rfl (by decide +kernel)) (pi_tup (pv 1)) (blkOk_by (own := [("version", 5), ("truth", 8)]) (N := N_right_paper) (sc := defScope s_right_paper) (by decide +kernel)) (fun _ _ _ _ _ => (pg_tup rfl (pgs_cons (pg_name (i := 5) sc_right_paper.nd rfl (.inl rfl)) (pgs_cons (pg_name (i := 8) sc_right_paper.nd rfl (.inl rfl)) pgs_nil)))) (fun _ _ _ _ _ => pts_nil) (fun _ _ _ _ _ => (pv 5)) (fun _ _ _ _ _ => (pv 8)))
      (pss_cons
        (ps_for PassesOwn.never rfl (RZ.pi_zipA (by rfl) T.n_zip (pa_cons (pe_ix (r := rIxT K) ix_tup (pv 0) pe_int (fun _ _ => rfl)) (pa_cons (pv 2) pa_nil))) (pg_tup rfl (pgs_cons (pg_name (i := 5) sc_right_paper.nd rfl (.inl rfl)) (pgs_cons (pg_name (i := 6) sc_right_paper.nd rfl (.inl rfl)) pgs_nil)))
          (pss_one
            (ps_if (pt_not (pt_val (pe_call G_shows (hr.mono (by omega)) (by rfl) D_shows.g D_shows.fn.kp D_shows.b .nil pass0 (pa_cons (pv 3) (pa_cons (pv 4) (pa_cons (pv 5) (pa_cons (pv 6) pa_nil)))))))
              (pss_one
                (ps_ret pe_bl))
              pss_nil)))
      (pss_one
        (ps_ret pe_bl)))))))
      , ?_⟩
    rw [show L2.start N_right_paper [V.ref t, V.ref Aa, y] = [some (.ref t), some (.ref Aa), some y, none, none, none, none, none, none] from rfl]
    refine w_seq ?_
    walk_at "x"
    refine ⟨t, Aa, ns, ps, an, rfl, hS, S, hl, hl2, hA, hal, ham, fun hc H1 r b1 b2 b3 k1 er v1 v2 v3 => ?_, fun p d H1 hp k1 hd1 e => ?_⟩
    rotate_left
    · refine w_only xm fun a ha => ?_
      walk_at "g"
      exact q2 (fun z => hp.not z.1) _ k1
    obtain ⟨Vt, Lt, et, ev, epl, epe⟩ := id (hS.kt (KT.of k1))
    have ev' : H1 Vt = some (.tup (ns.map V.int)) := ev
    obtain ⟨hAt, hAe⟩ := hA.kt (KT.of k1)
    have hd1 := hd.kd (KD.of k1)
    refine w_seq ?_
    walk_at "g"
    rcases hd1.cases with ⟨ay, ty, hne⟩ | ⟨a, xs, rfl, ea, hxB, hxs⟩
    · refine w_isTup ty ?_
      rw [decide_eq_false hne]
      walk_at "g"
      refine q2 ?_ _ k1
      rintro ⟨_, hP⟩
      obtain ⟨p, xs, rfl, e, _⟩ := hP.on k1
      exact hne (ty.ofTup e)
    walk_at "g"
    refine w_itN (fun h0 => ?_) (fun h0 => ?_)
    · walk_at "g"
      refine q2 ?_ _ k1
      rintro ⟨_, hP⟩
      obtain ⟨p, xs', e1, e, hlen, _⟩ := hP.on k1
      cases e1
      rw [ea] at e
      cases e
      rw [List.length_map] at h0
      exact h0 (by omega)
    have hlen : xs.length = ns.length := by rw [List.length_map] at h0; omega
    walk_at "g"
    refine dct_map (walk_tup (K := K) (a := Lt) (xs := ps.map fun q => .ref q.1)) (ps.map fun q => ([(Sum.inl q.2.1 : Key), Sum.inl q.2.2], V.bl true)) (by simp) (by rw [List.length_map]; omega) (fun H' k => .of (k _ _ epl)) ?_ ?_
    · rintro i x H2 H3 R hi k2 ⟨rfl, hx⟩ hR
      obtain ⟨z, hz, rfl⟩ := map_at hx
      refine w_name ⟨rfl, ?_⟩
      walk_at "g"
      exact hR ([Sum.inl z.2.1, Sum.inl z.2.2], .bl true) z.1 _ (by rw [List.getElem?_map, hz]; rfl) (k2 _ _ (epe z (List.mem_of_getElem? hz))) (fun _ _ e => e)
    intro L H2 hL k2 eL
    have hAt2 := k2 _ _ hAt
    walk_at "g"
    refine dcp_map (walk_tup (K := K) (a := Aa) (xs := an.map fun q => .ref q.1)) [] (an.map fun q => ((Sum.inl q.2.1 : Key), V.bl q.2.2)) (by simp) (by rw [List.length_map]; omega) (fun H' k => .of (k _ _ (by simp) hAt2)) ?_ (by simp) ?_
    · rintro i x H3 H4 R hi k3 ⟨rfl, hx⟩ hR
      obtain ⟨z, hz, rfl⟩ := map_at hx
      have ez := k3 _ _ (by simp) (k2 _ _ (hAe z (List.mem_of_getElem? hz)))
      walk_at "g"
      refine ⟨rfl, ?_⟩
      walk_at "g"
      exact hR (Sum.inl z.2.1, .bl z.2.2) _ (by rw [List.getElem?_map, hz]; rfl) Kp.refl
    intro Tr H3 hTr k3' eTr
    have k3 := k3'.same
    have k13 : Same H1 H3 := Same.trans k2 k3
    have k03 : Same H H3 := Same.trans k1 k13
    have et3 := k13 _ _ et
    have ev3 := k13 _ _ ev'
    have ea3 := k13 _ _ ea
    have eL3 := k3 _ _ eL
    have hd3 := hd1.kd (KD.of k13)
    have hx3 : ∀ z ∈ xs, Dat B H3 z := fun z hz => (hxs z hz).kd (KD.of k13)
    have lk := lkOk ps
    have tr := trOk hnd
    walk_at "g"
    refine lp_zipT (xs := ns.map V.int) (ys := xs) (by rw [List.length_map, hlen]) (fun i σ H' => Same H3 H' ∧ (∃ (y5 y6 : Option V), σ = [some (.ref t), some (.ref Aa), some (.ref a), some (.ref L), some (.ref Tr), y5, y6, none, none]) ∧ ∀ j, j < i → ∀ z v, xs[j]? = some z → ns[j]? = some v → RowV H3 (ps.map (·.2)) (an.map (·.2)) v z) ⟨fun _ _ e => e, ⟨_, _, rfl⟩, by simp⟩ ?_ ?_ ?_
    · rintro i σ H' ⟨k4, _⟩
      exact ⟨.of (k4 _ _ ev3), .of (k4 _ _ ea3)⟩
    · rintro i x z Tt σ H4 H5 hx hz ⟨k4, ⟨y5, y6, rfl⟩, hall⟩ hTt eTt k5
      obtain ⟨v, hv, rfl⟩ := map_at hx
      have k35 : Same H3 H5 := Same.trans k4 k5
      walk_at "g"
      refine ⟨L, Tr, v, z, B, _, _, _, _, rfl, k35 _ _ eL3, lk, k35 _ _ eTr, tr, by rw [List.map_map]; exact hnd, (hx3 z (List.mem_of_getElem? hz)).kd (KD.of k35), hB, fun hR H6 k6 => ?_, fun hR H6 k6 => ?_⟩
      · walk_at "g"
        refine ⟨Same.trans k35 k6, ⟨_, _, rfl⟩, fun j hj z' v' h1 h2 => ?_⟩
        by_cases e : j = i
        · subst e
          rw [hz] at h1
          rw [hv] at h2
          cases h1
          cases h2
          exact hR.back (hx3 z (List.mem_of_getElem? hz)) k35
        · exact hall j (by omega) z' v' h1 h2
      · walk_at "g"
        refine q2 ?_ _ (Same.trans k03 (Same.trans k35 k6))
        rintro ⟨_, hP⟩
        obtain ⟨p, xs', e1, e, _, hP'⟩ := hP.on (Same.trans k03 k35)
        cases e1
        rw [k35 _ _ ea3] at e
        cases e
        exact hR (hP' i z v hz hv)
    · rintro σ H4 ⟨k4, ⟨y5, y6, rfl⟩, hall⟩
      walk_at "g"
      refine q1 hc (PapV.back hd k03 ⟨a, xs, rfl, ea3, hlen, fun i z v h1 h2 => hall i ?_ z v h1 h2⟩) _ (Same.trans k03 k4)
      rw [List.length_map]
      exact (List.getElem?_eq_some_iff.mp h2).1
theorem ok_lisway {f fW : Addr} {fd fdW : FuncData} (T : Txt K mg) (F : Fun K "_law_is_way" "_law_is_way" s_law_is_way f fd) (D_law_int : Df K mg "_law_int" s_law_int ["_law_thing"] fW fdW) : FnOk P w K mg base CX0 2 f fd ["_law_web", "_law_thing"] spLIsWay := by
  have G_law_int : FnOk P w K mg base CX0 1 fW fdW ["_law_thing"] spWholeG := ok_law_intG T D_law_int.fn
  refine F.ok sc_law_is_way (fun vs H Q E h => ?_) (fun cdv A outer s H vs Q E hr h => ?_)
  · obtain ⟨t, y, B, ns, ps, rfl, _⟩ := h
    rfl
  · obtain ⟨t, y, B, ns, ps, rfl, hS, hl, hd, hB, q1, q2⟩ := h
    have hu := hu_of hr
    obtain ⟨Vt, Lt, et, ev, epl, epe⟩ := id hS
    have ev' : H Vt = some (.tup (ns.map V.int)) := ev
    refine ⟨_,
      (pss_cons
        (ps_if (PW.pt (pw_or (pt_not (pt_val (pe_callB (r := rIsi K) call_isi (by rfl) T.n_isinstance (by decide +kernel) (pa_cons (pv 1) (pa_cons (pe_bltn (v := .ty "tuple") (u := .type "tuple") (by rfl) T.n_tuple (by decide +kernel) rfl) pa_nil))))) (pw_or1 (pt_cmpR op_eq (pe_callB (r := rLen K) c_len (by rfl) T.n_len (by decide +kernel) (pa_cons (pv 1) pa_nil)) pe_int (nomark _)))))
          (pss_one
            (ps_ret pe_bl))
          pss_nil)
      (pss_cons
        (ps_for PassesOwn.never rfl (pi_tup (pv 1)) (pg_name (i := 2) sc_law_is_way.nd rfl (.inl rfl))
          (pss_one
            (ps_if (PW.pt (pw_or (pt_not (pt_val (pe_call G_law_int (hr.mono (by omega)) (by rfl) D_law_int.g D_law_int.fn.kp D_law_int.b .nil pass0 (pa_cons (pv 2) pa_nil)))) (pw_or1 (pt_cmpR (r := rIn K true) op_notIn_seq (pv 2) (pe_ix (r := rIxT K) ix_tup (pv 0) pe_int (fun _ _ => rfl)) rfl))))
              (pss_one
                (ps_ret pe_bl))
              pss_nil)))
      (pss_cons
        (ps_for PassesOwn.never rfl (pi_range2 (by rfl) T.n_range (pa_cons pe_int (pa_cons (pe_callB (r := rLen K) c_len (by rfl) T.n_len (by decide +kernel) (pa_cons (pv 1) pa_nil)) pa_nil))) (pg_name (i := 3) sc_law_is_way.nd rfl (.inl rfl))
          (pss_one
            (ps_if (pt_cmpR (r := rNotInT K) (op_notInT (room100 hr)) (pe_tup (pa_cons (pe_ix (r := rIxT K) ix_tup (pv 1) (pe_op op_sub (pv 3) pe_int) (fun _ _ => rfl)) (pa_cons (pe_ix (r := rIxT K) ix_tup (pv 1) (pv 3) (fun _ _ => rfl)) pa_nil))) (pe_ix (r := rIxT K) ix_tup (pv 0) pe_int (fun _ _ => rfl)) rfl)
              (pss_one
                (ps_ret pe_bl))
              pss_nil)))
      (pss_one
        (ps_ret pe_bl)))))
      , ?_⟩
    rw [show L2.start N_law_is_way [V.ref t, y] = [some (.ref t), some y, none, none] from rfl]
    refine w_seq ?_
    walk_at "x"
    rcases hd.cases with ⟨ay, ty, hne⟩ | ⟨a, xs, rfl, ea, hxB, hxs⟩
    · refine w_isTup ty ?_
      rw [decide_eq_false hne]
      walk_at "g"
      refine q2 ?_ H (fun _ _ z => z)
      rintro c ⟨⟨a, rfl, h, _⟩, _⟩
      exact hne (ty.ofTup h)
    walk_at "g"
    refine w_ite (fun h0 => ?_) (fun h0 => ?_)
    · walk_at "g"
      refine q2 ?_ H (fun _ _ z => z)
      rintro c ⟨⟨a', e, h, hne, _⟩, _⟩
      cases e
      rw [ea] at h
      cases h
      rw [List.length_map] at h0
      exact hne (List.length_eq_zero_iff.mp (by omega))
    walk_at "g"
    refine lp_tup (xs := xs) (fun i σ H' => H' = H ∧ (∃ (y2 : Option V), σ = [some (.ref t), some (.ref a), y2, none]) ∧ ∀ z ∈ xs.take i, ∃ n, z = .int n ∧ n ∈ ns) ⟨rfl, ⟨_, rfl⟩, by simp⟩ ?_ ?_ ?_
    · rintro i σ H' _ ⟨rfl, _⟩
      exact .of ea
    · rintro i z σ H' hz ⟨rfl, ⟨y2, rfl⟩, hall⟩
      have hzm := List.mem_of_getElem? hz
      obtain ⟨az, tz⟩ := (hxs z hzm).ty
      walk_at "g"
      refine ⟨z, az, rfl, tz, ?_⟩
      walk_at "g"
      refine w_itN (fun hn => ?_) (fun hn => ?_)
      · walk_at "g"
        refine q2 ?_ H' (fun _ _ z => z)
        rintro c ⟨⟨a', e, h, _⟩, _⟩
        cases e
        rw [ea] at h
        cases h
        obtain ⟨n, _, rfl⟩ := map_at hz
        exact hn tz.ofInt
      · obtain ⟨n, rfl⟩ := tz.isInt hn
        walk_at "g"
        refine w_itN (fun hm => ?_) (fun hm => ?_)
        · walk_at "g"
          refine q2 ?_ H' (fun _ _ z => z)
          rintro c ⟨⟨a', e, h, _⟩, hin⟩
          cases e
          rw [ea] at h
          cases h
          obtain ⟨n', hn', e2⟩ := map_at hz
          cases e2
          exact hm (hin n (List.mem_of_getElem? hn'))
        · walk_at "g"
          refine ⟨rfl, ⟨_, rfl⟩, fun u hu' => ?_⟩
          rcases take_mem hz hu' with h | rfl
          · exact hall u h
          · exact ⟨n, rfl, hm⟩
    · rintro σ H' ⟨rfl, ⟨y2, rfl⟩, hall⟩
      rw [List.take_length] at hall
      obtain ⟨c, rfl⟩ := ints_of fun z hz => (let ⟨n, e, _⟩ := hall z hz; ⟨n, e⟩)
      have hin : ∀ x ∈ c, x ∈ ns := fun x hx => by
        obtain ⟨n, e, h⟩ := hall (.int x) (List.mem_map_of_mem hx)
        cases e
        exact h
      have hcl : c.length ≤ 100000 := by rw [List.length_map] at hxB; omega
      walk_at "g"
      refine lp_range (fun i σ Hc => Same H' Hc ∧ (∃ (y3 : Option V), σ = [some (.ref t), some (.ref a), y2, y3]) ∧ ∀ (j : Nat), j < i → ∀ u v, c[j]? = some u → c[j + 1]? = some v → (u, v) ∈ ps.map (·.2)) ⟨fun _ _ z => z, ⟨_, rfl⟩, by simp⟩ ?_ ?_
      · rintro i σ Hc hi ⟨kc, ⟨y3, rfl⟩, hl⟩
        have hi' : i + 1 < c.length := by rw [List.length_map] at hi; omega
        obtain ⟨u, eu⟩ : ∃ u, c[i]? = some u := ⟨_, List.getElem?_eq_getElem (by omega)⟩
        obtain ⟨v, ev2⟩ : ∃ v, c[i + 1]? = some v := ⟨_, List.getElem?_eq_getElem hi'⟩
        have eac := kc _ _ ea
        have etc := kc _ _ et
        have a1 : atI (c.map V.int) (1 + (i : Int) - 1) = some (.int u) := at_nat (i := i) (by omega) (by rw [List.getElem?_map, eu]; rfl)
        have a2 : atI (c.map V.int) (1 + (i : Int)) = some (.int v) := at_nat (i := i + 1) (by omega) (by rw [List.getElem?_map, ev2]; rfl)
        walk_at "g"
        refine w_new fun p H1 hp ep k1 => ?_
        have etc1 := k1 _ _ etc
        walk_at "g"
        refine w_notInT ep (.of (k1 _ _ (kc _ _ epl))) (fun q hq => k1 _ _ (kc _ _ (epe q hq))) ?_
        walk_at "g"
        refine w_ite (fun hn => ?_) (fun hn => ?_)
        · walk_at "g"
          refine q2 ?_ _ (Same.trans kc k1)
          rintro c' ⟨⟨a', e, h, _, hlk⟩, _⟩
          cases e
          rw [ea] at h
          have e2 : c = c' := int_inj (by simpa using h)
          subst e2
          exact hn (hlk i u v eu ev2)
        · walk_at "g"
          refine ⟨Same.trans kc k1, ⟨_, rfl⟩, fun j hj u' v' h1 h2 => ?_⟩
          by_cases e : j = i
          · subst e
            rw [eu] at h1
            rw [ev2] at h2
            cases h1
            cases h2
            exact Classical.not_not.mp hn
          · exact hl j (by omega) u' v' h1 h2
      · rintro σ Hc ⟨kc, ⟨y3, rfl⟩, hl⟩
        walk_at "g"
        refine q1 c ⟨a, rfl, ea, fun z => ?_, fun j u v h1 h2 => ?_⟩ hin _ kc
        · subst z
          exact h0 rfl
        · refine hl j ?_ u v h1 h2
          have := (List.getElem?_eq_some_iff.mp h2).1
          rw [List.length_map]
          omega
end
def hitP (an1 : Int × Bool) (w : Str) (u l v : Int) : Prop := (w = "held" ∧ an1.2 = true ∧ u = an1.1 ∧ l = v) ∨ (w = "lacks" ∧ an1.2 = false ∧ l = an1.1 ∧ u = v)
theorem bool_eta {q : Addr × Int × Bool} {b : Bool} (h : q.2.2 = b) : q.2 = (q.2.1, b) := by
  obtain ⟨x, y, z⟩ := q
  simp only at h ⊢
  rw [h]
section
variable {P : Program} {w : World} {K : PySem.W.Frag} {mg : Str → Option Value} {base : Heap}
theorem ok_lispaper {f fY fW : Addr} {fd fdY fdW : FuncData} (T : Txt K mg) (F : Fun K "_law_is_paper" "_law_is_paper" s_law_is_paper f fd) (D_law_is_way : Df K mg "_law_is_way" s_law_is_way ["_law_web", "_law_thing"] fY fdY) (D_law_int : Df K mg "_law_int" s_law_int ["_law_thing"] fW fdW) : FnOk P w K mg base CX0 3 f fd ["_law_web", "_law_answers_here", "_law_thing"] spLIsPaper := by
  have G_law_is_way : FnOk P w K mg base CX0 2 fY fdY ["_law_web", "_law_thing"] spLIsWay := ok_lisway T D_law_is_way.fn D_law_int
  refine F.ok sc_law_is_paper (fun vs H Q E h => ?_) (fun cdv A outer s H vs Q E hr h => ?_)
  · obtain ⟨t, A, y, B, ns, ps, an, rfl, _⟩ := h
    rfl
  · obtain ⟨t, Aa, y, B, ns, ps, an, rfl, hS, S, hl, hA, hal, hd, hB, q1, q2⟩ := h
    have hu := hu_of hr
    obtain ⟨Vt, Lt, et, ev, epl, epe⟩ := id hS
    have ev' : H Vt = some (.tup (ns.map V.int)) := ev
    obtain ⟨hAt, hAe⟩ := id hA
    refine ⟨_,
      (pss_cons
        (ps_if (PW.pt (pw_or (pt_not (pt_val (pe_callB (r := rIsi K) call_isi (by rfl) T.n_isinstance (by decide +kernel) (pa_cons (pv 2) (pa_cons (pe_bltn (v := .ty "tuple") (u := .type "tuple") (by rfl) T.n_tuple (by decide +kernel) rfl) pa_nil))))) (pw_or1 (pt_cmpR op_ne (pe_callB (r := rLen K) c_len (by rfl) T.n_len (by decide +kernel) (pa_cons (pv 2) pa_nil)) (pe_callB (r := rLen K) c_len (by rfl) T.n_len (by decide +kernel) (pa_cons (pe_ix (r := rIxT K) ix_tup (pv 0) pe_int (fun _ _ => rfl)) pa_nil)) (nomark _)))))
          (pss_one
            (ps_ret pe_bl))
          pss_nil)
      (pss_cons
        (ps_for PassesOwn.never rfl (pi_range1 (by rfl) T.n_range (pa_cons (pe_callB (r := rLen K) c_len (by rfl) T.n_len (by decide +kernel) (pa_cons (pv 2) pa_nil)) pa_nil)) (pg_name (i := 3) sc_law_is_paper.nd rfl (.inl rfl))
          (pss_cons
            (ps_set (i := 4) sc_law_is_paper.nd rfl (.inl rfl) (pe_ix (r := rIxT K) ix_tup (pv 2) (pv 3) (fun _ _ => rfl)))
          (pss_cons
            (ps_if (PW.pt (pw_or (pt_not (pt_val (pe_callB (r := rIsi K) call_isi (by rfl) T.n_isinstance (by decide +kernel) (pa_cons (pv 4) (pa_cons (pe_bltn (v := .ty "tuple") (u := .type "tuple") (by rfl) T.n_tuple (by decide +kernel) rfl) pa_nil))))) (pw_or (pt_cmpR op_ne (pe_callB (r := rLen K) c_len (by rfl) T.n_len (by decide +kernel) (pa_cons (pv 4) pa_nil)) pe_int (nomark _)) (pw_or1 (pt_not (pt_val (pe_callB (r := rIsi K) call_isi (by rfl) T.n_isinstance (by decide +kernel) (pa_cons (pe_ix (r := rIxT K) ix_tup (pv 4) pe_int (fun _ _ => rfl)) (pa_cons (pe_bltn (v := .ty "str") (u := .type "str") (by rfl) T.n_str (by decide +kernel) rfl) pa_nil)))))))))
              (pss_one
                (ps_ret pe_bl))
              pss_nil)
          (pss_cons
            (ps_if (pt_not (pt_val (pe_call G_law_is_way (hr.mono (by omega)) (by rfl) D_law_is_way.g D_law_is_way.fn.kp D_law_is_way.b .nil pass0 (pa_cons (pv 0) (pa_cons (pe_ix (r := rIxT K) ix_tup (pv 4) pe_int (fun _ _ => rfl)) pa_nil)))))
              (pss_one
                (ps_ret pe_bl))
              pss_nil)
          (pss_cons
            (ps_set (i := 5) sc_law_is_paper.nd rfl (.inl rfl) pe_bl)
          (pss_cons
            (ps_for PassesOwn.never rfl (pi_tup (pv 1)) (pg_name (i := 6) sc_law_is_paper.nd rfl (.inl rfl))
              (pss_cons
                (ps_if (PW.pt (pw_and (pt_cmpR op_eq (pe_ix (r := rIxT K) ix_tup (pv 4) pe_int (fun _ _ => rfl)) pe_str (nomark _)) (pw_and (pt_val (pe_ix (r := rIxT K) ix_tup (pv 6) pe_int (fun _ _ => rfl))) (pw_and (pt_cmpR op_eq (pe_ix (r := rIxT K) ix_tup (pe_ix (r := rIxT K) ix_tup (pv 4) pe_int (fun _ _ => rfl)) pe_int (fun _ _ => rfl)) (pe_ix (r := rIxT K) ix_tup (pv 6) pe_int (fun _ _ => rfl)) (nomark _)) (pw_and1 (pt_cmpR op_eq (pe_ix (r := rIxT K) ix_tup (pe_ix (r := rIxT K) ix_tup (pv 4) pe_int (fun _ _ => rfl)) (pe_un un_neg pe_int) (fun _ _ => rfl)) (pe_ix (r := rIxT K) ix_tup (pe_ix (r := rIxT K) ix_tup (pv 0) pe_int (fun _ _ => rfl)) (pv 3) (fun _ _ => rfl)) (nomark _)))))))
                  (pss_one
                    (ps_set (i := 5) sc_law_is_paper.nd rfl (.inl rfl) pe_bl))
                  pss_nil)
              (pss_one
                (ps_if (PW.pt (pw_and (pt_cmpR op_eq (pe_ix (r := rIxT K) ix_tup (pv 4) pe_int (fun _ _ => rfl)) pe_str (nomark _)) (pw_and (pt_not (pt_val (pe_ix (r := rIxT K) ix_tup (pv 6) pe_int (fun _ _ => rfl)))) (pw_and (pt_cmpR op_eq (pe_ix (r := rIxT K) ix_tup (pe_ix (r := rIxT K) ix_tup (pv 4) pe_int (fun _ _ => rfl)) (pe_un un_neg pe_int) (fun _ _ => rfl)) (pe_ix (r := rIxT K) ix_tup (pv 6) pe_int (fun _ _ => rfl)) (nomark _)) (pw_and1 (pt_cmpR op_eq (pe_ix (r := rIxT K) ix_tup (pe_ix (r := rIxT K) ix_tup (pv 4) pe_int (fun _ _ => rfl)) pe_int (fun _ _ => rfl)) (pe_ix (r := rIxT K) ix_tup (pe_ix (r := rIxT K) ix_tup (pv 0) pe_int (fun _ _ => rfl)) (pv 3) (fun _ _ => rfl)) (nomark _)))))))
                  (pss_one
                    (ps_set (i := 5) sc_law_is_paper.nd rfl (.inl rfl) pe_bl))
                  pss_nil))))
          (pss_one
            (ps_if (pt_not (pt_val (pv 5)))
              (pss_one
                (ps_ret pe_bl))
              pss_nil))))))))
      (pss_one
        (ps_ret pe_bl))))
      , ?_⟩
    rw [show L2.start N_law_is_paper [V.ref t, V.ref Aa, y] = [some (.ref t), some (.ref Aa), some y, none, none, none, none] from rfl]
    refine w_seq ?_
    walk_at "x"
    rcases hd.cases with ⟨ay, ty, hne⟩ | ⟨a, xs, rfl, ea, hxB, hxs⟩
    · refine w_isTup ty ?_
      rw [decide_eq_false hne]
      walk_at "g"
      refine q2 ?_ H (fun _ _ z => z)
      rintro ⟨p, xs, rfl, e, _⟩
      exact hne (ty.ofTup e)
    walk_at "g"
    refine w_itN (fun h0 => ?_) (fun h0 => ?_)
    · walk_at "g"
      refine q2 ?_ H (fun _ _ z => z)
      rintro ⟨p, xs', e1, e, hlen, _⟩
      cases e1
      rw [ea] at e
      cases e
      rw [List.length_map] at h0
      exact h0 (by omega)
    have hlen : xs.length = ns.length := by rw [List.length_map] at h0; omega
    walk_at "g"
    refine lp_range (fun i σ H' => Same H H' ∧ (∃ (y3 y4 y5 y6 : Option V), σ = [some (.ref t), some (.ref Aa), some (.ref a), y3, y4, y5, y6]) ∧ ∀ j, j < i → ∀ z v, xs[j]? = some z → ns[j]? = some v → RowV H (ps.map (·.2)) (an.map (·.2)) v z) ⟨fun _ _ e => e, ⟨_, _, _, _, rfl⟩, by simp⟩ ?_ ?_
    rotate_left
    · rintro σ H4 ⟨k4, ⟨y3, y4, y5, y6, rfl⟩, hall⟩
      walk_at "g"
      refine q1 ⟨a, xs, rfl, ea, hlen, fun i z v h1 h2 => hall i ?_ z v h1 h2⟩ _ k4
      have := (List.getElem?_eq_some_iff.mp h1).1
      omega
    rintro i σ H1 hi ⟨k1, ⟨y3, y4, y5, y6, rfl⟩, hall⟩
    have hi' : i < xs.length := by omega
    obtain ⟨z, ez⟩ : ∃ z, xs[i]? = some z := ⟨_, List.getElem?_eq_getElem hi'⟩
    obtain ⟨v, evi⟩ : ∃ v, ns[i]? = some v := ⟨_, List.getElem?_eq_getElem (by omega)⟩
    have hdz := (hxs z (List.mem_of_getElem? ez)).kd (KD.of k1)
    have ea1 := k1 _ _ ea
    have et1 := k1 _ _ et
    have ev1 := k1 _ _ ev'
    have az : atI xs (0 + (i : Int)) = some z := at_nat (i := i) (by omega) ez
    have av : atI (ns.map V.int) (0 + (i : Int)) = some (.int v) := at_nat (i := i) (by omega) (by rw [List.getElem?_map, evi]; rfl)
    have bad : ¬ RowV H1 (ps.map (·.2)) (an.map (·.2)) v z → ¬ PapV H (ps.map (·.2)) (an.map (·.2)) ns (.ref a) := by
      rintro hn ⟨p, xs', e1, e, _, hP⟩
      cases e1
      rw [ea] at e
      cases e
      exact hn ((hP i z v ez evi).on k1)
    walk_at "g"
    refine w_seq ?_
    walk_at "g"
    rcases hdz.cases with ⟨ay, ty, hne⟩ | ⟨b, zs, rfl, eb, hzB, hzs⟩
    · refine w_isTup ty ?_
      rw [decide_eq_false hne]
      walk_at "g"
      refine q2 (bad ?_) _ k1
      rintro ⟨p, w, z, c, rfl, h, _⟩
      exact hne (ty.ofTup h)
    walk_at "g"
    refine w_itN (fun h2 => ?_) (fun h2 => ?_)
    · walk_at "g"
      refine q2 (bad ?_) _ k1
      rintro ⟨p, w, z, c, e, h, _⟩
      cases e
      rw [eb] at h
      cases h
      exact h2 rfl
    obtain ⟨x0, x1, rfl⟩ : ∃ x0 x1, zs = [x0, x1] := by
      match zs, h2 with
      | [x0, x1], _ => exact ⟨x0, x1, rfl⟩
      | [], h => exact absurd h (by decide)
      | [_], h =>
        simp only [List.length_cons, List.length_nil] at h
        omega
      | _ :: _ :: _ :: _, h =>
        simp only [List.length_cons] at h
        omega
    obtain ⟨a0, t0⟩ := (hzs x0 (by simp)).ty
    walk_at "g"
    refine w_isStr t0 ?_
    walk_at "g"
    refine w_itN (fun hs => ?_) (fun hs => ?_)
    · walk_at "g"
      refine q2 (bad ?_) _ k1
      rintro ⟨p, w, z, c, e, h, _⟩
      cases e
      rw [eb] at h
      cases h
      exact hs t0.ofStr
    obtain ⟨wd, rfl⟩ := t0.isStr hs
    walk_at "g"
    refine w_seq ?_
    walk_at "g"
    have hv : v ∈ ns := List.mem_of_getElem? evi
    refine ⟨t, x1, B, ns, ps, rfl, hS.kt (KT.of k1), hl, hzs x1 (by simp), hB, fun c hW hcin H2 k2 => ?_, fun hW H2 k2 => ?_⟩
    rotate_left
    · walk_at "g"
      refine q2 (bad ?_) _ (Same.trans k1 k2)
      rintro ⟨p, w, z, c, e, h, hW', hE⟩
      cases e
      rw [eb] at h
      cases h
      refine hW c ⟨hW', ?_⟩
      obtain ⟨_, _, _, _, hlk⟩ := hW'
      refine Lk.mem S hlk hv ?_
      rcases hE with ⟨_, h, _⟩ | ⟨_, h, _⟩
      · exact .inr h
      · exact .inl h
    obtain ⟨d, rfl, ed, hcne, hlk⟩ := id hW
    obtain ⟨u, l, hu1, hl1⟩ := ends_of hcne
    have k02 := Same.trans k1 k2
    have ed2 := k2 _ _ ed
    have eb2 := k2 _ _ eb
    have et2 := k2 _ _ et1
    have ev2 := k2 _ _ ev1
    have hAt2 := k02 _ _ hAt
    have au := head_at hu1
    have al := last_at hl1
    walk_at "g"
    refine lp_tup (xs := an.map fun q => .ref q.1) (fun j σ H' => H' = H2 ∧ ∃ (g : Bool) (y6 : Option V), σ = [some (.ref t), some (.ref Aa), some (.ref a), some (.int (0 + (i : Int))), some (.ref b), some (.bl g), y6] ∧ (g = true ↔ ∃ q ∈ an.take j, hitP q.2 wd u l v)) ⟨rfl, false, _, rfl, by simp⟩ ?_ ?_ ?_
    · rintro j σ H' _ ⟨rfl, _⟩
      exact .of hAt2
    · rintro j x σ H' hx ⟨rfl, g, y6, rfl, hg⟩
      obtain ⟨q, hq, rfl⟩ := map_at hx
      have eq2 := k02 _ _ (hAe q (List.mem_of_getElem? hq))
      have step : ∀ g' : Bool, (g' = true ↔ g = true ∨ hitP q.2 wd u l v) → (g' = true ↔ ∃ q ∈ an.take (j + 1), hitP q.2 wd u l v) := fun g' h => by
        rw [h, hg]
        constructor
        · rintro (⟨z, h1, h2⟩ | h1)
          · exact ⟨z, by rw [List.take_add_one]; exact List.mem_append_left _ h1, h2⟩
          · exact ⟨q, by rw [List.take_add_one, hq]; simp, h1⟩
        · rintro ⟨z, h1, h2⟩
          rcases take_mem hq h1 with h | rfl
          · exact .inl ⟨z, h, h2⟩
          · exact .inr h2
      refine w_seqJ (fun σ' Hx => Hx = H' ∧ ∃ g' : Bool, σ' = [some (.ref t), some (.ref Aa), some (.ref a), some (.int (0 + (i : Int))), some (.ref b), some (.bl g'), some (.ref q.1)] ∧ (g' = true ↔ g = true ∨ (wd = "held" ∧ q.2.2 = true ∧ u = q.2.1 ∧ l = v))) ?_ ?_
      · rintro σ' Hx ⟨rfl, g', rfl, hg'⟩
        have no : ¬ (wd = "lacks" ∧ q.2.2 = false ∧ l = q.2.1 ∧ u = v) → (g' = true ↔ g = true ∨ hitP q.2 wd u l v) := fun hn => by
          rw [hg']
          constructor
          · rintro (h | h)
            · exact .inl h
            · exact .inr (.inl h)
          · rintro (h | h | h)
            · exact .inl h
            · exact .inr h
            · exact absurd h hn
        walk_at "g"
        refine w_ite (fun c1 => ?_) (fun c1 => ?_)
        · walk_at "g"
          refine w_itNB (fun c2 => ?_) (fun c2 => ?_)
          · walk_at "g"
            refine w_ite (fun c3 => ?_) (fun c3 => ?_)
            · walk_at "g"
              refine w_ite (fun c4 => ?_) (fun c4 => ?_)
              · walk_at "g"
                exact ⟨rfl, true, _, rfl, step true ⟨fun _ => .inr (.inr ⟨c1, c2, c3, c4⟩), fun _ => rfl⟩⟩
              · walk_at "g"
                exact ⟨rfl, g', _, rfl, step g' (no fun h => c4 h.2.2.2)⟩
            · walk_at "g"
              exact ⟨rfl, g', _, rfl, step g' (no fun h => c3 h.2.2.1)⟩
          · walk_at "g"
            exact ⟨rfl, g', _, rfl, step g' (no fun h => by rw [c2] at h; exact Bool.noConfusion h.2.1)⟩
        · walk_at "g"
          exact ⟨rfl, g', _, rfl, step g' (no fun h => c1 h.1)⟩
      · intro U hU
        have no : ¬ (wd = "held" ∧ q.2.2 = true ∧ u = q.2.1 ∧ l = v) → (g = true ↔ g = true ∨ (wd = "held" ∧ q.2.2 = true ∧ u = q.2.1 ∧ l = v)) := fun hn => ⟨.inl, fun h => h.elim id fun h => absurd h hn⟩
        walk_at "g"
        refine w_ite (fun c1 => ?_) (fun c1 => ?_)
        · walk_at "g"
          refine w_itB (fun c2 => ?_) (fun c2 => ?_)
          · walk_at "g"
            refine w_ite (fun c3 => ?_) (fun c3 => ?_)
            · walk_at "g"
              refine w_ite (fun c4 => ?_) (fun c4 => ?_)
              · walk_at "g"
                exact hU _ _ ⟨rfl, true, rfl, ⟨fun _ => .inr ⟨c1, c2, c3, c4⟩, fun _ => rfl⟩⟩
              · walk_at "g"
                exact hU _ _ ⟨rfl, g, rfl, no fun h => c4 h.2.2.2⟩
            · walk_at "g"
              exact hU _ _ ⟨rfl, g, rfl, no fun h => c3 h.2.2.1⟩
          · walk_at "g"
            exact hU _ _ ⟨rfl, g, rfl, no fun h => by rw [c2] at h; exact Bool.noConfusion h.2.1⟩
        · walk_at "g"
          exact hU _ _ ⟨rfl, g, rfl, no fun h => c1 h.1⟩
    · rintro σ H' ⟨rfl, g, y6, rfl, hg⟩
      rw [List.length_map, List.take_length] at hg
      walk_at "g"
      refine w_itNB (fun hb => ?_) (fun hb => ?_)
      · walk_at "g"
        refine q2 (bad ?_) _ k02
        rintro ⟨p, w, z, c', e, h, hW', hE⟩
        cases e
        rw [eb] at h
        cases h
        obtain ⟨_, e, ed', _, _⟩ := hW'
        cases e
        rw [ed] at ed'
        have e2 : c = c' := int_inj (by simpa using ed')
        subst e2
        have : g = true := hg.mpr (by
          rcases hE with ⟨h1, h2, u', h3, h4⟩ | ⟨h1, h2, u', h3, h4⟩
          · obtain ⟨q, hq, e⟩ := List.mem_map.mp h4
            rw [hl1] at h2
            rw [hu1] at h3
            cases h2
            cases h3
            exact ⟨q, hq, .inl ⟨h1, by rw [e], by rw [e], rfl⟩⟩
          · obtain ⟨q, hq, e⟩ := List.mem_map.mp h4
            rw [hu1] at h2
            rw [hl1] at h3
            cases h2
            cases h3
            exact ⟨q, hq, .inr ⟨h1, by rw [e], by rw [e], rfl⟩⟩)
        rw [hb] at this
        cases this
      · walk_at "g"
        refine ⟨k02, ⟨_, _, _, _, rfl⟩, fun j hj z' v' h1 h2 => ?_⟩
        by_cases e : j = i
        · subst e
          rw [ez] at h1
          rw [evi] at h2
          cases h1
          cases h2
          refine RowV.back (hxs _ (List.mem_of_getElem? ez)) k1 ⟨b, wd, _, c, rfl, eb, hW, ?_⟩
          obtain ⟨q, hq, h⟩ := hg.mp hb
          rcases h with ⟨h1, h2, h3, h4⟩ | ⟨h1, h2, h3, h4⟩
          · exact .inl ⟨h1, by rw [hl1, h4], u, hu1, List.mem_map.mpr ⟨q, hq, by rw [h3, bool_eta h2]⟩⟩
          · exact .inr ⟨h1, by rw [hu1, h4], l, hl1, List.mem_map.mpr ⟨q, hq, by rw [h3, bool_eta h2]⟩⟩
        · exact hall j (by omega) z' v' h1 h2
end
/-! ### the paper that is told -/
theorem mk1_same {K : PySem.W.Frag} {C : Addr} {f : Str} {x : V} {H : Hp} {Qx : XK} {a : Addr} (ha : H a = none) (h : ∀ d H', Same H H' → H d = none → H' d = some (.xd [(f, x)]) → Qx (.ref C) (some d) H') :
    spInit1 K C f [.ref a, x] (upd H a (exo a C none)) (fun v H2 => v = .non ∧ ∃ (d : Addr) (fs : List (Str × V)), H2 a = some (exo a C (some d)) ∧ H2 d = some (exd d fs) ∧ H d = none ∧ Qx (.ref C) (some d) (upd (del H2 a) d (.xd fs))) (fun _ _ _ => False) := by
  refine ⟨a, x, rfl, upd_same, fun dx hd hne => ⟨rfl, dx, _, upd_same, ?_, (upd_none hd).1, h dx _ (fun b o e => ?_) (upd_none hd).1 upd_same⟩⟩
  · rw [upd_ne hne, upd_same]
  · have n1 : b ≠ dx := ne_of_none e (upd_none hd).1
    have n2 : b ≠ a := ne_of_none e ha
    rw [upd_ne n1, del_ne n2, upd_ne n2, upd_ne n1, upd_ne n2]
    exact e
noncomputable def belB (ls : List (Int × Int)) (u v : Int) : Bool := @decide (Bel ls u v) (Classical.propDecidable _)
theorem belB_iff {ls : List (Int × Int)} {u v : Int} : belB ls u v = true ↔ Bel ls u v := by unfold belB; exact @decide_eq_true_iff _ (Classical.propDecidable _)
noncomputable def topsL (ls : List (Int × Int)) (an : List (Int × Bool)) (v : Int) : List Int := (an.filter fun q => q.2 && belB ls q.1 v).map (·.1)
noncomputable def lowsL (ls : List (Int × Int)) (an : List (Int × Bool)) (v : Int) : List Int := (an.filter fun q => !q.2 && belB ls v q.1).map (·.1)
def RowR (ls : List (Int × Int)) (an : List (Int × Bool)) (v : Int) (w : Str) (c : List Int) : Prop := (∃ u, (topsL ls an v).head? = some u ∧ w = "held" ∧ WayR ls v u c) ∨ (topsL ls an v = [] ∧ ∃ u, (lowsL ls an v).head? = some u ∧ w = "lacks" ∧ WayR ls u v c)
theorem RowR.det {ls : List (Int × Int)} {an : List (Int × Bool)} {v : Int} {w w' : Str} {c c' : List Int} (h : RowR ls an v w c) (h' : RowR ls an v w' c') : w = w' ∧ c = c' := by
  rcases h with ⟨u, h1, h2, h3⟩ | ⟨h0, u, h1, h2, h3⟩
  · rcases h' with ⟨u', h1', h2', h3'⟩ | ⟨h0', _⟩
    · rw [h1] at h1'
      cases h1'
      exact ⟨h2.trans h2'.symm, h3.det h3'⟩
    · rw [h0'] at h1
      cases h1
  · rcases h' with ⟨u', h1', h2', h3'⟩ | ⟨h0', u', h1', h2', h3'⟩
    · rw [h0] at h1'
      cases h1'
    · rw [h1] at h1'
      cases h1'
      exact ⟨h2.trans h2'.symm, h3.det h3'⟩
theorem mem_tops {ls : List (Int × Int)} {an : List (Int × Bool)} {v u : Int} : u ∈ topsL ls an v ↔ (u, true) ∈ an ∧ Bel ls u v := by
  unfold topsL
  rw [List.mem_map]
  constructor
  · rintro ⟨⟨x, b⟩, h, rfl⟩
    obtain ⟨h1, h2⟩ := List.mem_filter.mp h
    rw [Bool.and_eq_true, belB_iff] at h2
    have e : b = true := h2.1
    subst e
    exact ⟨h1, h2.2⟩
  · rintro ⟨h1, h2⟩
    exact ⟨(u, true), List.mem_filter.mpr ⟨h1, by rw [Bool.and_eq_true, belB_iff]; exact ⟨rfl, h2⟩⟩, rfl⟩
theorem mem_lows {ls : List (Int × Int)} {an : List (Int × Bool)} {v u : Int} : u ∈ lowsL ls an v ↔ (u, false) ∈ an ∧ Bel ls v u := by
  unfold lowsL
  rw [List.mem_map]
  constructor
  · rintro ⟨⟨x, b⟩, h, rfl⟩
    obtain ⟨h1, h2⟩ := List.mem_filter.mp h
    rw [Bool.and_eq_true, belB_iff] at h2
    have e : b = false := by simpa using h2.1
    subst e
    exact ⟨h1, h2.2⟩
  · rintro ⟨h1, h2⟩
    exact ⟨(u, false), List.mem_filter.mpr ⟨h1, by rw [Bool.and_eq_true, belB_iff]; exact ⟨rfl, h2⟩⟩, rfl⟩
theorem RowR.ends {ls : List (Int × Int)} {an : List (Int × Bool)} {v : Int} {w : Str} {c : List Int} (h : RowR ls an v w c) : c ≠ [] ∧ Lk ls c ∧ EndsOk an v w c := by
  rcases h with ⟨u, h1, h2, h3⟩ | ⟨h0, u, h1, h2, h3⟩
  · have k := h3.ok
    obtain ⟨r, hr⟩ := k.hd
    exact ⟨by rw [hr]; simp, k.lk, .inl ⟨h2, k.lt, u, by rw [hr]; rfl, (mem_tops.mp (List.mem_of_mem_head? h1)).1⟩⟩
  · have k := h3.ok
    obtain ⟨r, hr⟩ := k.hd
    exact ⟨by rw [hr]; simp, k.lk, .inr ⟨h2, by rw [hr]; rfl, u, k.lt, (mem_lows.mp (List.mem_of_mem_head? h1)).1⟩⟩
abbrev PRow := Addr × Str × Addr × List Int
def PRowAt (H : Hp) (q : PRow) : Prop := H q.1 = some (.tup [.str q.2.1, .ref q.2.2.1]) ∧ VL H q.2.2.1 q.2.2.2 ∧ q.2.2.2.length ≤ 64
structure PapR (H : Hp) (ls : List (Int × Int)) (an : List (Int × Bool)) (ns : List Int) (r : Addr) (rows : List PRow) : Prop where
  at' : H r = some (.tup (rows.map fun q => .ref q.1))
  rw' : ∀ q ∈ rows, PRowAt H q
  ln : rows.length = ns.length
  ok : ∀ (i : Nat) (q : PRow) (v : Int), rows[i]? = some q → ns[i]? = some v → RowR ls an v q.2.1 q.2.2.2
theorem PRowAt.kt {H H' : Hp} {q : PRow} (h : PRowAt H q) (k : KT H H') : PRowAt H' q := ⟨k _ _ h.1, k _ _ h.2.1, h.2.2⟩
theorem PapR.kt {H H' : Hp} {ls : List (Int × Int)} {an : List (Int × Bool)} {ns : List Int} {r : Addr} {rows : List PRow} (h : PapR H ls an ns r rows) (k : KT H H') : PapR H' ls an ns r rows := ⟨k _ _ h.at', fun q hq => (h.rw' q hq).kt k, h.ln, h.ok⟩
theorem PapR.papV {H : Hp} {ls : List (Int × Int)} {an : List (Int × Bool)} {ns : List Int} {r : Addr} {rows : List PRow} (h : PapR H ls an ns r rows) : PapV H ls an ns (.ref r) := by
  refine ⟨r, _, rfl, h.at', by rw [List.length_map]; exact h.ln, fun i y v hy hv => ?_⟩
  obtain ⟨q, hq, rfl⟩ := map_at hy
  obtain ⟨e1, e2, e3⟩ := h.ok i q v hq hv |>.ends
  have z := h.rw' q (List.mem_of_getElem? hq)
  exact ⟨q.1, _, _, _, rfl, z.1, ⟨_, rfl, z.2.1, e1, e2⟩, e3⟩
theorem PapR.dat {H : Hp} {ls : List (Int × Int)} {an : List (Int × Bool)} {ns : List Int} {r : Addr} {rows : List PRow} (h : PapR H ls an ns r rows) (hl : ns.length ≤ 64) : Dat 64 H (.ref r) := by
  refine .tup h.at' (by rw [List.length_map, h.ln]; exact hl) fun y hy => ?_
  obtain ⟨q, hq, rfl⟩ := List.mem_map.mp hy
  obtain ⟨e1, e2, e3⟩ := h.rw' q hq
  refine .tup e1 (by simp) fun y hy => ?_
  have hy' : y = .str q.2.1 ∨ y = .ref q.2.2.1 := by simpa using hy
  rcases hy' with rfl | rfl
  · exact .leaf (.str _) (by decide)
  · refine .tup e2 (by rw [List.length_map]; exact e3) fun y hy => ?_
    obtain ⟨n, _, rfl⟩ := List.mem_map.mp hy
    exact Dat.int
def spPaper (CC CU : Addr) : Sp := fun vs H Q E => ∃ (t A : Addr) (ns : List Int) (ps : List (Addr × Int × Int)) (an : List (Addr × Int × Bool)), vs = [.ref t, .ref A] ∧ ShAt H t ns ps ∧ ShOk ns (ps.map (·.2)) ∧ ns.length < 64 ∧ ps.length ≤ 100000 ∧ AL H A an ∧ an.length < 64 ∧ (∀ q ∈ an, q.2.1 ∈ ns) ∧
  (∀ H' r rows, Clear (ps.map (·.2)) (an.map (·.2)) → leftL (ps.map (·.2)) (an.map (·.2)) ns = [] → Same H H' → PapR H' (ps.map (·.2)) (an.map (·.2)) ns r rows → Q (.ref r) H') ∧
  (∀ p d H', LeastC (ps.map (·.2)) (an.map (·.2)) p → Same H H' → H d = none → H' d = some (.xd [("lower", .int p.2), ("upper", .int p.1)]) → E (.ref CC) (some d) H') ∧
  ∀ v r d H', Clear (ps.map (·.2)) (an.map (·.2)) → leftL (ps.map (·.2)) (an.map (·.2)) ns = v :: r → Same H H' → H d = none → H' d = some (.xd [("version", .int v)]) → E (.ref CU) (some d) H'
theorem tops_fm (ls : List (Int × Int)) (v : Int) : ∀ an : List (Addr × Int × Bool), an.filterMap (fun q => if (q.2.2 && belB ls q.2.1 v) = true then some (V.int q.2.1) else none) = (topsL ls (an.map (·.2)) v).map V.int
  | [] => rfl
  | q :: r => by
    have h := tops_fm ls v r
    unfold topsL at h ⊢
    rw [List.filterMap_cons, List.map_cons, List.filter_cons]
    by_cases e : (q.2.2 && belB ls q.2.1 v) = true
    · rw [if_pos e, if_pos e, h]; rfl
    · rw [if_neg e, if_neg e, h]
theorem lows_fm (ls : List (Int × Int)) (v : Int) : ∀ an : List (Addr × Int × Bool), an.filterMap (fun q => if (!q.2.2 && belB ls v q.2.1) = true then some (V.int q.2.1) else none) = (lowsL ls (an.map (·.2)) v).map V.int
  | [] => rfl
  | q :: r => by
    have h := lows_fm ls v r
    unfold lowsL at h ⊢
    rw [List.filterMap_cons, List.map_cons, List.filter_cons]
    by_cases e : (!q.2.2 && belB ls v q.2.1) = true
    · rw [if_pos e, if_pos e, h]; rfl
    · rw [if_neg e, if_neg e, h]
section
variable {P : Program} {w : World} {K : PySem.W.Frag} {mg : Str → Option Value} {base : Heap}
theorem ok_uinit {f C : Addr} {fd : FuncData} (F : Fun K "__init__" "Unsettled.__init__" s_Unsettled___init__ f fd) (XT : OexC K C) (n1 : PySem.W.findIn K (.ref C) "version" = some none) : FnOk P w K mg base CX0 1 f fd ["self", "version"] (spInit1 K C "version") := by
  refine F.ok sc_Unsettled___init__ (fun vs H Q E h => ?_) (fun cdv A outer s H vs Q E hr h => ?_)
  · obtain ⟨a, x, rfl, _⟩ := h
    rfl
  · obtain ⟨a, x, rfl, e, q⟩ := h
    refine ⟨_,
      (pss_one
        (ps_ost (pv 0) (pv 1)))
      , ?_⟩
    rw [show L2.start N_Unsettled___init__ [V.ref a, x] = [some (.ref a), some x] from rfl]
    refine w_ost ?_
    walk_at "x"
    exact ⟨a, C, rfl, XT, n1, .inl ⟨e, fun dx hd hne => q dx hd hne⟩⟩
theorem ok_paper {f fS fN fT fI fU fWd C_Contrary C_Unsettled : Addr} {fd fdS fdN fdT fdI fdU fdWd : FuncData} (T : Txt K mg) (F : Fun K "paper" "paper" s_paper f fd) (D_spans : Df K mg "spans" s_spans ["shape"] fS fdS) (D_no_clash : Df K mg "no_clash" s_no_clash ["rows", "answers"] fN fdN) (D_settled : Df K mg "settled" s_settled ["shape", "answers"] fT fdT) (D_way_down : Df K mg "way_down" s_way_down ["shape", "rows", "top", "bottom"] fWd fdWd)
    (FI : Fun K "__init__" "Contrary.__init__" s_Contrary___init__ fI fdI) (X_Contrary : ExnI K mg "Contrary" C_Contrary fI fdI ["self", "upper", "lower"] ["upper", "lower"]) (FU : Fun K "__init__" "Unsettled.__init__" s_Unsettled___init__ fU fdU) (X_Unsettled : ExnI K mg "Unsettled" C_Unsettled fU fdU ["self", "version"] ["version"]) :
    FnOk P w K mg base (L2.CX P w) 5 f fd ["shape", "answers"] (spPaper C_Contrary C_Unsettled) := by
  have G_settled : FnOk P w K mg base (L2.CX P w) 4 fT fdT ["shape", "answers"] (spSettledX C_Contrary) := ok_settledX T D_settled.fn D_spans D_no_clash FI X_Contrary
  have G_Unsettled___init__ : FnOk P w K mg base CX0 1 fU fdU ["self", "version"] (spInit1 K C_Unsettled "version") := ok_uinit FU X_Unsettled.T (X_Unsettled.nf "version" (by simp))
  have G_spans : FnOk P w K mg base CX0 1 fS fdS ["shape"] spSpans := ok_spans T D_spans.fn
  have G_way_down : FnOk P w K mg base CX0 1 fWd fdWd ["shape", "rows", "top", "bottom"] spWay := ok_way T D_way_down.fn
  refine F.okX sc_paper (fun vs H Q E h => ?_) (fun cdv A outer s H vs Q E hr h => ?_)
  · obtain ⟨t, A, ns, ps, an, rfl, _⟩ := h
    rfl
  · obtain ⟨t, Aa, ns, ps, an, rfl, hS, S, hl, hl2, hA, hal, ham, q, qc, qu⟩ := h
    have hu := hu_of hr
    refine ⟨_,
      (pss_cons
        (ps_set (i := 2) sc_paper.nd rfl (.inl rfl) (pe_ix (r := rIxT K) ix_tup (pe_call G_settled (hr.mono (by omega)) (by rfl) D_settled.g D_settled.fn.kp D_settled.b .nil (passes_call (takes_of rfl rfl rfl rfl) (fun _ _ _ _ h => h)) (pa_cons (pv 0) (pa_cons (pv 1) pa_nil))) pe_int (fun _ _ => rfl)))
      (pss_cons
        (ps_if (p_truth (pv 2) (by intro _; rfl))
          (pss_one
            (ps_raise rfl (takes_of rfl rfl rfl rfl) (pmk_oex X_Unsettled.T X_Unsettled.i X_Unsettled.t G_Unsettled___init__ (hr.mono (by omega)) X_Unsettled.b .nil pass0 (by rfl) X_Unsettled.g (pa_cons (pe_ix (r := rIxT K) ix_tup (pv 2) pe_int (fun _ _ => rfl)) pa_nil))))
          pss_nil)
      (pss_cons
        (ps_set (i := 3) sc_paper.nd rfl (.inr rfl) (pe_call G_spans (hr.mono (by omega)) (by rfl) D_spans.g D_spans.fn.kp D_spans.b .nil pass0 (pa_cons (pv 0) pa_nil)))
      (pss_cons
        (ps_set (i := 4) sc_paper.nd rfl (.inl rfl) (pe_lst pa_nil))
      (pss_cons
        (ps_for (passes_of rfl) rfl (pi_tup (pe_ix (r := rIxT K) ix_tup (pv 0) pe_int (fun _ _ => rfl))) (pg_name (i := 5) sc_paper.nd rfl (.inr rfl))
          (pss_cons
            (ps_setLc (i := 6) (own := [("upper", 8), ("truth", 9)]) (g := (gTup K 2 (gCons (gName 8) (gCons (gName 9) gNil)))) rfl sc_paper.nd rfl rfl (sw_true rfl rfl rfl (by decide +kernel)) (pi_tup (pv 1)) (blkOk_by (own := [("upper", 8), ("truth", 9)]) (N := N_paper) (sc := defScope s_paper) (by decide +kernel)) (fun _ _ _ _ _ => (pg_tup rfl (pgs_cons (pg_name (i := 8) sc_paper.nd rfl (.inl rfl)) (pgs_cons (pg_name (i := 9) sc_paper.nd rfl (.inl rfl)) pgs_nil)))) (fun _ _ _ _ _ => (pts_one (PW.pt (pw_and (pt_val (pv 9)) (pw_and1 (pt_cmpR (r := rIn K false) op_in_seq (pv 5) (pe_dget hu (pv 3) (pv 8) (fun _ _ => rfl)) rfl)))))) (fun _ _ _ _ _ => (pv 8)))
          (pss_one
            (ps_if (p_truth (pv 6) (by intro _; rfl))
              (pss_one
                (ps_expr (pe_bm PySem.F.plainAttrs_list PySem.F.slot_list_append PySem.F.type_list_append mt_append (pv 4) (pa_cons (pe_tup (pa_cons pe_str (pa_cons (pe_call G_way_down (hr.mono (by omega)) (by rfl) D_way_down.g D_way_down.fn.kp D_way_down.b .nil pass0 (pa_cons (pv 0) (pa_cons (pv 3) (pa_cons (pe_ix (r := rIxL K) ix_list (pv 6) pe_int (fun _ _ => rfl)) (pa_cons (pv 5) pa_nil))))) pa_nil))) pa_nil))))
              (pss_cons
                (ps_setLc (i := 7) (own := [("lower", 10), ("truth", 9)]) (g := (gTup K 2 (gCons (gName 10) (gCons (gName 9) gNil)))) rfl sc_paper.nd rfl rfl (sw_true rfl rfl rfl (by decide +kernel)) (pi_tup (pv 1)) (blkOk_by (own := [("lower", 10), ("truth", 9)]) (N := N_paper) (sc := defScope s_paper) (by decide +kernel)) (fun _ _ _ _ _ => (pg_tup rfl (pgs_cons (pg_name (i := 10) sc_paper.nd rfl (.inl rfl)) (pgs_cons (pg_name (i := 9) sc_paper.nd rfl (.inl rfl)) pgs_nil)))) (fun _ _ _ _ _ => (pts_one (PW.pt (pw_and (pt_not (pt_val (pv 9))) (pw_and1 (pt_cmpR (r := rIn K false) op_in_seq (pv 10) (pe_dget hu (pv 3) (pv 5) (fun _ _ => rfl)) rfl)))))) (fun _ _ _ _ _ => (pv 10)))
              (pss_one
                (ps_expr (pe_bm PySem.F.plainAttrs_list PySem.F.slot_list_append PySem.F.type_list_append mt_append (pv 4) (pa_cons (pe_tup (pa_cons pe_str (pa_cons (pe_call G_way_down (hr.mono (by omega)) (by rfl) D_way_down.g D_way_down.fn.kp D_way_down.b .nil pass0 (pa_cons (pv 0) (pa_cons (pv 3) (pa_cons (pv 5) (pa_cons (pe_ix (r := rIxL K) ix_list (pv 7) pe_int (fun _ _ => rfl)) pa_nil))))) pa_nil))) pa_nil)))))))))
      (pss_one
        (ps_ret (pe_callTy (r := rTupOf K) c_tupOf (by rfl) T.n_tuple (by decide +kernel) (pa_cons (pv 4) pa_nil)))))))))
      , ?_⟩
    rw [show L2.start N_paper [V.ref t, V.ref Aa] = [some (.ref t), some (.ref Aa), none, none, none, none, none, none, none, none, none] from rfl]
    walk_at "x"
    refine ⟨t, Aa, ns, ps, an, rfl, hS, S, hl, hl2, hA, hal, ham, fun hc H1 r b1 b2 b3 k1 er v1 v2 v3 => ?_, fun p d H1 hp k1 hd e => qc p d H1 hp k1 hd e⟩
    have v3' : H1 b3 = some (.tup ((leftL (ps.map (·.2)) (an.map (·.2)) ns).map V.int)) := v3
    walk_at "g"
    refine w_seq ?_
    walk_at "g"
    refine w_itNB (b := ((leftL (ps.map (·.2)) (an.map (·.2)) ns).map V.int).isEmpty) (fun he => ?_) (fun he => ?_)
    · obtain ⟨v, vr, ev⟩ : ∃ v vr, leftL (ps.map (·.2)) (an.map (·.2)) ns = v :: vr := by
        cases hh : leftL (ps.map (·.2)) (an.map (·.2)) ns with
        | nil => rw [hh] at he; cases he
        | cons v vr => exact ⟨v, vr, rfl⟩
      rw [ev] at v3'
      have a0 : atI ((v :: vr).map V.int) 0 = some (.int v) := head_at rfl
      refine w_mkO ?_
      walk_at "g"
      refine ⟨by simp, fun a ha => mk1_same ha fun d H4 k4 hd e4 => ?_⟩
      exact qu v vr d H4 hc ev (Same.trans k1 k4) (k1.free hd) e4
    have hleft : leftL (ps.map (·.2)) (an.map (·.2)) ns = [] := by
      cases hh : leftL (ps.map (·.2)) (an.map (·.2)) ns with
      | nil => rfl
      | cons v vr => rw [hh] at he; cases he
    walk_at "g"
    refine ⟨t, ns, ps, rfl, hS.kt (KT.of k1), S, hl, hl2, fun H2 R k2 hR RA => ?_⟩
    obtain ⟨kvs, eR, hks, _, rv0⟩ := RA
    have rv : RowsV [] H2 kvs (ps.map (·.2)) ns := fun v hv => by
      obtain ⟨a, ys, v1, v2, v3, v4⟩ := rv0 v hv
      exact ⟨a, ys, v1, v2, v3, by simp⟩
    have k02 : Same H H2 := Same.trans k1 k2
    walk_at "g"
    refine w_new fun Ld H3 hLd eLd k3 => ?_
    have k03 : Same H H3 := Same.trans k02 k3
    have hS3 := hS.kt (KT.of k03)
    obtain ⟨Vt, Lt, et, ev, epl, epe⟩ := id hS3
    have ev' : H3 Vt = some (.tup (ns.map V.int)) := ev
    obtain ⟨hAt, hAe⟩ := hA.kt (KT.of k03)
    have eR3 := k3 _ _ eR
    have rv3 := rv.kp (N := []) (Kp.of k3) (by simp)
    have off : ∀ {x : Addr} {o : HO}, H2 x = some o → x ∉ [Ld] := fun {x o} e => by simpa using ne_of_none e hLd
    walk_at "g"
    refine lp_tup (xs := ns.map V.int) (fun i σ H' => ∃ (y5 y6 y7 : Option V) (rows : List PRow), σ = [some (.ref t), some (.ref Aa), some (.ref b3), some (.ref R), some (.ref Ld), y5, y6, y7, none, none, none] ∧ Kp [Ld] H3 H' ∧ KT H3 H' ∧ H' Ld = some (.lst (rows.map fun q => .ref q.1)) ∧ rows.length = i ∧ (∀ q ∈ rows, PRowAt H' q) ∧ ∀ (j : Nat) (q : PRow) (v : Int), rows[j]? = some q → ns[j]? = some v → RowR (ps.map (·.2)) (an.map (·.2)) v q.2.1 q.2.2.2) ⟨_, _, _, [], rfl, Kp.refl, KT.refl, eLd, rfl, by simp, by simp⟩ ?_ ?_ ?_
    · rintro i σ H' _ ⟨_, _, _, _, _, _, kt, _⟩
      exact .of (kt _ _ ev')
    · rintro i y σ H4 hy ⟨y5, y6, y7, rows, rfl, k4, kt4, e4, hrl, hra, hrr⟩
      obtain ⟨v, hv, rfl⟩ := map_at hy
      have hvn := List.mem_of_getElem? hv
      have hil : i < ns.length := (List.getElem?_eq_some_iff.mp hv).1
      have stay : ∀ {x : Addr} {o : HO}, H2 x = some o → H4 x = some o := fun {x o} e => k4 _ _ (off e) (k3 _ _ e)
      have k04 : ∀ {x : Addr} {o : HO}, H x = some o → H4 x = some o := fun {x o} e => stay (k02 _ _ e)
      have k04' : Same H H4 := fun x o e => k04 e
      have hS4 := hS.kt (KT.of k04')
      have hAt4 := kt4 _ _ hAt
      have eR4 : H4 R = some (.dK kvs) := stay eR
      have rv4 : RowsV [] H4 kvs (ps.map (·.2)) ns := fun v hv => by
        obtain ⟨a, ys, v1, v2, v3, v4⟩ := rv v hv
        exact ⟨a, ys, v1, stay v2, v3, v4⟩
      obtain ⟨ra, ys, w1, w2, w3, _⟩ := rv4 v hvn
      -- what is told of this version
      have fin : ∀ (wd : Str) (c : List Int) (wa p : Addr) (H5 H6 : Hp) (y6 y7 : Option V), Same H4 H5 → VL H5 wa c → c.length ≤ 64 → RowR (ps.map (·.2)) (an.map (·.2)) v wd c → H5 p = none → H6 p = some (.tup [.str wd, .ref wa]) → Same H5 H6 → H6 Ld = some (.lst (rows.map fun q => .ref q.1)) → ∀ H7, H7 Ld = some (.lst (rows.map (fun q => V.ref q.1) ++ [.ref p])) → Off Ld H6 H7 →
          ∃ (y5 y6' y7' : Option V) (rows : List PRow), [some (V.ref t), some (.ref Aa), some (.ref b3), some (.ref R), some (.ref Ld), some (.int v), y6, y7, none, none, none] = [some (.ref t), some (.ref Aa), some (.ref b3), some (.ref R), some (.ref Ld), y5, y6', y7', none, none, none] ∧ Kp [Ld] H3 H7 ∧ KT H3 H7 ∧ H7 Ld = some (.lst (rows.map fun q => .ref q.1)) ∧ rows.length = i + 1 ∧ (∀ q ∈ rows, PRowAt H7 q) ∧ ∀ (j : Nat) (q : PRow) (v : Int), rows[j]? = some q → ns[j]? = some v → RowR (ps.map (·.2)) (an.map (·.2)) v q.2.1 q.2.2.2 := by
        intro wd c wa p H5 H6 y6 y7 k5 hwa hcl hrow hp ep k6 eL6 H7 e7 o7
        have kt67 : KT H6 H7 := KT.off o7 eL6
        refine ⟨_, _, _, rows ++ [(p, wd, wa, c)], rfl, k4.trans ((Kp.of (Same.trans k5 k6)).trans (o7.kp (by simp))), kt4.trans ((KT.of (Same.trans k5 k6)).trans kt67), by rw [e7, List.map_append]; rfl, by rw [List.length_append, hrl]; rfl, fun z hz => ?_, fun j z v' hz hv' => ?_⟩
        · rcases List.mem_append.mp hz with h | h
          · exact (hra z h).kt ((KT.of (Same.trans k5 k6)).trans kt67)
          · have e : z = (p, wd, wa, c) := by simpa using h
            subst e
            exact ⟨kt67 _ _ ep, kt67 _ _ (k6 _ _ hwa), hcl⟩
        · by_cases hj : j < rows.length
          · rw [List.getElem?_append_left hj] at hz
            exact hrr j z v' hz hv'
          · have hj2 : j = rows.length := by
              have := (List.getElem?_eq_some_iff.mp hz).1
              rw [List.length_append] at this
              simp only [List.length_cons, List.length_nil] at this
              omega
            subst hj2
            rw [List.getElem?_append_right (Nat.le_refl _), Nat.sub_self] at hz
            have e : (p, wd, wa, c) = z := by simpa using hz
            subst e
            rw [hrl, hv] at hv'
            cases hv'
            exact hrow
      walk_at "g"
      refine lcp_sel (walk_tup (K := K) (a := Aa) (xs := an.map fun q => .ref q.1)) [] (fun j => an[j]?.bind fun q => if (q.2.2 && belB (ps.map (·.2)) q.2.1 v) = true then some (V.int q.2.1) else none) (by rw [List.length_map]; omega) (fun H' k => .of (k _ _ (by simp) hAt4)) ?_ (by simp) ?_
      · rintro j x H5 H6 Rr R0 hj k5 ⟨rfl, hx⟩ g1 g2
        obtain ⟨z, hz, rfl⟩ := map_at hx
        have hzm := List.mem_of_getElem? hz
        have ez := k5 _ _ (by simp) (kt4 _ _ (hAe z hzm))
        obtain ⟨za, zs, z1, z2, z3, _⟩ := rv4 z.2.1 (ham z hzm)
        have eR5 := k5 _ _ (by simp) eR4
        have z2' := k5 _ _ (by simp) z2
        walk_at "g"
        refine ⟨rfl, ?_⟩
        walk_at "g"
        refine w_itB (fun hb => ?_) (fun hb => ?_)
        · walk_at "g"
          refine w_ite (fun hin => ?_) (fun hin => ?_)
          · walk_at "g"
            exact g1 _ _ (by rw [hz, Option.bind_some, if_pos (by rw [hb, Bool.true_and, belB_iff]; exact (z3.mem v).mp hin)]) Kp.refl
          · exact g2 _ (by rw [hz, Option.bind_some, if_neg (by rw [hb, Bool.true_and, belB_iff]; exact fun h => hin ((z3.mem v).mpr h))]) Kp.refl
        · exact g2 _ (by rw [hz, Option.bind_some, if_neg (by rw [hb]; simp)]) Kp.refl
      intro Tp H5 hTp k5' eTp
      have k5 := k5'.same
      rw [List.length_map, range_fm, tops_fm] at eTp
      have eL5 := k5 _ _ e4
      have eR5 := k5 _ _ eR4
      have hS5 := hS4.kt (KT.of k5)
      have rv5 := rv4.kp (N := []) k5' (by simp)
      have w2' := k5 _ _ w2
      walk_at "g"
      refine w_itNB (b := ((topsL (ps.map (·.2)) (an.map (·.2)) v).map V.int).isEmpty) (fun he => ?_) (fun he => ?_)
      · obtain ⟨u, ur, eu⟩ : ∃ u ur, topsL (ps.map (·.2)) (an.map (·.2)) v = u :: ur := by
          cases hh : topsL (ps.map (·.2)) (an.map (·.2)) v with
          | nil => rw [hh] at he; cases he
          | cons u ur => exact ⟨u, ur, rfl⟩
        have hu2 := mem_tops.mp (show u ∈ topsL (ps.map (·.2)) (an.map (·.2)) v by rw [eu]; simp)
        have hun : u ∈ ns := by
          obtain ⟨z, hz, e⟩ := List.mem_map.mp hu2.1
          have := ham z hz
          rw [e] at this
          exact this
        rw [eu] at eTp
        have a0 : atI ((u :: ur).map V.int) 0 = some (.int u) := head_at rfl
        walk_at "g"
        refine ⟨t, R, u, v, kvs, ns, ps, rfl, hS5, S, hl, hl2, eR5, rv5, hun, hu2.2, fun H6 wa c k6 hwa hway hcl => ?_⟩
        walk_at "g"
        refine w_new fun p H7 hp ep k7 => ?_
        have eL7 := k7 _ _ (k6 _ _ eL5)
        walk_at "g"
        refine w_app eL7 (by rw [List.length_map]; exact small1000 (by omega)) fun H8 e8 o8 => ?_
        exact fin "held" c wa p H6 H7 _ _ (Same.trans k5 k6) hwa hcl (.inl ⟨u, by rw [eu]; rfl, rfl, hway⟩) hp ep k7 eL7 H8 e8 o8
      · have htops : topsL (ps.map (·.2)) (an.map (·.2)) v = [] := by
          cases hh : topsL (ps.map (·.2)) (an.map (·.2)) v with
          | nil => rfl
          | cons u ur => rw [hh] at he; cases he
        have hAt5 := k5 _ _ hAt4
        walk_at "g"
        refine lcp_sel (walk_tup (K := K) (a := Aa) (xs := an.map fun q => .ref q.1)) [] (fun j => an[j]?.bind fun q => if (!q.2.2 && belB (ps.map (·.2)) v q.2.1) = true then some (V.int q.2.1) else none) (by rw [List.length_map]; omega) (fun H' k => .of (k _ _ (by simp) hAt5)) ?_ (by simp) ?_
        · rintro j x H6 H7 Rr R0 hj k6 ⟨rfl, hx⟩ g1 g2
          obtain ⟨z, hz, rfl⟩ := map_at hx
          have hzm := List.mem_of_getElem? hz
          have ez := k6 _ _ (by simp) (k5 _ _ (kt4 _ _ (hAe z hzm)))
          have eR6 := k6 _ _ (by simp) eR5
          have w26 := k6 _ _ (by simp) w2'
          walk_at "g"
          refine ⟨rfl, ?_⟩
          walk_at "g"
          refine w_itNB (fun hb => ?_) (fun hb => ?_)
          · walk_at "g"
            refine w_ite (fun hin => ?_) (fun hin => ?_)
            · walk_at "g"
              exact g1 _ _ (by rw [hz, Option.bind_some, if_pos (by rw [hb, Bool.not_false, Bool.true_and, belB_iff]; exact (w3.mem _).mp hin)]) Kp.refl
            · exact g2 _ (by rw [hz, Option.bind_some, if_neg (by rw [hb, Bool.not_false, Bool.true_and, belB_iff]; exact fun h => hin ((w3.mem _).mpr h))]) Kp.refl
          · exact g2 _ (by rw [hz, Option.bind_some, if_neg (by rw [hb]; simp)]) Kp.refl
        intro Lw H6 hLw k6' eLw
        have k6 := k6'.same
        rw [List.length_map, range_fm, lows_fm] at eLw
        obtain ⟨u, ur, eu⟩ : ∃ u ur, lowsL (ps.map (·.2)) (an.map (·.2)) v = u :: ur := by
          cases hh : lowsL (ps.map (·.2)) (an.map (·.2)) v with
          | cons u ur => exact ⟨u, ur, rfl⟩
          | nil =>
            have h1 : ¬ hasP (ps.map (·.2)) (an.map (·.2)) v := fun ⟨u, h1, h2⟩ => by
              have := mem_tops.mpr ⟨h1, h2⟩
              rw [htops] at this
              cases this
            have h2 : ¬ lackP (ps.map (·.2)) (an.map (·.2)) v := fun ⟨u, h1, h2⟩ => by
              have := mem_lows.mpr ⟨h1, h2⟩
              rw [hh] at this
              cases this
            have : v ∈ leftL (ps.map (·.2)) (an.map (·.2)) ns := List.mem_filter.mpr ⟨hvn, by
              rw [Bool.and_eq_true, Bool.not_eq_true', Bool.not_eq_true', ← Bool.not_eq_true, ← Bool.not_eq_true, hasB_iff, lackB_iff]
              exact ⟨h1, h2⟩⟩
            rw [hleft] at this
            cases this
        have hu2 := mem_lows.mp (show u ∈ lowsL (ps.map (·.2)) (an.map (·.2)) v by rw [eu]; simp)
        rw [eu] at eLw
        have a0 : atI ((u :: ur).map V.int) 0 = some (.int u) := head_at rfl
        have eL6 := k6 _ _ eL5
        walk_at "g"
        refine ⟨t, R, v, u, kvs, ns, ps, rfl, hS5.kt (KT.of k6), S, hl, hl2, k6 _ _ eR5, rv5.kp (N := []) k6' (by simp), hvn, hu2.2, fun H7 wa c k7 hwa hway hcl => ?_⟩
        walk_at "g"
        refine w_new fun p H8 hp ep k8 => ?_
        have eL8 := k8 _ _ (k7 _ _ eL6)
        walk_at "g"
        refine w_app eL8 (by rw [List.length_map]; exact small1000 (by omega)) fun H9 e9 o9 => ?_
        exact fin "lacks" c wa p H7 H8 _ _ (Same.trans k5 (Same.trans k6 k7)) hwa hcl (.inr ⟨htops, u, by rw [eu]; rfl, rfl, hway⟩) hp ep k8 eL8 H9 e9 o9
    · rintro σ H4 ⟨y5, y6, y7, rows, rfl, k4, kt4, e4, hrl, hra, hrr⟩
      rw [List.length_map] at hrl
      walk_at "g"
      refine w_tupL (.of e4) fun r' H5 hr5 e5 k5 => ?_
      refine q H5 r' rows hc hleft (fun x o e => k5 _ _ (k4 _ _ (off (k02 _ _ e)) (k03 _ _ e))) ⟨e5, fun z hz => (hra z hz).kt (KT.of k5), hrl, hrr⟩
end
theorem ins_nodup {an : List (Addr × Int × Bool)} {x : Addr × Int × Bool} (j : Nat) (h : (an.map (·.2.1)).Nodup) (hx : x.2.1 ∉ an.map (·.2.1)) : ((an.take j ++ [x] ++ an.drop j).map (·.2.1)).Nodup := by
  have p : (an.take j ++ [x] ++ an.drop j).Perm (x :: an) := by
    rw [List.append_assoc]
    refine (List.perm_middle (l₁ := an.take j) (a := x) (l₂ := an.drop j)).trans ?_
    rw [List.take_append_drop]
  rw [(p.map _).nodup_iff, List.map_cons, List.nodup_cons]
  exact ⟨hx, h⟩
theorem notin_take {ns : List Int} {i : Nat} {v : Int} (h : ns.Nodup) (hv : ns[i]? = some v) : v ∉ ns.take i := by
  intro hm
  obtain ⟨j, hj, e⟩ := List.getElem_of_mem hm
  rw [List.length_take] at hj
  rw [List.getElem_take] at e
  have e1 : ns[j]? = some v := by rw [List.getElem?_eq_getElem (by omega), e]
  have := (List.getElem?_inj (by omega) h).mp (e1.trans hv.symm)
  omega
theorem an_notin {an : List (Addr × Int × Bool)} {ns : List Int} {i : Nat} {v : Int} (h : ns.Nodup) (hv : ns[i]? = some v) (hm : ∀ q ∈ an, q.2.1 ∈ ns.take i) : v ∉ an.map (·.2.1) := by
  intro hz
  obtain ⟨q, hq, e⟩ := List.mem_map.mp hz
  exact notin_take h hv (e ▸ hm q hq)
theorem take_up {ns : List Int} {i : Nat} {x : Int} (h : x ∈ ns.take i) : x ∈ ns.take (i + 1) := by
  rw [List.take_add_one]
  exact List.mem_append_left _ h
theorem take_now {ns : List Int} {i : Nat} {x : Int} (h : ns[i]? = some x) : x ∈ ns.take (i + 1) := by
  rw [List.take_add_one, h]
  simp
/-- a holding that has with each version all below it -/
def spLower : Sp := fun vs H Q _ => ∃ (d c R : Addr) (n : Nat) (kvs : List (Key × V)) (ls : List (Int × Int)) (ns : List Int), vs = [.ref d, .ref R] ∧ Deck H d c n ∧ n + 64 ≤ MOSTD ∧ H R = some (.dK kvs) ∧ kvs.map (·.1) = ns.map (Sum.inl : Int → Key) ∧ RowsV [d] H kvs ls ns ∧ ShOk ns ls ∧ ns.length < 64 ∧
  ∀ H' l (hs : List Int), Deck H' d c (n + 64) → Kp [d] H H' → H l = none → H' l = some (.lst (hs.map V.int)) → (∀ x ∈ hs, x ∈ ns) → (∀ x ∈ hs, ∀ y, Bel ls x y → y ∈ hs) → Q (.ref l) H'
section
variable {P : Program} {w : World} {K : PySem.W.Frag} {mg : Str → Option Value} {base : Heap}
theorem ok_lower {f fM fD : Addr} {fd fdM fdD : FuncData} (T : Txt K mg) (F : Fun K "_law_lower" "_law_lower" s_law_lower f fd) (D_law_mixed : Df K mg "_law_mixed" s_law_mixed ["_law_cell", "_law_turn"] fM fdM)
    (D_law_draw : Df K mg "_law_draw" s_law_draw ["_law_deck_here", "_law_many"] fD fdD) : FnOk P w K mg base CX0 3 f fd ["_law_deck_here", "_law_rows"] spLower := by
  have G_law_draw : FnOk P w K mg base CX0 2 fD fdD ["_law_deck_here", "_law_many"] spDraw := ok_draw T D_law_draw.fn D_law_mixed
  refine F.ok sc_law_lower (fun vs H Q E h => ?_) (fun cdv A outer s H vs Q E hr h => ?_)
  · obtain ⟨d, c, R, n, kvs, ls, ns, rfl, _⟩ := h
    rfl
  · obtain ⟨d, c, R, n, kvs, ls, ns, rfl, D0, hn, eR, hks, rv, S, hl, q⟩ := h
    have hu := hu_of hr
    refine ⟨_,
      (pss_cons
        (ps_set (i := 2) sc_law_lower.nd rfl (.inl rfl) pe_dnewK)
      (pss_cons
        (ps_lock (ps_for PassesOwn.never rfl (pi_keys (pv 1)) (pg_name (i := 3) sc_law_lower.nd rfl (.inl rfl))
          (pss_one
            (ps_if (pt_cmpR op_eq (pe_call G_law_draw (hr.mono (by omega)) (by rfl) D_law_draw.g D_law_draw.fn.kp D_law_draw.b .nil pass0 (pa_cons (pv 0) (pa_cons pe_int pa_nil))) pe_int (nomark _))
              (pss_one
                (ps_for PassesOwn.never rfl (pi_list (pe_dget hu (pv 1) (pv 3) (fun _ _ => rfl))) (pg_name (i := 4) sc_law_lower.nd rfl (.inl rfl))
                  (pss_one
                    (ps_dput hu (pv 2) (pv 4) pe_bl rfl))))
              pss_nil))))
      (pss_one
        (ps_ret (pe_callB (c_sortD rfl) (by rfl) T.n_sorted (by decide +kernel) (pa_cons (pv 2) pa_nil))))))
      , ?_⟩
    rw [show L2.start N_law_lower [V.ref d, V.ref R] = [some (.ref d), some (.ref R), none, none, none] from rfl]
    walk_at "x"
    refine w_new fun g H1 hg eg k1 => ?_
    have D1 := D0.kp (M := []) (Kp.of k1) (by simp) (by simp)
    obtain ⟨⟨xs, ed⟩, ys, ec⟩ := D1.at
    have eR1 := k1 _ _ eR
    have nRd : R ≠ d := ne_of eR1 ed (fun z => nomatch z)
    have nRc : R ≠ c := ne_of eR1 ec (fun z => nomatch z)
    have nRg : R ≠ g := ne_of_none eR hg
    obtain ⟨ngd, ngc⟩ := D0.ne1 hg
    refine w_seq ?_
    refine w_lock eR1 fun od H2 eR2 o2 => ?_
    have D2 : Deck H2 d c n := D1.kp (M := [R]) (o2.kp (by simp)) (by simpa using nRd.symm) (by simpa using nRc.symm)
    have rv2 : RowsV [d] H2 kvs ls ns := (rv.kp (N := []) (Kp.of k1) (by simp)).off o2 (fun xs z => by rw [eR1] at z; cases z)
    walk_at "g"
    refine lp_keys hks (fun i σ H' => ∃ (y3 y4 : Option V) (ks : List Int), σ = [some (.ref d), some (.ref R), some (.ref g), y3, y4] ∧ Deck H' d c (n + i) ∧ Kp [d, g] H2 H' ∧ FoundAt H' g ks ∧ (∀ x ∈ ks, x ∈ ns) ∧ ∀ x ∈ ks, ∀ y, Bel ls x y → y ∈ ks) ?_ ?_ ?_ ?_
    · exact ⟨_, _, [], rfl, D2, Kp.refl, ⟨⟨[], o2.get nRg.symm eg, rfl⟩, List.nodup_nil⟩, by simp, by simp⟩
    · rintro i σ H' _ ⟨_, _, _, _, _, k, _⟩
      exact k _ _ (by simp [nRd, nRg]) eR2
    · rintro i v σ H3 hv ⟨y3, y4, ks, rfl, D3, k3, FA, hsub, hdn⟩
      have hvn := List.mem_of_getElem? hv
      have hi : i < ns.length := (List.getElem?_eq_some_iff.mp hv).1
      obtain ⟨⟨zs, ed3⟩, _⟩ := D3.at
      obtain ⟨fk, ef, hfk⟩ := FA.at'
      walk_at "g"
      refine w_draw D3 (by omega) (by decide) (by decide) fun r H4 hr4 D4 o4 => ?_
      have k4 : Kp [d, g] H2 H4 := k3.trans (o4.kp (by simp))
      have FA4 : FoundAt H4 g ks := ⟨⟨fk, o4.get ngd ef, hfk⟩, FA.nd⟩
      walk_at "g"
      refine w_ite (fun hr0 => ?_) (fun hr0 => ?_)
      · obtain ⟨a, us, v1, v2, v3, v4⟩ := rv2 v hvn
        have nag : a ≠ g := ne_of v2 (o2.get nRg.symm eg) (fun z => nomatch z)
        have v2' := k4 _ _ (by simp [nag]; simpa using v4) v2
        have eR4 := k4 _ _ (by simp [nRd, nRg]) eR2
        walk_at "g"
        refine lp_list (xs := us.map V.int) (fun j σ H' => ∃ (y4 : Option V) (ks' : List Int), σ = [some (.ref d), some (.ref R), some (.ref g), some (.int v), y4] ∧ Kp [g] H4 H' ∧ FoundAt H' g ks' ∧ ∀ x, x ∈ ks' ↔ x ∈ ks ∨ x ∈ us.take j) ?_ ?_ ?_ ?_
        · exact ⟨_, ks, rfl, Kp.refl, FA4, by simp⟩
        · rintro j σ H' _ ⟨_, _, _, k5, _⟩
          exact .of (k5 _ _ (by simpa using nag) v2')
        · rintro j y σ H5 hy ⟨y4, ks', rfl, k5, ⟨⟨fk5, ef5, hfk5⟩, nd5⟩, hks5⟩
          obtain ⟨u, hu', rfl⟩ := map_at hy
          have hlen : fk5.length < sizeLine := by
            have h1 : fk5.length = ks'.length := by
              have := congrArg List.length hfk5
              simpa using this
            have h2 : ks'.length ≤ ns.length := nodup_le ks' ns nd5 fun z hz => by
              rcases (hks5 z).mp hz with a | a
              · exact hsub z a
              · exact ((v3.mem z).mp (List.mem_of_mem_take a)).mem S hvn
            exact small1000 (by omega)
          walk_at "g"
          refine w_dputI ef5 hlen fun H6 e6 o6 => ?_
          refine ⟨_, addK ks' u, rfl, k5.trans (o6.kp (by simp)), FoundAt.put hfk5 nd5 e6, fun z => ?_⟩
          rw [mem_addK, hks5, List.take_add_one, hu']
          simp only [Option.toList_some, List.mem_append, List.mem_singleton]
          rw [or_assoc]
        · rintro σ H5 ⟨y4, ks', rfl, k5, F5, hks5⟩
          rw [List.length_map, List.take_length] at hks5
          refine ⟨_, _, ks', rfl, (D4.kp (M := [g]) k5 (by simpa using ngd.symm) (by simpa using ngc.symm)), k4.trans (k5.mono (by simp)), F5, fun x hx => ?_, fun x hx y hy => ?_⟩
          · rcases (hks5 x).mp hx with a | a
            · exact hsub x a
            · exact ((v3.mem x).mp a).mem S hvn
          · rcases (hks5 x).mp hx with a | a
            · exact (hks5 y).mpr (.inl (hdn x a y hy))
            · exact (hks5 y).mpr (.inr ((v3.mem y).mpr (((v3.mem x).mp a).trans hy)))
      · walk_at "g"
        exact ⟨_, _, ks, rfl, D4, k4, FA4, hsub, hdn⟩
    · rintro σ H3 ⟨y3, y4, ks, rfl, D3, k3, ⟨⟨fk, ef, hfk⟩, nd3⟩, hsub, hdn⟩
      refine unlock (k3 _ _ (by simp [nRd, nRg]) eR2) fun H4 eR4 o4 => ?_
      have ef4 := o4.get nRg.symm ef
      walk_at "g"
      refine w_sortD ef4 hfk (by have := nodup_le ks ns nd3 hsub; omega) fun hs L H5 hperm hsort hL eL k5 => ?_
      have kk : Kp [d] H H4 := fun b o hb e => by
        by_cases hbR : b = R
        · subst hbR
          rw [eR] at e
          cases e
          exact eR4
        · have z1 := o2.get hbR (k1 _ _ e)
          exact o4.get hbR (k3 _ _ (by
            have : b ≠ g := ne_of_none e hg
            simpa [this] using hb) z1)
      have D4 : Deck H4 d c (n + ns.length) := D3.kp (M := [R]) (o4.kp (by simp)) (by simpa using nRd.symm) (by simpa using nRc.symm)
      obtain ⟨⟨ws, ed4⟩, _⟩ := D4.at
      refine q H5 L hs ((D4.kp (M := []) (Kp.of k5) (by simp) (by simp)).mono (by omega)) (kk.trans (Kp.of k5)) ?_ eL (fun x hx => hsub x (hperm.mem_iff.mp hx)) (fun x hx y hy => hperm.mem_iff.mpr (hdn x (hperm.mem_iff.mp hx) y hy))
      refine nofree kk ?_ hL
      simpa using (ne_of_none ed4 hL).symm
end
/-- right answers, in any order -/
def spAnswers : Sp := fun vs H Q _ => ∃ (d c t l : Addr) (n : Nat) (ns hs : List Int) (ps : List (Addr × Int × Int)), vs = [.ref d, .ref t, .ref l] ∧ Deck H d c n ∧ n + 128 ≤ MOSTD ∧ ShAt H t ns ps ∧ ns.length < 64 ∧ ns.Nodup ∧ H l = some (.lst (hs.map V.int)) ∧ l ≠ d ∧
  ∀ H' A an, Deck H' d c (n + 128) → Kp [d] H H' → AL H' A an → an.length < 64 → (∀ q ∈ an, q.2.1 ∈ ns ∧ q.2.2 = decide (q.2.1 ∈ hs)) → (an.map (·.2.1)).Nodup → Q (.ref A) H'
section
variable {P : Program} {w : World} {K : PySem.W.Frag} {mg : Str → Option Value} {base : Heap}
theorem ok_answers {f fM fD : Addr} {fd fdM fdD : FuncData} (T : Txt K mg) (F : Fun K "_law_answers" "_law_answers" s_law_answers f fd) (D_law_mixed : Df K mg "_law_mixed" s_law_mixed ["_law_cell", "_law_turn"] fM fdM)
    (D_law_draw : Df K mg "_law_draw" s_law_draw ["_law_deck_here", "_law_many"] fD fdD) : FnOk P w K mg base CX0 3 f fd ["_law_deck_here", "_law_web", "_law_held"] spAnswers := by
  have G_law_draw : FnOk P w K mg base CX0 2 fD fdD ["_law_deck_here", "_law_many"] spDraw := ok_draw T D_law_draw.fn D_law_mixed
  refine F.ok sc_law_answers (fun vs H Q E h => ?_) (fun cdv A outer s H vs Q E hr h => ?_)
  · obtain ⟨d, c, t, l, n, ns, hs, ps, rfl, _⟩ := h
    rfl
  · obtain ⟨d, c, t, l, n, ns, hs, ps, rfl, D0, hn, hS, hl, hnn, el, nld, q⟩ := h
    refine ⟨_,
      (pss_cons
        (ps_set (i := 3) sc_law_answers.nd rfl (.inl rfl) (pe_lst pa_nil))
      (pss_cons
        (ps_for PassesOwn.never rfl (pi_tup (pe_ix (r := rIxT K) ix_tup (pv 1) pe_int (fun _ _ => rfl))) (pg_name (i := 4) sc_law_answers.nd rfl (.inl rfl))
          (pss_one
            (ps_if (pt_cmpR op_gt (pe_call G_law_draw (hr.mono (by omega)) (by rfl) D_law_draw.g D_law_draw.fn.kp D_law_draw.b .nil pass0 (pa_cons (pv 0) (pa_cons pe_int pa_nil))) pe_int (nomark _))
              (pss_one
                (ps_expr (pe_bm PySem.F.plainAttrs_list PySem.F.slot_list_insert PySem.F.type_list_insert m_insert (pv 3) (pa_cons (pe_call G_law_draw (hr.mono (by omega)) (by rfl) D_law_draw.g D_law_draw.fn.kp D_law_draw.b .nil pass0 (pa_cons (pv 0) (pa_cons (pe_op op_add (pe_callB (r := rLen K) c_len (by rfl) T.n_len (by decide +kernel) (pa_cons (pv 3) pa_nil)) pe_int) pa_nil))) (pa_cons (pe_tup (pa_cons (pv 4) (pa_cons (pe_cmpR (r := rIn K false) op_in_seq (pv 4) (pv 2) rfl) pa_nil))) pa_nil)))))
              pss_nil)))
      (pss_one
        (ps_ret (pe_callTy (r := rTupOf K) c_tupOf (by rfl) T.n_tuple (by decide +kernel) (pa_cons (pv 3) pa_nil))))))
      , ?_⟩
    rw [show L2.start N_law_answers [V.ref d, V.ref t, V.ref l] = [some (.ref d), some (.ref t), some (.ref l), none, none] from rfl]
    walk_at "x"
    refine w_new fun b H1 hb eb k1 => ?_
    have D1 := D0.kp (M := []) (Kp.of k1) (by simp) (by simp)
    obtain ⟨nbd, nbc⟩ := D0.ne1 hb
    have nlb : l ≠ b := ne_of_none el hb
    have el1 := k1 _ _ el
    obtain ⟨ta, tb, et, ea, _⟩ := hS.kt (KT.of k1)
    have ea' : H1 ta = some (.tup (ns.map V.int)) := ea
    have tat : ∀ {H' : Hp}, Kp [d, b] H1 H' → H' ta = some (.tup (ns.map V.int)) := fun {H'} k => k _ _ (by
      obtain ⟨⟨xs, ed⟩, _⟩ := D1.at
      simp [ne_of ea' ed (fun z => nomatch z), ne_of ea' eb (fun z => nomatch z)]) ea'
    walk_at "g"
    refine lp_tup (xs := ns.map V.int) (fun i σ H' => ∃ (y4 : Option V) (an : List (Addr × Int × Bool)), σ = [some (.ref d), some (.ref t), some (.ref l), some (.ref b), y4] ∧ Deck H' d c (n + 2 * i) ∧ Kp [d, b] H1 H' ∧ an.length ≤ i ∧ H' b = some (.lst (an.map fun q => .ref q.1)) ∧ (∀ q ∈ an, H' q.1 = some (.tup [.int q.2.1, .bl q.2.2])) ∧ (∀ q ∈ an, q.2.1 ∈ ns.take i ∧ q.2.2 = decide (q.2.1 ∈ hs)) ∧ (an.map (·.2.1)).Nodup) ?_ ?_ ?_ ?_
    · exact ⟨_, [], rfl, D1, Kp.refl, Nat.le_refl _, eb, by simp, by simp, by simp⟩
    · rintro i σ H' _ ⟨_, _, _, _, k, _⟩
      exact .of (tat k)
    · rintro i y σ H2 hy ⟨y4, an, rfl, D2, k2, hal, e2, hae, hap⟩
      obtain ⟨v, hv, rfl⟩ := map_at hy
      have hi : i < ns.length := (List.getElem?_eq_some_iff.mp hv).1
      obtain ⟨⟨xs, ed2⟩, _⟩ := D2.at
      walk_at "g"
      refine w_draw D2 (by omega) (by decide) (by decide) fun r H3 hr3 D3 o3 => ?_
      have k3 : Kp [d, b] H1 H3 := k2.trans (o3.kp (by simp))
      have e3 := o3.get nbd e2
      have hae3 : ∀ q ∈ an, H3 q.1 = some (.tup [.int q.2.1, .bl q.2.2]) := fun q hq => o3.tup ed2 (hae q hq)
      walk_at "g"
      refine w_ite (fun hr0 => ?_) (fun hr0 => ?_)
      · walk_at "g"
        refine w_draw D3 (by omega) (by omega) (by rw [List.length_map]; omega) fun j H4 hj4 D4 o4 => ?_
        obtain ⟨⟨xs3, ed3⟩, _⟩ := D3.at
        have k4 : Kp [d, b] H1 H4 := k3.trans (o4.kp (by simp))
        have e4 := o4.get nbd e3
        have el4 : H4 l = some (.lst (hs.map V.int)) := k4 _ _ (by simp [nld, nlb]) el1
        walk_at "g"
        refine w_new fun p H5 hp ep k5 => ?_
        have e5 := k5 _ _ e4
        walk_at "g"
        refine w_insert (k := j) e5 (by rw [List.length_map]; exact small1000 (by omega)) (by rw [List.length_map] at hj4; omega) fun H6 e6 o6 => ?_
        have nbp : b ≠ p := ne_of_none e4 hp
        refine ⟨_, an.take j ++ [(p, v, decide (v ∈ hs))] ++ an.drop j, rfl, (D4.kp (M := []) (Kp.of k5) (by simp) (by simp)).kp (M := [b]) (o6.kp (by simp)) (by simpa using nbd.symm) (by simpa using nbc.symm), k4.trans ((Kp.of k5).trans (o6.kp (by simp))), ?_, ?_, ?_, ?_, ins_nodup j hap.2 (an_notin hnn hv fun q hq => (hap.1 q hq).1)⟩
        · have h1 : (an.take j).length + (an.drop j).length = an.length := by rw [List.length_take, List.length_drop]; omega
          simp only [List.length_append, List.length_cons, List.length_nil]
          omega
        · rw [e6]
          simp only [List.map_append, List.map_take, List.map_drop, List.map_cons, List.map_nil]
        · intro z hz
          have hz2 : z ∈ an ∨ z = (p, v, decide (v ∈ hs)) := by
            rcases List.mem_append.mp hz with hz | hz
            · rcases List.mem_append.mp hz with hz | hz
              · exact .inl (List.mem_of_mem_take hz)
              · exact .inr (by simpa using hz)
            · exact .inl (List.mem_of_mem_drop hz)
          rcases hz2 with hz2 | rfl
          · exact o6.tup e5 (k5 _ _ (o4.tup ed3 (hae3 z hz2)))
          · exact o6.tup e5 ep
        · intro z hz
          have hz2 : z ∈ an ∨ z = (p, v, decide (v ∈ hs)) := by
            rcases List.mem_append.mp hz with hz | hz
            · rcases List.mem_append.mp hz with hz | hz
              · exact .inl (List.mem_of_mem_take hz)
              · exact .inr (by simpa using hz)
            · exact .inl (List.mem_of_mem_drop hz)
          rcases hz2 with hz2 | rfl
          · exact ⟨take_up (hap.1 z hz2).1, (hap.1 z hz2).2⟩
          · exact ⟨take_now hv, rfl⟩
      · walk_at "g"
        exact ⟨_, an, rfl, D3.mono (by omega), k3, by omega, e3, hae3, fun q hq => ⟨take_up (hap.1 q hq).1, (hap.1 q hq).2⟩, hap.2⟩
    · rintro σ H2 ⟨y4, an, rfl, D2, k2, hal, e2, hae, hap⟩
      rw [List.length_map] at hal
      walk_at "g"
      refine w_tupL (.of e2) fun A H3 hA eA k3 => ?_
      refine q H3 A an ((D2.kp (M := []) (Kp.of k3) (by simp) (by simp)).mono (by rw [List.length_map]; omega)) (fun x o hx e => ?_) ⟨eA, fun z hz => k3 _ _ (hae z hz)⟩ (by omega) (fun q hq => ⟨List.mem_of_mem_take (hap.1 q hq).1, (hap.1 q hq).2⟩) hap.2
      exact k3 _ _ (k2 _ _ (by
        have : x ≠ b := ne_of_none e hb
        simpa [this] using hx) (k1 _ _ e))
end
/-- any answers, in any order -/
def spWild : Sp := fun vs H Q _ => ∃ (d c t : Addr) (n : Nat) (ns : List Int) (ps : List (Addr × Int × Int)), vs = [.ref d, .ref t] ∧ Deck H d c n ∧ n + 192 ≤ MOSTD ∧ ShAt H t ns ps ∧ ns.length < 64 ∧ ns.Nodup ∧
  ∀ H' A an, Deck H' d c (n + 192) → Kp [d] H H' → AL H' A an → an.length < 64 → (∀ q ∈ an, q.2.1 ∈ ns) → (an.map (·.2.1)).Nodup → Q (.ref A) H'
section
variable {P : Program} {w : World} {K : PySem.W.Frag} {mg : Str → Option Value} {base : Heap}
theorem ok_wild {f fM fD : Addr} {fd fdM fdD : FuncData} (T : Txt K mg) (F : Fun K "_law_wild" "_law_wild" s_law_wild f fd) (D_law_mixed : Df K mg "_law_mixed" s_law_mixed ["_law_cell", "_law_turn"] fM fdM)
    (D_law_draw : Df K mg "_law_draw" s_law_draw ["_law_deck_here", "_law_many"] fD fdD) : FnOk P w K mg base CX0 3 f fd ["_law_deck_here", "_law_web"] spWild := by
  have G_law_draw : FnOk P w K mg base CX0 2 fD fdD ["_law_deck_here", "_law_many"] spDraw := ok_draw T D_law_draw.fn D_law_mixed
  refine F.ok sc_law_wild (fun vs H Q E h => ?_) (fun cdv A outer s H vs Q E hr h => ?_)
  · obtain ⟨d, c, t, n, ns, ps, rfl, _⟩ := h
    rfl
  · obtain ⟨d, c, t, n, ns, ps, rfl, D0, hn, hS, hl, hnn, q⟩ := h
    refine ⟨_,
      (pss_cons
        (ps_set (i := 2) sc_law_wild.nd rfl (.inl rfl) (pe_lst pa_nil))
      (pss_cons
        (ps_for PassesOwn.never rfl (pi_tup (pe_ix (r := rIxT K) ix_tup (pv 1) pe_int (fun _ _ => rfl))) (pg_name (i := 3) sc_law_wild.nd rfl (.inl rfl))
          (pss_one
            (ps_if (pt_cmpR op_gt (pe_call G_law_draw (hr.mono (by omega)) (by rfl) D_law_draw.g D_law_draw.fn.kp D_law_draw.b .nil pass0 (pa_cons (pv 0) (pa_cons pe_int pa_nil))) pe_int (nomark _))
              (pss_one
                (ps_expr (pe_bm PySem.F.plainAttrs_list PySem.F.slot_list_insert PySem.F.type_list_insert m_insert (pv 2) (pa_cons (pe_call G_law_draw (hr.mono (by omega)) (by rfl) D_law_draw.g D_law_draw.fn.kp D_law_draw.b .nil pass0 (pa_cons (pv 0) (pa_cons (pe_op op_add (pe_callB (r := rLen K) c_len (by rfl) T.n_len (by decide +kernel) (pa_cons (pv 2) pa_nil)) pe_int) pa_nil))) (pa_cons (pe_tup (pa_cons (pv 3) (pa_cons (pe_cmpR op_eq (pe_call G_law_draw (hr.mono (by omega)) (by rfl) D_law_draw.g D_law_draw.fn.kp D_law_draw.b .nil pass0 (pa_cons (pv 0) (pa_cons pe_int pa_nil))) pe_int (nomark _)) pa_nil))) pa_nil)))))
              pss_nil)))
      (pss_one
        (ps_ret (pe_callTy (r := rTupOf K) c_tupOf (by rfl) T.n_tuple (by decide +kernel) (pa_cons (pv 2) pa_nil))))))
      , ?_⟩
    rw [show L2.start N_law_wild [V.ref d, V.ref t] = [some (.ref d), some (.ref t), none, none] from rfl]
    walk_at "x"
    refine w_new fun b H1 hb eb k1 => ?_
    have D1 := D0.kp (M := []) (Kp.of k1) (by simp) (by simp)
    obtain ⟨nbd, nbc⟩ := D0.ne1 hb
    obtain ⟨ta, tb, et, ea, _⟩ := hS.kt (KT.of k1)
    have ea' : H1 ta = some (.tup (ns.map V.int)) := ea
    have tat : ∀ {H' : Hp}, Kp [d, b] H1 H' → H' ta = some (.tup (ns.map V.int)) := fun {H'} k => k _ _ (by
      obtain ⟨⟨xs, ed⟩, _⟩ := D1.at
      simp [ne_of ea' ed (fun z => nomatch z), ne_of ea' eb (fun z => nomatch z)]) ea'
    walk_at "g"
    refine lp_tup (xs := ns.map V.int) (fun i σ H' => ∃ (y4 : Option V) (an : List (Addr × Int × Bool)), σ = [some (.ref d), some (.ref t), some (.ref b), y4] ∧ Deck H' d c (n + 3 * i) ∧ Kp [d, b] H1 H' ∧ an.length ≤ i ∧ H' b = some (.lst (an.map fun q => .ref q.1)) ∧ (∀ q ∈ an, H' q.1 = some (.tup [.int q.2.1, .bl q.2.2])) ∧ (∀ q ∈ an, q.2.1 ∈ ns.take i) ∧ (an.map (·.2.1)).Nodup) ?_ ?_ ?_ ?_
    · exact ⟨_, [], rfl, D1, Kp.refl, Nat.le_refl _, eb, by simp, by simp, by simp⟩
    · rintro i σ H' _ ⟨_, _, _, _, k, _⟩
      exact .of (tat k)
    · rintro i y σ H2 hy ⟨y4, an, rfl, D2, k2, hal, e2, hae, hap⟩
      obtain ⟨v, hv, rfl⟩ := map_at hy
      have hi : i < ns.length := (List.getElem?_eq_some_iff.mp hv).1
      obtain ⟨⟨xs, ed2⟩, _⟩ := D2.at
      walk_at "g"
      refine w_draw D2 (by omega) (by decide) (by decide) fun r H3 hr3 D3 o3 => ?_
      have k3 : Kp [d, b] H1 H3 := k2.trans (o3.kp (by simp))
      have e3 := o3.get nbd e2
      have hae3 : ∀ q ∈ an, H3 q.1 = some (.tup [.int q.2.1, .bl q.2.2]) := fun q hq => o3.tup ed2 (hae q hq)
      walk_at "g"
      refine w_ite (fun hr0 => ?_) (fun hr0 => ?_)
      · walk_at "g"
        refine w_draw D3 (by omega) (by omega) (by rw [List.length_map]; omega) fun j H4 hj4 D4 o4 => ?_
        obtain ⟨⟨xs3, ed3⟩, _⟩ := D3.at
        have k4 : Kp [d, b] H1 H4 := k3.trans (o4.kp (by simp))
        have e4 := o4.get nbd e3
        walk_at "g"
        refine w_draw D4 (by omega) (by decide) (by decide) fun r4 H4' hr4' D4' o4' => ?_
        obtain ⟨⟨xs4, ed4⟩, _⟩ := D4.at
        have k4' : Kp [d, b] H1 H4' := k4.trans (o4'.kp (by simp))
        have e4' := o4'.get nbd e4
        walk_at "g"
        refine w_new fun p H5 hp ep k5 => ?_
        have e5 := k5 _ _ e4'
        walk_at "g"
        refine w_insert (k := j) e5 (by rw [List.length_map]; exact small1000 (by omega)) (by rw [List.length_map] at hj4; omega) fun H6 e6 o6 => ?_
        have nbp : b ≠ p := ne_of_none e4' hp
        refine ⟨_, an.take j ++ [(p, v, decide ((r4 : Int) = 0))] ++ an.drop j, rfl, (D4'.kp (M := []) (Kp.of k5) (by simp) (by simp)).kp (M := [b]) (o6.kp (by simp)) (by simpa using nbd.symm) (by simpa using nbc.symm), k4'.trans ((Kp.of k5).trans (o6.kp (by simp))), ?_, ?_, ?_, ?_, ins_nodup j hap.2 (an_notin hnn hv fun q hq => hap.1 q hq)⟩
        · have h1 : (an.take j).length + (an.drop j).length = an.length := by rw [List.length_take, List.length_drop]; omega
          simp only [List.length_append, List.length_cons, List.length_nil]
          omega
        · rw [e6]
          simp only [List.map_append, List.map_take, List.map_drop, List.map_cons, List.map_nil]
        · intro z hz
          have hz2 : z ∈ an ∨ z = (p, v, decide ((r4 : Int) = 0)) := by
            rcases List.mem_append.mp hz with hz | hz
            · rcases List.mem_append.mp hz with hz | hz
              · exact .inl (List.mem_of_mem_take hz)
              · exact .inr (by simpa using hz)
            · exact .inl (List.mem_of_mem_drop hz)
          rcases hz2 with hz2 | rfl
          · exact o6.tup e5 (k5 _ _ (o4'.tup ed4 (o4.tup ed3 (hae3 z hz2))))
          · exact o6.tup e5 ep
        · intro z hz
          have hz2 : z ∈ an ∨ z = (p, v, decide ((r4 : Int) = 0)) := by
            rcases List.mem_append.mp hz with hz | hz
            · rcases List.mem_append.mp hz with hz | hz
              · exact .inl (List.mem_of_mem_take hz)
              · exact .inr (by simpa using hz)
            · exact .inl (List.mem_of_mem_drop hz)
          rcases hz2 with hz2 | rfl
          · exact take_up (hap.1 z hz2)
          · exact take_now hv
      · walk_at "g"
        exact ⟨_, an, rfl, D3.mono (by omega), k3, by omega, e3, hae3, fun q hq => take_up (hap.1 q hq), hap.2⟩
    · rintro σ H2 ⟨y4, an, rfl, D2, k2, hal, e2, hae, hap⟩
      rw [List.length_map] at hal
      walk_at "g"
      refine w_tupL (.of e2) fun A H3 hA eA k3 => ?_
      refine q H3 A an ((D2.kp (M := []) (Kp.of k3) (by simp) (by simp)).mono (by rw [List.length_map]; omega)) (fun x o hx e => ?_) ⟨eA, fun z hz => k3 _ _ (hae z hz)⟩ (by omega) (fun q hq => List.mem_of_mem_take (hap.1 q hq)) hap.2
      exact k3 _ _ (k2 _ _ (by
        have : x ≠ b := ne_of_none e hb
        simpa [this] using hx) (k1 _ _ e))
end
def spLClash : Sp := fun vs H Q _ => ∃ (R A : Addr) (kvs : List (Key × V)) (ls : List (Int × Int)) (ns : List Int) (an : List (Addr × Int × Bool)), vs = [.ref R, .ref A] ∧ H R = some (.dK kvs) ∧ RowsV [] H kvs ls ns ∧ AL H A an ∧ an.length < 64 ∧ (∀ q ∈ an, q.2.1 ∈ ns) ∧
  (Clear ls (an.map (·.2)) → ∀ H', Same H H' → Q .non H') ∧ ∀ p r H', LeastC ls (an.map (·.2)) p → Same H H' → H' r = some (.tup [.int p.1, .int p.2]) → Q (.ref r) H'
section
variable {P : Program} {w : World} {K : PySem.W.Frag} {mg : Str → Option Value} {base : Heap}
theorem ok_lclash {f : Addr} {fd : FuncData} (T : Txt K mg) (F : Fun K "_law_clash" "_law_clash" s_law_clash f fd) : FnOk P w K mg base CX0 2 f fd ["_law_rows", "_law_answers_here"] spLClash := by
  refine F.ok sc_law_clash (fun vs H Q E h => ?_) (fun cdv A outer s H vs Q E hr h => ?_)
  · obtain ⟨R, A, kvs, ls, ns, an, rfl, _⟩ := h
    rfl
  · obtain ⟨R, Aa, kvs, ls, ns, an, rfl, eR, rv, ⟨hA, hAe⟩, hl, hm, q, qx⟩ := h
    have hu := hu_of hr
    refine ⟨_,
      (pss_cons
        (ps_set (i := 2) sc_law_clash.nd rfl (.inl rfl) (pe_lst pa_nil))
      (pss_cons
        (ps_for PassesOwn.never rfl (pi_tup (pv 1)) (pg_name (i := 3) sc_law_clash.nd rfl (.inl rfl))
          (pss_one
            (ps_for PassesOwn.never rfl (pi_tup (pv 1)) (pg_name (i := 4) sc_law_clash.nd rfl (.inl rfl))
              (pss_one
                (ps_if (PW.pt (pw_and (pt_val (pe_ix (r := rIxT K) ix_tup (pv 3) pe_int (fun _ _ => rfl))) (pw_and (pt_not (pt_val (pe_ix (r := rIxT K) ix_tup (pv 4) pe_int (fun _ _ => rfl)))) (pw_and1 (pt_cmpR (r := rIn K false) op_in_seq (pe_ix (r := rIxT K) ix_tup (pv 4) pe_int (fun _ _ => rfl)) (pe_dget hu (pv 0) (pe_ix (r := rIxT K) ix_tup (pv 3) pe_int (fun _ _ => rfl)) (fun _ _ => rfl)) rfl)))))
                  (pss_one
                    (ps_expr (pe_bm PySem.F.plainAttrs_list PySem.F.slot_list_append PySem.F.type_list_append mt_append (pv 2) (pa_cons (pe_tup (pa_cons (pe_ix (r := rIxT K) ix_tup (pv 3) pe_int (fun _ _ => rfl)) (pa_cons (pe_ix (r := rIxT K) ix_tup (pv 4) pe_int (fun _ _ => rfl)) pa_nil))) pa_nil))))
                  pss_nil)))))
      (pss_cons
        (ps_if (pt_cmpR op_eq (pe_callB (r := rLen K) c_len (by rfl) T.n_len (by decide +kernel) (pa_cons (pv 2) pa_nil)) pe_int (nomark _))
          (pss_one
            (ps_ret pe_non))
          pss_nil)
      (pss_one
        (ps_ret (pe_callB (r := rMinP K) (c_minP rfl (room100 hr)) (by rfl) T.n_min (by decide +kernel) (pa_cons (pv 2) pa_nil)))))))
      , ?_⟩
    rw [show L2.start N_law_clash [V.ref R, V.ref Aa] = [some (.ref R), some (.ref Aa), none, none, none] from rfl]
    walk_at "x"
    refine w_new fun b H1 hb eb k1 => ?_
    have off : ∀ {x : Addr} {o : HO}, H x = some o → x ∉ [b] := fun {x o} e => by simpa using ne_of_none e hb
    walk_at "g"
    refine w_itT' (.of (k1 _ _ hA)) ?_
    refine lp_tup (xs := an.map fun q => .ref q.1) (fun i σ H' => ∃ (y3 y4 : Option V) (prs : List (Addr × Int × Int)), σ = [some (.ref R), some (.ref Aa), some (.ref b), y3, y4] ∧ Kp [b] H1 H' ∧ H' b = some (.lst (prs.map fun q => .ref q.1)) ∧ (∀ q ∈ prs, H' q.1 = some (.tup [.int q.2.1, .int q.2.2])) ∧ prs.length ≤ 64 * i ∧ (∀ q ∈ prs, Clash ls (an.map (·.2)) q.2) ∧ ∀ one ∈ an.take i, ∀ other ∈ an, one.2.2 = true → other.2.2 = false → Bel ls one.2.1 other.2.1 → (one.2.1, other.2.1) ∈ prs.map (·.2)) ?_ ?_ ?_ ?_
    · exact ⟨_, _, [], rfl, Kp.refl, eb, by simp, by simp, by simp, by simp⟩
    · rintro i σ H' _ ⟨_, _, _, _, k2, _⟩
      exact .of (k2 _ _ (off hA) (k1 _ _ hA))
    · rintro i y σ H2 hy ⟨y3, y4, prs, rfl, k2, e2, hpe, hpl, hps, hpc⟩
      obtain ⟨one, hone, rfl⟩ := map_at hy
      have honem := List.mem_of_getElem? hone
      have hil : i < an.length := (List.getElem?_eq_some_iff.mp hone).1
      have st : ∀ {H' : Hp}, Kp [b] H1 H' → ∀ {x : Addr} {o : HO}, H x = some o → H' x = some o := fun {H'} k {x o} e => k _ _ (off e) (k1 _ _ e)
      have hA2 := st k2 hA
      walk_at "g"
      refine lp_tup (xs := an.map fun q => .ref q.1) (fun j σ H' => ∃ (y4 : Option V) (prs : List (Addr × Int × Int)), σ = [some (.ref R), some (.ref Aa), some (.ref b), some (.ref one.1), y4] ∧ Kp [b] H1 H' ∧ H' b = some (.lst (prs.map fun q => .ref q.1)) ∧ (∀ q ∈ prs, H' q.1 = some (.tup [.int q.2.1, .int q.2.2])) ∧ prs.length ≤ 64 * i + j ∧ (∀ q ∈ prs, Clash ls (an.map (·.2)) q.2) ∧ (∀ one ∈ an.take i, ∀ other ∈ an, one.2.2 = true → other.2.2 = false → Bel ls one.2.1 other.2.1 → (one.2.1, other.2.1) ∈ prs.map (·.2)) ∧ ∀ other ∈ an.take j, one.2.2 = true → other.2.2 = false → Bel ls one.2.1 other.2.1 → (one.2.1, other.2.1) ∈ prs.map (·.2)) ?_ ?_ ?_ ?_
      · exact ⟨_, prs, rfl, k2, e2, hpe, by omega, hps, hpc, by simp⟩
      · rintro j σ H' _ ⟨_, _, _, k3, _⟩
        exact .of (st k3 hA)
      · rintro j y σ H3 hy' ⟨y4, prs, rfl, k3, e3, hpe, hpl, hps, hpc, hpd⟩
        obtain ⟨other, hother, rfl⟩ := map_at hy'
        have hom := List.mem_of_getElem? hother
        have hjl : j < an.length := (List.getElem?_eq_some_iff.mp hother).1
        have eo := st k3 (hAe one honem)
        have et := st k3 (hAe other hom)
        have eR3 := st k3 eR
        obtain ⟨ra, ys, v1, v2, v3, _⟩ := rv one.2.1 (hm one honem)
        have v2' := st k3 v2
        have tk : ∀ z ∈ an.take (j + 1), z ∈ an.take j ∨ z = other := fun z hz => by
          rw [List.take_add_one, hother] at hz
          simpa using hz
        have skip : ¬ (one.2.2 = true ∧ other.2.2 = false ∧ Bel ls one.2.1 other.2.1) → ∃ (y4 : Option V) (prs : List (Addr × Int × Int)), [some (V.ref R), some (.ref Aa), some (.ref b), some (.ref one.1), some (.ref other.1)] = [some (.ref R), some (.ref Aa), some (.ref b), some (.ref one.1), y4] ∧ Kp [b] H1 H3 ∧ H3 b = some (.lst (prs.map fun q => .ref q.1)) ∧ (∀ q ∈ prs, H3 q.1 = some (.tup [.int q.2.1, .int q.2.2])) ∧ prs.length ≤ 64 * i + (j + 1) ∧ (∀ q ∈ prs, Clash ls (an.map (·.2)) q.2) ∧ (∀ one ∈ an.take i, ∀ other ∈ an, one.2.2 = true → other.2.2 = false → Bel ls one.2.1 other.2.1 → (one.2.1, other.2.1) ∈ prs.map (·.2)) ∧ ∀ other ∈ an.take (j + 1), one.2.2 = true → other.2.2 = false → Bel ls one.2.1 other.2.1 → (one.2.1, other.2.1) ∈ prs.map (·.2) := fun hn => ⟨_, prs, rfl, k3, e3, hpe, by omega, hps, hpc, fun z hz h1 h2 h3 => by
          rcases tk z hz with h | rfl
          · exact hpd z h h1 h2 h3
          · exact absurd ⟨h1, h2, h3⟩ hn⟩
        walk_at "g"
        refine w_itB (fun hb1 => ?_) (fun hb1 => ?_)
        · walk_at "g"
          refine w_itNB (fun hb2 => ?_) (fun hb2 => ?_)
          · walk_at "g"
            refine w_ite (fun hb3 => ?_) (fun hb3 => ?_)
            · walk_at "g"
              refine w_new fun p H4 hp ep k4 => ?_
              have e4 := k4 _ _ e3
              walk_at "g"
              refine w_app e4 (by rw [List.length_map]; exact Nat.lt_of_le_of_lt hpl (Nat.lt_of_lt_of_le (by omega : 64 * i + j < 10000) (by decide))) fun H5 e5 o5 => ?_
              refine ⟨_, prs ++ [(p, one.2.1, other.2.1)], rfl, k3.trans ((Kp.of k4).trans (o5.kp (by simp))), by rw [e5, List.map_append]; rfl, fun z hz => ?_, by rw [List.length_append]; simp only [List.length_cons, List.length_nil]; omega, fun z hz => ?_, fun z hz o ho h1 h2 h3 => by rw [List.map_append]; exact List.mem_append_left _ (hpc z hz o ho h1 h2 h3), fun z hz h1 h2 h3 => ?_⟩
              · rcases List.mem_append.mp hz with h | h
                · exact o5.tup e4 (k4 _ _ (hpe z h))
                · have e : z = (p, one.2.1, other.2.1) := by simpa using h
                  subst e
                  exact o5.tup e4 ep
              · rcases List.mem_append.mp hz with h | h
                · exact hps z h
                · have e : z = (p, one.2.1, other.2.1) := by simpa using h
                  subst e
                  refine ⟨List.mem_map.mpr ⟨one, honem, ?_⟩, List.mem_map.mpr ⟨other, hom, ?_⟩, (v3.mem _).mp hb3⟩
                  · obtain ⟨x1, x2, x3⟩ := one
                    simp only at hb1 ⊢
                    rw [hb1]
                  · obtain ⟨x1, x2, x3⟩ := other
                    simp only at hb2 ⊢
                    rw [hb2]
              · rw [List.map_append]
                rcases tk z hz with h | rfl
                · exact List.mem_append_left _ (hpd z h h1 h2 h3)
                · exact List.mem_append_right _ (by simp)
            · walk_at "g"
              exact skip fun z => hb3 ((v3.mem _).mpr z.2.2)
          · walk_at "g"
            exact skip fun z => by rw [hb2] at z; exact absurd z.2.1 (by simp)
        · walk_at "g"
          exact skip fun z => by rw [hb1] at z; exact absurd z.1 (by simp)
      · rintro σ H3 ⟨y4, prs, rfl, k3, e3, hpe, hpl, hps, hpc, hpd⟩
        rw [List.length_map] at hpl
        rw [List.length_map, List.take_length] at hpd
        refine ⟨_, _, prs, rfl, k3, e3, hpe, by omega, hps, fun z hz o ho h1 h2 h3 => ?_⟩
        rw [List.take_add_one, hone] at hz
        rcases List.mem_append.mp hz with h | h
        · exact hpc z h o ho h1 h2 h3
        · have e : z = one := by simpa using h
          subst e
          exact hpd o ho h1 h2 h3
    · rintro σ H2 ⟨y3, y4, prs, rfl, k2, e2, hpe, hpl, hps, hpc⟩
      rw [List.length_map, List.take_length] at hpc
      have k02 : Same H H2 := fun x o e => k2 _ _ (off e) (k1 _ _ e)
      have all : ∀ r, Clash ls (an.map (·.2)) r → r ∈ prs.map (·.2) := fun r hr' => by
        obtain ⟨z1, hz1, e1⟩ := List.mem_map.mp hr'.1
        obtain ⟨z2, hz2, e2⟩ := List.mem_map.mp hr'.2.1
        have := hpc z1 hz1 z2 hz2 (by rw [e1]) (by rw [e2]) (by rw [e1, e2]; exact hr'.2.2)
        rw [e1, e2] at this
        exact this
      refine w_seq ?_
      walk_at "g"
      refine w_ite (fun h0 => ?_) (fun h0 => ?_)
      · walk_at "g"
        rw [List.length_map] at h0
        have e : prs = [] := List.length_eq_zero_iff.mp (by omega)
        subst e
        exact q (fun u l h1 h2 h3 => by have := all (u, l) ⟨h1, h2, h3⟩; simp at this) _ k02
      · walk_at "g"
        rw [List.length_map] at h0
        refine w_minP (.of e2) hpe (fun z => h0 (by rw [z]; rfl)) fun z hz hmin => ?_
        refine qx z.2 z.1 _ ⟨hps z hz, fun r hr' => ?_⟩ k02 (hpe z hz)
        obtain ⟨r', hr1, rfl⟩ := List.mem_map.mp (all r hr')
        exact hmin r' hr1
end
local macro_rules | `(tactic| walk_at "e1") => `(tactic| first | exact Dat.int | exact Dat.leaf .non (by decide) | exact Dat.leaf (.bl _) (by decide) | exact Dat.leaf (.str _) (by decide) | (refine (by assumption : ∀ y ∈ (_ : List V), Dat _ _ y) _ ?_; simp))
local macro_rules | `(tactic| walk_at "el") => `(tactic| repeat (first | exact List.forall_mem_nil _ | refine List.forall_mem_cons.mpr ⟨by walk_at "e1", ?_⟩))
local macro_rules | `(tactic| walk_at "od") => `(tactic| repeat (first | walk_at "s" | refine w_newLD (by assumption) (by assumption) (by assumption) (by simp only [List.length_cons, List.length_nil]; decide) (fun p H' D hL kk => ?_) | refine w_newKD (by assumption) (by assumption) (by assumption) (fun p H' D hL kk => ?_) | refine w_dispD (by assumption) (by assumption) (by assumption) (fun p H' D hL kk => ?_) | refine w_newD (by assumption) (by assumption) (by assumption) (by walk_at "el") (by simp only [List.length_cons, List.length_nil]; decide) (fun p H' D hL kk => ?_)))
def spOdd : Sp := fun vs H Q _ => ∃ (d c : Addr) (n : Nat), vs = [.ref d] ∧ Deck H d c n ∧ n + 1 ≤ MOSTD ∧ ∀ H' y, Deck H' d c (n + 1) → KX d H H' → Dat 4 H' y → Q y H'
section
variable {P : Program} {w : World} {K : PySem.W.Frag} {mg : Str → Option Value} {base : Heap}
theorem ok_odd {f fM fD : Addr} {fd fdM fdD : FuncData} (T : Txt K mg) (F : Fun K "_law_odd" "_law_odd" s_law_odd f fd) (D_law_mixed : Df K mg "_law_mixed" s_law_mixed ["_law_cell", "_law_turn"] fM fdM)
    (D_law_draw : Df K mg "_law_draw" s_law_draw ["_law_deck_here", "_law_many"] fD fdD) : FnOk P w K mg base CX0 3 f fd ["_law_deck_here"] spOdd := by
  have G_law_draw : FnOk P w K mg base CX0 2 fD fdD ["_law_deck_here", "_law_many"] spDraw := ok_draw T D_law_draw.fn D_law_mixed
  refine F.ok sc_law_odd (fun vs H Q E h => ?_) (fun cdv A outer s H vs Q E hr h => ?_)
  · obtain ⟨d, c, n, rfl, _⟩ := h
    rfl
  · obtain ⟨d, c, n, rfl, D0, hn, q⟩ := h
    have hu := hu_of hr
    refine ⟨_,
      (pss_cons
        (ps_set (i := 1) sc_law_odd.nd rfl (.inl rfl) (pe_lst (pa_cons pe_non (pa_cons pe_bl (pa_cons pe_bl (pa_cons (pe_un un_neg pe_int) (pa_cons pe_int (pa_cons pe_int (pa_cons (pe_op op_pow pe_int pe_int) (pa_cons pe_str (pa_cons pe_str (pa_cons pe_str (pa_cons pe_str (pa_cons (pe_tup pa_nil) (pa_cons (pe_lst pa_nil) (pa_cons pe_dnewK (pa_cons (pe_tup (pa_cons pe_int pa_nil)) (pa_cons (pe_tup (pa_cons pe_int (pa_cons pe_int pa_nil))) (pa_cons (pe_lst (pa_cons pe_int pa_nil)) (pa_cons (pe_tup (pa_cons (pe_tup pa_nil) pa_nil)) pa_nil))))))))))))))))))))
      (pss_cons
        (ps_set (i := 1) sc_law_odd.nd rfl (.inl rfl) (pe_op op_cat (pv 1) (pe_lst (pa_cons (pe_tup (pa_cons (pe_tup pa_nil) (pa_cons (pe_tup pa_nil) pa_nil))) (pa_cons (pe_tup (pa_cons (pe_tup (pa_cons pe_int (pa_cons pe_int pa_nil))) (pa_cons (pe_tup (pa_cons (pe_tup (pa_cons pe_int (pa_cons pe_int pa_nil))) pa_nil)) pa_nil))) (pa_cons (pe_tup (pa_cons (pe_tup (pa_cons pe_int pa_nil)) (pa_cons (pe_tup (pa_cons pe_int pa_nil)) pa_nil))) (pa_cons (pe_disp (pps_cons pe_int pe_int pps_nil) (by rfl) (by rfl) (fun z => by cases z) (by decide)) (pa_cons (pe_tup (pa_cons (pe_tup (pa_cons pe_int (pa_cons (pe_tup (pa_cons pe_int pa_nil)) pa_nil))) pa_nil)) (pa_cons (pe_tup (pa_cons (pe_tup (pa_cons (pe_tup (pa_cons (pe_tup (pa_cons (pe_tup (pa_cons (pe_tup (pa_cons (pe_tup (pa_cons (pe_tup (pa_cons (pe_tup (pa_cons (pe_tup (pa_cons pe_int pa_nil)) pa_nil)) pa_nil)) pa_nil)) pa_nil)) pa_nil)) pa_nil)) pa_nil)) pa_nil)) pa_nil)) pa_nil)))))))))
      (pss_one
        (ps_ret (pe_ix (r := rIxL K) ix_list (pv 1) (pe_call G_law_draw (hr.mono (by omega)) (by rfl) D_law_draw.g D_law_draw.fn.kp D_law_draw.b .nil pass0 (pa_cons (pv 0) (pa_cons (pe_callB (r := rLen K) c_len (by rfl) T.n_len (by decide +kernel) (pa_cons (pv 1) pa_nil)) pa_nil))) (fun _ _ => rfl))))))
      , ?_⟩
    rw [show L2.start N_law_odd [V.ref d] = [some (.ref d), none] from rfl]
    have hL0 : ∀ y ∈ ([] : List V), Dat 4 H y := by simp
    have kk0 : Same H H := fun _ _ z => z
    walk_at "x"
    walk_at "od"
    refine w_newB (by assumption) (by assumption) (by assumption) (by walk_at "el") fun l1 H1 D1 hx1 e1 kA => ?_
    have hL1 : ∀ y ∈ ([] : List V), Dat 4 H1 y := by simp
    have kk1 : Same H1 H1 := fun _ _ z => z
    walk_at "od"
    refine w_newB (H0 := H1) (by assumption) (by assumption) (by assumption) (by walk_at "el") fun l2 H2 D2 hx2 e2 kB => ?_
    have e1' := kB _ _ e1
    have hx1' := fun y hy => (hx1 y hy).kd (KD.of kB)
    walk_at "g"
    refine w_cat e1' e2 (by simp only [List.length_cons, List.length_nil]; decide) fun l3 H3 h3 e3 k3 => ?_
    have hall : ∀ y ∈ _, Dat 4 H3 y := fun y hy => ((List.mem_append.mp hy).elim (hx1' y) (hx2 y)).kd (KD.of k3)
    have D3 := D2.kp (M := []) (Kp.of k3) (by simp) (by simp)
    obtain ⟨n3d, n3c⟩ := D2.ne1 h3
    have hbig := e3
    generalize hg : (_ ++ _ : List V) = big at e3 hall
    have hb24 : big.length = 24 := by rw [← hg]; rfl
    walk_at "g"
    refine w_draw D3 (by omega) (by omega) (by omega) fun r H4 hr4 D4 o4 => ?_
    have e4 := o4.get n3d e3
    obtain ⟨y, hy1, hy2⟩ := at_lt (xs := big) (i := (r : Int)) (by omega) hr4
    walk_at "g"
    exact q H4 y D4 (((KX.of kA).trans ((KX.of kB).trans (KX.of k3))).trans (D3.kx D4 o4)) ((hall y (List.mem_of_getElem? hy1)).kd (D3.kx D4 o4))
end
def spBent (k : Nat) : Sp := fun vs H Q _ => ∃ (d c : Addr) (n B : Nat) (x : V), vs = [.ref d, x, .int (k : Int)] ∧ Deck H d c n ∧ n + 4 * (k + 1) ≤ MOSTD ∧ Dat B H x ∧ 4 ≤ B ∧ B ≤ 1000 ∧ ∀ H' y, Deck H' d c (n + 4 * (k + 1)) → KX d H H' → Dat (B + 1) H' y → Q y H'
theorem cut_mem {xs : List V} {lo hi : Option Int} {y : V} (h : y ∈ cutV xs lo hi) : y ∈ xs := by
  unfold cutV at h
  exact List.mem_of_mem_drop (List.mem_of_mem_take h)
theorem cut_to (xs : List V) {i : Int} (h : 0 ≤ i) : (cutV xs none (some i)).length ≤ i.toNat := by
  show ((xs.drop 0).take ((if i < 0 then (i + (xs.length : Int)).toNat else min i.toNat xs.length) - 0)).length ≤ i.toNat
  rw [if_neg (by omega), List.length_take]
  omega
theorem cut_from (xs : List V) {i : Int} (h : 0 ≤ i) : (cutV xs (some i) none).length ≤ xs.length - i.toNat := by
  show ((xs.drop (if i < 0 then (i + (xs.length : Int)).toNat else min i.toNat xs.length)).take (xs.length - (if i < 0 then (i + (xs.length : Int)).toNat else min i.toNat xs.length))).length ≤ _
  rw [if_neg (by omega), List.length_take, List.length_drop]
  omega
theorem cut_some (xs : List V) {i j : Int} (h : 0 ≤ i) (h2 : 0 ≤ j) : (cutV xs (some i) (some j)).length ≤ j.toNat - i.toNat := by
  show ((xs.drop (if i < 0 then (i + (xs.length : Int)).toNat else min i.toNat xs.length)).take ((if j < 0 then (j + (xs.length : Int)).toNat else min j.toNat xs.length) - (if i < 0 then (i + (xs.length : Int)).toNat else min i.toNat xs.length))).length ≤ _
  rw [if_neg (by omega), if_neg (by omega), List.length_take, List.length_drop]
  omega
section
variable {P : Program} {w : World} {K : PySem.W.Frag} {mg : Str → Option Value} {base : Heap}
theorem ok_bent {f fM fD fI fO : Addr} {fd fdM fdD fdI fdO : FuncData} (T : Txt K mg) (D_law_bent : Df K mg "_law_bent" s_law_bent ["_law_deck_here", "_law_thing", "_law_depth"] f fd) (D_law_mixed : Df K mg "_law_mixed" s_law_mixed ["_law_cell", "_law_turn"] fM fdM)
    (D_law_draw : Df K mg "_law_draw" s_law_draw ["_law_deck_here", "_law_many"] fD fdD) (D_law_int : Df K mg "_law_int" s_law_int ["_law_thing"] fI fdI) (D_law_odd : Df K mg "_law_odd" s_law_odd ["_law_deck_here"] fO fdO) : ∀ k : Nat, FnOk P w K mg base CX0 (k + 4) f fd ["_law_deck_here", "_law_thing", "_law_depth"] (spBent k) := by
  intro k
  have G_law_draw : FnOk P w K mg base CX0 2 fD fdD ["_law_deck_here", "_law_many"] spDraw := ok_draw T D_law_draw.fn D_law_mixed
  have G_law_int : FnOk P w K mg base CX0 1 fI fdI ["_law_thing"] spWholeG := ok_law_intG T D_law_int.fn
  have G_law_odd : FnOk P w K mg base CX0 3 fO fdO ["_law_deck_here"] spOdd := ok_odd T D_law_odd.fn D_law_mixed D_law_draw
  induction k with
  | zero =>
    refine D_law_bent.fn.ok sc_law_bent (fun vs H Q E h => ?_) (fun cdv A outer s H vs Q E hr h => ?_)
    · obtain ⟨d, c, n, B, x, rfl, _⟩ := h
      rfl
    · obtain ⟨d, c, n, B, x, rfl, D0, hn, hx, hB4, hB, q⟩ := h
      refine ⟨_,
      (pss_cons
        (ps_set (i := 3) sc_law_bent.nd rfl (.inl rfl) (pe_call G_law_draw (hr.mono (by omega)) (by rfl) D_law_draw.g D_law_draw.fn.kp D_law_draw.b .nil pass0 (pa_cons (pv 0) (pa_cons pe_int pa_nil))))
      (pss_cons
        (ps_if (PW.pt (pw_or (pt_cmpR op_eq (pv 2) pe_int (nomark _)) (pw_or (pt_cmpR op_eq (pv 3) pe_int (nomark _)) (pw_or1 (pt_not (pt_val (pe_callB (r := rIsi K) call_isi (by rfl) T.n_isinstance (by decide +kernel) (pa_cons (pv 1) (pa_cons (pe_bltn (v := .ty "tuple") (u := .type "tuple") (by rfl) T.n_tuple (by decide +kernel) rfl) pa_nil)))))))))
          (pss_cons
            (ps_if (PW.pt (pw_and (pt_val (pe_call G_law_int (hr.mono (by omega)) (by rfl) D_law_int.g D_law_int.fn.kp D_law_int.b .nil pass0 (pa_cons (pv 1) pa_nil))) (pw_and1 (pt_cmpR op_gt (pv 3) pe_int (nomark _)))))
              (pss_one
                (ps_ret (pe_op op_add (pv 1) (pe_ix (r := rIxL K) ix_list (pe_lst (pa_cons (pe_un un_neg pe_int) (pa_cons pe_int (pa_cons pe_int (pa_cons (pe_un un_neg pe_int) (pa_cons (pe_op op_sub (pe_un un_neg (pv 1)) pe_int) pa_nil)))))) (pe_call G_law_draw (hr.mono (by omega)) (by rfl) D_law_draw.g D_law_draw.fn.kp D_law_draw.b .nil pass0 (pa_cons (pv 0) (pa_cons pe_int pa_nil))) (fun _ _ => rfl)))))
              pss_nil)
          (pss_one
            (ps_ret (pe_call G_law_odd (hr.mono (by omega)) (by rfl) D_law_odd.g D_law_odd.fn.kp D_law_odd.b .nil pass0 (pa_cons (pv 0) pa_nil)))))
          pss_nil)
      pss_never))
        , ?_⟩
      rw [show L2.start N_law_bent [V.ref d, x, V.int ((0 : Nat) : Int)] = [some (.ref d), some x, some (.int ((0 : Nat) : Int)), none, none] from rfl]
      walk_at "x"
      refine w_draw D0 (by omega) (by decide) (by decide) fun r H1 hr1 D1 o1 => ?_
      have kd1 := D0.kx D1 o1
      have hx1 := hx.kd kd1.toKD
      obtain ⟨ax, tx⟩ := hx1.ty
      walk_at "g"
      refine w_seq ?_
      walk_at "g"
      refine w_yes rfl ?_
      walk_at "g"
      refine w_seq ?_
      walk_at "g"
      refine ⟨x, ax, rfl, tx, ?_⟩
      walk_at "g"
      refine w_ite (fun hi => ?_) (fun hi => ?_)
      · obtain ⟨i, rfl⟩ := tx.isInt hi
        walk_at "g"
        refine w_ite (fun hr2 => ?_) (fun hr2 => ?_)
        · walk_at "g"
          refine w_new fun l H2 hl2 e2 k2 => ?_
          have D2 := D1.kp (M := []) (Kp.of k2) (by simp) (by simp)
          obtain ⟨nld, _⟩ := D1.ne1 hl2
          walk_at "g"
          refine w_draw D2 (by omega) (by decide) (by decide) fun r2 H3 hr3 D3 o3 => ?_
          have e3 := o3.get nld e2
          have hall : ∀ y ∈ ([V.int (-1), V.int 1, V.int 2, V.int (-2), V.int (-i - 1)] : List V), ∃ z, y = .int z := by
            intro y hy
            simp only [List.mem_cons, List.not_mem_nil, or_false] at hy
            rcases hy with rfl | rfl | rfl | rfl | rfl <;> exact ⟨_, rfl⟩
          obtain ⟨y, hy1, hy2⟩ := at_lt (xs := ([V.int (-1), V.int 1, V.int 2, V.int (-2), V.int (-i - 1)] : List V)) (i := (r2 : Int)) (by omega) hr3
          obtain ⟨z, rfl⟩ := hall y (List.mem_of_getElem? hy1)
          walk_at "g"
          exact q H3 _ (D3.mono (by omega)) (kd1.trans ((KX.of k2).trans (D2.kx D3 o3))) Dat.int
        · walk_at "g"
          refine ⟨d, c, _, rfl, D1, by omega, fun H2 y D2 k2 hy => q H2 y (D2.mono (by omega)) (kd1.trans k2) (hy.mono (by omega))⟩
      · walk_at "g"
        refine ⟨d, c, _, rfl, D1, by omega, fun H2 y D2 k2 hy => q H2 y (D2.mono (by omega)) (kd1.trans k2) (hy.mono (by omega))⟩
  | succ k ih =>
    have G_law_bent := ih
    refine D_law_bent.fn.ok sc_law_bent (fun vs H Q E h => ?_) (fun cdv A outer s H vs Q E hr h => ?_)
    · obtain ⟨d, c, n, B, x, rfl, _⟩ := h
      rfl
    · obtain ⟨d, c, n, B, x, rfl, D0, hn, hx, hB4, hB, q⟩ := h
      refine ⟨_,
      (pss_cons
        (ps_set (i := 3) sc_law_bent.nd rfl (.inl rfl) (pe_call G_law_draw (hr.mono (by omega)) (by rfl) D_law_draw.g D_law_draw.fn.kp D_law_draw.b .nil pass0 (pa_cons (pv 0) (pa_cons pe_int pa_nil))))
      (pss_cons
        (ps_if (PW.pt (pw_or (pt_cmpR op_eq (pv 2) pe_int (nomark _)) (pw_or (pt_cmpR op_eq (pv 3) pe_int (nomark _)) (pw_or1 (pt_not (pt_val (pe_callB (r := rIsi K) call_isi (by rfl) T.n_isinstance (by decide +kernel) (pa_cons (pv 1) (pa_cons (pe_bltn (v := .ty "tuple") (u := .type "tuple") (by rfl) T.n_tuple (by decide +kernel) rfl) pa_nil)))))))))
          (pss_cons
            (ps_if (PW.pt (pw_and (pt_val (pe_call G_law_int (hr.mono (by omega)) (by rfl) D_law_int.g D_law_int.fn.kp D_law_int.b .nil pass0 (pa_cons (pv 1) pa_nil))) (pw_and1 (pt_cmpR op_gt (pv 3) pe_int (nomark _)))))
              (pss_one
                (ps_ret (pe_op op_add (pv 1) (pe_ix (r := rIxL K) ix_list (pe_lst (pa_cons (pe_un un_neg pe_int) (pa_cons pe_int (pa_cons pe_int (pa_cons (pe_un un_neg pe_int) (pa_cons (pe_op op_sub (pe_un un_neg (pv 1)) pe_int) pa_nil)))))) (pe_call G_law_draw (hr.mono (by omega)) (by rfl) D_law_draw.g D_law_draw.fn.kp D_law_draw.b .nil pass0 (pa_cons (pv 0) (pa_cons pe_int pa_nil))) (fun _ _ => rfl)))))
              pss_nil)
          (pss_one
            (ps_ret (pe_call G_law_odd (hr.mono (by omega)) (by rfl) D_law_odd.g D_law_odd.fn.kp D_law_odd.b .nil pass0 (pa_cons (pv 0) pa_nil)))))
          pss_nil)
      (pss_cons
        (ps_if (pt_cmpR op_eq (pv 3) pe_int (nomark _))
          (pss_one
            (ps_ret (pe_callTy (r := rListOf K) c_listOf (by rfl) T.n_list (by decide +kernel) (pa_cons (pv 1) pa_nil))))
          pss_nil)
      (pss_cons
        (ps_if (pt_cmpR op_eq (pe_callB (r := rLen K) c_len (by rfl) T.n_len (by decide +kernel) (pa_cons (pv 1) pa_nil)) pe_int (nomark _))
          (pss_one
            (ps_ret (pe_tup (pa_cons (pe_call G_law_odd (hr.mono (by omega)) (by rfl) D_law_odd.g D_law_odd.fn.kp D_law_odd.b .nil pass0 (pa_cons (pv 0) pa_nil)) pa_nil))))
          pss_nil)
      (pss_cons
        (ps_set (i := 4) sc_law_bent.nd rfl (.inl rfl) (pe_call G_law_draw (hr.mono (by omega)) (by rfl) D_law_draw.g D_law_draw.fn.kp D_law_draw.b .nil pass0 (pa_cons (pv 0) (pa_cons (pe_callB (r := rLen K) c_len (by rfl) T.n_len (by decide +kernel) (pa_cons (pv 1) pa_nil)) pa_nil))))
      (pss_cons
        (ps_if (pt_cmpR op_eq (pv 3) pe_int (nomark _))
          (pss_one
            (ps_ret (pe_op op_catA (pe_slice sl_tupA (pv 1) po_none (po_some (pv 4))) (pe_slice sl_tupA (pv 1) (po_some (pe_op op_add (pv 4) pe_int)) po_none))))
          pss_nil)
      (pss_cons
        (ps_if (pt_cmpR op_eq (pv 3) pe_int (nomark _))
          (pss_one
            (ps_ret (pe_op op_catA (pe_slice sl_tupA (pv 1) po_none (po_some (pe_op op_add (pv 4) pe_int))) (pe_slice sl_tupA (pv 1) (po_some (pv 4)) po_none))))
          pss_nil)
      (pss_cons
        (ps_if (pt_cmpR op_eq (pv 3) pe_int (nomark _))
          (pss_one
            (ps_ret (pe_op op_catA (pe_op op_catA (pe_op op_catA (pe_slice sl_tupA (pv 1) po_none (po_some (pv 4))) (pe_slice sl_tupA (pv 1) (po_some (pe_op op_add (pv 4) pe_int)) (po_some (pe_op op_add (pv 4) pe_int)))) (pe_tup (pa_cons (pe_ix (r := rIxT K) ix_tup (pv 1) (pv 4) (fun _ _ => rfl)) pa_nil))) (pe_slice sl_tupA (pv 1) (po_some (pe_op op_add (pv 4) pe_int)) po_none))))
          pss_nil)
      (pss_one
        (ps_ret (pe_op op_catA (pe_op op_catA (pe_slice sl_tupA (pv 1) po_none (po_some (pv 4))) (pe_tup (pa_cons (pe_call G_law_bent (hr.mono (by omega)) (by rfl) D_law_bent.g D_law_bent.fn.kp D_law_bent.b .nil pass0 (pa_cons (pv 0) (pa_cons (pe_ix (r := rIxT K) ix_tup (pv 1) (pv 4) (fun _ _ => rfl)) (pa_cons (pe_op op_sub (pv 2) pe_int) pa_nil)))) pa_nil))) (pe_slice sl_tupA (pv 1) (po_some (pe_op op_add (pv 4) pe_int)) po_none))))))))))))
        , ?_⟩
      rw [show L2.start N_law_bent [V.ref d, x, V.int ((k + 1 : Nat) : Int)] = [some (.ref d), some x, some (.int ((k + 1 : Nat) : Int)), none, none] from rfl]
      walk_at "x"
      refine w_draw D0 (by omega) (by decide) (by decide) fun r H1 hr1 D1 o1 => ?_
      have kd1 := D0.kx D1 o1
      have hx1 := hx.kd kd1.toKD
      obtain ⟨ax, tx⟩ := hx1.ty
      walk_at "g"
      refine w_seq ?_
      walk_at "g"
      refine w_no (by omega) ?_
      walk_at "g"
      refine w_ite (fun hr0 => ?_) (fun hr0 => ?_)
      · walk_at "g"
        refine w_seq ?_
        walk_at "g"
        refine ⟨x, ax, rfl, tx, ?_⟩
        walk_at "g"
        refine w_ite (fun hi => ?_) (fun hi => ?_)
        · obtain ⟨i, rfl⟩ := tx.isInt hi
          walk_at "g"
          refine w_ite (fun hr2 => ?_) (fun hr2 => ?_)
          · walk_at "g"
            refine w_new fun l H2 hl2 e2 k2 => ?_
            have D2 := D1.kp (M := []) (Kp.of k2) (by simp) (by simp)
            obtain ⟨nld, _⟩ := D1.ne1 hl2
            walk_at "g"
            refine w_draw D2 (by omega) (by decide) (by decide) fun r2 H3 hr3 D3 o3 => ?_
            have e3 := o3.get nld e2
            have hall : ∀ y ∈ ([V.int (-1), V.int 1, V.int 2, V.int (-2), V.int (-i - 1)] : List V), ∃ z, y = .int z := by
              intro y hy
              simp only [List.mem_cons, List.not_mem_nil, or_false] at hy
              rcases hy with rfl | rfl | rfl | rfl | rfl <;> exact ⟨_, rfl⟩
            obtain ⟨y, hy1, hy2⟩ := at_lt (xs := ([V.int (-1), V.int 1, V.int 2, V.int (-2), V.int (-i - 1)] : List V)) (i := (r2 : Int)) (by omega) hr3
            obtain ⟨z, rfl⟩ := hall y (List.mem_of_getElem? hy1)
            walk_at "g"
            exact q H3 _ (D3.mono (by omega)) (kd1.trans ((KX.of k2).trans (D2.kx D3 o3))) Dat.int
          · walk_at "g"
            refine ⟨d, c, _, rfl, D1, by omega, fun H2 y D2 k2 hy => q H2 y (D2.mono (by omega)) (kd1.trans k2) (hy.mono (by omega))⟩
        · walk_at "g"
          refine ⟨d, c, _, rfl, D1, by omega, fun H2 y D2 k2 hy => q H2 y (D2.mono (by omega)) (kd1.trans k2) (hy.mono (by omega))⟩
      walk_at "g"
      rcases hx1.cases with ⟨a', ta, hne⟩ | ⟨p, xs, rfl, ep, hxl, hxs⟩
      · refine w_isTup ta ?_
        rw [decide_eq_false hne]
        walk_at "g"
        refine w_seq ?_
        walk_at "g"
        refine ⟨x, ax, rfl, tx, ?_⟩
        walk_at "g"
        refine w_ite (fun hi => ?_) (fun hi => ?_)
        · obtain ⟨i, rfl⟩ := tx.isInt hi
          walk_at "g"
          refine w_ite (fun hr2 => ?_) (fun hr2 => ?_)
          · walk_at "g"
            refine w_new fun l H2 hl2 e2 k2 => ?_
            have D2 := D1.kp (M := []) (Kp.of k2) (by simp) (by simp)
            obtain ⟨nld, _⟩ := D1.ne1 hl2
            walk_at "g"
            refine w_draw D2 (by omega) (by decide) (by decide) fun r2 H3 hr3 D3 o3 => ?_
            have e3 := o3.get nld e2
            have hall : ∀ y ∈ ([V.int (-1), V.int 1, V.int 2, V.int (-2), V.int (-i - 1)] : List V), ∃ z, y = .int z := by
              intro y hy
              simp only [List.mem_cons, List.not_mem_nil, or_false] at hy
              rcases hy with rfl | rfl | rfl | rfl | rfl <;> exact ⟨_, rfl⟩
            obtain ⟨y, hy1, hy2⟩ := at_lt (xs := ([V.int (-1), V.int 1, V.int 2, V.int (-2), V.int (-i - 1)] : List V)) (i := (r2 : Int)) (by omega) hr3
            obtain ⟨z, rfl⟩ := hall y (List.mem_of_getElem? hy1)
            walk_at "g"
            exact q H3 _ (D3.mono (by omega)) (kd1.trans ((KX.of k2).trans (D2.kx D3 o3))) Dat.int
          · walk_at "g"
            refine ⟨d, c, _, rfl, D1, by omega, fun H2 y D2 k2 hy => q H2 y (D2.mono (by omega)) (kd1.trans k2) (hy.mono (by omega))⟩
        · walk_at "g"
          refine ⟨d, c, _, rfl, D1, by omega, fun H2 y D2 k2 hy => q H2 y (D2.mono (by omega)) (kd1.trans k2) (hy.mono (by omega))⟩
      walk_at "g"
      have lsz : ∀ m : Nat, m ≤ 3000 → m ≤ sizeLine := fun m hm => Nat.le_trans hm (by decide)
      refine w_seq ?_
      walk_at "g"
      refine w_ite (fun hr1' => ?_) (fun hr1' => ?_)
      · walk_at "g"
        refine w_listT (.of ep) fun l H2 hl2 e2 k2 => ?_
        exact q H2 _ ((D1.kp (M := []) (Kp.of k2) (by simp) (by simp)).mono (by omega)) (kd1.trans (KX.of k2)) (.leaf (.lst e2) (by decide))
      walk_at "g"
      refine w_seq ?_
      walk_at "g"
      refine w_ite (fun hl0 => ?_) (fun hl0 => ?_)
      · walk_at "g"
        refine ⟨d, c, _, rfl, D1, by omega, fun H2 y D2 k2 hy => ?_⟩
        walk_at "g"
        refine w_new fun o H3 ho e3 k3 => ?_
        refine q H3 _ ((D2.kp (M := []) (Kp.of k3) (by simp) (by simp)).mono (by omega)) (kd1.trans (k2.trans (KX.of k3))) (.tup e3 (by simp only [List.length_cons, List.length_nil]; omega) fun z hz => ?_)
        have e : z = y := by simpa using hz
        subst e
        exact (hy.kd (KD.of k3)).mono (by omega)
      walk_at "g"
      refine w_draw D1 (by omega) (by omega) (by omega) fun at' H2 hat D2 o2 => ?_
      have kd2 := D1.kx D2 o2
      have ep2 := kd2.t _ _ ep
      have hxs2 : ∀ y ∈ xs, Dat (B + 1) H2 y := fun y hy => ((hxs y hy).kd kd2).mono (by omega)
      have hat' : at' < xs.length := by omega
      walk_at "g"
      refine w_seq ?_
      walk_at "g"
      refine w_ite (fun hr2 => ?_) (fun hr2 => ?_)
      · walk_at "g"
        refine w_slAt ep2 fun a1 H3 e3 k3 => ?_
        have ep3 := k3 _ _ ep2
        walk_at "g"
        refine w_slAt ep3 fun a2 H4 e4 k4 => ?_
        have e3' := k4 _ _ e3
        have l1 := cut_to xs (i := (at' : Int)) (by omega)
        have l2 := cut_from xs (i := (at' : Int) + 1) (by omega)
        walk_at "g"
        refine w_catAt e3' e4 (lsz _ (by omega)) fun a3 H5 e5 k5 => ?_
        have k25 : Same H2 H5 := Same.trans k3 (Same.trans k4 k5)
        refine q H5 _ ((D2.kp (M := []) (Kp.of k25) (by simp) (by simp)).mono (by omega)) (kd1.trans (kd2.trans (KX.of k25))) (.tup e5 (by rw [List.length_append]; omega) fun z hz => ?_)
        rcases List.mem_append.mp hz with h | h
        · exact (hxs2 z (cut_mem h)).kd (KD.of k25)
        · exact (hxs2 z (cut_mem h)).kd (KD.of k25)
      walk_at "g"
      refine w_seq ?_
      walk_at "g"
      refine w_ite (fun hr3 => ?_) (fun hr3 => ?_)
      · walk_at "g"
        refine w_slAt ep2 fun a1 H3 e3 k3 => ?_
        have ep3 := k3 _ _ ep2
        walk_at "g"
        refine w_slAt ep3 fun a2 H4 e4 k4 => ?_
        have e3' := k4 _ _ e3
        have l1 := cut_to xs (i := (at' : Int) + 1) (by omega)
        have l2 := cut_from xs (i := (at' : Int)) (by omega)
        walk_at "g"
        refine w_catAt e3' e4 (lsz _ (by omega)) fun a3 H5 e5 k5 => ?_
        have k25 : Same H2 H5 := Same.trans k3 (Same.trans k4 k5)
        refine q H5 _ ((D2.kp (M := []) (Kp.of k25) (by simp) (by simp)).mono (by omega)) (kd1.trans (kd2.trans (KX.of k25))) (.tup e5 (by rw [List.length_append]; omega) fun z hz => ?_)
        rcases List.mem_append.mp hz with h | h
        · exact (hxs2 z (cut_mem h)).kd (KD.of k25)
        · exact (hxs2 z (cut_mem h)).kd (KD.of k25)
      walk_at "g"
      refine w_seq ?_
      walk_at "g"
      obtain ⟨u, hu1, hu2⟩ := at_lt (xs := xs) (i := (at' : Int)) (by omega) (by omega)
      have hum : u ∈ xs := List.mem_of_getElem? hu1
      refine w_ite (fun hr4 => ?_) (fun hr4 => ?_)
      · walk_at "g"
        refine w_slAt ep2 fun a1 H3 e3 k3 => ?_
        have ep3 := k3 _ _ ep2
        walk_at "g"
        refine w_slAt ep3 fun a2 H4 e4 k4 => ?_
        have e3' := k4 _ _ e3
        have l1 := cut_to xs (i := (at' : Int)) (by omega)
        have l2 := cut_some xs (i := (at' : Int) + 1) (j := (at' : Int) + 2) (by omega) (by omega)
        walk_at "g"
        refine w_catAt e3' e4 (lsz _ (by omega)) fun a3 H5 e5 k5 => ?_
        have k25 : Same H2 H5 := Same.trans k3 (Same.trans k4 k5)
        have ep5 := k25 _ _ ep2
        walk_at "g"
        refine w_new fun a4 H6 h6 e6 k6 => ?_
        have e5' := k6 _ _ e5
        walk_at "g"
        refine w_catAt e5' e6 (lsz _ (by rw [List.length_append]; simp only [List.length_cons, List.length_nil]; omega)) fun a5 H7 e7 k7 => ?_
        have k27 : Same H2 H7 := Same.trans k25 (Same.trans k6 k7)
        have ep7 := k27 _ _ ep2
        walk_at "g"
        refine w_slAt ep7 fun a6 H8 e8 k8 => ?_
        have e7' := k8 _ _ e7
        have l3 := cut_from xs (i := (at' : Int) + 2) (by omega)
        walk_at "g"
        refine w_catAt e7' e8 (lsz _ (by rw [List.length_append, List.length_append]; simp only [List.length_cons, List.length_nil]; omega)) fun a7 H9 e9 k9 => ?_
        have k29 : Same H2 H9 := Same.trans k27 (Same.trans k8 k9)
        refine q H9 _ ((D2.kp (M := []) (Kp.of k29) (by simp) (by simp)).mono (by omega)) (kd1.trans (kd2.trans (KX.of k29))) (.tup e9 (by rw [List.length_append, List.length_append, List.length_append]; simp only [List.length_cons, List.length_nil]; omega) fun z hz => ?_)
        have hz' : z ∈ xs := by
          rcases List.mem_append.mp hz with h | h
          · rcases List.mem_append.mp h with h | h
            · rcases List.mem_append.mp h with h | h
              · exact cut_mem h
              · exact cut_mem h
            · have e : z = u := by simpa using h
              subst e
              exact hum
          · exact cut_mem h
        exact (hxs2 z hz').kd (KD.of k29)
      walk_at "g"
      refine w_slAt ep2 fun a1 H3 e3 k3 => ?_
      have ep3 := k3 _ _ ep2
      have l1 := cut_to xs (i := (at' : Int)) (by omega)
      walk_at "g"
      refine ⟨d, c, _, B, u, by rw [show (((k + 1 : Nat) : Int) - 1) = (k : Int) by omega]; rfl, D2.kp (M := []) (Kp.of k3) (by simp) (by simp), by omega, ((hxs u hum).kd kd2).kd (KD.of k3), hB4, hB, fun H4 y D4 k4 hy => ?_⟩
      have e3' := k4.t _ _ e3
      walk_at "g"
      refine w_new fun a4 H6 h6 e6 k6 => ?_
      have e5' := k6 _ _ e3'
      walk_at "g"
      refine w_catAt e5' e6 (lsz _ (by simp only [List.length_cons, List.length_nil]; omega)) fun a5 H7 e7 k7 => ?_
      have k47 : Same H4 H7 := Same.trans k6 k7
      have ep7 := k47 _ _ (k4.t _ _ ep3)
      walk_at "g"
      refine w_slAt ep7 fun a6 H8 e8 k8 => ?_
      have e7' := k8 _ _ e7
      have l3 := cut_from xs (i := (at' : Int) + 1) (by omega)
      walk_at "g"
      refine w_catAt e7' e8 (lsz _ (by rw [List.length_append]; simp only [List.length_cons, List.length_nil]; omega)) fun a7 H9 e9 k9 => ?_
      have k49 : Same H4 H9 := Same.trans k47 (Same.trans k8 k9)
      refine q H9 _ ((D4.kp (M := []) (Kp.of k49) (by simp) (by simp)).mono (by omega)) (kd1.trans (kd2.trans ((KX.of k3).trans (k4.trans (KX.of k49))))) (.tup e9 (by rw [List.length_append, List.length_append]; simp only [List.length_cons, List.length_nil]; omega) fun z hz => ?_)
      have kk : KX d H2 H9 := (KX.of k3).trans (k4.trans (KX.of k49))
      rcases List.mem_append.mp hz with h | h
      · rcases List.mem_append.mp h with h | h
        · exact (hxs2 z (cut_mem h)).kd kk
        · have e : z = y := by simpa using h
          subst e
          exact hy.kd (KD.of k49)
      · exact (hxs2 z (cut_mem h)).kd kk
end
def spTruth : Sp := fun vs H Q _ => ∃ (a b : Bool), vs = [.bl a, .bl b] ∧ Q (.bl (decide (a = b))) H
def spLWalk : Sp := fun vs H Q _ => ∃ (d c t : Addr) (n : Nat) (v : Int) (ns : List Int) (ps : List (Addr × Int × Int)), vs = [.ref d, .ref t, .int v] ∧ Deck H d c n ∧ n + 5 ≤ MOSTD ∧ ShAt H t ns ps ∧ ps.length ≤ 100000 ∧
  ∀ H' r cs, Deck H' d c (n + 5) → Kp [d] H H' → VL H' r cs → cs.length ≤ 6 → Q (.ref r) H'
def spMadeUp : Sp := fun vs H Q _ => ∃ (d c t : Addr) (n : Nat) (ns : List Int) (ps : List (Addr × Int × Int)), vs = [.ref d, .ref t] ∧ Deck H d c n ∧ n + 1000 ≤ MOSTD ∧ ShAt H t ns ps ∧ ps.length ≤ 100000 ∧ ns.length < 64 ∧
  ∀ H' r, Deck H' d c (n + 1000) → Kp [d] H H' → Dat 64 H' (.ref r) → Q (.ref r) H'
theorem dat_ints {B : Nat} {H : Hp} {p : Addr} {ns : List Int} (e : H p = some (.tup (ns.map V.int))) (h : ns.length ≤ B) : Dat B H (.ref p) := .tup e (by rw [List.length_map]; exact h) fun y hy => by
  obtain ⟨i, _, rfl⟩ := List.mem_map.mp hy
  exact Dat.int
theorem fm_ints {α : Type} (f : α → Option Int) : ∀ l : List α, l.filterMap (fun x => (f x).map V.int) = (l.filterMap f).map V.int
  | [] => rfl
  | x :: l => by
    rw [List.filterMap_cons, List.filterMap_cons, fm_ints f l]
    cases f x with
    | none => rfl
    | some y => rfl
section
variable {P : Program} {w : World} {K : PySem.W.Frag} {mg : Str → Option Value} {base : Heap}
theorem ok_truth {f : Addr} {fd : FuncData} (T : Txt K mg) (F : Fun K "_law_truth" "_law_truth" s_law_truth f fd) : FnOk P w K mg base CX0 1 f fd ["_law_found", "_law_due"] spTruth := by
  refine F.ok sc_law_truth (fun vs H Q E h => ?_) (fun cdv A outer s H vs Q E hr h => ?_)
  · obtain ⟨a, b, rfl, _⟩ := h
    rfl
  · obtain ⟨a, b, rfl, q⟩ := h
    refine ⟨_,
      (pss_one
        (ps_ret (pe_and (pe_callB (r := rIsi K) call_isi (by rfl) T.n_isinstance (by decide +kernel) (pa_cons (pv 0) (pa_cons (pe_bltn (v := .ty "bool") (u := .type "bool") (by rfl) T.n_bool (by decide +kernel) rfl) pa_nil))) (pe_one (pe_cmpR op_eq (pv 0) (pv 1) (nomark _))))))
      , ?_⟩
    rw [show L2.start N_law_truth [V.bl a, V.bl b] = [some (.bl a), some (.bl b)] from rfl]
    walk_at "x"
    exact q
theorem ok_walk {f fM fD : Addr} {fd fdM fdD : FuncData} (T : Txt K mg) (F : Fun K "_law_walk" "_law_walk" s_law_walk f fd) (D_law_mixed : Df K mg "_law_mixed" s_law_mixed ["_law_cell", "_law_turn"] fM fdM)
    (D_law_draw : Df K mg "_law_draw" s_law_draw ["_law_deck_here", "_law_many"] fD fdD) : FnOk P w K mg base CX0 3 f fd ["_law_deck_here", "_law_web", "_law_version"] spLWalk := by
  have G_law_draw : FnOk P w K mg base CX0 2 fD fdD ["_law_deck_here", "_law_many"] spDraw := ok_draw T D_law_draw.fn D_law_mixed
  refine F.ok sc_law_walk (fun vs H Q E h => ?_) (fun cdv A outer s H vs Q E hr h => ?_)
  · obtain ⟨d, c, t, n, v, ns, ps, rfl, _⟩ := h
    rfl
  · obtain ⟨d, c, t, n, v, ns, ps, rfl, D0, hn, hS, hpl, q⟩ := h
    refine ⟨_,
      (pss_cons
        (ps_set (i := 3) sc_law_walk.nd rfl (.inr rfl) (pe_lst (pa_cons (pv 2) pa_nil)))
      (pss_cons
        (ps_for PassesOwn.never rfl (pi_range1 (by rfl) T.n_range (pa_cons (pe_call G_law_draw (hr.mono (by omega)) (by rfl) D_law_draw.g D_law_draw.fn.kp D_law_draw.b .nil pass0 (pa_cons (pv 0) (pa_cons pe_int pa_nil))) pa_nil)) (pg_name (i := 4) sc_law_walk.nd rfl (.inl rfl))
          (pss_cons
            (ps_setLc (i := 5) (own := [("_law_two", 6)]) (g := (gName 6)) rfl sc_law_walk.nd rfl rfl (sw_true rfl rfl rfl (by decide +kernel)) (pi_tup (pe_ix (r := rIxT K) ix_tup (pv 1) pe_int (fun _ _ => rfl))) (blkOk_by (own := [("_law_two", 6)]) (N := N_law_walk) (sc := defScope s_law_walk) (by decide +kernel)) (fun _ _ _ _ _ => (pg_name (i := 6) sc_law_walk.nd rfl (.inl rfl))) (fun _ _ _ _ _ => (pts_one (pt_cmpR op_eq (pe_ix (r := rIxT K) ix_tup (pv 6) pe_int (fun _ _ => rfl)) (pe_ix (r := rIxL K) ix_list (pv 3) (pe_un un_neg pe_int) (fun _ _ => rfl)) (nomark _)))) (fun _ _ _ _ _ => (pe_ix (r := rIxT K) ix_tup (pv 6) pe_int (fun _ _ => rfl))))
          (pss_one
            (ps_if (pt_cmpR op_gt (pe_callB (r := rLen K) c_len (by rfl) T.n_len (by decide +kernel) (pa_cons (pv 5) pa_nil)) pe_int (nomark _))
              (pss_one
                (ps_expr (pe_bm PySem.F.plainAttrs_list PySem.F.slot_list_append PySem.F.type_list_append mt_append (pv 3) (pa_cons (pe_ix (r := rIxL K) ix_list (pv 5) (pe_call G_law_draw (hr.mono (by omega)) (by rfl) D_law_draw.g D_law_draw.fn.kp D_law_draw.b .nil pass0 (pa_cons (pv 0) (pa_cons (pe_callB (r := rLen K) c_len (by rfl) T.n_len (by decide +kernel) (pa_cons (pv 5) pa_nil)) pa_nil))) (fun _ _ => rfl)) pa_nil))))
              pss_nil))))
      (pss_one
        (ps_ret (pe_callTy (r := rTupOf K) c_tupOf (by rfl) T.n_tuple (by decide +kernel) (pa_cons (pv 3) pa_nil))))))
      , ?_⟩
    rw [show L2.start N_law_walk [V.ref d, V.ref t, V.int v] = [some (.ref d), some (.ref t), some (.int v), none, none, none, none] from rfl]
    walk_at "x"
    refine w_new fun b H1 hb eb k1 => ?_
    have D1 := D0.kp (M := []) (Kp.of k1) (by simp) (by simp)
    obtain ⟨nbd, nbc⟩ := D0.ne1 hb
    obtain ⟨ta, tb, et, ea, el, ele⟩ := hS.kt (KT.of k1)
    obtain ⟨⟨dx, ed⟩, _⟩ := D1.at
    have tup : ∀ {H' : Hp}, Kp [d, b] H1 H' → KT H1 H' := fun {H'} k => KT.kp k (by
      intro x hx
      have hx' : x = d ∨ x = b := by simpa using hx
      rcases hx' with rfl | rfl
      · exact ⟨_, ed⟩
      · exact ⟨_, eb⟩)
    walk_at "g"
    refine w_draw D1 (by omega) (by decide) (by decide) fun m H2 hm D2 o2 => ?_
    walk_at "g"
    refine lp_range (fun i σ H' => ∃ (y4 y5 : Option V) (cs : List Int), σ = [some (.ref d), some (.ref t), some (.int v), some (.ref b), y4, y5, none] ∧ Deck H' d c (n + 1 + i) ∧ Kp [d, b] H1 H' ∧ H' b = some (.lst (cs.map V.int)) ∧ cs ≠ [] ∧ cs.length ≤ 1 + i) ?_ ?_ ?_
    · exact ⟨_, _, [v], rfl, D2, o2.kp (by simp), o2.get nbd eb, by simp, by simp⟩
    · rintro i σ H3 hi ⟨y4, y5, cs, rfl, D3, k3, e3, hne, hcl⟩
      have et3 := tup k3 _ _ et
      have el3 := tup k3 _ _ el
      have ele3 : ∀ z ∈ ps, H3 z.1 = some (.tup [.int z.2.1, .int z.2.2]) := fun z hz => tup k3 _ _ (ele z hz)
      obtain ⟨u, l, hu1, hl1⟩ := ends_of hne
      have al := last_at hl1
      walk_at "g"
      refine lcp_sel (walk_tup (K := K) (a := tb) (xs := ps.map fun q => .ref q.1)) [] (fun j => (ps[j]?.bind fun q => if q.2.1 = l then some q.2.2 else none).map V.int) (by rw [List.length_map]; omega) (fun H' k => .of (k _ _ (by simp) el3)) ?_ (by simp) ?_
      · rintro j x H4 H5 Rr R0 hj k4 ⟨rfl, hx⟩ g1 g2
        obtain ⟨z, hz, rfl⟩ := map_at hx
        have ez := k4 _ _ (by simp) (ele3 z (List.mem_of_getElem? hz))
        have e4 := k4 _ _ (by simp) e3
        refine w_name ⟨rfl, ?_⟩
        walk_at "g"
        refine w_ite (fun hin => ?_) (fun hin => ?_)
        · walk_at "g"
          exact g1 _ _ (by rw [hz, Option.bind_some, if_pos hin]; rfl) Kp.refl
        · exact g2 _ (by rw [hz, Option.bind_some, if_neg hin]; rfl) Kp.refl
      intro Lw H4 hLw k4' eLw
      have k4 := k4'.same
      rw [List.length_map, fm_ints] at eLw
      have hlen : ((List.range ps.length).filterMap fun j => ps[j]?.bind fun q => if q.2.1 = l then some q.2.2 else none).length ≤ 100000 := Nat.le_trans (List.length_filterMap_le _ _) (by rw [List.length_range]; exact hpl)
      generalize ((List.range ps.length).filterMap fun j => ps[j]?.bind fun q => if q.2.1 = l then some q.2.2 else none) = lows at eLw hlen
      have D4 := D3.kp (M := []) (Kp.of k4) (by simp) (by simp)
      have e4 := k4 _ _ e3
      have k14 : Kp [d, b] H1 H4 := k3.trans (Kp.of k4)
      walk_at "g"
      refine w_ite (fun h0 => ?_) (fun h0 => ?_)
      · walk_at "g"
        refine w_draw D4 (by omega) (by omega) (by rw [List.length_map]; omega) fun r H5 hr5 D5 o5 => ?_
        obtain ⟨nLd, _⟩ := D3.ne1 hLw
        have eL5 := o5.get nLd eLw
        have e5 := o5.get nbd e4
        obtain ⟨y, hy1, hy2⟩ := at_lt (xs := lows.map V.int) (i := (r : Int)) (by omega) hr5
        obtain ⟨z, hz, rfl⟩ := map_at hy1
        walk_at "g"
        refine w_app e5 (by rw [List.length_map]; exact small1000 (by omega)) fun H6 e6 o6 => ?_
        refine ⟨_, _, cs ++ [z], rfl, (D5.kp (M := [b]) (o6.kp (by simp)) (by simpa using nbd.symm) (by simpa using nbc.symm)).mono (by omega), k14.trans ((o5.kp (by simp)).trans (o6.kp (by simp))), by rw [e6, List.map_append]; rfl, by simp, by rw [List.length_append]; simp only [List.length_cons, List.length_nil]; omega⟩
      · walk_at "g"
        exact ⟨_, _, cs, rfl, D4.mono (by omega), k14, e4, hne, by omega⟩
    · rintro σ H3 ⟨y4, y5, cs, rfl, D3, k3, e3, hne, hcl⟩
      walk_at "g"
      refine w_tupL (.of e3) fun r H4 hr4 e4 k4 => ?_
      refine q H4 r cs ((D3.kp (M := []) (Kp.of k4) (by simp) (by simp)).mono (by omega)) (fun x o hx e => ?_) e4 (by omega)
      exact k4 _ _ (k3 _ _ (by
        have : x ≠ b := ne_of_none e hb
        simpa [this] using hx) (k1 _ _ e))
theorem ok_madeup {f fM fD fW : Addr} {fd fdM fdD fdW : FuncData} (T : Txt K mg) (F : Fun K "_law_made_up" "_law_made_up" s_law_made_up f fd) (D_law_mixed : Df K mg "_law_mixed" s_law_mixed ["_law_cell", "_law_turn"] fM fdM)
    (D_law_draw : Df K mg "_law_draw" s_law_draw ["_law_deck_here", "_law_many"] fD fdD) (D_law_walk : Df K mg "_law_walk" s_law_walk ["_law_deck_here", "_law_web", "_law_version"] fW fdW) : FnOk P w K mg base CX0 4 f fd ["_law_deck_here", "_law_web"] spMadeUp := by
  have G_law_draw : FnOk P w K mg base CX0 2 fD fdD ["_law_deck_here", "_law_many"] spDraw := ok_draw T D_law_draw.fn D_law_mixed
  have G_law_walk : FnOk P w K mg base CX0 3 fW fdW ["_law_deck_here", "_law_web", "_law_version"] spLWalk := ok_walk T D_law_walk.fn D_law_mixed D_law_draw
  refine F.ok sc_law_made_up (fun vs H Q E h => ?_) (fun cdv A outer s H vs Q E hr h => ?_)
  · obtain ⟨d, c, t, n, ns, ps, rfl, _⟩ := h
    rfl
  · obtain ⟨d, c, t, n, ns, ps, rfl, D0, hn, hS, hpl, hl, q⟩ := h
    refine ⟨_,
      (pss_cons
        (ps_set (i := 2) sc_law_made_up.nd rfl (.inl rfl) (pe_lst pa_nil))
      (pss_cons
        (ps_for PassesOwn.never rfl (pi_tup (pe_ix (r := rIxT K) ix_tup (pv 1) pe_int (fun _ _ => rfl))) (pg_name (i := 3) sc_law_made_up.nd rfl (.inl rfl))
          (pss_cons
            (ps_set (i := 4) sc_law_made_up.nd rfl (.inl rfl) (pe_ix (r := rIxT K) ix_tup (pe_ix (r := rIxT K) ix_tup (pv 1) pe_int (fun _ _ => rfl)) (pe_call G_law_draw (hr.mono (by omega)) (by rfl) D_law_draw.g D_law_draw.fn.kp D_law_draw.b .nil pass0 (pa_cons (pv 0) (pa_cons (pe_callB (r := rLen K) c_len (by rfl) T.n_len (by decide +kernel) (pa_cons (pe_ix (r := rIxT K) ix_tup (pv 1) pe_int (fun _ _ => rfl)) pa_nil)) pa_nil))) (fun _ _ => rfl)))
          (pss_cons
            (ps_set (i := 5) sc_law_made_up.nd rfl (.inl rfl) (pe_call G_law_walk (hr.mono (by omega)) (by rfl) D_law_walk.g D_law_walk.fn.kp D_law_walk.b .nil pass0 (pa_cons (pv 0) (pa_cons (pv 1) (pa_cons (pv 4) pa_nil)))))
          (pss_cons
            (ps_if (pt_cmpR op_eq (pe_call G_law_draw (hr.mono (by omega)) (by rfl) D_law_draw.g D_law_draw.fn.kp D_law_draw.b .nil pass0 (pa_cons (pv 0) (pa_cons pe_int pa_nil))) pe_int (nomark _))
              (pss_one
                (ps_set (i := 5) sc_law_made_up.nd rfl (.inl rfl) (pe_call G_law_walk (hr.mono (by omega)) (by rfl) D_law_walk.g D_law_walk.fn.kp D_law_walk.b .nil pass0 (pa_cons (pv 0) (pa_cons (pv 1) (pa_cons (pv 3) pa_nil))))))
              pss_nil)
          (pss_one
            (ps_expr (pe_bm PySem.F.plainAttrs_list PySem.F.slot_list_append PySem.F.type_list_append mt_append (pv 2) (pa_cons (pe_tup (pa_cons (pe_ix (r := rIxL K) ix_list (pe_lst (pa_cons pe_str (pa_cons pe_str pa_nil))) (pe_call G_law_draw (hr.mono (by omega)) (by rfl) D_law_draw.g D_law_draw.fn.kp D_law_draw.b .nil pass0 (pa_cons (pv 0) (pa_cons pe_int pa_nil))) (fun _ _ => rfl)) (pa_cons (pv 5) pa_nil))) pa_nil))))))))
      (pss_one
        (ps_ret (pe_callTy (r := rTupOf K) c_tupOf (by rfl) T.n_tuple (by decide +kernel) (pa_cons (pv 2) pa_nil))))))
      , ?_⟩
    rw [show L2.start N_law_made_up [V.ref d, V.ref t] = [some (.ref d), some (.ref t), none, none, none, none] from rfl]
    walk_at "x"
    refine w_new fun b H1 hb eb k1 => ?_
    have D1 := D0.kp (M := []) (Kp.of k1) (by simp) (by simp)
    obtain ⟨nbd, nbc⟩ := D0.ne1 hb
    have hS1 := hS.kt (KT.of k1)
    obtain ⟨ta, tb, et, ea, el, ele⟩ := id hS1
    have ea' : H1 ta = some (.tup (ns.map V.int)) := ea
    obtain ⟨⟨dx, ed⟩, _⟩ := D1.at
    have tup : ∀ {H' : Hp}, Kp [d, b] H1 H' → KT H1 H' := fun {H'} k => KT.kp k (by
      intro x hx
      have hx' : x = d ∨ x = b := by simpa using hx
      rcases hx' with rfl | rfl
      · exact ⟨_, ed⟩
      · exact ⟨_, eb⟩)
    walk_at "g"
    refine lp_tup (xs := ns.map V.int) (fun i σ H' => ∃ (y3 y4 y5 : Option V) (ys : List V), σ = [some (.ref d), some (.ref t), some (.ref b), y3, y4, y5] ∧ Deck H' d c (n + 14 * i) ∧ Kp [d, b] H1 H' ∧ H' b = some (.lst ys) ∧ ys.length = i ∧ ∀ y ∈ ys, ∃ p w a cs, y = .ref p ∧ H' p = some (.tup [.str w, .ref a]) ∧ VL H' a cs ∧ cs.length ≤ 6) ?_ ?_ ?_ ?_
    · exact ⟨_, _, _, [], rfl, D1, Kp.refl, eb, rfl, by simp⟩
    · rintro i σ H' _ ⟨_, _, _, _, _, _, k, _⟩
      exact .of (tup k _ _ ea')
    · rintro i y σ H2 hy ⟨y3, y4, y5, ys, rfl, D2, k2, e2, hyl, hys⟩
      obtain ⟨v, hv, rfl⟩ := map_at hy
      have hi : i < ns.length := (List.getElem?_eq_some_iff.mp hv).1
      have et2 := tup k2 _ _ et
      have ea2 := tup k2 _ _ ea'
      walk_at "g"
      refine w_draw D2 (by omega) (by rw [List.length_map]; omega) (by rw [List.length_map]; omega) fun r H3 hr3 D3 o3 => ?_
      have k3 : Kp [d, b] H1 H3 := k2.trans (o3.kp (by simp))
      have e3 := o3.get nbd e2
      have ea3 := tup k3 _ _ ea'
      have et3 := tup k3 _ _ et
      obtain ⟨y, hy1, hy2⟩ := at_lt (xs := ns.map V.int) (i := (r : Int)) (by omega) hr3
      obtain ⟨up, hup, rfl⟩ := map_at hy1
      walk_at "g"
      refine ⟨d, c, t, _, up, ns, ps, rfl, D3, by omega, hS1.kt (tup k3), hpl, fun H4 r4 cs4 D4 k4 e4 hc4 => ?_⟩
      have k14 : Kp [d, b] H1 H4 := k3.trans (k4.mono (by simp))
      have eb4 := k4 _ _ (by simpa using nbd) e3
      obtain ⟨⟨dx3, ed3⟩, _⟩ := D3.at
      walk_at "g"
      refine w_seqJ (fun σ' H' => ∃ (wa : Addr) (cs : List Int), σ' = [some (.ref d), some (.ref t), some (.ref b), some (.int v), some (.int up), some (.ref wa)] ∧ Deck H' d c (n + 14 * i + 12) ∧ Kp [d] H4 H' ∧ VL H' wa cs ∧ cs.length ≤ 6) ?_ ?_
      rotate_left
      · intro U hU
        walk_at "g"
        refine w_draw D4 (by omega) (by decide) (by decide) fun r5 H5 hr5 D5 o5 => ?_
        have k15 : Kp [d, b] H1 H5 := k14.trans (o5.kp (by simp))
        obtain ⟨⟨dx4, ed4⟩, _⟩ := D4.at
        walk_at "g"
        refine w_ite (fun h0 => ?_) (fun h0 => ?_)
        · walk_at "g"
          refine ⟨d, c, t, _, v, ns, ps, rfl, D5, by omega, hS1.kt (tup k15), hpl, fun H6 r6 cs6 D6 k6 e6 hc6 => ?_⟩
          walk_at "g"
          exact hU _ _ ⟨r6, cs6, rfl, D6.mono (by omega), (o5.kp (by simp)).trans k6, e6, hc6⟩
        · walk_at "g"
          exact hU _ _ ⟨r4, cs4, rfl, D5.mono (by omega), o5.kp (by simp), o5.tup ed4 e4, hc4⟩
      · rintro σ' H5 ⟨wa, cs, rfl, D5, k5, ewa, hcs⟩
        have k15 : Kp [d, b] H1 H5 := k14.trans (k5.mono (by simp))
        have eb5 := k5 _ _ (by simpa using nbd) eb4
        have ewa' : H5 wa = some (.tup (cs.map V.int)) := ewa
        walk_at "g"
        refine w_new fun l H6 hl6 e6 k6 => ?_
        have D6 := D5.kp (M := []) (Kp.of k6) (by simp) (by simp)
        obtain ⟨nld, _⟩ := D5.ne1 hl6
        walk_at "g"
        refine w_draw D6 (by omega) (by decide) (by decide) fun r7 H7 hr7 D7 o7 => ?_
        obtain ⟨⟨dx6, ed6⟩, _⟩ := D6.at
        have e7 := o7.get nld e6
        obtain ⟨wd, hwd⟩ : ∃ wd : Str, atI [V.str "held", V.str "lacks"] (r7 : Int) = some (.str wd) := by
          match r7, hr7 with
          | 0, _ => exact ⟨"held", rfl⟩
          | 1, _ => exact ⟨"lacks", rfl⟩
          | r + 2, h => omega
        have eb7 := o7.get nbd (k6 _ _ eb5)
        have ewa7 := o7.tup ed6 (k6 _ _ ewa')
        walk_at "g"
        refine w_new fun p H8 hp8 e8 k8 => ?_
        have eb8 := k8 _ _ eb7
        walk_at "g"
        refine w_app eb8 (by rw [hyl]; exact small1000 (by omega)) fun H9 e9 o9 => ?_
        have kt89 : KT H8 H9 := KT.off o9 eb8
        have k58 : Kp [d] H5 H8 := (Kp.of k6).trans ((o7.kp (by simp)).trans (Kp.of k8))
        obtain ⟨⟨dx5, ed5⟩, _⟩ := D5.at
        obtain ⟨⟨dx2, ed2⟩, _⟩ := D2.at
        have kt25 : KT H2 H5 := (KT.off o3 ed2).trans ((KT.kp k4 (by simp [ed3])).trans (KT.kp k5 (by
          obtain ⟨⟨dx4, ed4⟩, _⟩ := D4.at
          simp [ed4])))
        have kt58 : KT H5 H8 := KT.kp k58 (by simp [ed5])
        refine ⟨_, _, _, ys ++ [.ref p], rfl, (((D7.kp (M := []) (Kp.of k8) (by simp) (by simp)).kp (M := [b]) (o9.kp (by simp)) (by simpa using nbd.symm) (by simpa using nbc.symm))).mono (by omega), k15.trans ((k58.mono (by simp)).trans (o9.kp (by simp))), e9, by rw [List.length_append, hyl]; rfl, fun y hy => ?_⟩
        rcases List.mem_append.mp hy with h | h
        · obtain ⟨p', w', a', cs', rfl, z1, z2, z3⟩ := hys y h
          exact ⟨p', w', a', cs', rfl, kt89 _ _ (kt58 _ _ (kt25 _ _ z1)), kt89 _ _ (kt58 _ _ (kt25 _ _ z2)), z3⟩
        · have e : y = .ref p := by simpa using h
          subst e
          exact ⟨p, wd, wa, cs, rfl, kt89 _ _ e8, kt89 _ _ (k8 _ _ ewa7), hcs⟩
    · rintro σ H2 ⟨y3, y4, y5, ys, rfl, D2, k2, e2, hyl, hys⟩
      rw [List.length_map] at hyl D2
      walk_at "g"
      refine w_tupL (.of e2) fun r H3 hr3 e3 k3 => ?_
      refine q H3 r ((D2.kp (M := []) (Kp.of k3) (by simp) (by simp)).mono (by omega)) (fun x o hx e => ?_) (.tup e3 (by omega) fun y hy => ?_)
      · exact k3 _ _ (k2 _ _ (by
          have : x ≠ b := ne_of_none e hb
          simpa [this] using hx) (k1 _ _ e))
      · obtain ⟨p', w', a', cs', rfl, z1, z2, z3⟩ := hys y hy
        refine .tup (k3 _ _ z1) (by simp) fun z hz => ?_
        have hz' : z = .str w' ∨ z = .ref a' := by simpa using hz
        rcases hz' with rfl | rfl
        · exact .leaf (.str _) (by decide)
        · exact dat_ints (k3 _ _ z2) (by omega)
end
def spLaw (K : PySem.W.Frag) : Sp := fun vs H Q _ => ∃ (a : Addr) (ns : List Int), vs = [.ref a] ∧ SqL K H a (ns.map V.int) ∧ ns.length ≤ 63 ∧ ∀ H', Q (.bl true) H'
theorem any_l {K : PySem.W.Frag} {cls c1 c2 : Value} {b : Bool} (h1 : PySem.W.exmOne K cls c1 = some true) (h2 : PySem.W.exmOne K cls c2 = some b) : PySem.W.exmAny K cls [c1, c2] = some true := by
  unfold PySem.W.exmAny PySem.W.exmAny PySem.W.exmAny
  rw [h1, h2]
  simp
theorem any_r {K : PySem.W.Frag} {cls c1 c2 : Value} {b : Bool} (h1 : PySem.W.exmOne K cls c1 = some b) (h2 : PySem.W.exmOne K cls c2 = some true) : PySem.W.exmAny K cls [c1, c2] = some true := by
  unfold PySem.W.exmAny PySem.W.exmAny PySem.W.exmAny
  rw [h1, h2]
  simp
section
variable {P : Program} {w : World} {K : PySem.W.Frag} {mg : Str → Option Value} {base : Heap}
theorem ok_law {f_Contrary___init__ f_Unsettled___init__ f_is_whole f_spans f_no_clash f_settled f_way_down f_paper f_is_way f_shows f_right_paper f_law_deck f_law_mixed f_law_draw f_law_int f_law_shape f_law_spans f_law_lower f_law_odd f_law_bent f_law_answers f_law_wild f_law_clash f_law_is_way f_law_is_paper f_law_truth f_law_walk f_law_made_up f C_Contrary C_Unsettled : Addr} {fd_Contrary___init__ fd_Unsettled___init__ fd_is_whole fd_spans fd_no_clash fd_settled fd_way_down fd_paper fd_is_way fd_shows fd_right_paper fd_law_deck fd_law_mixed fd_law_draw fd_law_int fd_law_shape fd_law_spans fd_law_lower fd_law_odd fd_law_bent fd_law_answers fd_law_wild fd_law_clash fd_law_is_way fd_law_is_paper fd_law_truth fd_law_walk fd_law_made_up fd : FuncData} (T : Txt K mg)
    (F_Contrary___init__ : Fun K "__init__" "Contrary.__init__" s_Contrary___init__ f_Contrary___init__ fd_Contrary___init__)
    (F_Unsettled___init__ : Fun K "__init__" "Unsettled.__init__" s_Unsettled___init__ f_Unsettled___init__ fd_Unsettled___init__)
    (D_is_whole : Df K mg "is_whole" s_is_whole ["thing"] f_is_whole fd_is_whole)
    (D_spans : Df K mg "spans" s_spans ["shape"] f_spans fd_spans)
    (D_no_clash : Df K mg "no_clash" s_no_clash ["rows", "answers"] f_no_clash fd_no_clash)
    (D_settled : Df K mg "settled" s_settled ["shape", "answers"] f_settled fd_settled)
    (D_way_down : Df K mg "way_down" s_way_down ["shape", "rows", "top", "bottom"] f_way_down fd_way_down)
    (D_paper : Df K mg "paper" s_paper ["shape", "answers"] f_paper fd_paper)
    (D_is_way : Df K mg "is_way" s_is_way ["links", "thing"] f_is_way fd_is_way)
    (D_shows : Df K mg "shows" s_shows ["links", "truths", "version", "thing"] f_shows fd_shows)
    (D_right_paper : Df K mg "right_paper" s_right_paper ["shape", "answers", "thing"] f_right_paper fd_right_paper)
    (D_law_deck : Df K mg "_law_deck" s_law_deck ["_law_script"] f_law_deck fd_law_deck)
    (D_law_mixed : Df K mg "_law_mixed" s_law_mixed ["_law_cell", "_law_turn"] f_law_mixed fd_law_mixed)
    (D_law_draw : Df K mg "_law_draw" s_law_draw ["_law_deck_here", "_law_many"] f_law_draw fd_law_draw)
    (D_law_int : Df K mg "_law_int" s_law_int ["_law_thing"] f_law_int fd_law_int)
    (D_law_shape : Df K mg "_law_shape" s_law_shape ["_law_deck_here", "_law_most"] f_law_shape fd_law_shape)
    (D_law_spans : Df K mg "_law_spans" s_law_spans ["_law_web"] f_law_spans fd_law_spans)
    (D_law_lower : Df K mg "_law_lower" s_law_lower ["_law_deck_here", "_law_rows"] f_law_lower fd_law_lower)
    (D_law_odd : Df K mg "_law_odd" s_law_odd ["_law_deck_here"] f_law_odd fd_law_odd)
    (D_law_bent : Df K mg "_law_bent" s_law_bent ["_law_deck_here", "_law_thing", "_law_depth"] f_law_bent fd_law_bent)
    (D_law_answers : Df K mg "_law_answers" s_law_answers ["_law_deck_here", "_law_web", "_law_held"] f_law_answers fd_law_answers)
    (D_law_wild : Df K mg "_law_wild" s_law_wild ["_law_deck_here", "_law_web"] f_law_wild fd_law_wild)
    (D_law_clash : Df K mg "_law_clash" s_law_clash ["_law_rows", "_law_answers_here"] f_law_clash fd_law_clash)
    (D_law_is_way : Df K mg "_law_is_way" s_law_is_way ["_law_web", "_law_thing"] f_law_is_way fd_law_is_way)
    (D_law_is_paper : Df K mg "_law_is_paper" s_law_is_paper ["_law_web", "_law_answers_here", "_law_thing"] f_law_is_paper fd_law_is_paper)
    (D_law_truth : Df K mg "_law_truth" s_law_truth ["_law_found", "_law_due"] f_law_truth fd_law_truth)
    (D_law_walk : Df K mg "_law_walk" s_law_walk ["_law_deck_here", "_law_web", "_law_version"] f_law_walk fd_law_walk)
    (D_law_made_up : Df K mg "_law_made_up" s_law_made_up ["_law_deck_here", "_law_web"] f_law_made_up fd_law_made_up)
    (D_law : Df K mg "law" s_law ["_law_script"] f fd)
    (X_Contrary : ExnI K mg "Contrary" C_Contrary f_Contrary___init__ fd_Contrary___init__ ["self", "upper", "lower"] ["upper", "lower"])
    (X_Unsettled : ExnI K mg "Unsettled" C_Unsettled f_Unsettled___init__ fd_Unsettled___init__ ["self", "version"] ["version"])
    (xm_Contrary_Contrary : PySem.W.exmOne K (.ref C_Contrary) (.ref C_Contrary) = some true)
    (xm_Contrary_Unsettled : PySem.W.exmOne K (.ref C_Contrary) (.ref C_Unsettled) = some false)
    (xm_Unsettled_Contrary : PySem.W.exmOne K (.ref C_Unsettled) (.ref C_Contrary) = some false)
    (xm_Unsettled_Unsettled : PySem.W.exmOne K (.ref C_Unsettled) (.ref C_Unsettled) = some true)
    : FnOk P w K mg base CX0 8 f fd ["_law_script"] (spLaw K) := by
  have g_Contrary := X_Contrary.g
  have g_Unsettled := X_Unsettled.g
  have G_law_deck : FnOk P w K mg base CX0 1 f_law_deck fd_law_deck ["_law_script"] (spDeck K) := ok_deck T D_law_deck.fn
  have G_law_draw : FnOk P w K mg base CX0 2 f_law_draw fd_law_draw ["_law_deck_here", "_law_many"] spDraw := ok_draw T D_law_draw.fn D_law_mixed
  have G_law_spans : FnOk P w K mg base CX0 1 f_law_spans fd_law_spans ["_law_web"] spSpans := ok_lspans T D_law_spans.fn
  have G_law_shape : FnOk P w K mg base CX0 3 f_law_shape fd_law_shape ["_law_deck_here", "_law_most"] spShape := ok_shape T D_law_shape.fn D_law_mixed D_law_draw
  have G_law_lower : FnOk P w K mg base CX0 3 f_law_lower fd_law_lower ["_law_deck_here", "_law_rows"] spLower := ok_lower T D_law_lower.fn D_law_mixed D_law_draw
  have G_law_answers : FnOk P w K mg base CX0 3 f_law_answers fd_law_answers ["_law_deck_here", "_law_web", "_law_held"] spAnswers := ok_answers T D_law_answers.fn D_law_mixed D_law_draw
  have G_law_wild : FnOk P w K mg base CX0 3 f_law_wild fd_law_wild ["_law_deck_here", "_law_web"] spWild := ok_wild T D_law_wild.fn D_law_mixed D_law_draw
  have G_law_clash : FnOk P w K mg base CX0 2 f_law_clash fd_law_clash ["_law_rows", "_law_answers_here"] spLClash := ok_lclash T D_law_clash.fn
  have G_law_is_paper : FnOk P w K mg base CX0 3 f_law_is_paper fd_law_is_paper ["_law_web", "_law_answers_here", "_law_thing"] spLIsPaper := ok_lispaper T D_law_is_paper.fn D_law_is_way D_law_int
  have G_law_odd : FnOk P w K mg base CX0 3 f_law_odd fd_law_odd ["_law_deck_here"] spOdd := ok_odd T D_law_odd.fn D_law_mixed D_law_draw
  have G_law_bent : FnOk P w K mg base CX0 7 f_law_bent fd_law_bent ["_law_deck_here", "_law_thing", "_law_depth"] (spBent 3) := ok_bent T D_law_bent D_law_mixed D_law_draw D_law_int D_law_odd 3
  have G_law_made_up : FnOk P w K mg base CX0 4 f_law_made_up fd_law_made_up ["_law_deck_here", "_law_web"] spMadeUp := ok_madeup T D_law_made_up.fn D_law_mixed D_law_draw D_law_walk
  have G_law_truth : FnOk P w K mg base CX0 1 f_law_truth fd_law_truth ["_law_found", "_law_due"] spTruth := ok_truth T D_law_truth.fn
  have G_paper : FnOk P w K mg base (L2.CX P w) 5 f_paper fd_paper ["shape", "answers"] (spPaper C_Contrary C_Unsettled) := ok_paper T D_paper.fn D_spans D_no_clash D_settled D_way_down F_Contrary___init__ X_Contrary F_Unsettled___init__ X_Unsettled
  have G_right_paper : FnOk P w K mg base CX0 5 f_right_paper fd_right_paper ["shape", "answers", "thing"] spRightPaper := ok_rightpaper T D_right_paper.fn D_spans D_no_clash D_settled F_Contrary___init__ X_Contrary xm_Contrary_Contrary D_is_whole D_is_way D_shows
  refine D_law.fn.ok sc_law (fun vs H Q E h => ?_) (fun cdv A outer s H vs Q E hr h => ?_)
  · obtain ⟨a, ns, rfl, _⟩ := h
    rfl
  · obtain ⟨a0, ns0, rfl, hS0, hl0, q⟩ := h
    have hu := hu_of hr
    refine ⟨_,
      (pss_cons
        (ps_set (i := 1) sc_law.nd rfl (.inl rfl) (pe_call G_law_deck (hr.mono (by omega)) (by rfl) D_law_deck.g D_law_deck.fn.kp D_law_deck.b .nil pass0 (pa_cons (pv 0) pa_nil)))
      (pss_cons
        (ps_set (i := 2) sc_law.nd rfl (.inl rfl) (pe_call G_law_draw (hr.mono (by omega)) (by rfl) D_law_draw.g D_law_draw.fn.kp D_law_draw.b .nil pass0 (pa_cons (pv 1) (pa_cons pe_int pa_nil))))
      (pss_cons
        (ps_set (i := 3) sc_law.nd rfl (.inl rfl) (pe_call G_law_draw (hr.mono (by omega)) (by rfl) D_law_draw.g D_law_draw.fn.kp D_law_draw.b .nil pass0 (pa_cons (pv 1) (pa_cons pe_int pa_nil))))
      (pss_cons
        (ps_set (i := 4) sc_law.nd rfl (.inl rfl) (pe_call G_law_shape (hr.mono (by omega)) (by rfl) D_law_shape.g D_law_shape.fn.kp D_law_shape.b .nil pass0 (pa_cons (pv 1) (pa_cons pe_int pa_nil))))
      (pss_cons
        (ps_set (i := 5) sc_law.nd rfl (.inl rfl) (pe_call G_law_spans (hr.mono (by omega)) (by rfl) D_law_spans.g D_law_spans.fn.kp D_law_spans.b .nil pass0 (pa_cons (pv 4) pa_nil)))
      (pss_cons
        (ps_if (pt_cmpR op_eq (pe_call G_law_draw (hr.mono (by omega)) (by rfl) D_law_draw.g D_law_draw.fn.kp D_law_draw.b .nil pass0 (pa_cons (pv 1) (pa_cons pe_int pa_nil))) pe_int (nomark _))
          (pss_one
            (ps_set (i := 6) sc_law.nd rfl (.inl rfl) (pe_call G_law_wild (hr.mono (by omega)) (by rfl) D_law_wild.g D_law_wild.fn.kp D_law_wild.b .nil pass0 (pa_cons (pv 1) (pa_cons (pv 4) pa_nil)))))
          (pss_one
            (ps_set (i := 6) sc_law.nd rfl (.inl rfl) (pe_call G_law_answers (hr.mono (by omega)) (by rfl) D_law_answers.g D_law_answers.fn.kp D_law_answers.b .nil pass0 (pa_cons (pv 1) (pa_cons (pv 4) (pa_cons (pe_call G_law_lower (hr.mono (by omega)) (by rfl) D_law_lower.g D_law_lower.fn.kp D_law_lower.b .nil pass0 (pa_cons (pv 1) (pa_cons (pv 5) pa_nil))) pa_nil)))))))
      (pss_cons
        (ps_set (i := 7) sc_law.nd rfl (.inl rfl) (pe_call G_law_made_up (hr.mono (by omega)) (by rfl) D_law_made_up.g D_law_made_up.fn.kp D_law_made_up.b .nil pass0 (pa_cons (pv 1) (pa_cons (pv 4) pa_nil))))
      (pss_cons
        (ps_if (pt_cmpR op_gt (pv 2) pe_int (nomark _))
          (pss_one
            (p_try2 rfl rfl ⟨rfl, by decide, .inl g_Contrary⟩ ⟨rfl, by decide, .inl g_Unsettled⟩ (fun W pn xe tk po =>
              (pss_one
                (ps_set (i := 7) sc_law.nd rfl (.inl rfl) (pe_callS G_paper (hr.mono (by omega)) (by rfl) D_paper.g D_paper.fn.kp D_paper.b (fun σ => passAt tk σ) (pa_cons (pv 4) (pa_cons (pv 6) pa_nil))))))
            (fun a oe cls d pn _ _ =>
              (pss_one
                (ps_set (i := 3) sc_law.nd rfl (.inl rfl) pe_int)))))
          pss_nil)
      (pss_cons
        (ps_if (pt_cmpR op_eq (pv 2) pe_int (nomark _))
          (pss_one
            (ps_set (i := 7) sc_law.nd rfl (.inl rfl) (pe_call G_law_odd (hr.mono (by omega)) (by rfl) D_law_odd.g D_law_odd.fn.kp D_law_odd.b .nil pass0 (pa_cons (pv 1) pa_nil))))
          (pss_one
            (ps_for PassesOwn.never rfl (pi_range1 (by rfl) T.n_range (pa_cons (pv 3) pa_nil)) (pg_name (i := 8) sc_law.nd rfl (.inl rfl))
              (pss_one
                (ps_set (i := 7) sc_law.nd rfl (.inl rfl) (pe_call G_law_bent (hr.mono (by omega)) (by rfl) D_law_bent.g D_law_bent.fn.kp D_law_bent.b .nil pass0 (pa_cons (pv 1) (pa_cons (pv 7) (pa_cons pe_int pa_nil)))))))))
      (pss_cons
        (ps_set (i := 9) sc_law.nd rfl (.inl rfl) (pe_and (pe_cmpR o_isN (pe_call G_law_clash (hr.mono (by omega)) (by rfl) D_law_clash.g D_law_clash.fn.kp D_law_clash.b .nil pass0 (pa_cons (pv 5) (pa_cons (pv 6) pa_nil))) pe_non (nomark _)) (pe_one (pe_call G_law_is_paper (hr.mono (by omega)) (by rfl) D_law_is_paper.g D_law_is_paper.fn.kp D_law_is_paper.b .nil pass0 (pa_cons (pv 4) (pa_cons (pv 6) (pa_cons (pv 7) pa_nil)))))))
      (pss_one
        (ps_ret (pe_call G_law_truth (hr.mono (by omega)) (by rfl) D_law_truth.g D_law_truth.fn.kp D_law_truth.b .nil pass0 (pa_cons (pe_call G_right_paper (hr.mono (by omega)) (by rfl) D_right_paper.g D_right_paper.fn.kp D_right_paper.b .nil pass0 (pa_cons (pv 4) (pa_cons (pv 6) (pa_cons (pv 7) pa_nil)))) (pa_cons (pv 9) pa_nil)))))))))))))))
      , ?_⟩
    rw [show L2.start N_law [V.ref a0] = [some (.ref a0), none, none, none, none, none, none, none, none, none] from rfl]
    walk_at "x"
    refine w_deck hS0 fun H1 d c k1 hd hc D1 => ?_
    walk_at "g"
    refine w_draw D1 (by decide) (by decide) (by decide) fun road H2 hroad D2 o2 => ?_
    walk_at "g"
    refine w_draw D2 (by decide) (by decide) (by decide) fun turns H3 hturns D3 o3 => ?_
    walk_at "g"
    refine ⟨d, c, _, 6, rfl, D3, by decide, by decide, fun H4 t ns ps D4 k4 hS S hl hpl => ?_⟩
    have hnn : ns.Nodup := S.vr.imp fun {a b} h => Int.ne_of_lt h
    obtain ⟨⟨xs, ed4⟩, _⟩ := D4.at
    walk_at "g"
    refine ⟨t, ns, ps, rfl, hS, S, by omega, by omega, fun H5 R k5 hR ⟨kvs, eR, hks, _, rv0⟩ => ?_⟩
    have hS5 := hS.kt (KT.of k5)
    have D5 := D4.kp (M := []) (Kp.of k5) (by simp) (by simp)
    have nRd : R ≠ d := (D4.ne1 hR).1
    obtain ⟨⟨xs5, ed5⟩, _⟩ := D5.at
    have rv5 : RowsV [d] H5 kvs (ps.map (·.2)) ns := fun v hv => by
      obtain ⟨b', ys, v1, v2, v3, v4⟩ := rv0 v hv
      exact ⟨b', ys, v1, v2, v3, by simpa using (D4.ne1 v4).1⟩
    walk_at "g"
    refine w_seqJ (fun σ' H' => ∃ (Aa : Addr) (an : List (Addr × Int × Bool)) (n : Nat), σ' = [some (.ref a0), some (.ref d), some (.int road), some (.int turns), some (.ref t), some (.ref R), some (.ref Aa), none, none, none] ∧ Deck H' d c n ∧ n ≤ 30000 ∧ Kp [d] H5 H' ∧ AL H' Aa an ∧ an.length < 64 ∧ (∀ q ∈ an, q.2.1 ∈ ns) ∧ (an.map (·.2.1)).Nodup) ?_ ?_
    rotate_left
    · intro U hU
      walk_at "g"
      refine w_draw D5 (by decide) (by decide) (by decide) fun r6 H6 hr6 D6 o6 => ?_
      have k56 : Kp [d] H5 H6 := o6.kp (by simp)
      have hS6 := hS5.kt (KT.kp k56 (by simp [ed5]))
      have eR6 := k56 _ _ (by simpa using nRd) eR
      have rv6 := rv5.kp k56 (fun x h => h)
      walk_at "g"
      refine w_ite (fun h0 => ?_) (fun h0 => ?_)
      · walk_at "g"
        refine ⟨d, c, t, _, ns, ps, rfl, D6, by decide, hS6, by omega, hnn, fun H7 Aa an D7 k7 hA hal ham hnd => ?_⟩
        walk_at "g"
        exact hU _ _ ⟨Aa, an, _, rfl, D7, by decide, k56.trans k7, hA, hal, ham, hnd⟩
      · walk_at "g"
        refine ⟨d, c, R, _, kvs, _, ns, rfl, D6, by decide, eR6, hks, rv6, S, by omega, fun H7 l hs D7 k7 hl7 e7 hsub hdn => ?_⟩
        obtain ⟨nld, nlc⟩ := D6.ne1 hl7
        obtain ⟨⟨xs6, ed6⟩, _⟩ := D6.at
        walk_at "g"
        refine ⟨d, c, t, l, _, ns, hs, ps, rfl, D7, by decide, hS6.kt (KT.kp k7 (by simp [ed6])), by omega, hnn, e7, nld, fun H8 Aa an D8 k8 hA hal hap hnd => ?_⟩
        walk_at "g"
        exact hU _ _ ⟨Aa, an, _, rfl, D8, by decide, k56.trans (k7.trans k8), hA, hal, fun q hq => (hap q hq).1, hnd⟩
    rintro σ' H8 ⟨Aa, an, n8, rfl, D8, hn8, k58, hA8, hal, ham, hnd⟩
    have hS8 := hS5.kt (KT.kp k58 (by simp [ed5]))
    have eR8 := k58 _ _ (by simpa using nRd) eR
    have rv8 := rv5.kp k58 (fun x h => h)
    obtain ⟨⟨xs8, ed8⟩, _⟩ := D8.at
    walk_at "g"
    refine ⟨d, c, t, _, ns, ps, rfl, D8, by unfold MOSTD; omega, hS8, by omega, by omega, fun H9 r9 D9 k9 hd9 => ?_⟩
    obtain ⟨⟨xs9, ed9⟩, _⟩ := D9.at
    have kt89 : KT H8 H9 := KT.kp k9 (by simp [ed8])
    walk_at "g"
    refine w_seqJ (fun σ' H' => ∃ (x : V) (tn n : Nat), σ' = [some (.ref a0), some (.ref d), some (.int road), some (.int tn), some (.ref t), some (.ref R), some (.ref Aa), some x, none, none] ∧ Deck H' d c n ∧ n ≤ 40000 ∧ Kp [d] H8 H' ∧ KT H8 H' ∧ Dat 64 H' x ∧ tn < 3) ?_ ?_
    rotate_left
    · intro U hU
      walk_at "g"
      refine w_ite (fun h0 => ?_) (fun h0 => ?_)
      · walk_at "g"
        refine w_try2 ?_
        walk_at "g"
        refine ⟨t, Aa, ns, ps, an, rfl, hS8.kt kt89, S, by omega, by omega, hA8.kt kt89, hal, ham, fun H10 r10 rows hc10 hl10 k10 hP => ?_, fun p d10 H10 hp k10 hd10 e10 => ?_, fun v vr d10 H10 hc10 hl10 k10 hd10 e10 => ?_⟩
        · walk_at "g"
          exact hU _ _ ⟨_, turns, _, rfl, D9.kp (M := []) (Kp.of k10) (by simp) (by simp), by omega, k9.trans (Kp.of k10), kt89.trans (KT.of k10), hP.dat (by omega), by omega⟩
        · refine ⟨any_l xm_Contrary_Contrary xm_Contrary_Unsettled, fun ea hea => ?_⟩
          walk_at "g"
          exact hU _ _ ⟨_, 0, _, rfl, D9.kp (M := []) (Kp.of k10) (by simp) (by simp), by omega, k9.trans (Kp.of k10), kt89.trans (KT.of k10), hd9.kd (KD.of k10), by omega⟩
        · refine ⟨any_r xm_Unsettled_Contrary xm_Unsettled_Unsettled, fun ea hea => ?_⟩
          walk_at "g"
          exact hU _ _ ⟨_, 0, _, rfl, D9.kp (M := []) (Kp.of k10) (by simp) (by simp), by omega, k9.trans (Kp.of k10), kt89.trans (KT.of k10), hd9.kd (KD.of k10), by omega⟩
      · walk_at "g"
        exact hU _ _ ⟨_, turns, _, rfl, D9, by omega, k9, kt89, hd9, by omega⟩
    rintro σ' H10 ⟨x10, tn, n10, rfl, D10, hn10, k10, kt10, hd10, htn⟩
    refine w_seqJ (fun σ' H' => ∃ (x : V) (y : Option V), σ' = [some (.ref a0), some (.ref d), some (.int road), some (.int tn), some (.ref t), some (.ref R), some (.ref Aa), some x, y, none] ∧ Kp [d] H8 H' ∧ KT H8 H' ∧ Dat 100 H' x) ?_ ?_
    rotate_left
    · intro U hU
      walk_at "g"
      refine w_ite (fun h0 => ?_) (fun h0 => ?_)
      · walk_at "g"
        refine ⟨d, c, _, rfl, D10, by unfold MOSTD; omega, fun H11 y D11 k11 hy => ?_⟩
        walk_at "g"
        exact hU _ _ ⟨y, _, rfl, k10.trans k11.p, kt10.trans k11.t, hy.mono (by omega)⟩
      · walk_at "g"
        refine lp_range (fun i σ H' => ∃ (x : V) (y8 : Option V), σ = [some (.ref a0), some (.ref d), some (.int road), some (.int tn), some (.ref t), some (.ref R), some (.ref Aa), some x, y8, none] ∧ KX d H10 H' ∧ Dat (64 + i) H' x ∧ Deck H' d c (n10 + 16 * i)) ⟨x10, _, rfl, KX.refl, hd10, D10⟩ ?_ ?_
        · rintro i σ H11 hi ⟨x, y8, rfl, kx, hx, D11⟩
          have hi' : i < 3 := by omega
          walk_at "g"
          refine ⟨d, c, _, 64 + i, x, rfl, D11, by unfold MOSTD; omega, hx, by omega, by omega, fun H12 y D12 k12 hy => ?_⟩
          walk_at "g"
          exact ⟨y, _, rfl, kx.trans k12, hy, D12.mono (by omega)⟩
        · rintro σ H11 ⟨x, y8, rfl, kx, hx, D11⟩
          exact hU _ _ ⟨x, _, rfl, k10.trans kx.p, kt10.trans kx.t, hx.mono (by omega)⟩
    rintro σ' H11 ⟨x, y8, rfl, k11, kt11, hd11⟩
    have hS11 := hS8.kt kt11
    have hA11 := hA8.kt kt11
    have eR11 := k11 _ _ (by simpa using nRd) eR8
    have rv11 : RowsV [] H11 kvs (ps.map (·.2)) ns := fun v hv => by
      obtain ⟨b', ys, v1, v2, v3, v4⟩ := rv8 v hv
      exact ⟨b', ys, v1, k11 _ _ v4 v2, v3, by simp⟩
    -- the last row, the law's due being b
    have fin : ∀ (b : Bool) (H12 : Hp) (Rk : VK), Same H11 H12 → (b = true ↔ Clear (ps.map (·.2)) (an.map (·.2)) ∧ PapV H11 (ps.map (·.2)) (an.map (·.2)) ns x) → (∀ H', Rk (.bl b) H') → spRightPaper ([.ref t, .ref Aa, x] ++ []) H12 Rk E0 := by
      intro b H12 Rk k12 hb hR'
      refine ⟨t, Aa, x, 100, ns, ps, an, rfl, hS11.kt (KT.of k12), S, by omega, by omega, hA11.kt (KT.of k12), hal, ham, hnd, hd11.kd (KD.of k12), by omega, fun hc hP H13 k13 => ?_, fun hn H13 k13 => ?_⟩
      · have e : b = true := hb.mpr ⟨hc, hP.back hd11 k12⟩
        subst e
        exact hR' _
      · have e : b = false := by
          cases b with
          | false => rfl
          | true => exact absurd (let ⟨h1, h2⟩ := hb.mp rfl; ⟨h1, h2.on k12⟩) hn
        subst e
        exact hR' _
    walk_at "g"
    refine ⟨R, Aa, kvs, _, ns, an, rfl, eR11, rv11, hA11, hal, ham, fun hc H12 k12 => ?_, fun p r H12 hp k12 er => ?_⟩
    · walk_at "g"
      refine w_yes rfl ?_
      walk_at "g"
      refine ⟨t, Aa, x, 100, ns, ps, an, rfl, hS11.kt (KT.of k12), S, by omega, hA11.kt (KT.of k12), hal, hd11.kd (KD.of k12), by omega, fun hP H13 k13 => ?_, fun hP H13 k13 => ?_⟩
      · walk_at "g"
        refine fin true H13 _ (Same.trans k12 k13) ⟨fun _ => ⟨hc, hP.back hd11 k12⟩, fun _ => rfl⟩ fun H' => ?_
        walk_at "g"
        exact ⟨true, true, rfl, q _⟩
      · walk_at "g"
        refine fin false H13 _ (Same.trans k12 k13) ⟨fun z => Bool.noConfusion z, fun z => absurd (z.2.on k12) hP⟩ fun H' => ?_
        walk_at "g"
        exact ⟨false, false, rfl, q _⟩
    · walk_at "g"
      refine w_no (fun z => nomatch z) ?_
      walk_at "g"
      refine fin false H12 _ k12 ⟨fun z => Bool.noConfusion z, fun z => absurd z.1 hp.not⟩ fun H' => ?_
      walk_at "g"
      exact ⟨false, false, rfl, q _⟩
end
theorem all_mk {l : PySem.W.OpenLaw} {w : World} {K : PySem.W.Frag} {h : Heap} {mg : Str → Option Value} {fa f_Contrary___init__ f_Unsettled___init__ f_is_whole f_spans f_no_clash f_settled f_way_down f_paper f_is_way f_shows f_right_paper f_law_deck f_law_mixed f_law_draw f_law_int f_law_shape f_law_spans f_law_lower f_law_odd f_law_bent f_law_answers f_law_wild f_law_clash f_law_is_way f_law_is_paper f_law_truth f_law_walk f_law_made_up f_law : Addr} (X : K.In h) (G : h.Ns mainGlobals mg) (hfa : mg "law" = some (.ref fa))
    {od_Contrary___init__ an_Contrary___init__ : Option Addr} {sl_Contrary___init__ : Array (Option Value)} {oc_Contrary___init__ kV_Contrary___init__ dc_Contrary___init__ pm_Contrary___init__ cd_Contrary___init__ ct_Contrary___init__ : Value}
    (l_Contrary___init__ : K.lookup f_Contrary___init__ = some ⟨oc_Contrary___init__, od_Contrary___init__, .func (PySem.W.fnOf "__init__" "Contrary.__init__" (defArgs s_Contrary___init__) (defBody s_Contrary___init__) (defScope s_Contrary___init__) .none kV_Contrary___init__ dc_Contrary___init__ pm_Contrary___init__ an_Contrary___init__ cd_Contrary___init__ ct_Contrary___init__), sl_Contrary___init__⟩) (c_Contrary___init__ : PySem.W.codeIn K cd_Contrary___init__ "Contrary.__init__" = true) (k_Contrary___init__ : PySem.W.keepIn K (.ref f_Contrary___init__) = true)
    {od_Unsettled___init__ an_Unsettled___init__ : Option Addr} {sl_Unsettled___init__ : Array (Option Value)} {oc_Unsettled___init__ kV_Unsettled___init__ dc_Unsettled___init__ pm_Unsettled___init__ cd_Unsettled___init__ ct_Unsettled___init__ : Value}
    (l_Unsettled___init__ : K.lookup f_Unsettled___init__ = some ⟨oc_Unsettled___init__, od_Unsettled___init__, .func (PySem.W.fnOf "__init__" "Unsettled.__init__" (defArgs s_Unsettled___init__) (defBody s_Unsettled___init__) (defScope s_Unsettled___init__) .none kV_Unsettled___init__ dc_Unsettled___init__ pm_Unsettled___init__ an_Unsettled___init__ cd_Unsettled___init__ ct_Unsettled___init__), sl_Unsettled___init__⟩) (c_Unsettled___init__ : PySem.W.codeIn K cd_Unsettled___init__ "Unsettled.__init__" = true) (k_Unsettled___init__ : PySem.W.keepIn K (.ref f_Unsettled___init__) = true)
    {od_is_whole an_is_whole : Option Addr} {sl_is_whole : Array (Option Value)} {oc_is_whole kV_is_whole dc_is_whole pm_is_whole cd_is_whole ct_is_whole : Value}
    (a_is_whole : PySem.W.nsIn K mainGlobals "is_whole" = some (some (.ref f_is_whole)))
    (l_is_whole : K.lookup f_is_whole = some ⟨oc_is_whole, od_is_whole, .func (PySem.W.fnOf "is_whole" "is_whole" (defArgs s_is_whole) (defBody s_is_whole) (defScope s_is_whole) .none kV_is_whole dc_is_whole pm_is_whole an_is_whole cd_is_whole ct_is_whole), sl_is_whole⟩) (c_is_whole : PySem.W.codeIn K cd_is_whole "is_whole" = true) (k_is_whole : PySem.W.keepIn K (.ref f_is_whole) = true)
    {od_spans an_spans : Option Addr} {sl_spans : Array (Option Value)} {oc_spans kV_spans dc_spans pm_spans cd_spans ct_spans : Value}
    (a_spans : PySem.W.nsIn K mainGlobals "spans" = some (some (.ref f_spans)))
    (l_spans : K.lookup f_spans = some ⟨oc_spans, od_spans, .func (PySem.W.fnOf "spans" "spans" (defArgs s_spans) (defBody s_spans) (defScope s_spans) .none kV_spans dc_spans pm_spans an_spans cd_spans ct_spans), sl_spans⟩) (c_spans : PySem.W.codeIn K cd_spans "spans" = true) (k_spans : PySem.W.keepIn K (.ref f_spans) = true)
    {od_no_clash an_no_clash : Option Addr} {sl_no_clash : Array (Option Value)} {oc_no_clash kV_no_clash dc_no_clash pm_no_clash cd_no_clash ct_no_clash : Value}
    (a_no_clash : PySem.W.nsIn K mainGlobals "no_clash" = some (some (.ref f_no_clash)))
    (l_no_clash : K.lookup f_no_clash = some ⟨oc_no_clash, od_no_clash, .func (PySem.W.fnOf "no_clash" "no_clash" (defArgs s_no_clash) (defBody s_no_clash) (defScope s_no_clash) .none kV_no_clash dc_no_clash pm_no_clash an_no_clash cd_no_clash ct_no_clash), sl_no_clash⟩) (c_no_clash : PySem.W.codeIn K cd_no_clash "no_clash" = true) (k_no_clash : PySem.W.keepIn K (.ref f_no_clash) = true)
    {od_settled an_settled : Option Addr} {sl_settled : Array (Option Value)} {oc_settled kV_settled dc_settled pm_settled cd_settled ct_settled : Value}
    (a_settled : PySem.W.nsIn K mainGlobals "settled" = some (some (.ref f_settled)))
    (l_settled : K.lookup f_settled = some ⟨oc_settled, od_settled, .func (PySem.W.fnOf "settled" "settled" (defArgs s_settled) (defBody s_settled) (defScope s_settled) .none kV_settled dc_settled pm_settled an_settled cd_settled ct_settled), sl_settled⟩) (c_settled : PySem.W.codeIn K cd_settled "settled" = true) (k_settled : PySem.W.keepIn K (.ref f_settled) = true)
    {od_way_down an_way_down : Option Addr} {sl_way_down : Array (Option Value)} {oc_way_down kV_way_down dc_way_down pm_way_down cd_way_down ct_way_down : Value}
    (a_way_down : PySem.W.nsIn K mainGlobals "way_down" = some (some (.ref f_way_down)))
    (l_way_down : K.lookup f_way_down = some ⟨oc_way_down, od_way_down, .func (PySem.W.fnOf "way_down" "way_down" (defArgs s_way_down) (defBody s_way_down) (defScope s_way_down) .none kV_way_down dc_way_down pm_way_down an_way_down cd_way_down ct_way_down), sl_way_down⟩) (c_way_down : PySem.W.codeIn K cd_way_down "way_down" = true) (k_way_down : PySem.W.keepIn K (.ref f_way_down) = true)
    {od_paper an_paper : Option Addr} {sl_paper : Array (Option Value)} {oc_paper kV_paper dc_paper pm_paper cd_paper ct_paper : Value}
    (a_paper : PySem.W.nsIn K mainGlobals "paper" = some (some (.ref f_paper)))
    (l_paper : K.lookup f_paper = some ⟨oc_paper, od_paper, .func (PySem.W.fnOf "paper" "paper" (defArgs s_paper) (defBody s_paper) (defScope s_paper) .none kV_paper dc_paper pm_paper an_paper cd_paper ct_paper), sl_paper⟩) (c_paper : PySem.W.codeIn K cd_paper "paper" = true) (k_paper : PySem.W.keepIn K (.ref f_paper) = true)
    {od_is_way an_is_way : Option Addr} {sl_is_way : Array (Option Value)} {oc_is_way kV_is_way dc_is_way pm_is_way cd_is_way ct_is_way : Value}
    (a_is_way : PySem.W.nsIn K mainGlobals "is_way" = some (some (.ref f_is_way)))
    (l_is_way : K.lookup f_is_way = some ⟨oc_is_way, od_is_way, .func (PySem.W.fnOf "is_way" "is_way" (defArgs s_is_way) (defBody s_is_way) (defScope s_is_way) .none kV_is_way dc_is_way pm_is_way an_is_way cd_is_way ct_is_way), sl_is_way⟩) (c_is_way : PySem.W.codeIn K cd_is_way "is_way" = true) (k_is_way : PySem.W.keepIn K (.ref f_is_way) = true)
    {od_shows an_shows : Option Addr} {sl_shows : Array (Option Value)} {oc_shows kV_shows dc_shows pm_shows cd_shows ct_shows : Value}
    (a_shows : PySem.W.nsIn K mainGlobals "shows" = some (some (.ref f_shows)))
    (l_shows : K.lookup f_shows = some ⟨oc_shows, od_shows, .func (PySem.W.fnOf "shows" "shows" (defArgs s_shows) (defBody s_shows) (defScope s_shows) .none kV_shows dc_shows pm_shows an_shows cd_shows ct_shows), sl_shows⟩) (c_shows : PySem.W.codeIn K cd_shows "shows" = true) (k_shows : PySem.W.keepIn K (.ref f_shows) = true)
    {od_right_paper an_right_paper : Option Addr} {sl_right_paper : Array (Option Value)} {oc_right_paper kV_right_paper dc_right_paper pm_right_paper cd_right_paper ct_right_paper : Value}
    (a_right_paper : PySem.W.nsIn K mainGlobals "right_paper" = some (some (.ref f_right_paper)))
    (l_right_paper : K.lookup f_right_paper = some ⟨oc_right_paper, od_right_paper, .func (PySem.W.fnOf "right_paper" "right_paper" (defArgs s_right_paper) (defBody s_right_paper) (defScope s_right_paper) .none kV_right_paper dc_right_paper pm_right_paper an_right_paper cd_right_paper ct_right_paper), sl_right_paper⟩) (c_right_paper : PySem.W.codeIn K cd_right_paper "right_paper" = true) (k_right_paper : PySem.W.keepIn K (.ref f_right_paper) = true)
    {od_law_deck an_law_deck : Option Addr} {sl_law_deck : Array (Option Value)} {oc_law_deck kV_law_deck dc_law_deck pm_law_deck cd_law_deck ct_law_deck : Value}
    (a_law_deck : PySem.W.nsIn K mainGlobals "_law_deck" = some (some (.ref f_law_deck)))
    (l_law_deck : K.lookup f_law_deck = some ⟨oc_law_deck, od_law_deck, .func (PySem.W.fnOf "_law_deck" "_law_deck" (defArgs s_law_deck) (defBody s_law_deck) (defScope s_law_deck) .none kV_law_deck dc_law_deck pm_law_deck an_law_deck cd_law_deck ct_law_deck), sl_law_deck⟩) (c_law_deck : PySem.W.codeIn K cd_law_deck "_law_deck" = true) (k_law_deck : PySem.W.keepIn K (.ref f_law_deck) = true)
    {od_law_mixed an_law_mixed : Option Addr} {sl_law_mixed : Array (Option Value)} {oc_law_mixed kV_law_mixed dc_law_mixed pm_law_mixed cd_law_mixed ct_law_mixed : Value}
    (a_law_mixed : PySem.W.nsIn K mainGlobals "_law_mixed" = some (some (.ref f_law_mixed)))
    (l_law_mixed : K.lookup f_law_mixed = some ⟨oc_law_mixed, od_law_mixed, .func (PySem.W.fnOf "_law_mixed" "_law_mixed" (defArgs s_law_mixed) (defBody s_law_mixed) (defScope s_law_mixed) .none kV_law_mixed dc_law_mixed pm_law_mixed an_law_mixed cd_law_mixed ct_law_mixed), sl_law_mixed⟩) (c_law_mixed : PySem.W.codeIn K cd_law_mixed "_law_mixed" = true) (k_law_mixed : PySem.W.keepIn K (.ref f_law_mixed) = true)
    {od_law_draw an_law_draw : Option Addr} {sl_law_draw : Array (Option Value)} {oc_law_draw kV_law_draw dc_law_draw pm_law_draw cd_law_draw ct_law_draw : Value}
    (a_law_draw : PySem.W.nsIn K mainGlobals "_law_draw" = some (some (.ref f_law_draw)))
    (l_law_draw : K.lookup f_law_draw = some ⟨oc_law_draw, od_law_draw, .func (PySem.W.fnOf "_law_draw" "_law_draw" (defArgs s_law_draw) (defBody s_law_draw) (defScope s_law_draw) .none kV_law_draw dc_law_draw pm_law_draw an_law_draw cd_law_draw ct_law_draw), sl_law_draw⟩) (c_law_draw : PySem.W.codeIn K cd_law_draw "_law_draw" = true) (k_law_draw : PySem.W.keepIn K (.ref f_law_draw) = true)
    {od_law_int an_law_int : Option Addr} {sl_law_int : Array (Option Value)} {oc_law_int kV_law_int dc_law_int pm_law_int cd_law_int ct_law_int : Value}
    (a_law_int : PySem.W.nsIn K mainGlobals "_law_int" = some (some (.ref f_law_int)))
    (l_law_int : K.lookup f_law_int = some ⟨oc_law_int, od_law_int, .func (PySem.W.fnOf "_law_int" "_law_int" (defArgs s_law_int) (defBody s_law_int) (defScope s_law_int) .none kV_law_int dc_law_int pm_law_int an_law_int cd_law_int ct_law_int), sl_law_int⟩) (c_law_int : PySem.W.codeIn K cd_law_int "_law_int" = true) (k_law_int : PySem.W.keepIn K (.ref f_law_int) = true)
    {od_law_shape an_law_shape : Option Addr} {sl_law_shape : Array (Option Value)} {oc_law_shape kV_law_shape dc_law_shape pm_law_shape cd_law_shape ct_law_shape : Value}
    (a_law_shape : PySem.W.nsIn K mainGlobals "_law_shape" = some (some (.ref f_law_shape)))
    (l_law_shape : K.lookup f_law_shape = some ⟨oc_law_shape, od_law_shape, .func (PySem.W.fnOf "_law_shape" "_law_shape" (defArgs s_law_shape) (defBody s_law_shape) (defScope s_law_shape) .none kV_law_shape dc_law_shape pm_law_shape an_law_shape cd_law_shape ct_law_shape), sl_law_shape⟩) (c_law_shape : PySem.W.codeIn K cd_law_shape "_law_shape" = true) (k_law_shape : PySem.W.keepIn K (.ref f_law_shape) = true)
    {od_law_spans an_law_spans : Option Addr} {sl_law_spans : Array (Option Value)} {oc_law_spans kV_law_spans dc_law_spans pm_law_spans cd_law_spans ct_law_spans : Value}
    (a_law_spans : PySem.W.nsIn K mainGlobals "_law_spans" = some (some (.ref f_law_spans)))
    (l_law_spans : K.lookup f_law_spans = some ⟨oc_law_spans, od_law_spans, .func (PySem.W.fnOf "_law_spans" "_law_spans" (defArgs s_law_spans) (defBody s_law_spans) (defScope s_law_spans) .none kV_law_spans dc_law_spans pm_law_spans an_law_spans cd_law_spans ct_law_spans), sl_law_spans⟩) (c_law_spans : PySem.W.codeIn K cd_law_spans "_law_spans" = true) (k_law_spans : PySem.W.keepIn K (.ref f_law_spans) = true)
    {od_law_lower an_law_lower : Option Addr} {sl_law_lower : Array (Option Value)} {oc_law_lower kV_law_lower dc_law_lower pm_law_lower cd_law_lower ct_law_lower : Value}
    (a_law_lower : PySem.W.nsIn K mainGlobals "_law_lower" = some (some (.ref f_law_lower)))
    (l_law_lower : K.lookup f_law_lower = some ⟨oc_law_lower, od_law_lower, .func (PySem.W.fnOf "_law_lower" "_law_lower" (defArgs s_law_lower) (defBody s_law_lower) (defScope s_law_lower) .none kV_law_lower dc_law_lower pm_law_lower an_law_lower cd_law_lower ct_law_lower), sl_law_lower⟩) (c_law_lower : PySem.W.codeIn K cd_law_lower "_law_lower" = true) (k_law_lower : PySem.W.keepIn K (.ref f_law_lower) = true)
    {od_law_odd an_law_odd : Option Addr} {sl_law_odd : Array (Option Value)} {oc_law_odd kV_law_odd dc_law_odd pm_law_odd cd_law_odd ct_law_odd : Value}
    (a_law_odd : PySem.W.nsIn K mainGlobals "_law_odd" = some (some (.ref f_law_odd)))
    (l_law_odd : K.lookup f_law_odd = some ⟨oc_law_odd, od_law_odd, .func (PySem.W.fnOf "_law_odd" "_law_odd" (defArgs s_law_odd) (defBody s_law_odd) (defScope s_law_odd) .none kV_law_odd dc_law_odd pm_law_odd an_law_odd cd_law_odd ct_law_odd), sl_law_odd⟩) (c_law_odd : PySem.W.codeIn K cd_law_odd "_law_odd" = true) (k_law_odd : PySem.W.keepIn K (.ref f_law_odd) = true)
    {od_law_bent an_law_bent : Option Addr} {sl_law_bent : Array (Option Value)} {oc_law_bent kV_law_bent dc_law_bent pm_law_bent cd_law_bent ct_law_bent : Value}
    (a_law_bent : PySem.W.nsIn K mainGlobals "_law_bent" = some (some (.ref f_law_bent)))
    (l_law_bent : K.lookup f_law_bent = some ⟨oc_law_bent, od_law_bent, .func (PySem.W.fnOf "_law_bent" "_law_bent" (defArgs s_law_bent) (defBody s_law_bent) (defScope s_law_bent) .none kV_law_bent dc_law_bent pm_law_bent an_law_bent cd_law_bent ct_law_bent), sl_law_bent⟩) (c_law_bent : PySem.W.codeIn K cd_law_bent "_law_bent" = true) (k_law_bent : PySem.W.keepIn K (.ref f_law_bent) = true)
    {od_law_answers an_law_answers : Option Addr} {sl_law_answers : Array (Option Value)} {oc_law_answers kV_law_answers dc_law_answers pm_law_answers cd_law_answers ct_law_answers : Value}
    (a_law_answers : PySem.W.nsIn K mainGlobals "_law_answers" = some (some (.ref f_law_answers)))
    (l_law_answers : K.lookup f_law_answers = some ⟨oc_law_answers, od_law_answers, .func (PySem.W.fnOf "_law_answers" "_law_answers" (defArgs s_law_answers) (defBody s_law_answers) (defScope s_law_answers) .none kV_law_answers dc_law_answers pm_law_answers an_law_answers cd_law_answers ct_law_answers), sl_law_answers⟩) (c_law_answers : PySem.W.codeIn K cd_law_answers "_law_answers" = true) (k_law_answers : PySem.W.keepIn K (.ref f_law_answers) = true)
    {od_law_wild an_law_wild : Option Addr} {sl_law_wild : Array (Option Value)} {oc_law_wild kV_law_wild dc_law_wild pm_law_wild cd_law_wild ct_law_wild : Value}
    (a_law_wild : PySem.W.nsIn K mainGlobals "_law_wild" = some (some (.ref f_law_wild)))
    (l_law_wild : K.lookup f_law_wild = some ⟨oc_law_wild, od_law_wild, .func (PySem.W.fnOf "_law_wild" "_law_wild" (defArgs s_law_wild) (defBody s_law_wild) (defScope s_law_wild) .none kV_law_wild dc_law_wild pm_law_wild an_law_wild cd_law_wild ct_law_wild), sl_law_wild⟩) (c_law_wild : PySem.W.codeIn K cd_law_wild "_law_wild" = true) (k_law_wild : PySem.W.keepIn K (.ref f_law_wild) = true)
    {od_law_clash an_law_clash : Option Addr} {sl_law_clash : Array (Option Value)} {oc_law_clash kV_law_clash dc_law_clash pm_law_clash cd_law_clash ct_law_clash : Value}
    (a_law_clash : PySem.W.nsIn K mainGlobals "_law_clash" = some (some (.ref f_law_clash)))
    (l_law_clash : K.lookup f_law_clash = some ⟨oc_law_clash, od_law_clash, .func (PySem.W.fnOf "_law_clash" "_law_clash" (defArgs s_law_clash) (defBody s_law_clash) (defScope s_law_clash) .none kV_law_clash dc_law_clash pm_law_clash an_law_clash cd_law_clash ct_law_clash), sl_law_clash⟩) (c_law_clash : PySem.W.codeIn K cd_law_clash "_law_clash" = true) (k_law_clash : PySem.W.keepIn K (.ref f_law_clash) = true)
    {od_law_is_way an_law_is_way : Option Addr} {sl_law_is_way : Array (Option Value)} {oc_law_is_way kV_law_is_way dc_law_is_way pm_law_is_way cd_law_is_way ct_law_is_way : Value}
    (a_law_is_way : PySem.W.nsIn K mainGlobals "_law_is_way" = some (some (.ref f_law_is_way)))
    (l_law_is_way : K.lookup f_law_is_way = some ⟨oc_law_is_way, od_law_is_way, .func (PySem.W.fnOf "_law_is_way" "_law_is_way" (defArgs s_law_is_way) (defBody s_law_is_way) (defScope s_law_is_way) .none kV_law_is_way dc_law_is_way pm_law_is_way an_law_is_way cd_law_is_way ct_law_is_way), sl_law_is_way⟩) (c_law_is_way : PySem.W.codeIn K cd_law_is_way "_law_is_way" = true) (k_law_is_way : PySem.W.keepIn K (.ref f_law_is_way) = true)
    {od_law_is_paper an_law_is_paper : Option Addr} {sl_law_is_paper : Array (Option Value)} {oc_law_is_paper kV_law_is_paper dc_law_is_paper pm_law_is_paper cd_law_is_paper ct_law_is_paper : Value}
    (a_law_is_paper : PySem.W.nsIn K mainGlobals "_law_is_paper" = some (some (.ref f_law_is_paper)))
    (l_law_is_paper : K.lookup f_law_is_paper = some ⟨oc_law_is_paper, od_law_is_paper, .func (PySem.W.fnOf "_law_is_paper" "_law_is_paper" (defArgs s_law_is_paper) (defBody s_law_is_paper) (defScope s_law_is_paper) .none kV_law_is_paper dc_law_is_paper pm_law_is_paper an_law_is_paper cd_law_is_paper ct_law_is_paper), sl_law_is_paper⟩) (c_law_is_paper : PySem.W.codeIn K cd_law_is_paper "_law_is_paper" = true) (k_law_is_paper : PySem.W.keepIn K (.ref f_law_is_paper) = true)
    {od_law_truth an_law_truth : Option Addr} {sl_law_truth : Array (Option Value)} {oc_law_truth kV_law_truth dc_law_truth pm_law_truth cd_law_truth ct_law_truth : Value}
    (a_law_truth : PySem.W.nsIn K mainGlobals "_law_truth" = some (some (.ref f_law_truth)))
    (l_law_truth : K.lookup f_law_truth = some ⟨oc_law_truth, od_law_truth, .func (PySem.W.fnOf "_law_truth" "_law_truth" (defArgs s_law_truth) (defBody s_law_truth) (defScope s_law_truth) .none kV_law_truth dc_law_truth pm_law_truth an_law_truth cd_law_truth ct_law_truth), sl_law_truth⟩) (c_law_truth : PySem.W.codeIn K cd_law_truth "_law_truth" = true) (k_law_truth : PySem.W.keepIn K (.ref f_law_truth) = true)
    {od_law_walk an_law_walk : Option Addr} {sl_law_walk : Array (Option Value)} {oc_law_walk kV_law_walk dc_law_walk pm_law_walk cd_law_walk ct_law_walk : Value}
    (a_law_walk : PySem.W.nsIn K mainGlobals "_law_walk" = some (some (.ref f_law_walk)))
    (l_law_walk : K.lookup f_law_walk = some ⟨oc_law_walk, od_law_walk, .func (PySem.W.fnOf "_law_walk" "_law_walk" (defArgs s_law_walk) (defBody s_law_walk) (defScope s_law_walk) .none kV_law_walk dc_law_walk pm_law_walk an_law_walk cd_law_walk ct_law_walk), sl_law_walk⟩) (c_law_walk : PySem.W.codeIn K cd_law_walk "_law_walk" = true) (k_law_walk : PySem.W.keepIn K (.ref f_law_walk) = true)
    {od_law_made_up an_law_made_up : Option Addr} {sl_law_made_up : Array (Option Value)} {oc_law_made_up kV_law_made_up dc_law_made_up pm_law_made_up cd_law_made_up ct_law_made_up : Value}
    (a_law_made_up : PySem.W.nsIn K mainGlobals "_law_made_up" = some (some (.ref f_law_made_up)))
    (l_law_made_up : K.lookup f_law_made_up = some ⟨oc_law_made_up, od_law_made_up, .func (PySem.W.fnOf "_law_made_up" "_law_made_up" (defArgs s_law_made_up) (defBody s_law_made_up) (defScope s_law_made_up) .none kV_law_made_up dc_law_made_up pm_law_made_up an_law_made_up cd_law_made_up ct_law_made_up), sl_law_made_up⟩) (c_law_made_up : PySem.W.codeIn K cd_law_made_up "_law_made_up" = true) (k_law_made_up : PySem.W.keepIn K (.ref f_law_made_up) = true)
    {od_law an_law : Option Addr} {sl_law : Array (Option Value)} {oc_law kV_law dc_law pm_law cd_law ct_law : Value}
    (a_law : PySem.W.nsIn K mainGlobals "law" = some (some (.ref f_law)))
    (l_law : K.lookup f_law = some ⟨oc_law, od_law, .func (PySem.W.fnOf "law" "law" (defArgs s_law) (defBody s_law) (defScope s_law) .none kV_law dc_law pm_law an_law cd_law ct_law), sl_law⟩) (c_law : PySem.W.codeIn K cd_law "law" = true) (k_law : PySem.W.keepIn K (.ref f_law) = true)
    (z_len : PySem.W.nsIn K mainGlobals "len" = some none)
    (z_list : PySem.W.nsIn K mainGlobals "list" = some none)
    (z_isinstance : PySem.W.nsIn K mainGlobals "isinstance" = some none)
    (z_int : PySem.W.nsIn K mainGlobals "int" = some none)
    (z_bool : PySem.W.nsIn K mainGlobals "bool" = some none)
    (z_str : PySem.W.nsIn K mainGlobals "str" = some none)
    (z_tuple : PySem.W.nsIn K mainGlobals "tuple" = some none)
    (z_range : PySem.W.nsIn K mainGlobals "range" = some none)
    (z_sorted : PySem.W.nsIn K mainGlobals "sorted" = some none)
    (z_any : PySem.W.nsIn K mainGlobals "any" = some none)
    (z_min : PySem.W.nsIn K mainGlobals "min" = some none)
    (z_zip : PySem.W.nsIn K mainGlobals "zip" = some none)
    {C_Contrary : Addr} {nm_Contrary q_Contrary : Str} {N_Contrary : Addr} {bs_Contrary : List Value} {sn_Contrary : List Str} {sub_Contrary : List Value} {ab_Contrary : Bool} {col_Contrary : Option Bool} {dd_Contrary : Option Addr} {m0_Contrary m1_Contrary m2_Contrary m3_Contrary m5_Contrary : Option Value}
    (ga_Contrary : PySem.W.nsIn K mainGlobals "Contrary" = some (some (.ref C_Contrary))) (xl_Contrary : K.lookup C_Contrary = some (excClassObj nm_Contrary q_Contrary C_Contrary N_Contrary bs_Contrary [.ref C_HouseError, .type "ValueError", .type "Exception", .type "BaseException", .type "object"] true sn_Contrary sub_Contrary ab_Contrary col_Contrary dd_Contrary m0_Contrary m1_Contrary m2_Contrary m3_Contrary m5_Contrary "ValueError.__new__"))
    (hb_Contrary : PySem.W.subIn K (.ref C_Contrary) (.type "BaseException") = some true) (hi_Contrary : PySem.W.isClsIn K C_Contrary = true) (ht_Contrary : PySem.W.typeIn K (.ref C_Contrary) = some (.type "type")) (xk_Contrary : PySem.W.keepIn K (.ref C_Contrary) = true) (sa_Contrary : PySem.W.findIn K (.ref C_Contrary) "__setattr__" = some (some (.builtin "object.__setattr__")))
    (xg_Contrary : PySem.W.findIn K (.ref C_Contrary) "__getattribute__" = some (some (.builtin "BaseException.__getattribute__"))) (xh_Contrary : PySem.W.findIn K (.ref C_Contrary) "__getattr__" = some none) (xd_Contrary : PySem.W.hasDictIn K C_Contrary = true)
    (xo_Contrary : PySem.W.findIn K (.ref C_Contrary) "__class__" = some (some (.builtin "object.__class__"))) (xp_Contrary : PySem.W.specialIn K (.builtin "object.__class__") "__get__" = some (some (.builtin "getset_descriptor.__get__"))) (xq_Contrary : PySem.W.takesIn K (.builtin "object.__class__") = some true) (xr_Contrary : PySem.W.mroIn K C_Contrary (.type "object") = some true)
    (xi_Contrary : PySem.W.findIn K (.ref C_Contrary) "__init__" = some (some (.ref f_Contrary___init__))) (xj_Contrary : PySem.W.typeIn K (.ref f_Contrary___init__) = some (.type "function"))
    (nf_Contrary_upper : PySem.W.findIn K (.ref C_Contrary) "upper" = some none)
    (nf_Contrary_lower : PySem.W.findIn K (.ref C_Contrary) "lower" = some none)
    {C_Unsettled : Addr} {nm_Unsettled q_Unsettled : Str} {N_Unsettled : Addr} {bs_Unsettled : List Value} {sn_Unsettled : List Str} {sub_Unsettled : List Value} {ab_Unsettled : Bool} {col_Unsettled : Option Bool} {dd_Unsettled : Option Addr} {m0_Unsettled m1_Unsettled m2_Unsettled m3_Unsettled m5_Unsettled : Option Value}
    (ga_Unsettled : PySem.W.nsIn K mainGlobals "Unsettled" = some (some (.ref C_Unsettled))) (xl_Unsettled : K.lookup C_Unsettled = some (excClassObj nm_Unsettled q_Unsettled C_Unsettled N_Unsettled bs_Unsettled [.ref C_HouseError, .type "ValueError", .type "Exception", .type "BaseException", .type "object"] true sn_Unsettled sub_Unsettled ab_Unsettled col_Unsettled dd_Unsettled m0_Unsettled m1_Unsettled m2_Unsettled m3_Unsettled m5_Unsettled "ValueError.__new__"))
    (hb_Unsettled : PySem.W.subIn K (.ref C_Unsettled) (.type "BaseException") = some true) (hi_Unsettled : PySem.W.isClsIn K C_Unsettled = true) (ht_Unsettled : PySem.W.typeIn K (.ref C_Unsettled) = some (.type "type")) (xk_Unsettled : PySem.W.keepIn K (.ref C_Unsettled) = true) (sa_Unsettled : PySem.W.findIn K (.ref C_Unsettled) "__setattr__" = some (some (.builtin "object.__setattr__")))
    (xg_Unsettled : PySem.W.findIn K (.ref C_Unsettled) "__getattribute__" = some (some (.builtin "BaseException.__getattribute__"))) (xh_Unsettled : PySem.W.findIn K (.ref C_Unsettled) "__getattr__" = some none) (xd_Unsettled : PySem.W.hasDictIn K C_Unsettled = true)
    (xo_Unsettled : PySem.W.findIn K (.ref C_Unsettled) "__class__" = some (some (.builtin "object.__class__"))) (xp_Unsettled : PySem.W.specialIn K (.builtin "object.__class__") "__get__" = some (some (.builtin "getset_descriptor.__get__"))) (xq_Unsettled : PySem.W.takesIn K (.builtin "object.__class__") = some true) (xr_Unsettled : PySem.W.mroIn K C_Unsettled (.type "object") = some true)
    (xi_Unsettled : PySem.W.findIn K (.ref C_Unsettled) "__init__" = some (some (.ref f_Unsettled___init__))) (xj_Unsettled : PySem.W.typeIn K (.ref f_Unsettled___init__) = some (.type "function"))
    (nf_Unsettled_version : PySem.W.findIn K (.ref C_Unsettled) "version" = some none)
    (es_Contrary_Contrary : PySem.W.subIn K (.ref C_Contrary) (.ref C_Contrary) = some true)
    (es_Contrary_Unsettled : PySem.W.subIn K (.ref C_Contrary) (.ref C_Unsettled) = some false)
    (es_Unsettled_Contrary : PySem.W.subIn K (.ref C_Unsettled) (.ref C_Contrary) = some false)
    (es_Unsettled_Unsettled : PySem.W.subIn K (.ref C_Unsettled) (.ref C_Unsettled) = some true)
    : ∃ fd : FuncData, (∀ (s : Shared) (v : Value), BindsTo s fd ⟨[v], []⟩ [("_law_script", v)]) ∧ ∀ base : Heap, K.In base → base.Ns mainGlobals mg → FnOk l.prog w K mg base CX0 8 fa fd ["_law_script"] (spLaw K) := by
  have e := hfa.symm.trans (PySem.W.mg_of X G a_law)
  cases e
  have F_Contrary___init__ := fun_mk (st := s_Contrary___init__) l_Contrary___init__ c_Contrary___init__ k_Contrary___init__
  have F_Unsettled___init__ := fun_mk (st := s_Unsettled___init__) l_Unsettled___init__ c_Unsettled___init__ k_Unsettled___init__
  have F_is_whole := fun_mk (st := s_is_whole) l_is_whole c_is_whole k_is_whole
  have D_is_whole : Df K mg "is_whole" s_is_whole ["thing"] _ _ := ⟨F_is_whole, F_is_whole.binds (ps := ["thing"]) fun _ _ _ _ _ _ us hl => match us, hl with | [_], _ => rfl, PySem.W.mg_of X G a_is_whole⟩
  have F_spans := fun_mk (st := s_spans) l_spans c_spans k_spans
  have D_spans : Df K mg "spans" s_spans ["shape"] _ _ := ⟨F_spans, F_spans.binds (ps := ["shape"]) fun _ _ _ _ _ _ us hl => match us, hl with | [_], _ => rfl, PySem.W.mg_of X G a_spans⟩
  have F_no_clash := fun_mk (st := s_no_clash) l_no_clash c_no_clash k_no_clash
  have D_no_clash : Df K mg "no_clash" s_no_clash ["rows", "answers"] _ _ := ⟨F_no_clash, F_no_clash.binds (ps := ["rows", "answers"]) fun _ _ _ _ _ _ us hl => match us, hl with | [_, _], _ => rfl, PySem.W.mg_of X G a_no_clash⟩
  have F_settled := fun_mk (st := s_settled) l_settled c_settled k_settled
  have D_settled : Df K mg "settled" s_settled ["shape", "answers"] _ _ := ⟨F_settled, F_settled.binds (ps := ["shape", "answers"]) fun _ _ _ _ _ _ us hl => match us, hl with | [_, _], _ => rfl, PySem.W.mg_of X G a_settled⟩
  have F_way_down := fun_mk (st := s_way_down) l_way_down c_way_down k_way_down
  have D_way_down : Df K mg "way_down" s_way_down ["shape", "rows", "top", "bottom"] _ _ := ⟨F_way_down, F_way_down.binds (ps := ["shape", "rows", "top", "bottom"]) fun _ _ _ _ _ _ us hl => match us, hl with | [_, _, _, _], _ => rfl, PySem.W.mg_of X G a_way_down⟩
  have F_paper := fun_mk (st := s_paper) l_paper c_paper k_paper
  have D_paper : Df K mg "paper" s_paper ["shape", "answers"] _ _ := ⟨F_paper, F_paper.binds (ps := ["shape", "answers"]) fun _ _ _ _ _ _ us hl => match us, hl with | [_, _], _ => rfl, PySem.W.mg_of X G a_paper⟩
  have F_is_way := fun_mk (st := s_is_way) l_is_way c_is_way k_is_way
  have D_is_way : Df K mg "is_way" s_is_way ["links", "thing"] _ _ := ⟨F_is_way, F_is_way.binds (ps := ["links", "thing"]) fun _ _ _ _ _ _ us hl => match us, hl with | [_, _], _ => rfl, PySem.W.mg_of X G a_is_way⟩
  have F_shows := fun_mk (st := s_shows) l_shows c_shows k_shows
  have D_shows : Df K mg "shows" s_shows ["links", "truths", "version", "thing"] _ _ := ⟨F_shows, F_shows.binds (ps := ["links", "truths", "version", "thing"]) fun _ _ _ _ _ _ us hl => match us, hl with | [_, _, _, _], _ => rfl, PySem.W.mg_of X G a_shows⟩
  have F_right_paper := fun_mk (st := s_right_paper) l_right_paper c_right_paper k_right_paper
  have D_right_paper : Df K mg "right_paper" s_right_paper ["shape", "answers", "thing"] _ _ := ⟨F_right_paper, F_right_paper.binds (ps := ["shape", "answers", "thing"]) fun _ _ _ _ _ _ us hl => match us, hl with | [_, _, _], _ => rfl, PySem.W.mg_of X G a_right_paper⟩
  have F_law_deck := fun_mk (st := s_law_deck) l_law_deck c_law_deck k_law_deck
  have D_law_deck : Df K mg "_law_deck" s_law_deck ["_law_script"] _ _ := ⟨F_law_deck, F_law_deck.binds (ps := ["_law_script"]) fun _ _ _ _ _ _ us hl => match us, hl with | [_], _ => rfl, PySem.W.mg_of X G a_law_deck⟩
  have F_law_mixed := fun_mk (st := s_law_mixed) l_law_mixed c_law_mixed k_law_mixed
  have D_law_mixed : Df K mg "_law_mixed" s_law_mixed ["_law_cell", "_law_turn"] _ _ := ⟨F_law_mixed, F_law_mixed.binds (ps := ["_law_cell", "_law_turn"]) fun _ _ _ _ _ _ us hl => match us, hl with | [_, _], _ => rfl, PySem.W.mg_of X G a_law_mixed⟩
  have F_law_draw := fun_mk (st := s_law_draw) l_law_draw c_law_draw k_law_draw
  have D_law_draw : Df K mg "_law_draw" s_law_draw ["_law_deck_here", "_law_many"] _ _ := ⟨F_law_draw, F_law_draw.binds (ps := ["_law_deck_here", "_law_many"]) fun _ _ _ _ _ _ us hl => match us, hl with | [_, _], _ => rfl, PySem.W.mg_of X G a_law_draw⟩
  have F_law_int := fun_mk (st := s_law_int) l_law_int c_law_int k_law_int
  have D_law_int : Df K mg "_law_int" s_law_int ["_law_thing"] _ _ := ⟨F_law_int, F_law_int.binds (ps := ["_law_thing"]) fun _ _ _ _ _ _ us hl => match us, hl with | [_], _ => rfl, PySem.W.mg_of X G a_law_int⟩
  have F_law_shape := fun_mk (st := s_law_shape) l_law_shape c_law_shape k_law_shape
  have D_law_shape : Df K mg "_law_shape" s_law_shape ["_law_deck_here", "_law_most"] _ _ := ⟨F_law_shape, F_law_shape.binds (ps := ["_law_deck_here", "_law_most"]) fun _ _ _ _ _ _ us hl => match us, hl with | [_, _], _ => rfl, PySem.W.mg_of X G a_law_shape⟩
  have F_law_spans := fun_mk (st := s_law_spans) l_law_spans c_law_spans k_law_spans
  have D_law_spans : Df K mg "_law_spans" s_law_spans ["_law_web"] _ _ := ⟨F_law_spans, F_law_spans.binds (ps := ["_law_web"]) fun _ _ _ _ _ _ us hl => match us, hl with | [_], _ => rfl, PySem.W.mg_of X G a_law_spans⟩
  have F_law_lower := fun_mk (st := s_law_lower) l_law_lower c_law_lower k_law_lower
  have D_law_lower : Df K mg "_law_lower" s_law_lower ["_law_deck_here", "_law_rows"] _ _ := ⟨F_law_lower, F_law_lower.binds (ps := ["_law_deck_here", "_law_rows"]) fun _ _ _ _ _ _ us hl => match us, hl with | [_, _], _ => rfl, PySem.W.mg_of X G a_law_lower⟩
  have F_law_odd := fun_mk (st := s_law_odd) l_law_odd c_law_odd k_law_odd
  have D_law_odd : Df K mg "_law_odd" s_law_odd ["_law_deck_here"] _ _ := ⟨F_law_odd, F_law_odd.binds (ps := ["_law_deck_here"]) fun _ _ _ _ _ _ us hl => match us, hl with | [_], _ => rfl, PySem.W.mg_of X G a_law_odd⟩
  have F_law_bent := fun_mk (st := s_law_bent) l_law_bent c_law_bent k_law_bent
  have D_law_bent : Df K mg "_law_bent" s_law_bent ["_law_deck_here", "_law_thing", "_law_depth"] _ _ := ⟨F_law_bent, F_law_bent.binds (ps := ["_law_deck_here", "_law_thing", "_law_depth"]) fun _ _ _ _ _ _ us hl => match us, hl with | [_, _, _], _ => rfl, PySem.W.mg_of X G a_law_bent⟩
  have F_law_answers := fun_mk (st := s_law_answers) l_law_answers c_law_answers k_law_answers
  have D_law_answers : Df K mg "_law_answers" s_law_answers ["_law_deck_here", "_law_web", "_law_held"] _ _ := ⟨F_law_answers, F_law_answers.binds (ps := ["_law_deck_here", "_law_web", "_law_held"]) fun _ _ _ _ _ _ us hl => match us, hl with | [_, _, _], _ => rfl, PySem.W.mg_of X G a_law_answers⟩
  have F_law_wild := fun_mk (st := s_law_wild) l_law_wild c_law_wild k_law_wild
  have D_law_wild : Df K mg "_law_wild" s_law_wild ["_law_deck_here", "_law_web"] _ _ := ⟨F_law_wild, F_law_wild.binds (ps := ["_law_deck_here", "_law_web"]) fun _ _ _ _ _ _ us hl => match us, hl with | [_, _], _ => rfl, PySem.W.mg_of X G a_law_wild⟩
  have F_law_clash := fun_mk (st := s_law_clash) l_law_clash c_law_clash k_law_clash
  have D_law_clash : Df K mg "_law_clash" s_law_clash ["_law_rows", "_law_answers_here"] _ _ := ⟨F_law_clash, F_law_clash.binds (ps := ["_law_rows", "_law_answers_here"]) fun _ _ _ _ _ _ us hl => match us, hl with | [_, _], _ => rfl, PySem.W.mg_of X G a_law_clash⟩
  have F_law_is_way := fun_mk (st := s_law_is_way) l_law_is_way c_law_is_way k_law_is_way
  have D_law_is_way : Df K mg "_law_is_way" s_law_is_way ["_law_web", "_law_thing"] _ _ := ⟨F_law_is_way, F_law_is_way.binds (ps := ["_law_web", "_law_thing"]) fun _ _ _ _ _ _ us hl => match us, hl with | [_, _], _ => rfl, PySem.W.mg_of X G a_law_is_way⟩
  have F_law_is_paper := fun_mk (st := s_law_is_paper) l_law_is_paper c_law_is_paper k_law_is_paper
  have D_law_is_paper : Df K mg "_law_is_paper" s_law_is_paper ["_law_web", "_law_answers_here", "_law_thing"] _ _ := ⟨F_law_is_paper, F_law_is_paper.binds (ps := ["_law_web", "_law_answers_here", "_law_thing"]) fun _ _ _ _ _ _ us hl => match us, hl with | [_, _, _], _ => rfl, PySem.W.mg_of X G a_law_is_paper⟩
  have F_law_truth := fun_mk (st := s_law_truth) l_law_truth c_law_truth k_law_truth
  have D_law_truth : Df K mg "_law_truth" s_law_truth ["_law_found", "_law_due"] _ _ := ⟨F_law_truth, F_law_truth.binds (ps := ["_law_found", "_law_due"]) fun _ _ _ _ _ _ us hl => match us, hl with | [_, _], _ => rfl, PySem.W.mg_of X G a_law_truth⟩
  have F_law_walk := fun_mk (st := s_law_walk) l_law_walk c_law_walk k_law_walk
  have D_law_walk : Df K mg "_law_walk" s_law_walk ["_law_deck_here", "_law_web", "_law_version"] _ _ := ⟨F_law_walk, F_law_walk.binds (ps := ["_law_deck_here", "_law_web", "_law_version"]) fun _ _ _ _ _ _ us hl => match us, hl with | [_, _, _], _ => rfl, PySem.W.mg_of X G a_law_walk⟩
  have F_law_made_up := fun_mk (st := s_law_made_up) l_law_made_up c_law_made_up k_law_made_up
  have D_law_made_up : Df K mg "_law_made_up" s_law_made_up ["_law_deck_here", "_law_web"] _ _ := ⟨F_law_made_up, F_law_made_up.binds (ps := ["_law_deck_here", "_law_web"]) fun _ _ _ _ _ _ us hl => match us, hl with | [_, _], _ => rfl, PySem.W.mg_of X G a_law_made_up⟩
  have F_law := fun_mk (st := s_law) l_law c_law k_law
  have D_law : Df K mg "law" s_law ["_law_script"] _ _ := ⟨F_law, F_law.binds (ps := ["_law_script"]) fun _ _ _ _ _ _ us hl => match us, hl with | [_], _ => rfl, PySem.W.mg_of X G a_law⟩
  have X_Contrary : ExnI K mg "Contrary" C_Contrary f_Contrary___init__ _ ["self", "upper", "lower"] ["upper", "lower"] := ⟨PySem.W.mg_of X G ga_Contrary, ⟨⟨_, _, _, _, _, _, _, _, _, _, _, _, _, _, _, xl_Contrary, (show PySem.HandSPX.refsVE [.type "ValueError", .type "Exception", .type "BaseException", .type "object"] = true by decide +kernel)⟩, sa_Contrary, hb_Contrary, ht_Contrary, xk_Contrary⟩, xi_Contrary, xj_Contrary, F_Contrary___init__.binds (ps := ["self", "upper", "lower"]) fun _ _ _ _ _ _ us hl => match us, hl with | [_, _, _], _ => rfl, ⟨xg_Contrary, xh_Contrary, hb_Contrary, xd_Contrary⟩, ⟨xg_Contrary, xh_Contrary, hb_Contrary, xd_Contrary, xo_Contrary, xp_Contrary, xq_Contrary, xr_Contrary⟩, fun y hy => by
    rcases (by simpa using hy : y = "upper" ∨ y = "lower") with rfl | rfl
    · exact nf_Contrary_upper
    · exact nf_Contrary_lower⟩
  have X_Unsettled : ExnI K mg "Unsettled" C_Unsettled f_Unsettled___init__ _ ["self", "version"] ["version"] := ⟨PySem.W.mg_of X G ga_Unsettled, ⟨⟨_, _, _, _, _, _, _, _, _, _, _, _, _, _, _, xl_Unsettled, (show PySem.HandSPX.refsVE [.type "ValueError", .type "Exception", .type "BaseException", .type "object"] = true by decide +kernel)⟩, sa_Unsettled, hb_Unsettled, ht_Unsettled, xk_Unsettled⟩, xi_Unsettled, xj_Unsettled, F_Unsettled___init__.binds (ps := ["self", "version"]) fun _ _ _ _ _ _ us hl => match us, hl with | [_, _], _ => rfl, ⟨xg_Unsettled, xh_Unsettled, hb_Unsettled, xd_Unsettled⟩, ⟨xg_Unsettled, xh_Unsettled, hb_Unsettled, xd_Unsettled, xo_Unsettled, xp_Unsettled, xq_Unsettled, xr_Unsettled⟩, fun y hy => by
    rcases (by simpa using hy : y = "version") with rfl
    · exact nf_Unsettled_version⟩
  have T : Txt K mg := ⟨PySem.W.mg_none_of X G z_len, PySem.W.mg_none_of X G z_list, PySem.W.mg_none_of X G z_isinstance, PySem.W.mg_none_of X G z_int, PySem.W.mg_none_of X G z_bool, PySem.W.mg_none_of X G z_str, PySem.W.mg_none_of X G z_tuple, PySem.W.mg_none_of X G z_range, PySem.W.mg_none_of X G z_sorted, PySem.W.mg_none_of X G z_any, PySem.W.mg_none_of X G z_min, PySem.W.mg_none_of X G z_zip⟩
  exact ⟨PySem.W.fnOf "law" "law" (defArgs s_law) (defBody s_law) (defScope s_law) .none kV_law dc_law pm_law an_law cd_law ct_law, fun s v => .of_eq rfl, fun base _ _ => ok_law T F_Contrary___init__ F_Unsettled___init__ D_is_whole D_spans D_no_clash D_settled D_way_down D_paper D_is_way D_shows D_right_paper D_law_deck D_law_mixed D_law_draw D_law_int D_law_shape D_law_spans D_law_lower D_law_odd D_law_bent D_law_answers D_law_wild D_law_clash D_law_is_way D_law_is_paper D_law_truth D_law_walk D_law_made_up D_law X_Contrary X_Unsettled (exm_is hb_Contrary hi_Contrary ht_Contrary es_Contrary_Contrary) (exm_is hb_Unsettled hi_Unsettled ht_Unsettled es_Contrary_Unsettled) (exm_is hb_Contrary hi_Contrary ht_Contrary es_Unsettled_Contrary) (exm_is hb_Unsettled hi_Unsettled ht_Unsettled es_Unsettled_Unsettled)⟩
end FW
open PySem PySem.W PyProof.Rows
set_option maxRecDepth 100000 in
set_option maxHeartbeats 0 in
theorem PySem.Challenge.cw_fewasks_k23_papers_looked_at_holds : PySem.Challenge.rw_fewasks_k23_papers_looked_at.Holds := by
  w_on; o_law; k_head; (case hw => w_witness2)
  k_fill
  refine L2.walk_of (l := PySem.Challenge.rw_fewasks_k23_papers_looked_at) (n := 63) (k := 8) (x := "_law_script") (CX := fun _ => L2.CX0) (sp := fun w => FW.spLaw _) rfl (by decide) rfl ⟨rfl, by decide, by decide⟩ (fun w h Y => PySem.W.kIn_of Y) ?F (fun _ _ a ns hl _ hS => ⟨a, ns, rfl, hS, hl, fun _ => rfl⟩) (fun _ _ _ _ _ h => h)
  case F =>
    intro w mg fa h KX G hmg
    refine' FW.all_mk KX G hmg ?l_Contrary___init__ ?c_Contrary___init__ ?k_Contrary___init__ ?l_Unsettled___init__ ?c_Unsettled___init__ ?k_Unsettled___init__ ?a_is_whole ?l_is_whole ?c_is_whole ?k_is_whole ?a_spans ?l_spans ?c_spans ?k_spans ?a_no_clash ?l_no_clash ?c_no_clash ?k_no_clash ?a_settled ?l_settled ?c_settled ?k_settled ?a_way_down ?l_way_down ?c_way_down ?k_way_down ?a_paper ?l_paper ?c_paper ?k_paper ?a_is_way ?l_is_way ?c_is_way ?k_is_way ?a_shows ?l_shows ?c_shows ?k_shows ?a_right_paper ?l_right_paper ?c_right_paper ?k_right_paper ?a_law_deck ?l_law_deck ?c_law_deck ?k_law_deck ?a_law_mixed ?l_law_mixed ?c_law_mixed ?k_law_mixed ?a_law_draw ?l_law_draw ?c_law_draw ?k_law_draw ?a_law_int ?l_law_int ?c_law_int ?k_law_int ?a_law_shape ?l_law_shape ?c_law_shape ?k_law_shape ?a_law_spans ?l_law_spans ?c_law_spans ?k_law_spans ?a_law_lower ?l_law_lower ?c_law_lower ?k_law_lower ?a_law_odd ?l_law_odd ?c_law_odd ?k_law_odd ?a_law_bent ?l_law_bent ?c_law_bent ?k_law_bent ?a_law_answers ?l_law_answers ?c_law_answers ?k_law_answers ?a_law_wild ?l_law_wild ?c_law_wild ?k_law_wild ?a_law_clash ?l_law_clash ?c_law_clash ?k_law_clash ?a_law_is_way ?l_law_is_way ?c_law_is_way ?k_law_is_way ?a_law_is_paper ?l_law_is_paper ?c_law_is_paper ?k_law_is_paper ?a_law_truth ?l_law_truth ?c_law_truth ?k_law_truth ?a_law_walk ?l_law_walk ?c_law_walk ?k_law_walk ?a_law_made_up ?l_law_made_up ?c_law_made_up ?k_law_made_up ?a_law ?l_law ?c_law ?k_law ?z_len ?z_list ?z_isinstance ?z_int ?z_bool ?z_str ?z_tuple ?z_range ?z_sorted ?z_any ?z_min ?z_zip ?ga_Contrary ?xl_Contrary ?hb_Contrary ?hi_Contrary ?ht_Contrary ?xk_Contrary ?sa_Contrary ?xg_Contrary ?xh_Contrary ?xd_Contrary ?xo_Contrary ?xp_Contrary ?xq_Contrary ?xr_Contrary ?xi_Contrary ?xj_Contrary ?nf_Contrary_upper ?nf_Contrary_lower ?ga_Unsettled ?xl_Unsettled ?hb_Unsettled ?hi_Unsettled ?ht_Unsettled ?xk_Unsettled ?sa_Unsettled ?xg_Unsettled ?xh_Unsettled ?xd_Unsettled ?xo_Unsettled ?xp_Unsettled ?xq_Unsettled ?xr_Unsettled ?xi_Unsettled ?xj_Unsettled ?nf_Unsettled_version ?es_Contrary_Contrary ?es_Contrary_Unsettled ?es_Unsettled_Contrary ?es_Unsettled_Unsettled
    (case ga_Contrary => k_is); (case xi_Contrary => k_is); (case ga_Unsettled => k_is); (case xi_Unsettled => k_is); (case l_Contrary___init__ => k_is); (case c_Contrary___init__ => k_is); (case k_Contrary___init__ => k_is); (case l_Unsettled___init__ => k_is); (case c_Unsettled___init__ => k_is); (case k_Unsettled___init__ => k_is); (case a_is_whole => k_is); (case l_is_whole => k_is); (case c_is_whole => k_is); (case k_is_whole => k_is); (case a_spans => k_is); (case l_spans => k_is); (case c_spans => k_is); (case k_spans => k_is); (case a_no_clash => k_is); (case l_no_clash => k_is); (case c_no_clash => k_is); (case k_no_clash => k_is); (case a_settled => k_is); (case l_settled => k_is); (case c_settled => k_is); (case k_settled => k_is); (case a_way_down => k_is); (case l_way_down => k_is); (case c_way_down => k_is); (case k_way_down => k_is); (case a_paper => k_is); (case l_paper => k_is); (case c_paper => k_is); (case k_paper => k_is); (case a_is_way => k_is); (case l_is_way => k_is); (case c_is_way => k_is); (case k_is_way => k_is); (case a_shows => k_is); (case l_shows => k_is); (case c_shows => k_is); (case k_shows => k_is); (case a_right_paper => k_is); (case l_right_paper => k_is); (case c_right_paper => k_is); (case k_right_paper => k_is); (case a_law_deck => k_is); (case l_law_deck => k_is); (case c_law_deck => k_is); (case k_law_deck => k_is); (case a_law_mixed => k_is); (case l_law_mixed => k_is); (case c_law_mixed => k_is); (case k_law_mixed => k_is); (case a_law_draw => k_is); (case l_law_draw => k_is); (case c_law_draw => k_is); (case k_law_draw => k_is); (case a_law_int => k_is); (case l_law_int => k_is); (case c_law_int => k_is); (case k_law_int => k_is); (case a_law_shape => k_is); (case l_law_shape => k_is); (case c_law_shape => k_is); (case k_law_shape => k_is); (case a_law_spans => k_is); (case l_law_spans => k_is); (case c_law_spans => k_is); (case k_law_spans => k_is); (case a_law_lower => k_is); (case l_law_lower => k_is); (case c_law_lower => k_is); (case k_law_lower => k_is); (case a_law_odd => k_is); (case l_law_odd => k_is); (case c_law_odd => k_is); (case k_law_odd => k_is); (case a_law_bent => k_is); (case l_law_bent => k_is); (case c_law_bent => k_is); (case k_law_bent => k_is); (case a_law_answers => k_is); (case l_law_answers => k_is); (case c_law_answers => k_is); (case k_law_answers => k_is); (case a_law_wild => k_is); (case l_law_wild => k_is); (case c_law_wild => k_is); (case k_law_wild => k_is); (case a_law_clash => k_is); (case l_law_clash => k_is); (case c_law_clash => k_is); (case k_law_clash => k_is); (case a_law_is_way => k_is); (case l_law_is_way => k_is); (case c_law_is_way => k_is); (case k_law_is_way => k_is); (case a_law_is_paper => k_is); (case l_law_is_paper => k_is); (case c_law_is_paper => k_is); (case k_law_is_paper => k_is); (case a_law_truth => k_is); (case l_law_truth => k_is); (case c_law_truth => k_is); (case k_law_truth => k_is); (case a_law_walk => k_is); (case l_law_walk => k_is); (case c_law_walk => k_is); (case k_law_walk => k_is); (case a_law_made_up => k_is); (case l_law_made_up => k_is); (case c_law_made_up => k_is); (case k_law_made_up => k_is); (case a_law => k_is); (case l_law => k_is); (case c_law => k_is); (case k_law => k_is); (case z_len => k_is); (case z_list => k_is); (case z_isinstance => k_is); (case z_int => k_is); (case z_bool => k_is); (case z_str => k_is); (case z_tuple => k_is); (case z_range => k_is); (case z_sorted => k_is); (case z_any => k_is); (case z_min => k_is); (case z_zip => k_is); (case xl_Contrary => k_is); (case hb_Contrary => k_is); (case hi_Contrary => k_is); (case ht_Contrary => k_is); (case xk_Contrary => k_is); (case sa_Contrary => k_is); (case xg_Contrary => k_is); (case xh_Contrary => k_is); (case xd_Contrary => k_is); (case xo_Contrary => k_is); (case xp_Contrary => k_is); (case xq_Contrary => k_is); (case xr_Contrary => k_is); (case xj_Contrary => k_is); (case nf_Contrary_upper => k_is); (case nf_Contrary_lower => k_is); (case xl_Unsettled => k_is); (case hb_Unsettled => k_is); (case hi_Unsettled => k_is); (case ht_Unsettled => k_is); (case xk_Unsettled => k_is); (case sa_Unsettled => k_is); (case xg_Unsettled => k_is); (case xh_Unsettled => k_is); (case xd_Unsettled => k_is); (case xo_Unsettled => k_is); (case xp_Unsettled => k_is); (case xq_Unsettled => k_is); (case xr_Unsettled => k_is); (case xj_Unsettled => k_is); (case nf_Unsettled_version => k_is); (case es_Contrary_Contrary => k_is); (case es_Contrary_Unsettled => k_is); (case es_Unsettled_Contrary => k_is); (case es_Unsettled_Unsettled => k_is)

