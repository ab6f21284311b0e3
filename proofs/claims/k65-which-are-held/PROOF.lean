import PyProof.Rows.All
import Wide.All
import OpenK.AllK
import Wide.FinOn
import HandS.ForMost
import HandS.Wide
import HandS.WideBits
import HandS.Conv
import HandS.IsInst
import HandS.Walk
import HandS.TupLe
import HandS.TupAny
import HandS.DictComp
import HandS.SetKeys
import HandS.ForExc
import HandS.ExcIs
import HandS.ExcInit
import HandS.ExcField
import HandS.Defaults
import HandS.CallSlots
import HandS.MakeKwOnly
import KE.DatumOrd
import PyProof.Claim2Refuses
import KE.GoesEnum
import HandS.WordsDict
import HandS.SortInts
import HandS.Zip
import PyProof.CollectIter
import PyProof.WalksMore
import HandS.TryMany
import KE.KTryMore
import HandS.TryOnly
import HandS.TupMul
import KE.KxIndex
import KE.KeyNested
import HandS.SetFor
import HandS.Strs
import HandS.SortKw
import HandS.Deep
import HandS.DictTup
import HandS.ListItems
import KE.SortData
import HandS.ClsMeth
import HandS.More
import KE.KCallOwn
import HandS.ExcOwn
import PySem.Challenge.RW_fewasks_k65_which_are_held
set_option Elab.async false
set_option maxRecDepth 100000 in
set_option maxHeartbeats 0 in
open_top FW.headT for PySem.Challenge.rw_fewasks_k65_which_are_held
set_option Elab.async false
set_option linter.all false
set_option maxRecDepth 100000
/-! My own small words over the layer: steps of readings as lemmas, heaps that keep. -/
namespace FW
open PySem L2
/-! ### heaps -/
/-- all that stood stands, but at the addresses M -/
def Kp (M : List Addr) (H H' : Hp) : Prop := ∀ b o, b ∉ M → H b = some o → H' b = some o
theorem Kp.refl {M : List Addr} {H : Hp} : Kp M H H := fun _ _ _ h => h
theorem Kp.trans {M : List Addr} {H H1 H2 : Hp} (a : Kp M H H1) (b : Kp M H1 H2) : Kp M H H2 := fun c o n h => b c o n (a c o n h)
theorem Kp.mono {M N : List Addr} {H H1 : Hp} (a : Kp M H H1) (s : ∀ x ∈ M, x ∈ N) : Kp N H H1 := fun c o n h => a c o (fun z => n (s c z)) h
theorem Kp.same {H H1 : Hp} (a : Kp [] H H1) : Same H H1 := fun c o h => a c o (by simp) h
theorem Kp.of {M : List Addr} {H H1 : Hp} (a : Same H H1) : Kp M H H1 := fun c o _ h => a c o h
theorem Kp.new {M : List Addr} {H : Hp} {p : Addr} {o : HO} (h : H p = none) : Kp M H (upd H p o) := fun b u _ e => by rw [upd_ne (ne_of_none e h)]; exact e
theorem Kp.mut {M : List Addr} {H : Hp} {p : Addr} {o : HO} (h : p ∈ M) : Kp M H (upd H p o) := fun b u n e => by
  rw [upd_ne (show b ≠ p from fun z => n (by rw [z]; exact h))]; exact e
/-- a new object that was mutated or laid since: it stood not at the start -/
theorem Kp.mutN {M : List Addr} {H H1 : Hp} {p : Addr} {o : HO} (k : Kp M H H1) (h : H p = none) : Kp M H (upd H1 p o) := fun b u n e => by
  rw [upd_ne (ne_of_none e h)]; exact k b u n e
theorem Same.new {H : Hp} {p : Addr} {o : HO} (h : H p = none) : Same H (upd H p o) := fun b u e => by rw [upd_ne (ne_of_none e h)]; exact e
theorem Kp.seqL {M : List Addr} {K : PySem.W.Frag} {H H' : Hp} {a : Addr} {xs : List V} (k : Kp M H H') (hM : a ∉ M) (h : SqL K H a xs) : SqL K H' a xs := by
  rcases h with (h | ⟨o, h⟩) | h
  · exact .inl (.inl (k _ _ hM h))
  · exact .inl (.inr ⟨o, k _ _ hM h⟩)
  · exact .inr h
theorem Kp.seqT {M : List Addr} {K : PySem.W.Frag} {H H' : Hp} {a : Addr} {xs : List V} (k : Kp M H H') (hM : a ∉ M) (h : SqT K H a xs) : SqT K H' a xs := by
  rcases h with (h | ⟨o, h⟩) | h
  · exact .inl (.inl (k _ _ hM h))
  · exact .inl (.inr ⟨o, k _ _ hM h⟩)
  · exact .inr h
theorem upd_get {H : Hp} {a b : Addr} {o u : HO} (h : b ≠ a) (e : H b = some u) : upd H a o b = some u := by rw [upd_ne h]; exact e
/-- all but p is as it was -/
def Off (p : Addr) (H H' : Hp) : Prop := ∀ b, b ≠ p → H' b = H b
theorem Off.get {p b : Addr} {H H' : Hp} {o : HO} (k : Off p H H') (n : b ≠ p) (e : H b = some o) : H' b = some o := (k b n).trans e
theorem Off.kp {p : Addr} {M : List Addr} {H H' : Hp} (k : Off p H H') (m : p ∈ M) : Kp M H H' := fun b o n e => (k b (fun z => n (by rw [z]; exact m))).trans e
theorem Off.trans {p : Addr} {H H1 H2 : Hp} (a : Off p H H1) (b : Off p H1 H2) : Off p H H2 := fun x n => (b x n).trans (a x n)
theorem Off.keep {p : Addr} {M : List Addr} {H H1 H2 : Hp} (a : Kp M H H1) (b : Off p H1 H2) (n : H p = none) : Kp M H H2 := fun x o m e => (b x (ne_of_none e n)).trans (a x o m e)
/-- a list's change keeps the tuples -/
theorem Off.tup {p b : Addr} {H H' : Hp} {xs ys : List V} (k : Off p H H') (hp : H p = some (.lst xs)) (e : H b = some (.tup ys)) : H' b = some (.tup ys) := k.get (ne_of e hp (fun z => nomatch z)) e
/-- what keeps the tuples -/
structure KT (H H' : Hp) : Prop where
  p : ∀ b xs, H b = some (.tup xs) → H' b = some (.tup xs)
  f : ∀ b o xs, H b = some (.frz o (.tup xs)) → H' b = some (.frz o (.tup xs))
instance {H H' : Hp} : CoeFun (KT H H') (fun _ => ∀ b xs, H b = some (.tup xs) → H' b = some (.tup xs)) := ⟨KT.p⟩
theorem KT.refl {H : Hp} : KT H H := ⟨fun _ _ e => e, fun _ _ _ e => e⟩
theorem KT.of {H H' : Hp} (k : Same H H') : KT H H' := ⟨fun b xs e => k _ _ e, fun b o xs e => k _ _ e⟩
theorem KT.off {p : Addr} {H H' : Hp} {xs : List V} (k : Off p H H') (e : H p = some (.lst xs)) : KT H H' := ⟨fun b ys e2 => k.tup e e2, fun b o ys e2 => k.get (ne_of e2 e (fun z => nomatch z)) e2⟩
theorem KT.trans {H H1 H2 : Hp} (a : KT H H1) (b : KT H1 H2) : KT H H2 := ⟨fun c xs e => b.p c xs (a.p c xs e), fun c o xs e => b.f c o xs (a.f c o xs e)⟩
theorem KT.kp {M : List Addr} {H H' : Hp} (k : Kp M H H') (h : ∀ b ∈ M, ∃ xs, H b = some (.lst xs)) : KT H H' := ⟨fun b ys e => k b _ (fun z => by
  obtain ⟨xs, e2⟩ := h b z
  rw [e] at e2; cases e2) e, fun b o ys e => k b _ (fun z => by
  obtain ⟨xs, e2⟩ := h b z
  rw [e] at e2; cases e2) e⟩
theorem KT.upd {H H1 : Hp} {D : Addr} {o : HO} (k : KT H H1) (h : H D = none) : KT H (upd H1 D o) := ⟨fun b xs e => by rw [upd_ne (ne_of_none e h)]; exact k.p b xs e, fun b u xs e => by rw [upd_ne (ne_of_none e h)]; exact k.f b u xs e⟩
theorem KT.updL {H : Hp} {D : Addr} {o : HO} {ys : List V} (h : H D = some (.lst ys)) : KT H (L2.upd H D o) := ⟨fun b xs e => upd_get (ne_of e h (fun z => nomatch z)) e, fun b u xs e => upd_get (ne_of e h (fun z => nomatch z)) e⟩
/-- a tuple whose object has no dict -/
def TupD (H : Hp) (r : Addr) (xs : List V) : Prop := ∃ o : Obj, H r = some (.frz o (.tup xs)) ∧ o.dict = none
theorem TupD.kt {H H' : Hp} {r : Addr} {xs : List V} (h : TupD H r xs) (k : KT H H') : TupD H' r xs := by
  obtain ⟨o, e, d⟩ := h
  exact ⟨o, k.f _ _ _ e, d⟩
theorem TupD.tx {K : PySem.W.Frag} {H : Hp} {r : Addr} {xs : List V} (h : TupD H r xs) : TyX K H (.ref r) (.type "tuple") := by
  obtain ⟨o, e, d⟩ := h
  exact .fTuple e
theorem TupD.sq {K : PySem.W.Frag} {H : Hp} {r : Addr} {xs : List V} (h : TupD H r xs) : SqT K H r xs := by
  obtain ⟨o, e, d⟩ := h
  exact .inl (.inr ⟨o, e⟩)
/-! ### rules by names -/
/-- a new object o -/
def Nw (o : HO) (H : Hp) (Q : VK) : Prop := ∀ p, H p = none → Q (.ref p) (upd H p o)
def rLen (K : PySem.W.Frag) : List V → Hp → VK → Prop := fun xs H Q => ∃ p ys, xs = [.ref p] ∧ (SqL K H p ys ∨ SqT K H p ys) ∧ Q (.int ys.length) H
def rMin2 : List V → Hp → VK → Prop := fun xs H Q => ∃ i j, xs = [.int i, .int j] ∧ Q (.int (if j < i then j else i)) H
def rMax2 : List V → Hp → VK → Prop := fun xs H Q => ∃ i j, xs = [.int i, .int j] ∧ Q (.int (if j > i then j else i)) H
def rListOf (K : PySem.W.Frag) : List V → Hp → VK → Prop := fun xs H Q => ∃ p ys, xs = [.ref p] ∧ (SqL K H p ys ∨ SqT K H p ys) ∧ ∀ l, H l = none → Q (.ref l) (upd H l (.lst ys))
def rTupOf (K : PySem.W.Frag) : List V → Hp → VK → Prop := fun xs H Q => ∃ p ys, xs = [.ref p] ∧ ((SqL K H p ys ∧ ∀ l, H l = none → Q (.ref l) (upd H l (.tup ys))) ∨ (SqT K H p ys ∧ Q (.ref p) H))
def rRg2 (x y : V) (H : Hp) (R : Int → Int → Hp → Prop) : Prop := ∃ i j, x = .int i ∧ y = .int j ∧ R i j H
def rBits (x : V) (H : Hp) (Q : VK) : Prop := ∃ i, x = .int i ∧ Q (.int (Builtin.Int.intBits i : Nat)) H
def rRng1 (vs : List V) (H : Hp) (R : It → Hp → Prop) : Prop := ∃ j : Int, vs = [.int j] ∧ -(2 ^ 62) ≤ j ∧ j < 2 ^ 62 ∧ R (Itr 0 j.toNat) H
def rRng2 (vs : List V) (H : Hp) (R : It → Hp → Prop) : Prop := ∃ i j : Int, vs = [.int i, .int j] ∧ (-(2 ^ 62) ≤ i ∧ i < 2 ^ 62 ∧ -(2 ^ 62) ≤ j ∧ j < 2 ^ 62) ∧ R (Itr i (j - i).toNat) H
def rItL (K : PySem.W.Frag) (x : V) (H : Hp) (R : It → Hp → Prop) : Prop := ∃ a, x = .ref a ∧ (∃ xs, SqL K H a xs) ∧ R (Itl K a) H
def rItT (K : PySem.W.Frag) (x : V) (H : Hp) (R : It → Hp → Prop) : Prop := ∃ a, x = .ref a ∧ (∃ xs, SqT K H a xs) ∧ R (Itt K a) H
def rDIn (x y : V) (H : Hp) (Q : VK) : Prop := ∃ a o, x = .ref a ∧ DGet H a y o ∧ Q (.bl o.isSome) H
def rDNotIn (x y : V) (H : Hp) (Q : VK) : Prop := ∃ a o, x = .ref a ∧ DGet H a y o ∧ Q (.bl (!o.isSome)) H
def rDGet (x y : V) (H : Hp) (Q : VK) : Prop := ∃ a v, x = .ref a ∧ DGet H a y (some v) ∧ Q v H
def rDGet2 (a : Addr) (y z : V) (H : Hp) (Q : VK) : Prop := ∃ o, DGet H a y o ∧ Q (o.getD z) H
def rDPut (x y v : V) (H : Hp) (R : Hp → Prop) : Prop := ∃ a H4, x = .ref a ∧ DPut H a y v H4 ∧ R H4
def rDSetd (a : Addr) (y z : V) (H : Hp) (Q : VK) : Prop := ∃ (kvs : List (Key × V)) (k : Key), H a = some (.dK kvs) ∧ y = kV k ∧ kvs.length < sizeLine ∧ (∀ v, valV kvs k = some v → Q v H) ∧ (valV kvs k = none → Q z (upd H a (.dK (putK kvs k z))))
def rIsD (x : V) (H : Hp) (R : Addr → Hp → Prop) : Prop := ∃ a, x = .ref a ∧ IsD H a ∧ R a H
def rIsBl : R2 := fun x y H Q => ∃ a b, x = .bl a ∧ y = .bl b ∧ Q (.bl (decide (a = b))) H
def rIsNon : R2 := fun x y H Q => y = .non ∧ Q (.bl (decide (x = .non))) H
def rNotNon : R2 := fun x y H Q => y = .non ∧ Q (.bl (!decide (x = .non))) H
def rTru (K : PySem.W.Frag) (x : V) (H : Hp) (R : Bool → Hp → Prop) : Prop := ∃ k, TruV K x H k ∧ R k H
def tTru (K : PySem.W.Frag) (ta : TE) : TT := fun σ H R => ta σ H fun x H' => ∃ k, TruV K x H' k ∧ R k H'
def rSortD (xs : List V) (H : Hp) (Q : VK) : Prop := ∃ (a : Addr) (kvs : List (Key × V)) (ks : List Int), xs = [.ref a] ∧ Rd H a (.dK kvs) ∧ kvs.map (·.1) = ks.map Sum.inl ∧ ks.length < 64 ∧
    ∀ (ys : List Int) (p : Addr), ys.Perm ks → ys.Pairwise (· ≤ ·) → H p = none → Q (.ref p) (upd H p (.lst (ys.map V.int)))
section
variable {X : Cx}
theorem o_isN : OpR X (compareOp .Is) rIsNon := op_isN
theorem o_notN : OpR X (compareOp .IsNot) rNotNon := op_notN
theorem c_len : CallR X (.builtin "len") (rLen X.K) := call_len_seq
theorem c_min2 (hc : X.calm = true) : CallR X (.builtin "min") rMin2 := call_min2 hc
theorem c_listOf : CallR X (.type "list") (rListOf X.K) := call_list_of
theorem c_tupOf : CallR X (.type "tuple") (rTupOf X.K) := call_tuple_of
end
theorem kb_int_int : kitB "int" "int" = some true := by decide +kernel
theorem kb_int_bool : kitB "int" "bool" = some false := by decide +kernel
theorem kb_int_str : kitB "int" "str" = some false := by decide +kernel
theorem kb_int_tuple : kitB "int" "tuple" = some false := by decide +kernel
theorem kb_int_list : kitB "int" "list" = some false := by decide +kernel
theorem kb_int_dict : kitB "int" "dict" = some false := by decide +kernel
theorem kb_bool_int : kitB "bool" "int" = some true := by decide +kernel
theorem kb_bool_bool : kitB "bool" "bool" = some true := by decide +kernel
theorem kb_bool_str : kitB "bool" "str" = some false := by decide +kernel
theorem kb_bool_tuple : kitB "bool" "tuple" = some false := by decide +kernel
theorem kb_bool_list : kitB "bool" "list" = some false := by decide +kernel
theorem kb_bool_dict : kitB "bool" "dict" = some false := by decide +kernel
theorem kb_str_int : kitB "str" "int" = some false := by decide +kernel
theorem kb_str_bool : kitB "str" "bool" = some false := by decide +kernel
theorem kb_str_str : kitB "str" "str" = some true := by decide +kernel
theorem kb_str_tuple : kitB "str" "tuple" = some false := by decide +kernel
theorem kb_str_list : kitB "str" "list" = some false := by decide +kernel
theorem kb_str_dict : kitB "str" "dict" = some false := by decide +kernel
theorem kb_tuple_int : kitB "tuple" "int" = some false := by decide +kernel
theorem kb_tuple_bool : kitB "tuple" "bool" = some false := by decide +kernel
theorem kb_tuple_str : kitB "tuple" "str" = some false := by decide +kernel
theorem kb_tuple_tuple : kitB "tuple" "tuple" = some true := by decide +kernel
theorem kb_tuple_list : kitB "tuple" "list" = some false := by decide +kernel
theorem kb_tuple_dict : kitB "tuple" "dict" = some false := by decide +kernel
theorem kb_list_int : kitB "list" "int" = some false := by decide +kernel
theorem kb_list_bool : kitB "list" "bool" = some false := by decide +kernel
theorem kb_list_str : kitB "list" "str" = some false := by decide +kernel
theorem kb_list_tuple : kitB "list" "tuple" = some false := by decide +kernel
theorem kb_list_list : kitB "list" "list" = some true := by decide +kernel
theorem kb_list_dict : kitB "list" "dict" = some false := by decide +kernel
theorem kb_dict_int : kitB "dict" "int" = some false := by decide +kernel
theorem kb_dict_bool : kitB "dict" "bool" = some false := by decide +kernel
theorem kb_dict_str : kitB "dict" "str" = some false := by decide +kernel
theorem kb_dict_tuple : kitB "dict" "tuple" = some false := by decide +kernel
theorem kb_dict_list : kitB "dict" "list" = some false := by decide +kernel
theorem kb_dict_dict : kitB "dict" "dict" = some true := by decide +kernel
theorem kb_NoneType_int : kitB "NoneType" "int" = some false := by decide +kernel
theorem kb_NoneType_bool : kitB "NoneType" "bool" = some false := by decide +kernel
theorem kb_NoneType_str : kitB "NoneType" "str" = some false := by decide +kernel
theorem kb_NoneType_tuple : kitB "NoneType" "tuple" = some false := by decide +kernel
theorem kb_NoneType_list : kitB "NoneType" "list" = some false := by decide +kernel
theorem kb_NoneType_dict : kitB "NoneType" "dict" = some false := by decide +kernel
/-! ### steps -/
section
variable {K : PySem.W.Frag} {σ : St} {H : Hp} {Q : VK} {nx bk ct : St → Hp → Prop} {rt : VK} {v : V}
theorem w_seq {t u : TS} (h : t ⟨u ⟨nx, rt, bk, ct⟩, rt, bk, ct⟩ σ H) : tSeq t u ⟨nx, rt, bk, ct⟩ σ H := h
theorem w_seqA {te : TE} {g : TG} {u : TS} (h : te σ H fun x H1 => g x σ H1 (u ⟨nx, rt, bk, ct⟩)) : tSeq (tAsg te g) u ⟨nx, rt, bk, ct⟩ σ H := h
theorem w_seqD {te : TE} {u : TS} (h : te σ H fun _ H1 => u ⟨nx, rt, bk, ct⟩ σ H1) : tSeq (tDrop te) u ⟨nx, rt, bk, ct⟩ σ H := h
theorem w_seqF {wi : TI} {g : TG} {tb u : TS} (h : tFor wi g tb ⟨u ⟨nx, rt, bk, ct⟩, rt, bk, ct⟩ σ H) : tSeq (tFor wi g tb) u ⟨nx, rt, bk, ct⟩ σ H := h
theorem w_seqW {c : TT} {tb u : TS} (h : tWhile c tb ⟨u ⟨nx, rt, bk, ct⟩, rt, bk, ct⟩ σ H) : tSeq (tWhile c tb) u ⟨nx, rt, bk, ct⟩ σ H := h
theorem w_seqG {i : Nat} {te : TE} {ti : TIp} {u : TS} (h : tAug i te ti ⟨u ⟨nx, rt, bk, ct⟩, rt, bk, ct⟩ σ H) : tSeq (tAug i te ti) u ⟨nx, rt, bk, ct⟩ σ H := h
/-- a statement whose ways meet: what follows is taken as U, of which R is enough -/
theorem w_seqJ {t u : TS} (R : St → Hp → Prop) (h2 : ∀ σ' H', R σ' H' → u ⟨nx, rt, bk, ct⟩ σ' H') (h1 : ∀ U : St → Hp → Prop, (∀ σ' H', R σ' H' → U σ' H') → t ⟨U, rt, bk, ct⟩ σ H) : tSeq t u ⟨nx, rt, bk, ct⟩ σ H := h1 _ h2
theorem w_var {i : Nat} (e : σ[i]? = some (some v)) (h : Q v H) : tVar i σ H Q := ⟨v, e, h⟩
theorem w_c (h : Q v H) : tC v σ H Q := h
theorem w_asg {te : TE} {g : TG} (h : te σ H fun x H1 => g x σ H1 nx) : tAsg te g ⟨nx, rt, bk, ct⟩ σ H := h
theorem w_name {i : Nat} {R : St → Hp → Prop} (h : R (σ.set i (some v)) H) : gName i v σ H R := h
theorem w_op {r : R2} {ta tb : TE} (h : ta σ H fun x H1 => tb σ H1 fun y H2 => r x y H2 Q) : tOp r ta tb σ H Q := h
theorem w_un {r : V → Hp → VK → Prop} {ta : TE} (h : ta σ H fun x H1 => r x H1 Q) : tUn r ta σ H Q := h
theorem w_neg {i : Int} (h : Q (.int (-i)) H) : rU (fun i => .int (-i)) (.int i) H Q := ⟨i, rfl, h⟩
theorem w_i {C : Int → Int → Prop} {g : Int → Int → V} {i j : Int} (c : C i j) (h : Q (g i j) H) : rI C g (.int i) (.int j) H Q := ⟨i, j, rfl, rfl, c, h⟩
theorem w_i0 {g : Int → Int → V} {i j : Int} (h : Q (g i j) H) : rI0 g (.int i) (.int j) H Q := ⟨i, j, rfl, rfl, h⟩
theorem w_eqI {i j : Int} (h : Q (.bl (decide (i = j))) H) : rEq (.int i) (.int j) H Q := ⟨rfl, by
  have e : decide (V.int i = V.int j) = decide (i = j) := by
    by_cases q : i = j
    · subst q; rw [decide_eq_true rfl, decide_eq_true rfl]
    · rw [decide_eq_false q, decide_eq_false (fun z => q (V.int.inj z))]
  rw [e]; exact h⟩
theorem w_neI {i j : Int} (h : Q (.bl (!decide (i = j))) H) : rNe (.int i) (.int j) H Q := ⟨rfl, by
  have e : decide (V.int i = V.int j) = decide (i = j) := by
    by_cases q : i = j
    · subst q; rw [decide_eq_true rfl, decide_eq_true rfl]
    · rw [decide_eq_false q, decide_eq_false (fun z => q (V.int.inj z))]
  rw [e]; exact h⟩
theorem w_ixL {p : Addr} {xs : List V} {i : Int} (h1 : SqL K H p xs) (h2 : atI xs i = some v) (h : Q v H) : rIxL K (.ref p) (.int i) H Q := ⟨p, xs, i, v, rfl, rfl, h1, h2, h⟩
theorem w_ixT {p : Addr} {xs : List V} {i : Int} (h1 : SqT K H p xs) (h2 : atI xs i = some v) (h : Q v H) : rIxT K (.ref p) (.int i) H Q := ⟨p, xs, i, v, rfl, rfl, h1, h2, h⟩
theorem w_ixSL {p : Addr} {xs : List V} {i : Int} (h1 : SqL K H p xs) (h2 : atI xs i = some v) (h : Q v H) : rIx K (.ref p) (.int i) H Q := .inl ⟨p, xs, i, v, rfl, rfl, h1, h2, h⟩
theorem w_ixST {p : Addr} {xs : List V} {i : Int} (h1 : SqT K H p xs) (h2 : atI xs i = some v) (h : Q v H) : rIx K (.ref p) (.int i) H Q := .inr (.inl ⟨p, xs, i, v, rfl, rfl, h1, h2, h⟩)
theorem w_neB {x y : Bool} (h : Q (.bl (!decide (x = y))) H) : rNe (.bl x) (.bl y) H Q := ⟨rfl, by
  have e : decide (V.bl x = V.bl y) = decide (x = y) := by
    by_cases q : x = y
    · subst q; rw [decide_eq_true rfl, decide_eq_true rfl]
    · rw [decide_eq_false q, decide_eq_false (fun z => q (V.bl.inj z))]
  rw [e]; exact h⟩
theorem w_eqN (h : Q (.bl true) H) : rEq .non .non H Q := ⟨rfl, h⟩
theorem w_popAt {l : Addr} {xs : List V} {i : Int} {k : Nat} {y : V} (h1 : H l = some (.lst xs)) (h2 : -(2 ^ 63) ≤ i) (h3 : i < 2 ^ 63) (h4 : seqIndex? i xs.length = some k) (h5 : xs[k]? = some y) (h : ∀ H1, H1 l = some (.lst (xs.eraseIdx k)) → Off l H H1 → Q y H1) : rPopAt (.ref l) [.int i] H Q :=
  ⟨l, xs, i, k, y, rfl, rfl, h1, h2, h3, h4, h5, h _ upd_same fun x hx => upd_ne hx⟩
theorem w_sub {to ti : TE} {t : TSet} {R : St → Hp → Prop} (h : to σ H fun o H1 => ti σ H1 fun i H2 => t o i v H2 fun H3 => R σ H3) : gSub to ti t v σ H R := h
theorem w_setL {p : Addr} {xs ys : List V} {k : Int} {j : Nat} {R : Hp → Prop} (h1 : H p = some (.lst xs)) (h2 : ixN xs.length k = some j) (e : xs.set j v = ys) (h : ∀ H1, H1 p = some (.lst ys) → Off p H H1 → R H1) : rSetL (.ref p) (.int k) v H R :=
  ⟨p, xs, k, j, rfl, rfl, h1, h2, by rw [e]; exact h _ upd_same fun x hx => upd_ne hx⟩
theorem w_if {c : TT} {t u : TS} (h : c σ H fun b H1 => if b = true then t ⟨nx, rt, bk, ct⟩ σ H1 else u ⟨nx, rt, bk, ct⟩ σ H1) : tIfS c t u ⟨nx, rt, bk, ct⟩ σ H := h
theorem w_test {t : TE} {R : Bool → Hp → Prop} (h : t σ H fun x H' => ∃ k, x = .bl k ∧ R k H') : tTest t σ H R := h
theorem w_tb {t : TE} {R : Bool → Hp → Prop} (h : t σ H fun x H' => ∃ k, x = .bl k ∧ R k H') : tB t σ H R := h
theorem w_bl {b : Bool} {R : Bool → Prop} (h : R b) : ∃ k, V.bl b = .bl k ∧ R k := ⟨b, rfl, h⟩
theorem w_and {t u : TT} {R : Bool → Hp → Prop} (h : t σ H fun c H1 => if c = true then u σ H1 R else R false H1) : tAnd t u σ H R := h
theorem w_or {t u : TT} {R : Bool → Hp → Prop} (h : t σ H fun c H1 => if c = true then R true H1 else u σ H1 R) : tOr t u σ H R := h
theorem w_not {t : TT} {R : Bool → Hp → Prop} (h : t σ H fun c H1 => R (!c) H1) : tNot t σ H R := h
theorem w_andV {ta tb : TE} (h : ta σ H fun x H1 => ∃ c, x = .bl c ∧ if c = true then tb σ H1 Q else Q (.bl false) H1) : tAndV ta tb σ H Q := h
theorem w_orV {ta tb : TE} (h : ta σ H fun x H1 => ∃ c, x = .bl c ∧ if c = true then Q (.bl true) H1 else tb σ H1 Q) : tOrV ta tb σ H Q := h
theorem w_notV {ta : TE} (h : ta σ H fun x H1 => ∃ c, x = .bl c ∧ Q (.bl (!c)) H1) : tNotV ta σ H Q := h
theorem w_ite {p : Prop} {inst : Decidable p} {A B : Prop} (h1 : p → A) (h2 : ¬ p → B) : if decide p = true then A else B := by
  by_cases h : p
  · rw [if_pos (decide_eq_true h)]; exact h1 h
  · rw [if_neg (fun z => h (of_decide_eq_true z))]; exact h2 h
theorem w_itN {p : Prop} {inst : Decidable p} {A B : Prop} (h1 : ¬ p → A) (h2 : p → B) : if (!decide p) = true then A else B := by
  by_cases h : p
  · rw [decide_eq_true h]; exact h2 h
  · rw [decide_eq_false h]; exact h1 h
theorem w_yes {p : Prop} {inst : Decidable p} {A B : Prop} (h : p) (a : A) : if decide p = true then A else B := by rw [if_pos (decide_eq_true h)]; exact a
theorem w_no {p : Prop} {inst : Decidable p} {A B : Prop} (h : ¬ p) (b : B) : if decide p = true then A else B := by rw [if_neg (fun z => h (of_decide_eq_true z))]; exact b
theorem w_nyes {p : Prop} {inst : Decidable p} {A B : Prop} (h : p) (b : B) : if (!decide p) = true then A else B := by rw [decide_eq_true h]; exact b
theorem w_nno {p : Prop} {inst : Decidable p} {A B : Prop} (h : ¬ p) (a : A) : if (!decide p) = true then A else B := by rw [decide_eq_false h]; exact a
theorem w_itB {b : Bool} {A B : Prop} (h1 : b = true → A) (h2 : b = false → B) : if b = true then A else B := by
  cases b with
  | true => exact h1 rfl
  | false => exact h2 rfl
theorem w_nT {A B : Prop} (h : B) : if (!true) = true then A else B := h
theorem w_nF {A B : Prop} (h : A) : if (!false) = true then A else B := h
theorem w_ret {te : TE} (h : te σ H rt) : tRet te ⟨nx, rt, bk, ct⟩ σ H := h
theorem w_drop {te : TE} (h : te σ H fun _ H1 => nx σ H1) : tDrop te ⟨nx, rt, bk, ct⟩ σ H := h
theorem w_next (h : nx σ H) : tNext ⟨nx, rt, bk, ct⟩ σ H := h
theorem w_cb {r : List V → Hp → VK → Prop} {t : TA} (h : t σ H fun vs H1 => r vs H1 Q) : tCB r t σ H Q := h
theorem w_nil {R : List V → Hp → Prop} (h : R [] H) : tNil σ H R := h
theorem w_cons {ta : TE} {tr : TA} {R : List V → Hp → Prop} (h : ta σ H fun x H1 => tr σ H1 fun xs H2 => R (x :: xs) H2) : tCons ta tr σ H R := h
theorem w_call {sp : Sp} {E : XK} {t : TA} (h : t σ H fun vs H1 => sp (vs ++ []) H1 Q E) : tCall sp [] E t σ H Q := h
theorem w_lst {t : TA} (h : t σ H fun xs H1 => xs.length ≤ sizeLine ∧ Nw (.lst xs) H1 Q) : tLst t σ H Q := h
theorem w_tup {t : TA} (h : t σ H fun xs H1 => xs.length ≤ sizeLine ∧ Nw (.tup xs) H1 Q) : tTup t σ H Q := h
theorem w_new {o : HO} (h : ∀ p H2, H p = none → H2 p = some o → Same H H2 → Q (.ref p) H2) : Nw o H Q := fun p hp => h p _ hp upd_same (Same.new hp)
theorem w_sz {n : Nat} {o : HO} (h1 : n ≤ sizeLine) (h : Nw o H Q) : n ≤ sizeLine ∧ Nw o H Q := ⟨h1, h⟩
theorem w_app {p : Addr} {xs : List V} (h1 : H p = some (.lst xs)) (h2 : xs.length < sizeLine) (h : ∀ H1, H1 p = some (.lst (xs ++ [v])) → Off p H H1 → Q .non H1) : rAppend (.ref p) [v] H Q :=
  ⟨p, xs, v, rfl, rfl, h1, h2, h _ upd_same fun x hx => upd_ne hx⟩
theorem w_bm {r : V → List V → Hp → VK → Prop} {to : TE} {t : TA} (h : to σ H fun x H1 => tyV K "list" x H1 ∧ t σ H1 fun xs H2 => r x xs H2 Q) : tBM K "list" r to t σ H Q := h
theorem w_tyL {p : Addr} {xs : List V} {A : Prop} (h1 : H p = some (.lst xs)) (h : A) : tyV K "list" (.ref p) H ∧ A := ⟨.inl ⟨rfl, _, .inl (.inl h1)⟩, h⟩
theorem w_lenL {p : Addr} {ys : List V} (h1 : SqL K H p ys) (h : Q (.int ys.length) H) : rLen K [V.ref p] H Q := ⟨p, ys, rfl, .inl h1, h⟩
theorem w_lenT {p : Addr} {ys : List V} (h1 : SqT K H p ys) (h : Q (.int ys.length) H) : rLen K [V.ref p] H Q := ⟨p, ys, rfl, .inr h1, h⟩
theorem w_min2 {i j : Int} (h : Q (.int (if j < i then j else i)) H) : rMin2 [V.int i, V.int j] H Q := ⟨i, j, rfl, h⟩
theorem w_max2 {i j : Int} (h : Q (.int (if j > i then j else i)) H) : rMax2 [V.int i, V.int j] H Q := ⟨i, j, rfl, h⟩
theorem w_listL {p : Addr} {ys : List V} (h1 : SqL K H p ys) (h : ∀ l H2, H l = none → H2 l = some (.lst ys) → Same H H2 → Q (.ref l) H2) : rListOf K [V.ref p] H Q := ⟨p, ys, rfl, .inl h1, w_new h⟩
theorem w_listT {p : Addr} {ys : List V} (h1 : SqT K H p ys) (h : ∀ l H2, H l = none → H2 l = some (.lst ys) → Same H H2 → Q (.ref l) H2) : rListOf K [V.ref p] H Q := ⟨p, ys, rfl, .inr h1, w_new h⟩
theorem w_tupL {p : Addr} {ys : List V} (h1 : SqL K H p ys) (h : ∀ l H2, H l = none → H2 l = some (.tup ys) → Same H H2 → Q (.ref l) H2) : rTupOf K [V.ref p] H Q := ⟨p, ys, rfl, .inl ⟨h1, w_new h⟩⟩
theorem w_sum {p : Addr} {ns : List Int} (h1 : SqL K H p (ns.map V.int)) (h : Q (.int ns.sum) H) : rSum K [V.ref p] H Q := ⟨p, ns, rfl, h1, h⟩
theorem w_tupRg {te : St → Hp → (Int → Int → Hp → Prop) → Prop} (h : te σ H fun a b H1 => RgOk a b ∧ Nw (.tup (rgV a b)) H1 Q) : tTupRg te σ H Q := h
theorem w_rg2 {ta tb : TE} {R : Int → Int → Hp → Prop} (h : ta σ H fun x H1 => tb σ H1 fun y H2 => rRg2 x y H2 R) : tRg2 ta tb σ H R := h
theorem w_rg2' {i j : Int} {R : Int → Int → Hp → Prop} (h : R i j H) : rRg2 (.int i) (.int j) H R := ⟨i, j, rfl, rfl, h⟩
theorem w_bits {to : TE} (h : to σ H fun x H1 => rBits x H1 Q) : tBits to σ H Q := h
theorem w_bits' {i : Int} (h : Q (.int (Builtin.Int.intBits i : Nat)) H) : rBits (.int i) H Q := ⟨i, rfl, h⟩
theorem w_isi {x : V} {a n : String} {b : Bool} (ty : TyX K H x (.type a)) (hk : kitB a n = some b) (h : Q (.bl b) H) : rIsi K [x, .ty n] H Q := ⟨x, .ty n, _, _, b, rfl, .ty n, ty, kit_ty hk, h⟩
theorem w_eqS {x y : Str} (h : Q (.bl (decide (x = y))) H) : rEq (.str x) (.str y) H Q := ⟨rfl, by
  have e : decide (V.str x = V.str y) = decide (x = y) := by
    by_cases q : x = y
    · subst q; rw [decide_eq_true rfl, decide_eq_true rfl]
    · rw [decide_eq_false q, decide_eq_false (fun z => q (V.str.inj z))]
  rw [e]; exact h⟩
theorem w_eqB {x y : Bool} (h : Q (.bl (decide (x = y))) H) : rEq (.bl x) (.bl y) H Q := ⟨rfl, by
  have e : decide (V.bl x = V.bl y) = decide (x = y) := by
    by_cases q : x = y
    · subst q; rw [decide_eq_true rfl, decide_eq_true rfl]
    · rw [decide_eq_false q, decide_eq_false (fun z => q (V.bl.inj z))]
  rw [e]; exact h⟩
/-! targets, dicts -/
theorem w_gtup {a : Addr} {xs : List V} {n : Nat} {t : TGs} {R : St → Hp → Prop} (h1 : SqT K H a xs) (h2 : xs.length = n) (h : t xs σ H R) : gTup K n t (.ref a) σ H R := ⟨a, xs, rfl, h1, h2, h⟩
theorem w_gcons {t : TG} {u : TGs} {r : List V} {R : St → Hp → Prop} (h : t v σ H fun σ' H' => u r σ' H' R) : gCons t u (v :: r) σ H R := ⟨v, r, rfl, h⟩
theorem w_gnil {R : St → Hp → Prop} (h : R σ H) : gNil [] σ H R := ⟨rfl, h⟩
theorem w_din {ty td : TE} (h : ty σ H fun y H1 => td σ H1 fun x H2 => rDIn x y H2 Q) : tDIn ty td σ H Q := h
theorem w_dnotin {ty td : TE} (h : ty σ H fun y H1 => td σ H1 fun x H2 => rDNotIn x y H2 Q) : tDNotIn ty td σ H Q := h
theorem w_dget {ty td : TE} (h : td σ H fun x H1 => ty σ H1 fun y H2 => rDGet x y H2 Q) : tDGet td ty σ H Q := h
theorem w_dinI {a : Addr} {kvs : List (Key × V)} {n : Int} (e : H a = some (.dK kvs)) (h : Q (.bl (valV kvs (Sum.inl n)).isSome) H) : rDIn (.ref a) (.int n) H Q := ⟨a, _, rfl, DGet.k (k := Sum.inl n) e, h⟩
theorem w_dnotinI {a : Addr} {kvs : List (Key × V)} {n : Int} (e : H a = some (.dK kvs)) (h : Q (.bl (!(valV kvs (Sum.inl n)).isSome)) H) : rDNotIn (.ref a) (.int n) H Q := ⟨a, _, rfl, DGet.k (k := Sum.inl n) e, h⟩
theorem w_dgetI {a : Addr} {kvs : List (Key × V)} {n : Int} (e : H a = some (.dK kvs)) (e2 : valV kvs (Sum.inl n) = some v) (h : Q v H) : rDGet (.ref a) (.int n) H Q := ⟨a, v, rfl, e2 ▸ DGet.k (k := Sum.inl n) e, h⟩
theorem w_dnewK (h : Nw (.dK []) H Q) : tDNewK σ H Q := h
theorem w_dput {td ty tv : TE} (h : tv σ H fun v H1 => td σ H1 fun x H2 => ty σ H2 fun y H3 => rDPut x y v H3 fun H4 => nx σ H4) : sDPut td ty tv ⟨nx, rt, bk, ct⟩ σ H := h
theorem w_seqP {td ty tv : TE} {u : TS} (h : tv σ H fun v H1 => td σ H1 fun x H2 => ty σ H2 fun y H3 => rDPut x y v H3 fun H4 => u ⟨nx, rt, bk, ct⟩ σ H4) : tSeq (sDPut td ty tv) u ⟨nx, rt, bk, ct⟩ σ H := h
theorem w_dputI {a : Addr} {kvs : List (Key × V)} {n : Int} {R : Hp → Prop} (e : H a = some (.dK kvs)) (hl : kvs.length < sizeLine) (h : ∀ H1, H1 a = some (.dK (putK kvs (Sum.inl n) v)) → Off a H H1 → R H1) : rDPut (.ref a) (.int n) v H R :=
  ⟨a, _, rfl, DPut.k (k := Sum.inl n) e hl, h _ upd_same fun x hx => upd_ne hx⟩
theorem w_dget2 {td ty tx : TE} (h : td σ H fun x H1 => rIsD x H1 fun a H1 => ty σ H1 fun y H2 => tx σ H2 fun z H3 => rDGet2 a y z H3 Q) : tDGet2 td ty tx σ H Q := h
theorem w_isD {a : Addr} {kvs : List (Key × V)} {R : Addr → Hp → Prop} (e : H a = some (.dK kvs)) (h : R a H) : rIsD (.ref a) H R := ⟨a, rfl, .inl ⟨kvs, .inl e⟩, h⟩
theorem w_dget2I {a : Addr} {kvs : List (Key × V)} {n : Int} {z : V} (e : H a = some (.dK kvs)) (h : Q ((valV kvs (Sum.inl n)).getD z) H) : rDGet2 a (.int n) z H Q := ⟨_, DGet.k (k := Sum.inl n) e, h⟩
theorem w_dsetd {td ty tx : TE} (h : td σ H fun x H1 => rIsD x H1 fun a H1 => ty σ H1 fun y H2 => tx σ H2 fun z H3 => rDSetd a y z H3 Q) : tDSetd td ty tx σ H Q := h
theorem w_leT2 {p q : Addr} {a b c d : Int} (h1 : SqT K H p [.int a, .int b]) (h2 : SqT K H q [.int c, .int d]) (h : Q (.bl (decide (a < c ∨ a = c ∧ b ≤ d))) H) : rLeT K (.ref p) (.ref q) H Q := by
  refine ⟨p, q, [a, b], [c, d], rfl, rfl, h1, h2, ?_⟩
  have e : Ob.lexAt (fun j => decide (([a, b] : List Int).getD j 0 = ([c, d] : List Int).getD j 0)) (fun j => decide (([a, b] : List Int).getD j 0 ≤ ([c, d] : List Int).getD j 0)) (decide (([a, b] : List Int).length ≤ ([c, d] : List Int).length)) 0 (min ([a, b] : List Int).length ([c, d] : List Int).length) = decide (a < c ∨ a = c ∧ b ≤ d) := by
    show (if decide (a = c) = true then (if decide (b = d) = true then true else decide (b ≤ d)) else decide (a ≤ c)) = _
    by_cases h1 : a = c
    · rw [if_pos (decide_eq_true h1)]
      by_cases h2 : b = d
      · rw [if_pos (decide_eq_true h2)]
        exact (decide_eq_true (by omega)).symm
      · rw [if_neg (fun z => h2 (of_decide_eq_true z))]
        rw [Bool.eq_iff_iff]; simp; omega
    · rw [if_neg (fun z => h1 (of_decide_eq_true z))]
      rw [Bool.eq_iff_iff]; simp; omega
  rw [e]
  exact h
theorem inV_ints (n : Int) (vs : List Int) : inV (.int n) (vs.map V.int) = decide (n ∈ vs) := by
  unfold inV
  rw [Bool.eq_iff_iff, List.any_eq_true]
  constructor
  · rintro ⟨y, hy, e⟩
    obtain ⟨z, hz, rfl⟩ := List.mem_map.mp hy
    have e' : z = n := by simpa [eqV] using e
    subst e'
    exact decide_eq_true hz
  · intro h
    exact ⟨.int n, List.mem_map_of_mem (of_decide_eq_true h), by simp [eqV]⟩
theorem flat_ints (vs : List Int) : (vs.map V.int).all flatV = true := by
  rw [List.all_eq_true]
  intro y hy
  obtain ⟨z, _, rfl⟩ := List.mem_map.mp hy
  rfl
theorem w_inT {p : Addr} {vs : List Int} {n : Int} (h1 : SqT K H p (vs.map V.int)) (h : Q (.bl (decide (n ∈ vs))) H) : rIn K false (.int n) (.ref p) H Q := ⟨p, _, rfl, .inr h1, rfl, flat_ints vs, by rw [inV_ints]; exact h⟩
theorem w_ninT {p : Addr} {vs : List Int} {n : Int} (h1 : SqT K H p (vs.map V.int)) (h : Q (.bl (!decide (n ∈ vs))) H) : rIn K true (.int n) (.ref p) H Q := ⟨p, _, rfl, .inr h1, rfl, flat_ints vs, by rw [inV_ints]; exact h⟩
theorem w_inL {p : Addr} {vs : List Int} {n : Int} (h1 : SqL K H p (vs.map V.int)) (h : Q (.bl (decide (n ∈ vs))) H) : rIn K false (.int n) (.ref p) H Q := ⟨p, _, rfl, .inl h1, rfl, flat_ints vs, by rw [inV_ints]; exact h⟩
theorem w_ninL {p : Addr} {vs : List Int} {n : Int} (h1 : SqL K H p (vs.map V.int)) (h : Q (.bl (!decide (n ∈ vs))) H) : rIn K true (.int n) (.ref p) H Q := ⟨p, _, rfl, .inl h1, rfl, flat_ints vs, by rw [inV_ints]; exact h⟩
def rDisp (p : Addr) (ps : List (V × V)) (H2 : Hp) (Q : VK) : Prop := H2 p = some (.dK []) ∧ ∃ kvs : List (Key × V), ps = kvs.map (fun kv => (kV kv.1, kv.2)) ∧ kvs.length ≤ 15 ∧ Q (.ref p) (upd H2 p (.dK (mergeK [] kvs)))
theorem w_pair {tk tv : TE} {r : List (TE × TE)} {R : List (V × V) → Hp → Prop} (h : tk σ H fun x H1 => tv σ H1 fun y H2 => tPairs r σ H2 fun ps H3 => R ((x, y) :: ps) H3) : tPairs ((tk, tv) :: r) σ H R := h
theorem w_pnil {R : List (V × V) → Hp → Prop} (h : R [] H) : tPairs [] σ H R := h
theorem w_callS {sp : Sp} {E : St → XK} {t : TA} (h : t σ H fun vs H1 => sp vs H1 Q (E σ)) : tCallS sp E t σ H Q := h
theorem w_isB {x y : Bool} (h : Q (.bl (decide (x = y))) H) : rIsBl (.bl x) (.bl y) H Q := ⟨x, y, rfl, rfl, h⟩
theorem w_isN (h : Q (.bl (decide (v = .non))) H) : rIsNon v .non H Q := ⟨rfl, h⟩
theorem w_notN (h : Q (.bl (!decide (v = .non))) H) : rNotNon v .non H Q := ⟨rfl, h⟩
theorem w_chain {r r' : R2} {ta tb tc : TE} (h : ta σ H fun x H1 => tb σ H1 fun y H2 => r x y H2 fun z H3 => ∃ k, z = .bl k ∧ (if k = true then tc σ H3 fun w' H4 => r' y w' H4 Q else Q (.bl false) H3)) : tChain r r' ta tb tc σ H Q := h
theorem w_trL {p : Addr} {xs : List V} {R : Bool → Hp → Prop} (h1 : SqL K H p xs) (h : R (!xs.isEmpty) H) : rTru K (.ref p) H R := ⟨_, .inl ⟨xs, h1, rfl⟩, h⟩
theorem w_trT {p : Addr} {xs : List V} {R : Bool → Hp → Prop} (h1 : SqT K H p xs) (h : R (!xs.isEmpty) H) : rTru K (.ref p) H R := ⟨_, .inr (.inl ⟨xs, h1, rfl⟩), h⟩
theorem w_tru {ta : TE} {R : Bool → Hp → Prop} (h : ta σ H fun x H1 => rTru K x H1 R) : tTru K ta σ H R := h
/-! loops -/
def Lp (J : It) (g : TG) (tb : TS) (D : Ends) (σ : St) (H1 : Hp) : Prop := ∃ W : Nat → Nat → St → Hp → Prop, (∃ m, W 0 m σ H1) ∧ ∀ i m σ H, W i m σ H →
  (J.stop i H ∧ D.nx σ H) ∨ (J.go i H ∧ ∃ N : St → Hp → Prop, (∀ σ' H', N σ' H' → ∃ m', m' < m ∧ W (i + 1) m' σ' H') ∧ ∀ x H', J.yld i H x H' → g x σ H' fun σ2 H2 => tb { D with nx := N, ct := N, bk := D.nx } σ2 H2)
theorem w_for {wi : TI} {g : TG} {tb : TS} (h : wi σ H fun J H1 => Lp J g tb ⟨nx, rt, bk, ct⟩ σ H1) : tFor wi g tb ⟨nx, rt, bk, ct⟩ σ H := h
theorem lp_list {a : Addr} {xs : List V} {g : TG} {tb : TS} (Pv : Nat → St → Hp → Prop) (h0 : Pv 0 σ H) (hl : ∀ i σ H, i ≤ xs.length → Pv i σ H → SqL K H a xs)
    (hs : ∀ i x σ H, xs[i]? = some x → Pv i σ H → g x σ H fun σ2 H2 => tb ⟨Pv (i + 1), rt, nx, Pv (i + 1)⟩ σ2 H2) (hd : ∀ σ H, Pv xs.length σ H → nx σ H) : Lp (Itl K a) g tb ⟨nx, rt, bk, ct⟩ σ H :=
  for_list (D := ⟨nx, rt, bk, ct⟩) Pv h0 hl hs hd
theorem lp_tup {a : Addr} {xs : List V} {g : TG} {tb : TS} (Pv : Nat → St → Hp → Prop) (h0 : Pv 0 σ H) (hl : ∀ i σ H, i ≤ xs.length → Pv i σ H → SqT K H a xs)
    (hs : ∀ i x σ H, xs[i]? = some x → Pv i σ H → g x σ H fun σ2 H2 => tb ⟨Pv (i + 1), rt, nx, Pv (i + 1)⟩ σ2 H2) (hd : ∀ σ H, Pv xs.length σ H → nx σ H) : Lp (Itt K a) g tb ⟨nx, rt, bk, ct⟩ σ H :=
  for_tup (D := ⟨nx, rt, bk, ct⟩) Pv h0 hl hs hd
theorem lp_range {lo : Int} {n : Nat} {g : TG} {tb : TS} (Pv : Nat → St → Hp → Prop) (h0 : Pv 0 σ H)
    (hs : ∀ i σ H, i < n → Pv i σ H → g (.int (lo + i)) σ H fun σ2 H2 => tb ⟨Pv (i + 1), rt, nx, Pv (i + 1)⟩ σ2 H2) (hd : ∀ σ H, Pv n σ H → nx σ H) : Lp (Itr lo n) g tb ⟨nx, rt, bk, ct⟩ σ H :=
  for_range (D := ⟨nx, rt, bk, ct⟩) Pv h0 hs hd
theorem w_rng1 {t : TA} {R : It → Hp → Prop} (h : t σ H fun vs H1 => rRng1 vs H1 R) : iRng1 t σ H R := h
theorem w_rng1' {j : Int} {R : It → Hp → Prop} (h1 : -(2 ^ 62) ≤ j) (h2 : j < 2 ^ 62) (h : R (Itr 0 j.toNat) H) : rRng1 [.int j] H R := ⟨j, rfl, h1, h2, h⟩
theorem w_rng2 {t : TA} {R : It → Hp → Prop} (h : t σ H fun vs H1 => rRng2 vs H1 R) : iRng2 t σ H R := h
theorem w_rng2' {i j : Int} {R : It → Hp → Prop} (h1 : -(2 ^ 62) ≤ i ∧ i < 2 ^ 62 ∧ -(2 ^ 62) ≤ j ∧ j < 2 ^ 62) (h : R (Itr i (j - i).toNat) H) : rRng2 [.int i, .int j] H R := ⟨i, j, rfl, h1, h⟩
theorem w_itL {tl : TE} {R : It → Hp → Prop} (h : tl σ H fun x H1 => rItL K x H1 R) : iList K tl σ H R := h
theorem w_itL' {a : Addr} {xs : List V} {R : It → Hp → Prop} (h1 : SqL K H a xs) (h : R (Itl K a) H) : rItL K (.ref a) H R := ⟨a, rfl, ⟨xs, h1⟩, h⟩
theorem w_itT {tl : TE} {R : It → Hp → Prop} (h : tl σ H fun x H1 => rItT K x H1 R) : iTup K tl σ H R := h
theorem w_itT' {a : Addr} {xs : List V} {R : It → Hp → Prop} (h1 : SqT K H a xs) (h : R (Itt K a) H) : rItT K (.ref a) H R := ⟨a, rfl, ⟨xs, h1⟩, h⟩
/-- one turn of a while: W (by a falling number) is reached again -/
def WhT (W : Nat → St → Hp → Prop) (m : Nat) (tb : TS) (rt : VK) (nx : St → Hp → Prop) (σ : St) (H : Hp) : Prop := ∃ N : St → Hp → Prop, (∀ σ' H', N σ' H' → ∃ m', m' < m ∧ W m' σ' H') ∧ tb ⟨N, rt, nx, N⟩ σ H
theorem w_turn {W : Nat → St → Hp → Prop} {m : Nat} {tb : TS} (h : tb ⟨fun σ' H' => ∃ m', m' < m ∧ W m' σ' H', rt, nx, fun σ' H' => ∃ m', m' < m ∧ W m' σ' H'⟩ σ H) : WhT W m tb rt nx σ H := ⟨_, fun _ _ z => z, h⟩
theorem w_whileN {c : TT} {tb : TS} (W : Nat → St → Hp → Prop) (m0 : Nat) (h0 : W m0 σ H) (hs : ∀ m σ H, W m σ H → c σ H fun b H1 => if b = true then WhT W m tb rt nx σ H1 else nx σ H1) : tWhile c tb ⟨nx, rt, bk, ct⟩ σ H := ⟨W, ⟨m0, h0⟩, hs⟩
/-! comprehensions -/
def LcP (J : It) (g : TG) (tt : TT) (te : TE) (vs : List Nat) (Q : VK) (σ : St) (H1 : Hp) : Prop := ∀ D, H1 D = none → ∃ W : Nat → Nat → Hp → Prop, (∃ m, W 0 m (upd H1 D (.lst []))) ∧ ∀ i m H, W i m H →
  (J.stop i H ∧ Q (.ref D) H) ∨ (J.go i H ∧ ∃ Nx : Hp → Prop, (∀ H', Nx H' → ∃ m', m' < m ∧ W (i + 1) m' H') ∧ ∀ x H', J.yld i H x H' → g x (wipe σ vs) H' fun σ2 H2 => wipe σ2 vs = wipe σ vs ∧ tt σ2 H2 fun b H3 =>
    if b = true then te σ2 H3 fun y H4 => ∃ acc, H4 D = some (.lst acc) ∧ acc.length < sizeLine ∧ Nx (upd H4 D (.lst (acc ++ [y]))) else Nx H3)
theorem w_lc {wi : TI} {g : TG} {tt : TT} {te : TE} {vs : List Nat} (h : wi σ H fun J H1 => LcP J g tt te vs Q σ H1) : tLc wi g tt te vs σ H Q := h
/-- each turn adds one: the k-th is ys[k]; what stood but M stands -/
theorem lcp_map {J : It} {n : Nat} {G : Hp → Prop} {Y : Nat → Hp → V → Hp → Prop} (w : Walk J n G Y) {g : TG} {te : TE} {vs : List Nat} (M : List Addr) (ys : List V) (hn : ys.length = n) (hz : n ≤ 1000000) (hG : ∀ H', Kp M H H' → G H')
    (hs : ∀ i x H1 H2 (R : V → Hp → Prop), i < n → Kp M H H1 → Y i H1 x H2 → (∀ y H4, ys[i]? = some y → Kp M H1 H4 → R y H4) → g x (wipe σ vs) H2 fun σ2 H3 => wipe σ2 vs = wipe σ vs ∧ te σ2 H3 R)
    (hM : ∀ b ∈ M, ∃ o, H b = some o)
    (hd : ∀ D H', H D = none → Kp M H H' → H' D = some (.lst ys) → Q (.ref D) H') : LcP J g tYes te vs Q σ H := by
  intro D hD
  have hDM : D ∉ M := fun z => by obtain ⟨o, e⟩ := hM D z; rw [hD] at e; cases e
  refine lc_it w (fun i H' => Kp M H H' ∧ H' D = some (.lst (ys.take i))) ⟨Kp.new hD, upd_same⟩ (fun i H' _ z => hG H' z.1) ?_ ?_
  · rintro i x H1 H2 hi ⟨k1, e1⟩ y
    refine (hs i x H1 H2 _ hi k1 y ?_)
    intro z H4 hz' k4
    refine ⟨ys.take i, k4 _ _ hDM e1, ?_, ?_, ?_⟩
    · rw [List.length_take]; exact Nat.lt_of_le_of_lt (Nat.min_le_left _ _) (Nat.lt_of_lt_of_le (Nat.lt_of_lt_of_le hi hz) (by decide))
    · exact (k1.trans k4).mutN hD
    · rw [upd_same, List.take_add_one, hz']; rfl
  · rintro H' ⟨k, e⟩
    rw [List.take_of_length_le (by omega)] at e
    exact hd D H' hD k e
/-- each turn adds one of which P holds (P leans on tuples alone); S: what else holds turn by turn -/
theorem lcp_gen {J : It} {n : Nat} {G : Hp → Prop} {Y : Nat → Hp → V → Hp → Prop} (w : Walk J n G Y) {g : TG} {te : TE} {vs : List Nat} (M : List Addr) (P : Nat → V → Hp → Prop) (S : Nat → Hp → Prop) (hz : n ≤ 1000000)
    (mono : ∀ i y H1 H2, KT H1 H2 → P i y H1 → P i y H2) (SD : ∀ D, H D = none → ∀ i H1 o, S i H1 → S i (upd H1 D o)) (hG : ∀ i H', Kp M H H' → S i H' → G H') (S0 : S 0 H)
    (hs : ∀ i x H1 H2 (R : V → Hp → Prop), i < n → Kp M H H1 → KT H H1 → S i H1 → Y i H1 x H2 → (∀ y H4, P i y H4 → Kp M H1 H4 → KT H1 H4 → S (i + 1) H4 → R y H4) → g x (wipe σ vs) H2 fun σ2 H3 => wipe σ2 vs = wipe σ vs ∧ te σ2 H3 R)
    (hM : ∀ b ∈ M, ∃ o, H b = some o)
    (hd : ∀ D H' ys, ys.length = n → (∀ i y, ys[i]? = some y → P i y H') → H D = none → Kp M H H' → KT H H' → S n H' → H' D = some (.lst ys) → Q (.ref D) H') : LcP J g tYes te vs Q σ H := by
  intro D hD
  have hDM : D ∉ M := fun z => by obtain ⟨o, e⟩ := hM D z; rw [hD] at e; cases e
  refine lc_it w (fun i H' => Kp M H H' ∧ KT H H' ∧ S i H' ∧ ∃ ys, ys.length = i ∧ H' D = some (.lst ys) ∧ ∀ k y, ys[k]? = some y → P k y H') ⟨Kp.new hD, KT.refl.upd hD, SD D hD _ _ _ S0, [], rfl, upd_same, by simp⟩ (fun i H' _ z => hG i H' z.1 z.2.2.1) ?_ ?_
  · rintro i x H1 H2 hi ⟨k1, t1, s1, ys, hl, e1, hp⟩ y
    refine hs i x H1 H2 _ hi k1 t1 s1 y ?_
    intro z H4 pz k4 t4 s4
    have e4 := k4 _ _ hDM e1
    refine ⟨ys, e4, ?_, (k1.trans k4).mutN hD, (t1.trans t4).upd hD, SD D hD _ _ _ s4, ys ++ [z], by rw [List.length_append, hl]; rfl, upd_same, ?_⟩
    · rw [hl]; exact Nat.lt_of_lt_of_le (Nat.lt_of_lt_of_le hi hz) (by decide)
    · intro k y' hy'
      by_cases hk : k < ys.length
      · rw [List.getElem?_append_left hk] at hy'
        exact mono _ _ _ _ (KT.updL e4) (mono _ _ _ _ t4 (hp k y' hy'))
      · rw [List.getElem?_append_right (by omega)] at hy'
        by_cases hk2 : k = ys.length
        · subst hk2
          have e : z = y' := by simpa using hy'
          subst e
          rw [hl]
          exact mono _ _ _ _ (KT.updL e4) pz
        · rw [List.getElem?_eq_none (by simp; omega)] at hy'
          cases hy'
  · rintro H' ⟨k, t, sn, ys, hl, e, hp⟩
    exact hd D H' ys hl hp hD k t sn e
end
/-! ### errors -/
/-- what the top has written of an own error class without __init__ -/
structure Exn (K : PySem.W.Frag) (mg : Str → Option Value) (x : Str) (C : Addr) : Prop where
  g : mg x = some (.ref C)
  x : PySem.W.excIn K C [.type "ValueError", .type "Exception", .type "BaseException", .type "object"] "ValueError.__new__" = true
  k : PySem.W.keepIn K (.ref C) = true
  b : PySem.W.subIn K (.ref C) (.type "BaseException") = some true
  t : PySem.W.typeIn K (.ref C) = some (.type "type")
  e : PySem.W.exmOne K (.ref C) (.ref C) = some true
theorem exm_is {K : PySem.W.Frag} {t : Value} {C : Addr} {r : Bool} (hb : PySem.W.subIn K (.ref C) (.type "BaseException") = some true) (hi : PySem.W.isClsIn K C = true) (ht : PySem.W.typeIn K (.ref C) = some (.type "type")) (hs : PySem.W.subIn K t (.ref C) = some r) : PySem.W.exmOne K t (.ref C) = some r := by
  have hi' : (PySem.W.clsIn K C).isSome = true := hi
  unfold PySem.W.exmOne
  rw [hb, if_pos (by rfl)]
  show (if ((PySem.W.clsIn K C).isSome && PySem.W.typeIn K (Value.ref C) == some (Value.type "type")) = true then PySem.W.subIn K t (Value.ref C) else none) = some r
  rw [hi', ht]
  exact hs
def tTryO (K : PySem.W.Frag) (c : Value) (tb : WX → TS) (ts : Addr → Value → Option Addr → TS) : TS := fun D σ H => tb (wOnly K c ts (fun _ _ _ _ => False) D) D σ H
section
variable {X : Cx} {x : Str} {c : Value} {body suite : List Stmt} {b₀ : Stmt} {np pos pos' : Pos} {tb : WX → TS} {ts : Addr → Value → Option Addr → TS}
end
section
variable {K : PySem.W.Frag} {σ : St} {H : Hp} {nx bk ct : St → Hp → Prop} {rt : VK}
theorem w_try {c : Value} {tb : WX → TS} {ts : Addr → Value → Option Addr → TS} (h : tb (wOnly K c ts (fun _ _ _ _ => False) ⟨nx, rt, bk, ct⟩) ⟨nx, rt, bk, ct⟩ σ H) : tTryO K c tb ts ⟨nx, rt, bk, ct⟩ σ H := h
end
/-! ### dict comprehensions -/
section
open PySem.Spec PyProof.Rows
variable {X : Cx}
end
section
variable {K : PySem.W.Frag} {σ : St} {H : Hp} {Q : VK}
def DcP (J : It) (g : TG) (tt : TT) (tk tv : TE) (vs : List Nat) (Q : VK) (σ : St) (H1 : Hp) : Prop := ∀ D, H1 D = none → ∃ W : Nat → Nat → Hp → Prop, (∃ m, W 0 m (upd H1 D (.dK []))) ∧ ∀ i m H, W i m H →
  (J.stop i H ∧ Q (.ref D) H) ∨ (J.go i H ∧ ∃ Nx : Hp → Prop, (∀ H', Nx H' → ∃ m', m' < m ∧ W (i + 1) m' H') ∧ ∀ x H', J.yld i H x H' → g x (wipe σ vs) H' fun σ2 H2 => wipe σ2 vs = wipe σ vs ∧ tt σ2 H2 fun b H3 =>
    if b = true then tk σ2 H3 fun y H4 => tv σ2 H4 fun z H5 => ∃ kvs k, y = kV k ∧ H5 D = some (.dK kvs) ∧ kvs.length < sizeLine ∧ Nx (upd H5 D (.dK (putK kvs k z))) else Nx H3)
theorem w_dc {wi : TI} {g : TG} {tt : TT} {tk tv : TE} {vs : List Nat} (h : wi σ H fun J H1 => DcP J g tt tk tv vs Q σ H1) : tDc wi g tt tk tv vs σ H Q := h
theorem putK_len' {κ : Type} [DecidableEq κ] (c : List (κ × V)) (k : κ) (x : V) : (putK c k x).length ≤ c.length + 1 := by
  unfold putK
  by_cases e : (c.any fun kv => decide (kv.1 = k)) = true
  · rw [if_pos e, List.length_map]; omega
  · rw [if_neg e, List.length_append]; simp
theorem mergeK_len (es : List (Key × V)) : ∀ acc, (mergeK acc es).length ≤ acc.length + es.length := by
  unfold mergeK
  induction es with
  | nil => intro acc; simp
  | cons e r ih =>
    intro acc
    have h1 := ih (putK acc e.1 e.2)
    have h2 := putK_len' acc e.1 e.2
    simp only [List.foldl_cons, List.length_cons] at *
    omega
theorem mergeK_snoc (acc es : List (Key × V)) (e : Key × V) : mergeK acc (es ++ [e]) = putK (mergeK acc es) e.1 e.2 := by
  unfold mergeK; rw [List.foldl_append]; rfl
/-- each turn adds a pair: the k-th is es[k]; what stood but M stands -/
theorem dcp_map {J : It} {n : Nat} {G : Hp → Prop} {Y : Nat → Hp → V → Hp → Prop} (w : Walk J n G Y) {g : TG} {tk tv : TE} {vs : List Nat} (M : List Addr) (es : List (Key × V)) (hn : es.length = n) (hz : n ≤ 1000000) (hG : ∀ H', Kp M H H' → G H')
    (hs : ∀ i x H1 H2 (R : V → V → Hp → Prop), i < n → Kp M H H1 → Y i H1 x H2 → (∀ e H4, es[i]? = some e → Kp M H1 H4 → R (kV e.1) e.2 H4) → g x (wipe σ vs) H2 fun σ2 H3 => wipe σ2 vs = wipe σ vs ∧ tk σ2 H3 fun y H4 => tv σ2 H4 fun z H5 => R y z H5)
    (hM : ∀ b ∈ M, ∃ o, H b = some o)
    (hd : ∀ D H', H D = none → Kp M H H' → H' D = some (.dK (mergeK [] es)) → Q (.ref D) H') : DcP J g tYes tk tv vs Q σ H := by
  intro D hD
  have hDM : D ∉ M := fun z => by obtain ⟨o, e⟩ := hM D z; rw [hD] at e; cases e
  refine ⟨fun i m H' => m = n - i ∧ i ≤ n ∧ Kp M H H' ∧ H' D = some (.dK (mergeK [] (es.take i))), ⟨n, by simp, Nat.zero_le _, Kp.new hD, upd_same⟩, ?_⟩
  rintro i m H1 ⟨rfl, hi, k1, e1⟩
  by_cases hlt : i < n
  · refine .inr ⟨w.goes i H1 hlt (hG _ k1), fun H' => Kp M H H' ∧ H' D = some (.dK (mergeK [] (es.take (i + 1)))), fun H' z => ⟨n - (i + 1), by omega, rfl, hlt, z.1, z.2⟩, fun x H2 y => ?_⟩
    refine hs i x H1 H2 (fun y z H5 => ∃ kvs k, y = kV k ∧ H5 D = some (.dK kvs) ∧ kvs.length < sizeLine ∧ (Kp M H (upd H5 D (.dK (putK kvs k z))) ∧ (upd H5 D (.dK (putK kvs k z))) D = some (.dK (mergeK [] (es.take (i + 1)))))) hlt k1 (w.yields i H1 x H2 hlt (hG _ k1) y) ?_
    intro e H4 he k4
    refine ⟨mergeK [] (es.take i), e.1, rfl, k4 _ _ hDM e1, ?_, (k1.trans k4).mutN hD, ?_⟩
    · have h1 := mergeK_len (es.take i) []
      have h2 : (es.take i).length ≤ 1000000 := by rw [List.length_take]; omega
      exact Nat.lt_of_le_of_lt (Nat.le_trans h1 (by simpa using h2)) (by decide)
    · rw [upd_same, List.take_add_one, he]
      show _ = some (HO.dK (mergeK [] (es.take i ++ [e])))
      rw [mergeK_snoc]
  · have e : i = n := by omega
    subst e
    rw [List.take_of_length_le (by omega)] at e1
    exact .inl ⟨w.stops H1 (hG _ k1), hd D H1 hD k1 e1⟩
theorem valV_merge (k : Key) : ∀ (es acc : List (Key × V)), (valV (mergeK acc es) k).isSome = ((valV acc k).isSome || es.any fun e => decide (e.1 = k)) := by
  intro es
  induction es with
  | nil => intro acc; show (valV acc k).isSome = _; simp
  | cons e r ih =>
    intro acc
    show (valV (mergeK (putK acc e.1 e.2) r) k).isSome = _
    rw [ih, valV_put, List.any_cons]
    by_cases h : k = e.1
    · rw [if_pos h, decide_eq_true h.symm]; simp
    · rw [if_neg h, decide_eq_false (fun z => h z.symm)]; simp
end
/-! ### ints -/
theorem cmul_l {i j : Int} (h1 : -(2 ^ 64) < i) (h2 : i < 2 ^ 64) : CMul i j := .inl ⟨h1, h2⟩
theorem cmul_r {i j : Int} (h1 : -(2 ^ 64) < j) (h2 : j < 2 ^ 64) : CMul i j := .inr ⟨h1, h2⟩
theorem cdivw {i j : Int} (h1 : 0 < j) (h2 : j < 2 ^ 64) : CDivW i j := wide_div (b := 64) h1 (by omega) (by decide) (by decide)
theorem at_lt {α : Type} {xs : List α} {i : Int} (h0 : 0 ≤ i) (h1 : i < xs.length) : ∃ v, xs[i.toNat]? = some v ∧ atI xs i = some v := by
  have hl : i.toNat < xs.length := by omega
  refine ⟨xs[i.toNat], List.getElem?_eq_getElem hl, ?_⟩
  have e := atI_nat (xs := xs) (j := i.toNat) (List.getElem?_eq_getElem hl)
  rw [Int.toNat_of_nonneg h0] at e
  exact e
/-! ### the deck -/
def MOSTD : Nat := 1099511627776
structure Deck (H : Hp) (d c : Addr) (n : Nat) : Prop where
  ex : ∃ (cs : List Int) (a : Nat) (b : Int) (t : Nat), H d = some (.lst [.ref c, .int a, .int b, .int t]) ∧ H c = some (.lst (cs.map V.int)) ∧ t ≤ n
  ne : c ≠ d
theorem Deck.kp {M : List Addr} {H H' : Hp} {d c : Addr} {n : Nat} (k : Kp M H H') (h1 : d ∉ M) (h2 : c ∉ M) (D : Deck H d c n) : Deck H' d c n := by
  obtain ⟨⟨cs, a, b, t, e1, e2, e3⟩, ne⟩ := D
  exact ⟨⟨cs, a, b, t, k _ _ h1 e1, k _ _ h2 e2, e3⟩, ne⟩
theorem Deck.new {H : Hp} {d c : Addr} {n : Nat} {p : Addr} {o : HO} (h : H p = none) (D : Deck H d c n) : Deck (upd H p o) d c n := D.kp (M := []) (Kp.new h) (by simp) (by simp)
theorem Deck.mut {H : Hp} {d c : Addr} {n : Nat} {p : Addr} {o : HO} (h1 : p ≠ d) (h2 : p ≠ c) (D : Deck H d c n) : Deck (upd H p o) d c n :=
  D.kp (M := [p]) (Kp.mut (by simp)) (by simpa using Ne.symm h1) (by simpa using Ne.symm h2)
theorem Deck.mono {H : Hp} {d c : Addr} {n m : Nat} (D : Deck H d c n) (h : n ≤ m) : Deck H d c m := by
  obtain ⟨⟨cs, a, b, t, e1, e2, e3⟩, ne⟩ := D
  exact ⟨⟨cs, a, b, t, e1, e2, Nat.le_trans e3 h⟩, ne⟩
theorem Deck.at {H : Hp} {d c : Addr} {n : Nat} (D : Deck H d c n) : (∃ xs, H d = some (.lst xs)) ∧ ∃ xs, H c = some (.lst xs) := by
  obtain ⟨⟨cs, a, b, t, e1, e2, e3⟩, ne⟩ := D
  exact ⟨⟨_, e1⟩, ⟨_, e2⟩⟩
theorem Deck.ne1 {H : Hp} {d c p : Addr} {n : Nat} (D : Deck H d c n) (h : H p = none) : p ≠ d ∧ p ≠ c := by
  obtain ⟨⟨xs, e1⟩, ys, e2⟩ := D.at
  exact ⟨(ne_of_none e1 h).symm, (ne_of_none e2 h).symm⟩
end FW

set_option Elab.async false
set_option linter.all false
set_option maxRecDepth 100000
set_option maxHeartbeats 4000000
/-! {key: value for a in as if .. for b in bs if ..}: a dict by two clauses, as a rule of the layer (my own: the layer has it for lists). -/
namespace FW
open PySem PySem.Spec PyProof.Rows L2
section
variable {kx vx ta ia tb ib : Expr} {fa fb : List Expr} {sc : Scope} {ps : Pos}
abbrev two (kx vx ta ia : Expr) (fa : List Expr) (tb ib : Expr) (fb : List Expr) (sc : Scope) (ps : Pos) : Expr := .DictComp kx vx [⟨ta, ia, fa, 0⟩, ⟨tb, ib, fb, 0⟩] sc ps
/-- the tests of a clause, one behind the other -/
abbrev testsOf2 (fs : List Expr) (env : Env) : Sem Bool := forIn fs true fun c r => if r = true then do let ok ← isTrue c env (eval c env); pure (ForInStep.yield ok) else pure (ForInStep.yield r)
variable {pg : Program} {wd : World} {A : Around} {R : Result → Shared → Prop} {st : Shared} {it : Value} {D : Addr} {env : Env}
end
section
variable {X : Cx} {kx vx ta ia tb ib : Expr} {fa fb : List Expr} {sc : Scope} {ps qs : Pos} {own : List (Str × Nat)} {us : List Nat} {wa wb : TI} {ga gb : TG} {ra rb : TT} {tk tv : TE}
/-- the inner walk of one turn: from it Nx is reached -/
def Inner2 (J : It) (gb : TG) (rb : TT) (tk tv : TE) (us : List Nat) (D : Addr) (σ : L2.St) (H : Hp) (Nx : Hp → Prop) : Prop := ∃ W : Nat → Nat → Hp → Prop, (∃ m, W 0 m H) ∧ ∀ j k H1, W j k H1 →
  (J.stop j H1 ∧ Nx H1) ∨ (J.go j H1 ∧ ∃ Ny : Hp → Prop, (∀ H2, Ny H2 → ∃ k', k' < k ∧ W (j + 1) k' H2) ∧ ∀ x H2, J.yld j H1 x H2 → gb x (wipe σ us) H2 fun σ3 H3 => wipe σ3 us = wipe σ us ∧ rb σ3 H3 fun b H4 =>
    if b = true then tk σ3 H4 fun y H5 => tv σ3 H5 fun z H6 => ∃ kvs key, y = kV key ∧ H6 D = some (.dK kvs) ∧ kvs.length < sizeLine ∧ Ny (upd H6 D (.dK (putK kvs key z))) else Ny H4)
/-- the whole -/
def tDc2 (wa : TI) (ga : TG) (ra : TT) (wb : TI) (gb : TG) (rb : TT) (tk tv : TE) (os us : List Nat) : TE := fun σ H Q => wa σ H fun J H1 => ∀ D, H1 D = none → ∃ W : Nat → Nat → Hp → Prop, (∃ m, W 0 m (upd H1 D (.dK []))) ∧ ∀ i m H2, W i m H2 →
  (J.stop i H2 ∧ Q (.ref D) H2) ∨ (J.go i H2 ∧ ∃ Nx : Hp → Prop, (∀ H3, Nx H3 → ∃ m', m' < m ∧ W (i + 1) m' H3) ∧ ∀ x H3, J.yld i H2 x H3 → ga x (wipe σ os) H3 fun σ2 H4 => wipe σ2 os = wipe σ os ∧ ra σ2 H4 fun b H5 =>
    if b = true then wb σ2 H5 fun J1 H6 => Inner2 J1 gb rb tk tv us D σ2 H6 Nx else Nx H5)
end
/-! ### its steps -/
section
variable {K : PySem.W.Frag} {σ : L2.St} {H : Hp} {Q : VK}
def Dc2P (J : It) (ga : TG) (ra : TT) (wb : TI) (gb : TG) (rb : TT) (tk tv : TE) (os us : List Nat) (Q : VK) (σ : L2.St) (H1 : Hp) : Prop := ∀ D, H1 D = none → ∃ W : Nat → Nat → Hp → Prop, (∃ m, W 0 m (upd H1 D (.dK []))) ∧ ∀ i m H2, W i m H2 →
  (J.stop i H2 ∧ Q (.ref D) H2) ∨ (J.go i H2 ∧ ∃ Nx : Hp → Prop, (∀ H3, Nx H3 → ∃ m', m' < m ∧ W (i + 1) m' H3) ∧ ∀ x H3, J.yld i H2 x H3 → ga x (wipe σ os) H3 fun σ2 H4 => wipe σ2 os = wipe σ os ∧ ra σ2 H4 fun b H5 =>
    if b = true then wb σ2 H5 fun J1 H6 => Inner2 J1 gb rb tk tv us D σ2 H6 Nx else Nx H5)
theorem w_dc2 {wa wb : TI} {ga gb : TG} {ra rb : TT} {tk tv : TE} {os us : List Nat} (h : wa σ H fun J H1 => Dc2P J ga ra wb gb rb tk tv os us Q σ H1) : tDc2 wa ga ra wb gb rb tk tv os us σ H Q := h
/-- a comprehension with a test: the turn i gives sel i, or nothing -/
theorem lcp_sel {J : It} {n : Nat} {G : Hp → Prop} {Y : Nat → Hp → V → Hp → Prop} (w : Walk J n G Y) {g : TG} {tt : TT} {te : TE} {vs : List Nat} (M : List Addr) (sel : Nat → Option V) (hz : n ≤ 1000000) (hG : ∀ H', Kp M H H' → G H')
    (hs : ∀ i x H1 H2 (R : V → Hp → Prop) (R0 : Hp → Prop), i < n → Kp M H H1 → Y i H1 x H2 → (∀ y H4, sel i = some y → Kp M H1 H4 → R y H4) → (∀ H4, sel i = none → Kp M H1 H4 → R0 H4) → g x (wipe σ vs) H2 fun σ2 H3 => wipe σ2 vs = wipe σ vs ∧ tt σ2 H3 fun b H4 => if b = true then te σ2 H4 R else R0 H4)
    (hM : ∀ b ∈ M, ∃ o, H b = some o)
    (hd : ∀ D H', H D = none → Kp M H H' → H' D = some (.lst ((List.range n).filterMap sel)) → Q (.ref D) H') : LcP J g tt te vs Q σ H := by
  intro D hD
  have hDM : D ∉ M := fun z => by obtain ⟨o, e⟩ := hM D z; rw [hD] at e; cases e
  refine lc_it w (fun i H' => Kp M H H' ∧ H' D = some (.lst ((List.range i).filterMap sel))) ⟨Kp.new hD, upd_same⟩ (fun i H' _ z => hG H' z.1) ?_ ?_
  · rintro i x H1 H2 hi ⟨k1, e1⟩ y
    refine hs i x H1 H2 _ _ hi k1 y ?_ ?_
    · intro z H4 hz' k4
      refine ⟨_, k4 _ _ hDM e1, ?_, (k1.trans k4).mutN hD, ?_⟩
      · refine Nat.lt_of_le_of_lt (List.length_filterMap_le _ _) ?_
        rw [List.length_range]
        exact Nat.lt_of_lt_of_le (Nat.lt_of_lt_of_le hi hz) (by decide)
      · rw [upd_same, List.range_succ, List.filterMap_append]
        simp [hz']
    · intro H4 hz' k4
      refine ⟨k1.trans k4, ?_⟩
      rw [k4 _ _ hDM e1, List.range_succ, List.filterMap_append]
      simp [hz']
  · rintro H' ⟨k, e⟩
    exact hd D H' hD k e
/-! ### a dict that is walked; any, sorted, insert -/
def rInsert : V → List V → Hp → VK → Prop := fun x vs H Q => ∃ (l : Addr) (xs : List V) (i : Int) (y : V), x = .ref l ∧ vs = [.int i, y] ∧ H l = some (.lst xs) ∧ xs.length < sizeLine ∧ 0 ≤ i ∧ i < 2 ^ 63 ∧ Q .non (upd H l (.lst (xs.take i.toNat ++ [y] ++ xs.drop i.toNat)))
theorem m_insert {X : Cx} : MtR X "list.insert" rInsert := mt_insert
theorem w_insert {l : Addr} {xs : List V} {k : Nat} {y : V} (h1 : H l = some (.lst xs)) (h2 : xs.length < sizeLine) (h3 : (k : Int) < 2 ^ 63) (h : ∀ H1, H1 l = some (.lst (xs.take k ++ [y] ++ xs.drop k)) → Off l H H1 → Q .non H1) : rInsert (.ref l) [.int k, y] H Q :=
  ⟨l, xs, k, y, rfl, rfl, h1, h2, by omega, h3, h _ upd_same fun x hx => upd_ne hx⟩
theorem w_any {p : Addr} {bs : List Bool} (h1 : SqL K H p (bs.map V.bl)) (h : Q (.bl (bs.any id)) H) : rAny K [.ref p] H Q := ⟨p, bs, rfl, h1, h⟩
section
variable {nx bk ct : L2.St → Hp → Prop} {rt : VK}
def rKeys (x : V) (H1 : Hp) (R : It → Hp → Prop) : Prop := ∃ d o, x = .ref d ∧ ((∃ kvs, H1 d = some (.frz o (.dK kvs)) ∧ R (Itk d o kvs) H1) ∨ ∃ kvs, H1 d = some (.frz o (.dT kvs)) ∧ R (Itkt d o kvs) H1)
theorem w_keys {td : TE} {R : It → Hp → Prop} (h : td σ H fun x H1 => rKeys x H1 R) : iKeys td σ H R := h
theorem w_keys' {d : Addr} {o : Obj} {kvs : List (Key × V)} {R : It → Hp → Prop} (e : H d = some (.frz o (.dK kvs))) (h : R (Itk d o kvs) H) : rKeys (.ref d) H R := ⟨d, o, rfl, .inl ⟨kvs, e, h⟩⟩
end
theorem w_tyes {R : Bool → Hp → Prop} (h : R true H) : tYes σ H R := h
theorem w_dinF {a : Addr} {o : Obj} {kvs : List (Key × V)} {n : Int} (e : H a = some (.frz o (.dK kvs))) (h : Q (.bl (valV kvs (Sum.inl n)).isSome) H) : rDIn (.ref a) (.int n) H Q := ⟨a, _, rfl, .inl ⟨kvs, Sum.inl n, .inr ⟨o, e⟩, rfl, rfl⟩, h⟩
theorem w_dgetF {a : Addr} {o : Obj} {kvs : List (Key × V)} {n : Int} {v : V} (e : H a = some (.frz o (.dK kvs))) (e2 : valV kvs (Sum.inl n) = some v) (h : Q v H) : rDGet (.ref a) (.int n) H Q := ⟨a, v, rfl, .inl ⟨kvs, Sum.inl n, .inr ⟨o, e⟩, rfl, e2.symm⟩, h⟩
/-! ### get, reversed, slices, pop -/
def rDGet1 (a : Addr) (y : V) (H : Hp) (Q : VK) : Prop := ∃ o, DGet H a y o ∧ Q (o.getD .non) H
theorem w_dget1 {td ty : TE} (h : td σ H fun x H1 => rIsD x H1 fun a H1 => ty σ H1 fun y H2 => rDGet1 a y H2 Q) : tDGet1 td ty σ H Q := h
theorem w_dget1I {a : Addr} {kvs : List (Key × V)} {n : Int} (e : H a = some (.dK kvs)) (h : Q ((valV kvs (Sum.inl n)).getD .non) H) : rDGet1 a (.int n) H Q := ⟨_, DGet.k (k := Sum.inl n) e, h⟩
def rRev (K : PySem.W.Frag) (vs : List V) (H : Hp) (R : It → Hp → Prop) : Prop := ∃ (a : Addr) (xs : List V), vs = [.ref a] ∧ SqL K H a xs ∧ R (Itv K a xs.length) H
theorem w_rev {ta : TA} {R : It → Hp → Prop} (h : ta σ H fun vs H1 => rRev K vs H1 R) : iRev K ta σ H R := h
theorem w_rev' {a : Addr} {xs : List V} {R : It → Hp → Prop} (h1 : SqL K H a xs) (h : R (Itv K a xs.length) H) : rRev K [.ref a] H R := ⟨a, xs, rfl, h1, h⟩
def rPart (x : V) (H : Hp) (R : Option Int → Hp → Prop) : Prop := ∃ i, x = .int i ∧ R (some i) H
theorem w_slice {r : V → Option Int → Option Int → Hp → VK → Prop} {te : TE} {tl th : TO} (h : te σ H fun x H1 => tl σ H1 fun l H2 => th σ H2 fun u H3 => r x l u H3 Q) : L2.tSl r te tl th σ H Q := h
theorem w_noPart {R : Option Int → Hp → Prop} (h : R none H) : tNoPart σ H R := h
theorem w_part {te : TE} {R : Option Int → Hp → Prop} (h : te σ H fun x H1 => rPart x H1 R) : tPart te σ H R := h
theorem w_part' {i : Int} {R : Option Int → Hp → Prop} (h : R (some i) H) : rPart (.int i) H R := ⟨i, rfl, h⟩
theorem w_slL {a : Addr} {xs : List V} {lo hi : Option Int} (h1 : SqL K H a xs) (h : ∀ p H1, H p = none → H1 p = some (.lst (cutV xs lo hi)) → Same H H1 → Q (.ref p) H1) : rSlL K (.ref a) lo hi H Q := ⟨a, xs, rfl, h1, w_new h⟩
theorem w_bm0 {r : V → List V → Hp → VK → Prop} {to : TE} (h : to σ H fun x H1 => tyV K "list" x H1 ∧ r x [] H1 Q) : tBM0 K "list" r to σ H Q := h
theorem w_pop {l : Addr} {xs : List V} {y : V} (h1 : H l = some (.lst (xs ++ [y]))) (h : ∀ H1, H1 l = some (.lst xs) → Off l H H1 → Q y H1) : rPop (.ref l) [] H Q :=
  ⟨l, _, y, rfl, rfl, h1, by simp, by rw [List.dropLast_concat]; exact h _ upd_same fun x hx => upd_ne hx⟩
theorem w_retN {nx bk ct : L2.St → Hp → Prop} {rt : VK} (h : rt .non H) : tRetN ⟨nx, rt, bk, ct⟩ σ H := h
end
end FW

set_option Elab.async false
set_option linter.all false
set_option maxRecDepth 100000
set_option maxHeartbeats 4000000
/-! Data of any kind: what isinstance says of them, and tuples of them to a depth. -/
namespace FW
open PySem PySem.Spec PyProof.Rows L2
inductive Ty (H : Hp) : V → String → Prop where
  | non : Ty H .non "NoneType"
  | bl (b : Bool) : Ty H (.bl b) "bool"
  | int (i : Int) : Ty H (.int i) "int"
  | str (z : Str) : Ty H (.str z) "str"
  | lst {a : Addr} {xs : List V} (e : H a = some (.lst xs)) : Ty H (.ref a) "list"
  | tup {a : Addr} {xs : List V} (e : H a = some (.tup xs)) : Ty H (.ref a) "tuple"
  | dK {a : Addr} {kvs : List (Key × V)} (e : H a = some (.dK kvs)) : Ty H (.ref a) "dict"
section
variable {K : PySem.W.Frag} {σ : L2.St} {H : Hp} {Q : VK} {x : V} {a : String}
theorem Ty.tx (t : Ty H x a) : TyX K H x (.type a) := by
  cases t with
  | non => exact .base .non
  | bl b => exact .base (.bl b)
  | int i => exact .base (.int i)
  | str z => exact .base (.str z)
  | lst e => exact .base (.lst e)
  | tup e => exact .base (.tup e)
  | dK e => exact .base (.dK e)
theorem Ty.kTup (t : Ty H x a) : kitB a "tuple" = some (decide (a = "tuple")) := by
  cases t with
  | non => exact kb_NoneType_tuple
  | bl b => exact kb_bool_tuple
  | int i => exact kb_int_tuple
  | str z => exact kb_str_tuple
  | lst e => exact kb_list_tuple
  | tup e => exact kb_tuple_tuple
  | dK e => exact kb_dict_tuple
theorem Ty.kInt (t : Ty H x a) : kitB a "int" = some (decide (a = "int") || decide (a = "bool")) := by
  cases t with
  | non => exact kb_NoneType_int
  | bl b => exact kb_bool_int
  | int i => exact kb_int_int
  | str z => exact kb_str_int
  | lst e => exact kb_list_int
  | tup e => exact kb_tuple_int
  | dK e => exact kb_dict_int
theorem Ty.kBool (t : Ty H x a) : kitB a "bool" = some (decide (a = "bool")) := by
  cases t with
  | non => exact kb_NoneType_bool
  | bl b => exact kb_bool_bool
  | int i => exact kb_int_bool
  | str z => exact kb_str_bool
  | lst e => exact kb_list_bool
  | tup e => exact kb_tuple_bool
  | dK e => exact kb_dict_bool
theorem w_isTup (t : Ty H x a) (h : Q (.bl (decide (a = "tuple"))) H) : rIsi K [x, .ty "tuple"] H Q := w_isi t.tx t.kTup h
theorem w_isInt (t : Ty H x a) (h : Q (.bl (decide (a = "int") || decide (a = "bool"))) H) : rIsi K [x, .ty "int"] H Q := w_isi t.tx t.kInt h
theorem w_isBool (t : Ty H x a) (h : Q (.bl (decide (a = "bool"))) H) : rIsi K [x, .ty "bool"] H Q := w_isi t.tx t.kBool h
theorem Ty.isInt (t : Ty H x a) (e : a = "int") : ∃ i, x = .int i := by
  cases t with
  | int i => exact ⟨i, rfl⟩
  | non => exact absurd e (by decide)
  | bl _ => exact absurd e (by decide)
  | tup _ => exact absurd e (by decide)
  | str _ => exact absurd e (by decide)
  | lst _ => exact absurd e (by decide)
  | dK _ => exact absurd e (by decide)
theorem Ty.ofInt {i : Int} (t : Ty H (.int i) a) : a = "int" := by
  cases t with
  | int i => rfl
theorem Ty.ofTup {p : Addr} {xs : List V} (t : Ty H (.ref p) a) (e : H p = some (.tup xs)) : a = "tuple" := by
  cases t with
  | tup h => rfl
  | lst h => rw [e] at h; cases h
  | dK h => rw [e] at h; cases h
end
/-- data: a tuple of data, or another thing -/
inductive Dat (B : Nat) (H : Hp) : V → Prop where
  | leaf {x : V} {a : String} (t : Ty H x a) (h : a ≠ "tuple") : Dat B H x
  | tup {p : Addr} {xs : List V} (e : H p = some (.tup xs)) (l : xs.length ≤ B) (h : ∀ y ∈ xs, Dat B H y) : Dat B H (.ref p)
theorem Dat.int {B : Nat} {H : Hp} {i : Int} : Dat B H (.int i) := .leaf (.int i) (by decide)
theorem Dat.ty {B : Nat} {H : Hp} {x : V} (h : Dat B H x) : ∃ a, Ty H x a := by
  cases h with
  | leaf t _ => exact ⟨_, t⟩
  | tup e _ _ => exact ⟨_, .tup e⟩
/-- what keeps tuples, and of lists and dicts their kind -/
structure KD (H H' : Hp) : Prop where
  t : KT H H'
  l : ∀ b xs, H b = some (.lst xs) → ∃ ys, H' b = some (.lst ys)
  d : ∀ b kvs, H b = some (.dK kvs) → ∃ kws, H' b = some (.dK kws)
theorem KD.of {H H' : Hp} (k : Same H H') : KD H H' := ⟨KT.of k, fun b xs e => ⟨xs, k _ _ e⟩, fun b kvs e => ⟨kvs, k _ _ e⟩⟩
theorem KD.refl {H : Hp} : KD H H := ⟨KT.refl, fun b xs e => ⟨xs, e⟩, fun b kvs e => ⟨kvs, e⟩⟩
theorem KD.trans {H H1 H2 : Hp} (a : KD H H1) (b : KD H1 H2) : KD H H2 := ⟨a.t.trans b.t, fun c xs e => by
  obtain ⟨ys, e⟩ := a.l c xs e
  exact b.l c ys e, fun c xs e => by
  obtain ⟨ys, e⟩ := a.d c xs e
  exact b.d c ys e⟩
theorem KD.off {p : Addr} {H H' : Hp} {xs ys : List V} (k : Off p H H') (e : H p = some (.lst xs)) (e' : H' p = some (.lst ys)) : KD H H' := ⟨KT.off k e, fun b zs h => by
  by_cases q : b = p
  · subst q; exact ⟨ys, e'⟩
  · exact ⟨zs, k.get q h⟩, fun b kvs h => ⟨kvs, k.get (ne_of h e (fun z => nomatch z)) h⟩⟩
theorem Ty.kd {H H' : Hp} {x : V} {a : String} (t : Ty H x a) (k : KD H H') : Ty H' x a := by
  cases t with
  | non => exact .non
  | bl b => exact .bl b
  | int i => exact .int i
  | str z => exact .str z
  | lst e => obtain ⟨ys, e⟩ := k.l _ _ e; exact .lst e
  | tup e => exact .tup (k.t _ _ e)
  | dK e => obtain ⟨ys, e⟩ := k.d _ _ e; exact .dK e
theorem Dat.kd {B : Nat} {H H' : Hp} {x : V} (h : Dat B H x) (k : KD H H') : Dat B H' x := by
  induction h with
  | leaf t h => exact .leaf (t.kd k) h
  | tup e l _ ih => exact .tup (k.t _ _ e) l fun y hy => ih y hy
theorem Dat.mono {B C : Nat} (hB : B ≤ C) {H : Hp} {x : V} (h : Dat B H x) : Dat C H x := by
  induction h with
  | leaf t h => exact .leaf t h
  | tup e l _ ih => exact .tup e (Nat.le_trans l hB) fun y hy => ih y hy
theorem Dat.cases {B : Nat} {H : Hp} {x : V} (h : Dat B H x) : (∃ a, Ty H x a ∧ a ≠ "tuple") ∨ ∃ (p : Addr) (xs : List V), x = .ref p ∧ H p = some (.tup xs) ∧ xs.length ≤ B ∧ ∀ y ∈ xs, Dat B H y := by
  cases h with
  | leaf t h => exact .inl ⟨_, t, h⟩
  | tup e l h => exact .inr ⟨_, _, rfl, e, l, h⟩
theorem Deck.kd {H H' : Hp} {d c : Addr} {n m : Nat} (D : Deck H d c n) (D' : Deck H' d c m) (o : Off d H H') : KD H H' := by
  obtain ⟨⟨xs, e⟩, _⟩ := D.at
  obtain ⟨⟨ys, e'⟩, _⟩ := D'.at
  exact KD.off o e e'
section
variable {K : PySem.W.Frag} {H : Hp} {Q : VK}
theorem w_slA {a : Addr} {xs : List V} {lo hi : Option Int} (h1 : SqT K H a xs) (h2 : cutV xs lo hi = xs → Q (.ref a) H) (h : ∀ p H1, H p = none → H1 p = some (.tup (cutV xs lo hi)) → Same H H1 → Q (.ref p) H1) : rSlA K (.ref a) lo hi H Q := by
  refine ⟨a, xs, rfl, h1, fun ⟨z1, z2⟩ => h2 ?_, fun _ => w_new h⟩
  unfold cutV
  rw [z1, z2, List.drop_zero, Nat.sub_zero, List.take_length]
theorem w_cat {l b : Addr} {xs zs : List V} (h1 : H l = some (.lst xs)) (h2 : H b = some (.lst zs)) (hz : xs.length + zs.length ≤ sizeLine) (h : ∀ p H1, H p = none → H1 p = some (.lst (xs ++ zs)) → Same H H1 → Q (.ref p) H1) : rCat (.ref l) (.ref b) H Q := ⟨l, b, xs, zs, rfl, rfl, h1, h2, hz, w_new h⟩
/-- t[lo:hi]: where it stands, it is the cut -/
theorem w_slAt {a : Addr} {xs : List V} {lo hi : Option Int} (h1 : H a = some (.tup xs)) (h : ∀ p H1, H1 p = some (.tup (cutV xs lo hi)) → Same H H1 → Q (.ref p) H1) : rSlA K (.ref a) lo hi H Q :=
  w_slA (.of h1) (fun e => h a H (by rw [e]; exact h1) (fun _ _ z => z)) (fun p H1 _ e k => h p H1 e k)
theorem w_catAt {a b : Addr} {xs ys : List V} (h1 : H a = some (.tup xs)) (h2 : H b = some (.tup ys)) (hz : xs.length + ys.length ≤ sizeLine) (h : ∀ p H1, H1 p = some (.tup (xs ++ ys)) → Same H H1 → Q (.ref p) H1) : rCatA K (.ref a) (.ref b) H Q := by
  refine ⟨a, b, xs, ys, rfl, rfl, .of h1, .of h2, hz, fun e => ?_, fun _ e => ?_, fun _ _ p hp => h p _ upd_same (Same.new hp)⟩
  · subst e
    exact h b H h2 (fun _ _ z => z)
  · subst e
    exact h a H (by rw [List.append_nil]; exact h1) (fun _ _ z => z)
end
/-! ### except X as e -/
def tTryA (K : PySem.W.Frag) (c : Value) (i : Nat) (tb : WX → TS) (ts : Addr → Value → Option Addr → TS) : TS := fun D σ H => tb (wAs K c i ts (fun _ _ _ _ => False) D) D σ H
def tGuard (P : Prop) (t : TS) : TS := fun D σ H => P ∧ t D σ H
section
variable {X : Cx} {x n : Str} {c : Value} {i : Nat} {body suite : List Stmt} {b₀ : Stmt} {np pos pos' : Pos} {tb : WX → TS} {ts : Addr → Value → Option Addr → TS}
theorem p_tryAs (hs : X.stack = X.env :: X.outer) (hf : X.env.frame = some X.env.locals) (hN : X.N.Nodup) (hi : X.N[i]? = some n) (hln : X.env.kindOf n = some .local) (hc : Names X x c)
    (hb : ∀ (W : WX) (pn : List (Addr × Obj)) (xe : Value → Shared → Prop), Takes (X.tr pn xe) W → PassesOwn (model X.prog X.w) X.A X.env xe → PSs (X.tr pn xe) body (tb W))
    (hsu : ∀ (a : Addr) (oe : Obj) (cls : Value) (d : Option Addr) (pn : List (Addr × Obj)), Zc cls d oe → (∃ vs, oe.data = .fields vs) → PSs (X.suite a ((a, oe) :: pn)) (b₀ :: suite) (ts a cls d)) :
    PS X (.Try body [.ExceptHandler (some (.Name x np)) (some n) (b₀ :: suite) pos'] [] [] pos) (tTryA X.K c i tb ts) := ps_try_as hs hf hN hi hln hc takes0 hb hsu
theorem pss_guard {P : Prop} {ss : List Stmt} {t : TS} (h : P → PSs X ss t) : PSs X ss (tGuard P t) := ⟨fun pins s σ H D I hw => (h hw.1).run pins s σ H D I hw.2⟩
theorem zc_of {C : Addr} {cls : Value} {d : Option Addr} {oe : Obj} (hg : cls = .ref C ∧ d = none) (hz : Zc cls d oe) : Zc (.ref C) none oe := by
  obtain ⟨rfl, rfl⟩ := hg
  exact hz
end
section
variable {K : PySem.W.Frag} {σ : L2.St} {H : Hp} {Q : VK} {nx bk ct : L2.St → Hp → Prop} {rt : VK}
theorem w_tryA {c : Value} {i : Nat} {tb : WX → TS} {ts : Addr → Value → Option Addr → TS} (h : tb (wAs K c i ts (fun _ _ _ _ => False) ⟨nx, rt, bk, ct⟩) ⟨nx, rt, bk, ct⟩ σ H) : tTryA K c i tb ts ⟨nx, rt, bk, ct⟩ σ H := h
theorem w_guard {P : Prop} {t : TS} (p : P) (h : t ⟨nx, rt, bk, ct⟩ σ H) : tGuard P t ⟨nx, rt, bk, ct⟩ σ H := ⟨p, h⟩
theorem w_isE {a D C : Addr} {b : Bool} (e : PySem.W.kitOne K (.ref D) (.ref C) = some b) (h : Q (.bl b) H) : rIsE K D a [.ref a, .ref C] H Q := ⟨.ref C, .ref C, b, rfl, fun u r => r, e, h⟩
theorem w_isEt {a D : Addr} {n : String} {b : Bool} (e : PySem.W.kitOne K (.ref D) (.type n) = some b) (h : Q (.bl b) H) : rIsE K D a [.ref a, .ty n] H Q := ⟨.ty n, .type n, b, rfl, fun u r => r, e, h⟩
end
end FW

set_option Elab.async false
set_option linter.all false
set_option maxRecDepth 100000
set_option maxHeartbeats 4000000
/-! own errors with fields: made, caught, looked at; min of pairs; defaults by keyword -/
namespace FW
section
open PySem PySem.W PySem.Calls PyProof.Rows
variable {prog : Program} {w : World} {A : Around} {E : Value → Shared → Prop} {s : Shared} {K : Frag} {x D : Addr} {ox : Obj} {od : Option Obj}
end
open PySem PySem.Spec PyProof.Rows L2
/-- isinstance(e, c), e the error that the suite holds, with its fields at d -/
def rIsF (K : PySem.W.Frag) (D a : Addr) (d : Option Addr) : List V → Hp → VK → Prop := fun xs H Q => ∃ (c : V) (cv : Value) (b : Bool) (dd : Addr) (fs : List (Str × V)), xs = [.ref a, c] ∧ d = some dd ∧ H dd = some (.xd fs) ∧ (∀ u, RelV c u → u = cv) ∧ PySem.W.kitOne K (.ref D) cv = some b ∧ Q (.bl b) H
/-- an own error with __init__ -/
structure ExnI (K : PySem.W.Frag) (mg : Str → Option Value) (x : Str) (C fI : Addr) (fd : FuncData) (ps : List Str) (fs : List Str) : Prop where
  g : mg x = some (.ref C)
  T : OexC K C
  i : PySem.W.findIn K (.ref C) "__init__" = some (some (.ref fI))
  t : PySem.W.typeIn K (.ref fI) = some (.type "function")
  b : Binds K fd ps []
  f : XfC K C
  ec : ExcC K C
  nf : ∀ y ∈ fs, PySem.W.findIn K (.ref C) y = some none
/-- a def with keyword-only defaults -/
structure DfK (K : PySem.W.Frag) (mg : Str → Option Value) (x : Str) (st : Stmt) (ps : List Str) (kws : List (Str × V)) (dvs : List V) (f : Addr) (fd : FuncData) : Prop where
  fn : FunD K x x (defArgs st) (defBody st) (defScope st) [] kws f fd
  g : mg x = some (.ref f)
  kp : PySem.W.keepIn K (.ref f) = true
  b : ∃ ds, Vals dvs ds ∧ Binds K fd ps ds
  kb : ∃ g, KBn K fd ps (ps.length - kws.length) (kws.map (·.1)) g (fun vs zs => vs ++ zs)
/-- raise C(..) of two fields -/
def tRaiseO (C : Addr) (W : WX) (sp : Sp) (ta : TA) : TS := fun _ σ H => tMkO C sp [] ta σ H fun cls d H' => W cls d σ H'
section
variable {K : PySem.W.Frag} {σ : L2.St} {H : Hp} {Q : VK} {nx bk ct : L2.St → Hp → Prop} {rt : VK}
theorem w_callN {n m : Nat} {sp : Sp} {gV : List V → List V → List V} {E : XK} {t tk : TA} (h : t σ H fun vs H1 => tk σ H1 fun zs H2 => vs.length = n ∧ zs.length = m ∧ sp (gV vs zs) H2 Q E) : tCallN n m sp gV E t tk σ H Q := h
end
/-- what __init__ of two fields leaves -/
def spInit2 (K : PySem.W.Frag) (C : Addr) (f g : Str) : Sp := fun vs H Q _ => ∃ (a : Addr) (x y : V), vs = [.ref a, x, y] ∧ H a = some (exo a C none) ∧ ∀ dx, H dx = none → dx ≠ a → Q .non (upd (upd (upd H dx (exd dx [(f, x)])) a (exo a C (some dx))) dx (exd dx [(g, y), (f, x)]))
def spInit1 (K : PySem.W.Frag) (C : Addr) (f : Str) : Sp := fun vs H Q _ => ∃ (a : Addr) (x : V), vs = [.ref a, x] ∧ H a = some (exo a C none) ∧ ∀ dx, H dx = none → dx ≠ a → Q .non (upd (upd H dx (exd dx [(f, x)])) a (exo a C (some dx)))
/-! ### min of a list of pairs -/
def LtP (p q : Int × Int) : Prop := p.1 < q.1 ∨ p.1 = q.1 ∧ p.2 < q.2
def rMinP (K : PySem.W.Frag) : List V → Hp → VK → Prop := fun vs H Q => ∃ (a : Addr) (ps : List (Addr × Int × Int)), vs = [V.ref a] ∧ SqL K H a (ps.map fun q => .ref q.1) ∧ (∀ q ∈ ps, H q.1 = some (.tup [.int q.2.1, .int q.2.2])) ∧ ps ≠ [] ∧ ∀ q ∈ ps, (∀ r ∈ ps, ¬ LtP r.2 q.2) → Q (.ref q.1) H
section
variable {X : Cx} {pins : List (Addr × Obj)} {σ : L2.St} {H : Hp} {s : Shared}
end
theorem room100 {k : Nat} {A : Around} (r : Room k A) : A.units + 100 < cLine := by have := r.un; omega
end FW

set_option Elab.async false
set_option linter.all false
set_option maxRecDepth 100000
set_option maxHeartbeats 4000000
/-! for i, x in enumerate(t), t a tuple -/
namespace FW
open PySem PySem.Spec PyProof.Rows L2
def ItU (K : PySem.W.Frag) (a : Addr) : It :=
  ⟨fun i H => ∃ (xs : List V) (x : V), SqT K H a xs ∧ xs[i]? = some x,
   fun i H v H' => ∃ T x, v = .ref T ∧ H T = none ∧ H' = upd H T (.tup [.int (i : Nat), x]) ∧ ∀ xs, SqT K H a xs → xs[i]? = some x,
   fun i H => ∃ xs : List V, SqT K H a xs ∧ xs.length = i⟩
section
variable {P : Program} {w : World} {K : PySem.W.Frag} {elts : List Expr} {kk : Nat} {tpos : Pos}
end
section
variable {prog : Program} {w : World} {A : Around} {E : Value → Shared → Prop} {s : Shared}
end
def rEnumT (K : PySem.W.Frag) (vs : List V) (H : Hp) (R : It → Hp → Prop) : Prop := ∃ a xs, vs = [.ref a] ∧ SqT K H a xs ∧ R (ItU K a) H
def iEnumT (K : PySem.W.Frag) (ta : TA) : TI := fun σ H R => ta σ H fun vs H1 => rEnumT K vs H1 R
def rLenD (vs : List V) (H : Hp) (Q : VK) : Prop := ∃ a kvs, vs = [V.ref a] ∧ H a = some (.dK kvs) ∧ Q (.int kvs.length) H
section
variable {K : PySem.W.Frag} {σ : L2.St} {H : Hp} {a : Addr} {xs : List V}
theorem w_enum {ta : TA} {R : It → Hp → Prop} (h : ta σ H fun vs H1 => rEnumT K vs H1 R) : iEnumT K ta σ H R := h
theorem w_enum' {R : It → Hp → Prop} (h1 : SqT K H a xs) (h : R (ItU K a) H) : rEnumT K [.ref a] H R := ⟨a, xs, rfl, h1, h⟩
end
/-! ### what keeps all but the deck -/
structure KX (dk : Addr) (H H' : Hp) : Prop extends KD H H' where
  p : Kp [dk] H H'
theorem KX.of {d : Addr} {H H' : Hp} (k : Same H H') : KX d H H' := ⟨KD.of k, Kp.of k⟩
theorem KX.refl {d : Addr} {H : Hp} : KX d H H := ⟨KD.refl, Kp.refl⟩
theorem KX.trans {d : Addr} {H H1 H2 : Hp} (a : KX d H H1) (b : KX d H1 H2) : KX d H H2 := ⟨a.toKD.trans b.toKD, a.p.trans b.p⟩
theorem Deck.kx {H H' : Hp} {d c : Addr} {n m : Nat} (D : Deck H d c n) (D' : Deck H' d c m) (o : Off d H H') : KX d H H' := ⟨D.kd D' o, o.kp (by simp)⟩
instance {d : Addr} {H H' : Hp} : CoeOut (KX d H H') (KD H H') := ⟨KX.toKD⟩
end FW

set_option Elab.async false
set_option linter.all false
set_option maxRecDepth 100000
set_option maxHeartbeats 4000000
/-! sorted(d) of a dict of ints, of any length -/
namespace FW
open PySem PySem.Spec PyProof.Rows L2
def rSortA (xs : List V) (H : Hp) (Q : VK) : Prop := ∃ (a : Addr) (kvs : List (Key × V)) (ks : List Int), xs = [.ref a] ∧ Rd H a (.dK kvs) ∧ kvs.map (·.1) = ks.map Sum.inl ∧ ks.length ≤ 100000 ∧
    ∀ (ys : List Int) (p : Addr), ys.Perm ks → ys.Pairwise (· ≤ ·) → H p = none → Q (.ref p) (upd H p (.lst (ys.map V.int)))
theorem c_sortA {X : Cx} (hcalm : X.calm = true) : CallR X (.builtin "sorted") rSortA := by
  intro pins s σ H xs us Q I r ⟨a, kvs, ks, ex, hd, hks, hlk, q⟩
  subst ex
  obtain ⟨u, eu, rx⟩ := vals1 r
  subst eu
  cases rx
  obtain ⟨z, lo, vs, rel, dd⟩ := dk_rd I.hok hd
  obtain ⟨ep, hat⟩ := dd.dictAt
  have hkeys : vs.map (·.1) = ks.map Sum.inl := rel.keys.symm.trans hks
  have hl : vs.length = ks.length := by
    have e := congrArg List.length hkeys
    simpa using e
  have h16 : vs.length ≤ sizeLine := by rw [hl, sizeLine_eq]; omega
  refine Calls.call_function_entry kind_sorted plain_sorted entry_sorted (args_sorted1 _) ?_
  unfold Builtin.«sorted»; refine wpAny_bind (m := checkCount "sorted" 1 1 _) (wpAny_pure ?_)
  refine wpAny_bind (PySem.W.kdu_collect (A := X.A.in1) (PySem.W.kdl_dict (knd := mixKind X.prog X.w) (kvs := vs) (ep := ep) lo) (I.ok.hd hcalm) hat h16 fun h' tk acc hk hacc => ?_)
  have hal : acc.toList.length = ks.length := by rw [Array.length_toList, hacc.1, hl]
  have hS : IntsAre acc.toList ks := ints_each hal fun j v e => by
    obtain ⟨k, x, e1, e2⟩ := hacc.2 j v (by rw [← Array.getElem?_toList]; exact e)
    have e3 : (vs.map (·.1))[j]? = some k := by rw [List.getElem?_map, e1]; rfl
    rw [hkeys, List.getElem?_map] at e3
    obtain ⟨y, e4, e5⟩ := Option.map_eq_some_iff.mp e3
    subst e5
    rcases keyIs_shape (show keyIs (Sum.inl y) v = true from e2) with ⟨i, t, ek, ev⟩ | ⟨z, t, ek, ev⟩
    · cases ek
      exact ⟨y, t, e4, ev⟩
    · cases ek
  have I1 : Inv X pins σ H { s with heap := h', toks := tk } := I.kept hk
  have hz : acc.toList.length ≤ sizeLine := by rw [hal, sizeLine_eq]; omega
  refine wpAny_bind (wpAny_newList ?_ hz)
  have hoL : (h'.push (seqObj "list" acc.toList.toArray 0)).get? h'.objs.size = some (seqObj "list" acc.toList.toArray 0) := Heap.get?_push_size _ rfl
  show wpAny _ _ _ _ _ { s with heap := h'.push (seqObj "list" acc.toList.toArray 0), toks := tk }
  refine wpAny_bind (wpAny_holding (wpAny_call_entry slot_list_sort ⟨_, hoL, rfl⟩ entry_list_sort (SrtO.list_sort_ord (s := { s with heap := h'.push (seqObj "list" acc.toList.toArray 0), toks := tk }) SrtO.swo_int hoL hz (fun h2 => SrtO.ints_sortable hS h2) fun out h1 h2 => ⟨_, rfl, ?_⟩) (args_list_sort _)))
  obtain ⟨g1, g2, g3⟩ := SrtO.ints_out hS h1 h2
  obtain ⟨e', he'⟩ := sortedHeap_at (vs := acc.toList) (out := out.toArray) hoL
  have hlen : ((out.map SrtO.iv).map V.int).length ≤ sizeLine := by rw [List.length_map, g2.length_eq, ← hal]; exact hz
  refine wpAny_pure ⟨_, rfl, .ref h'.objs.size, upd H h'.objs.size (.lst ((out.map SrtO.iv).map V.int)), I1.laid (t' := tk) (fun b u e => ?_) (Nat.le_refl _) (show ObjOk X.prog X.w _ _ _ (.lst ((out.map SrtO.iv).map V.int)) from ⟨hlen, out, e', vals_of_ints g1, he'⟩), rfl, q _ _ g2 g3 (I1.hok.fresh (Nat.le_refl _))⟩
  have hb : b < h'.objs.size := Heap.lt_size e
  rw [sortedHeap_old (Nat.ne_of_lt hb) (by rw [size_push']; exact Nat.lt_succ_of_lt hb)]
  exact Heap.get?_push_of_some _ e
theorem w_sortA {H : Hp} {Q : VK} {a : Addr} {kvs : List (Key × V)} {ks : List Int} (e : H a = some (.dK kvs)) (hk : kvs.map (·.1) = ks.map Sum.inl) (hl : ks.length ≤ 100000) (h : ∀ (ys : List Int) p H1, ys.Perm ks → ys.Pairwise (· ≤ ·) → H p = none → H1 p = some (.lst (ys.map V.int)) → Same H H1 → Q (.ref p) H1) : rSortA [.ref a] H Q :=
  ⟨a, kvs, ks, rfl, .inl e, hk, hl, fun ys p g1 g2 hp => h ys p _ g1 g2 hp upd_same (Same.new hp)⟩
end FW

set_option Elab.async false
set_option linter.all false
set_option maxRecDepth 100000
set_option maxHeartbeats 4000000
/-! t[k::w] of a tuple; extend by a tuple; pairs in a list -/
namespace HT
open PySem PySem.Spec PyProof.Rows
section
variable {prog : Program} {w : World} {A : Around} {E : Value → Shared → Prop} {s : Shared}
def places (n k w : Nat) : Nat := (n - k - 1) / w + 1
def stepL {α : Type} (xs : List α) (k c : Nat) : List α := (List.range (places xs.length k c)).filterMap fun j => xs[k + j * c]?
end
end HT
namespace FW
open PySem PySem.Spec PyProof.Rows L2
/-- t[k::w] -/
def rStep (K : PySem.W.Frag) (x y z : V) (H : Hp) (Q : VK) : Prop := ∃ (a : Addr) (xs : List V) (k c : Nat), x = .ref a ∧ y = .int k ∧ z = .int c ∧ SqT K H a xs ∧ k < xs.length ∧ 0 < c ∧ (k = 0 → c = 1 → Q (.ref a) H) ∧ (¬ (k = 0 ∧ c = 1) → Nw (.tup (HT.stepL xs k c)) H Q)
def tStep (K : PySem.W.Frag) (te tl ts : TE) : TE := fun σ H Q => te σ H fun x H1 => tl σ H1 fun y H2 => ts σ H2 fun z H3 => rStep K x y z H3 Q
section
variable {X : Cx}
def rExtT (K : PySem.W.Frag) : V → List V → Hp → VK → Prop := fun x vs H Q => ∃ l b xs zs, x = .ref l ∧ vs = [.ref b] ∧ H l = some (.lst xs) ∧ H b = some (.tup zs) ∧ xs.length + zs.length ≤ sizeLine ∧ Q .non (upd H l (.lst (xs ++ zs)))
/-- a pair (int, truth) that is not in a list of such -/
def rNotInP (K : PySem.W.Frag) : R2 := fun x y H Q => ∃ (p a : Addr) (v : Int) (b : Bool) (an : List (Addr × Int × Bool)), x = .ref p ∧ y = .ref a ∧ H p = some (.tup [.int v, .bl b]) ∧ SqL K H a (an.map fun q => .ref q.1) ∧ (∀ q ∈ an, H q.1 = some (.tup [.int q.2.1, .bl q.2.2])) ∧ Q (.bl (decide ((v, b) ∉ an.map (·.2)))) H
end
section
variable {K : PySem.W.Frag} {σ : L2.St} {H : Hp} {Q : VK}
theorem w_step {te tl ts : TE} (h : te σ H fun x H1 => tl σ H1 fun y H2 => ts σ H2 fun z H3 => rStep K x y z H3 Q) : tStep K te tl ts σ H Q := h
end
end FW

set_option Elab.async false
set_option linter.all false
set_option maxRecDepth 100000
set_option maxHeartbeats 4000000
/-! a, .., *rest = t: the last target starred, t a tuple -/
namespace FW
open PySem PySem.Spec PyProof.Rows L2
section
variable {prog : Program} {w : World} {A : Around} {E : Value → Shared → Prop} {s : Shared}
end
/-- n names, then a starred one -/
def gStar (K : PySem.W.Frag) (j : Nat) (t : TGs) : TG := fun v σ H Q => ∃ a xs, v = .ref a ∧ SqT K H a xs ∧ j ≤ xs.length ∧ ∀ L, H L = none → t (xs.take j ++ [.ref L]) σ (upd H L (.lst (xs.drop j))) Q
section
variable {X : Cx} {pos : Pos}
end
end FW

set_option Elab.async false
set_option linter.all false
set_option maxRecDepth 100000
set_option maxHeartbeats 4000000
/-! try with several except clauses, each with or without a name -/
namespace FW
open PySem PySem.Spec PyProof.Rows L2
abbrev Suite := Addr → Value → Option Addr → TS
/-- the ends behind a suite whose name goes -/
def unset (i : Nat) (D : Ends) : Ends := ⟨fun σ H => D.nx (σ.set i none) H, D.rt, fun σ H => D.bk (σ.set i none) H, fun σ H => D.ct (σ.set i none) H⟩
def runCl (o : Option Nat) (ts : Suite) (a : Addr) (cls : Value) (d : Option Addr) (D : Ends) (σ : L2.St) (H : Hp) : Prop :=
  match o with
  | none => ts a cls d D σ H
  | some i => ts a cls d (unset i D) (σ.set i (some (.ref a))) H
def wCl (K : PySem.W.Frag) (Wo : WX) (D : Ends) : List (Value × Option Nat × Suite) → WX
  | [] => Wo
  | (c, o, ts) :: r => fun cls d σ H => ∃ b, PySem.W.exmOne K cls c = some b ∧ (b = true → ∀ a, H a = none → runCl o ts a cls d D σ H) ∧ (b = false → wCl K Wo D r cls d σ H)
inductive ClOk (X : Cx) : List ExceptHandler → List (Value × Option Nat × Suite) → Prop
  | nil : ClOk X [] []
  | only {x : Str} {c : Value} {ts : Suite} {st : Stmt} {sts : List Stmt} {p1 p2 : Pos} {hs : List ExceptHandler} {l : List (Value × Option Nat × Suite)} (nm : Names X x c)
      (su : ∀ a oe cls d pn, Zc cls d oe → (∃ vs, oe.data = .fields vs) → PSs (X.suite a ((a, oe) :: pn)) (st :: sts) (ts a cls d)) (r : ClOk X hs l) :
      ClOk X (.ExceptHandler (some (.Name x p1)) none (st :: sts) p2 :: hs) ((c, none, ts) :: l)
  | as {x n : Str} {c : Value} {i : Nat} {ts : Suite} {st : Stmt} {sts : List Stmt} {p1 p2 : Pos} {hs : List ExceptHandler} {l : List (Value × Option Nat × Suite)} (hi : X.N[i]? = some n) (hl : X.env.kindOf n = some .local) (nm : Names X x c)
      (su : ∀ a oe cls d pn, Zc cls d oe → (∃ vs, oe.data = .fields vs) → PSs (X.suite a ((a, oe) :: pn)) (st :: sts) (ts a cls d)) (r : ClOk X hs l) :
      ClOk X (.ExceptHandler (some (.Name x p1)) (some n) (st :: sts) p2 :: hs) ((c, some i, ts) :: l)
def tTryG (K : PySem.W.Frag) (l : List (Value × Option Nat × Suite)) (Wo : WX) (tb : WX → TS) : TS := fun D σ H => tb (wCl K Wo D l) D σ H
section
variable {X : Cx} {body : List Stmt} {h1 : ExceptHandler} {hs : List ExceptHandler} {l : List (Value × Option Nat × Suite)} {pos : Pos} {tb : WX → TS} {Wo : WX}
end
section
variable {K : PySem.W.Frag} {σ : L2.St} {H : Hp} {nx bk ct : L2.St → Hp → Prop} {rt : VK}
theorem w_tryG {l : List (Value × Option Nat × Suite)} {Wo : WX} {tb : WX → TS} (h : tb (wCl K Wo ⟨nx, rt, bk, ct⟩ l) ⟨nx, rt, bk, ct⟩ σ H) : tTryG K l Wo tb ⟨nx, rt, bk, ct⟩ σ H := h
end
end FW

set_option Elab.async false
set_option linter.all false
set_option maxRecDepth 100000
set_option maxHeartbeats 4000000
/-! {tuple: value for a in as if ..}: a dict keyed by tuples, one clause; pairs looked for in tuples; zip of tuples -/
namespace FW
open PySem PySem.Spec PyProof.Rows L2
section
variable {kx vx ta ia : Expr} {fa : List Expr} {sc : Scope} {ps : Pos}
abbrev one (kx vx ta ia : Expr) (fa : List Expr) (sc : Scope) (ps : Pos) : Expr := .DictComp kx vx [⟨ta, ia, fa, 0⟩] sc ps
variable {pg : Program} {wd : World} {A : Around} {R : Result → Shared → Prop} {st : Shared} {it : Value} {D : Addr} {env : Env}
end
section
variable {X : Cx}
variable {kx vx ta ia : Expr} {fa : List Expr} {sc : Scope} {ps qs : Pos} {own : List (Str × Nat)} {wa : TI} {ga : TG} {ra : TT} {tk tv : TE}
def DcTP (J : It) (g : TG) (tt : TT) (tk tv : TE) (vs : List Nat) (Q : VK) (σ : L2.St) (H1 : Hp) : Prop := ∀ D, H1 D = none → ∃ W : Nat → Nat → Hp → Prop, (∃ m, W 0 m (upd H1 D (.dT []))) ∧ ∀ i m H, W i m H →
  (J.stop i H ∧ Q (.ref D) H) ∨ (J.go i H ∧ ∃ Nx : Hp → Prop, (∀ H', Nx H' → ∃ m', m' < m ∧ W (i + 1) m' H') ∧ ∀ x H', J.yld i H x H' → g x (wipe σ vs) H' fun σ2 H2 => wipe σ2 vs = wipe σ vs ∧ tt σ2 H2 fun b H3 =>
    if b = true then tk σ2 H3 fun y H4 => tv σ2 H4 fun z H5 => ∃ kvs k b, y = .ref b ∧ H5 b = some (.tup (k.map kV)) ∧ H5 D = some (.dT kvs) ∧ kvs.length < sizeLine ∧ Nx (upd H5 D (.dT (putK kvs k z))) else Nx H3)
def tDcT (wi : TI) (g : TG) (tt : TT) (tk tv : TE) (vs : List Nat) : TE := fun σ H Q => wi σ H fun J H1 => DcTP J g tt tk tv vs Q σ H1
/-- a pair of ints that is not in a tuple of such -/
def rNotInT (K : PySem.W.Frag) : R2 := fun x y H Q => ∃ (p a : Addr) (v b : Int) (an : List (Addr × Int × Int)), x = .ref p ∧ y = .ref a ∧ H p = some (.tup [.int v, .int b]) ∧ SqT K H a (an.map fun q => .ref q.1) ∧ (∀ q ∈ an, H q.1 = some (.tup [.int q.2.1, .int q.2.2])) ∧ Q (.bl (decide ((v, b) ∉ an.map (·.2)))) H
end
section
variable {K : PySem.W.Frag} {σ : L2.St} {H : Hp} {Q : VK} {nx bk ct : L2.St → Hp → Prop} {rt : VK}
theorem w_dct {wi : TI} {g : TG} {tt : TT} {tk tv : TE} {vs : List Nat} (h : wi σ H fun J H1 => DcTP J g tt tk tv vs Q σ H1) : tDcT wi g tt tk tv vs σ H Q := h
/-- for a, b in zip(tuple, tuple) -/
def rZipA (K : PySem.W.Frag) (vs : List V) (H : Hp) (R : It → Hp → Prop) : Prop := ∃ a b xs ys, vs = [.ref a, .ref b] ∧ ((SqL K H a xs ∧ SqL K H b ys ∧ R (Itz K a b) H) ∨ (SqT K H a xs ∧ SqT K H b ys ∧ R (RZ.ItzT K a b) H))
theorem w_zipA {ta : TA} {R : It → Hp → Prop} (h : ta σ H fun vs H1 => rZipA K vs H1 R) : RZ.iZipA K ta σ H R := h
theorem w_zipT' {a b : Addr} {xs ys : List V} {R : It → Hp → Prop} (h1 : SqT K H a xs) (h2 : SqT K H b ys) (h : R (RZ.ItzT K a b) H) : rZipA K [.ref a, .ref b] H R := ⟨a, b, xs, ys, rfl, .inr ⟨h1, h2, h⟩⟩
end
end FW

set_option Elab.async false
set_option linter.all false
set_option maxRecDepth 100000
set_option maxHeartbeats 4000000
/-! try: .. except (A, B): .. -/
namespace FW
open PySem PySem.Spec PyProof.Rows L2
def wTwo (K : PySem.W.Frag) (c1 c2 : Value) (ts : Suite) (D : Ends) : WX := fun cls d σ H => PySem.W.exmAny K cls [c1, c2] = some true ∧ ∀ a, H a = none → ts a cls d D σ H
def tTry2 (K : PySem.W.Frag) (c1 c2 : Value) (tb : WX → TS) (ts : Suite) : TS := fun D σ H => tb (wTwo K c1 c2 ts D) D σ H
section
variable {X : Cx} {body sts : List Stmt} {st : Stmt} {x1 x2 : Str} {c1 c2 : Value} {p1 p2 p3 p4 p5 : Pos} {kk : Nat} {tb : WX → TS} {ts : Suite}
end
end FW

set_option Elab.async false
set_option linter.all false
set_option maxRecDepth 100000
set_option maxHeartbeats 4000000
/-! texts: len, in, signs one by one, join; lists taken apart; all -/
namespace FW
open PySem PySem.Spec PyProof.Rows L2
def rLenS : List V → Hp → VK → Prop := fun xs H Q => ∃ z, xs = [.str z] ∧ z.length ≤ sizeLine ∧ Q (.int z.length) H
def rInS : R2 := fun x y H Q => ∃ (c : Nat) (z : Str), x = .str ⟨#[c]⟩ ∧ y = .str z ∧ Q (.bl (decide (c ∈ z.cps.toList))) H
def rJoin (K : PySem.W.Frag) : V → List V → Hp → VK → Prop := fun x xs H Q => ∃ a p, ∃ ys : List Str, x = .str a ∧ xs = [.ref p] ∧ (SqL K H p (ys.map V.str) ∨ SqT K H p (ys.map V.str)) ∧ (ys.map (·.length)).sum + ys.length * a.length ≤ 16777216 ∧ Q (.str (Txt.join a ys)) H
def rIStr (v : V) (H : Hp) (R : It → Hp → Prop) : Prop := ∃ x, v = .str x ∧ R (Its x) H
def rLtS : R2 := fun x y H Q => ∃ i j : Str, x = .str i ∧ y = .str j ∧ Q (.bl (decide (i.cps.toList < j.cps.toList))) H
def rGtS : R2 := fun x y H Q => ∃ i j : Str, x = .str i ∧ y = .str j ∧ Q (.bl (decide (j.cps.toList < i.cps.toList))) H
section
variable {X : Cx}
theorem o_ltS : OpR X (compareOp .Lt) rLtS := op_lt_str
theorem c_lenS : CallR X (.builtin "len") rLenS := call_len_str
theorem o_inS : OpR X (compareOp .In) rInS := op_in_sign
theorem p_join {o e : Expr} {to te : TE} {apos pos : Pos} (ho : PE X o to) (he : PE X e te) (hs : starEach [e] X.env = [(false, eval e X.env)] := by rfl) (hbase : attributeBase o "join" X.env (eval o X.env) = eval o X.env := by rfl) (hline : (apos.endLine == pos.line) = true := by rfl) :
    PE X (.Call (.Attribute o "join" apos) [e] [] pos) (tM1 (rJoin X.K) to te) := pe_join ho he hs hbase hline
end
section
variable {K : PySem.W.Frag} {σ : L2.St} {H : Hp} {Q : VK} {nx bk ct : L2.St → Hp → Prop} {rt : VK}
theorem w_callD {sp : Sp} {dvs : List V} {E : XK} {t : TA} (h : t σ H fun vs H1 => sp (vs ++ dvs) H1 Q E) : tCall sp dvs E t σ H Q := h
theorem w_ipI {g : Int → Int → Int} {i j : Int} (h : Q (.int (g i j)) H) : ipI g (.int i) (.int j) H Q := ⟨i, j, rfl, rfl, h⟩
theorem w_ltS {x y : Str} (h : Q (.bl (decide (x.cps.toList < y.cps.toList))) H) : rLtS (.str x) (.str y) H Q := ⟨x, y, rfl, rfl, h⟩
theorem w_gtS {x y : Str} (h : Q (.bl (decide (y.cps.toList < x.cps.toList))) H) : rGtS (.str x) (.str y) H Q := ⟨x, y, rfl, rfl, h⟩
theorem w_neS {x y : Str} (h : Q (.bl (!decide (x = y))) H) : rNe (.str x) (.str y) H Q := ⟨rfl, by
  have e : decide (V.str x = V.str y) = decide (x = y) := by
    by_cases q : x = y
    · subst q; rw [decide_eq_true rfl, decide_eq_true rfl]
    · rw [decide_eq_false q, decide_eq_false (fun z => q (V.str.inj z))]
  rw [e]; exact h⟩
theorem w_lenS {z : Str} (h1 : z.length ≤ sizeLine) (h : Q (.int z.length) H) : rLenS [.str z] H Q := ⟨z, rfl, h1, h⟩
theorem w_inS {c : Nat} {z : Str} (h : Q (.bl (decide (c ∈ z.cps.toList))) H) : rInS (.str ⟨#[c]⟩) (.str z) H Q := ⟨c, z, rfl, rfl, h⟩
theorem w_ixS {z : Str} {i : Int} {c : Nat} (h1 : z.length ≤ sizeLine) (h2 : atI z.cps.toList i = some c) (h : Q (.str ⟨#[c]⟩) H) : rIxS (.str z) (.int i) H Q := ⟨z, i, c, rfl, rfl, h1, h2, h⟩
theorem w_m1 {r : V → List V → Hp → VK → Prop} {to te : TE} (h : to σ H fun x H1 => (∃ a, x = .str a) ∧ te σ H1 fun y H2 => r x [y] H2 Q) : tM1 r to te σ H Q := h
theorem w_isS {z : Str} {A : Prop} (h : A) : (∃ a, V.str z = .str a) ∧ A := ⟨⟨z, rfl⟩, h⟩
theorem w_joinL {a : Str} {p : Addr} {ys : List Str} (h1 : SqL K H p (ys.map V.str)) (h2 : (ys.map (·.length)).sum + ys.length * a.length ≤ 16777216) (h : Q (.str (Txt.join a ys)) H) : rJoin K (.str a) [.ref p] H Q := ⟨a, p, ys, rfl, rfl, .inl h1, h2, h⟩
theorem w_istr {te : TE} {R : It → Hp → Prop} (h : te σ H fun v H1 => rIStr v H1 R) : iStr te σ H R := h
theorem w_istr' {z : Str} {R : It → Hp → Prop} (h : R (Its z) H) : rIStr (.str z) H R := ⟨z, rfl, h⟩
theorem walk_str (x : Str) : Walk (Its x) x.cps.size (fun _ => True) (fun i H v H' => H' = H ∧ ∃ c, x.cps[i]? = some c ∧ v = .str ⟨#[c]⟩) := ⟨fun _ _ hi _ => hi, fun _ _ => Nat.le_refl _, fun _ _ _ _ _ _ y => y⟩
theorem w_glst {a : Addr} {xs : List V} {n : Nat} {t : TGs} {R : L2.St → Hp → Prop} (h1 : SqL K H a xs) (h2 : xs.length = n) (h : t xs σ H R) : gLst K n t (.ref a) σ H R := ⟨a, xs, rfl, h1, h2, h⟩
theorem w_all {p : Addr} {bs : List Bool} (h1 : SqL K H p (bs.map V.bl)) (h : Q (.bl (bs.all id)) H) : rAll K [.ref p] H Q := ⟨p, bs, rfl, h1, h⟩
theorem w_augI {i : Nat} {te : TE} {ti : TIp} {v : V} (e : σ[i]? = some (some v)) (h : te σ H fun x H1 => ti v x H1 fun z H2 => nx (σ.set i (some z)) H2) : tAug i te ti ⟨nx, rt, bk, ct⟩ σ H := ⟨v, e, h⟩
end
section
variable {P : Program} {w : World} {K : PySem.W.Frag} {mg : Str → Option Value} {base : Heap} {x qual : Str} {params : Arguments} {body : List Stmt} {scope : Scope} {dvs : List V} {kws : List (Str × V)} {f : Addr} {fd : FuncData}
/-- a def with defaults that lets nothing out -/
theorem okD {N ps : List Str} {k : Nat} {sp : Sp} (F : FunD K x qual params body scope dvs kws f fd) (S : FnScope N ps scope) (len : ∀ vs H Q E, sp vs H Q E → vs.length = ps.length)
    (hb : ∀ cdv A outer s H vs Q E, Room k (A.deeper (envOfC qual scope s.heap.objs.size f cdv)) → sp vs H Q E → ∃ t, PSs (cxOf CX0 P w K mg base N qual scope f cdv A outer s H E).nox body t ∧ t { nx := fun _ H' => Q .non H', rt := Q } (L2.start N vs) H) : FnOk P w K mg base CX0 (k + 1) f fd ps sp :=
  F.ok S len fun cdv A outer s H vs Q E hr h => by
    obtain ⟨t, p, q⟩ := hb cdv A outer s H vs Q E hr h
    exact ⟨t, p.nox, q⟩
end
/-- a def with defaults -/
structure DfD (K : PySem.W.Frag) (mg : Str → Option Value) (x : Str) (st : Stmt) (ps : List Str) (dvs : List V) (f : Addr) (fd : FuncData) : Prop where
  fn : FunD K x x (defArgs st) (defBody st) (defScope st) dvs [] f fd
  g : mg x = some (.ref f)
  kp : PySem.W.keepIn K (.ref f) = true
  b : ∃ ds, Vals dvs ds ∧ Binds K fd ps ds
/-- a def with several keyword-only defaults -/
structure DfKs (K : PySem.W.Frag) (mg : Str → Option Value) (x : Str) (st : Stmt) (ps : List Str) (kws : List (Str × V)) (dvs : List V) (f : Addr) (fd : FuncData) : Prop where
  fn : FunD K x x (defArgs st) (defBody st) (defScope st) [] kws f fd
  g : mg x = some (.ref f)
  kp : PySem.W.keepIn K (.ref f) = true
  b : ∃ ds, Vals dvs ds ∧ Binds K fd ps ds
theorem join_cps' : ∀ ys : List Str, (Str.join (Str.ofString "") ys).cps.toList = (ys.map fun y => y.cps.toList).flatten
  | [] => rfl
  | [y] => by
    show y.cps.toList = _
    simp
  | y :: z :: r => by
    have ih := join_cps' (z :: r)
    show (y.cps ++ (Str.ofString "").cps ++ (Str.join (Str.ofString "") (z :: r)).cps).toList = _
    rw [Array.toList_append, Array.toList_append, ih, List.map_cons (l := z :: r), List.flatten_cons]
    show y.cps.toList ++ [] ++ _ = _
    rw [List.append_nil]
theorem join_cps (ys : List Str) : (Txt.join (Str.ofString "") ys).cps.toList = (ys.map fun y => y.cps.toList).flatten := by
  have e : Txt.join (Str.ofString "") ys = Str.join (Str.ofString "") ys := StrLaws.glued_eq_join _ _
  rw [e]
  exact join_cps' ys
end FW

set_option Elab.async false
set_option linter.all false
set_option maxRecDepth 100000
set_option maxHeartbeats 4000000
/-! t[::-1] of a tuple -/
namespace HT
open PySem PySem.Spec PyProof.Rows
section
variable {prog : Program} {w : World} {A : Around} {E : Value → Shared → Prop} {s : Shared}
end
end HT
namespace FW
open PySem PySem.Spec PyProof.Rows L2
/-- t[::-1] -/
def rRevT (K : PySem.W.Frag) (x z : V) (H : Hp) (Q : VK) : Prop := ∃ (a : Addr) (xs : List V), x = .ref a ∧ z = .int (-1) ∧ SqT K H a xs ∧ Nw (.tup xs.reverse) H Q
def tRevT (K : PySem.W.Frag) (te ts : TE) : TE := fun σ H Q => te σ H fun x H1 => ts σ H1 fun z H3 => rRevT K x z H3 Q
section
variable {X : Cx}
end
section
variable {K : PySem.W.Frag} {σ : L2.St} {H : Hp} {Q : VK}
theorem w_revT {te ts : TE} (h : te σ H fun x H1 => ts σ H1 fun z H3 => rRevT K x z H3 Q) : tRevT K te ts σ H Q := h
end
end FW

set_option Elab.async false
set_option linter.all false
set_option maxRecDepth 100000
set_option maxHeartbeats 4000000
/-! text * number, tuple * number, texts put together -/
namespace FW
open PySem PySem.Spec PyProof.Rows L2
def rRepS : R2 := fun x y H Q => ∃ (z : Str) (k : Int), x = .str z ∧ y = .int k ∧ z.length ≤ 16 ∧ 0 ≤ k ∧ k ≤ 1000 ∧ Q (.str (Txt.mul z k)) H
def rAddS : R2 := fun x y H Q => ∃ i j : Str, x = .str i ∧ y = .str j ∧ i.length + j.length ≤ sizeLine ∧ Q (.str (i ++ j)) H
section
variable {K : PySem.W.Frag} {H : Hp} {Q : VK}
end
end FW

set_option Elab.async false
set_option linter.all false
set_option maxRecDepth 100000
set_option maxHeartbeats 4000000
/-! dicts whose keys are nested tuples of ints, texts and None -/
namespace FW
open PySem PySem.Spec PyProof.Rows L2
mutual
/-- the thing v is the key k -/
inductive NAt (H : Hp) : NestedKey → V → Prop
  | non : NAt H .none .non
  | int (i : Int) : NAt H (.num i) (.int i)
  | str (x : Str) : NAt H (.text x) (.str x)
  | tup {a : Addr} {ks : List NestedKey} {xs : List V} : H a = some (.tup xs) → NAll H ks xs → NAt H (.tup ks) (.ref a)
  | frz {a : Addr} {o : Obj} {ks : List NestedKey} {xs : List V} : H a = some (.frz o (.tup xs)) → NAll H ks xs → NAt H (.tup ks) (.ref a)
inductive NAll (H : Hp) : List NestedKey → List V → Prop
  | nil : NAll H [] []
  | cons {k : NestedKey} {v : V} {ks : List NestedKey} {vs : List V} : NAt H k v → NAll H ks vs → NAll H (k :: ks) (v :: vs)
end
mutual
theorem NAt.kt {H H' : Hp} (t : KT H H') : ∀ (k : NestedKey) (v : V), NAt H k v → NAt H' k v
  | .none, _, h => by cases h; exact .non
  | .num i, _, h => by cases h; exact .int i
  | .text x, _, h => by cases h; exact .str x
  | .tup ks, _, h => by
    cases h with
    | tup e all => exact .tup (t _ _ e) (NAll.kt t ks _ all)
    | frz e all => exact .frz (t.f _ _ _ e) (NAll.kt t ks _ all)
theorem NAll.kt {H H' : Hp} (t : KT H H') : ∀ (ks : List NestedKey) (vs : List V), NAll H ks vs → NAll H' ks vs
  | [], _, h => by cases h; exact .nil
  | k :: ks, _, h => by
    cases h with
    | cons a b => exact .cons (NAt.kt t k _ a) (NAll.kt t ks _ b)
end
mutual
theorem NAt.inj {H : Hp} : ∀ (k k' : NestedKey) (v : V), NAt H k v → NAt H k' v → k = k'
  | .none, _, _, h, h' => by cases h; cases h'; rfl
  | .num i, _, _, h, h' => by cases h; cases h'; rfl
  | .text x, _, _, h, h' => by cases h; cases h'; rfl
  | .tup ks, _, _, h, h' => by
    cases h with
    | tup e all =>
      cases h' with
      | tup e' all' =>
        rw [e] at e'
        cases e'
        rw [NAll.inj ks _ _ all all']
      | frz e' all' =>
        rw [e] at e'
        cases e'
    | frz e all =>
      cases h' with
      | tup e' all' =>
        rw [e] at e'
        cases e'
      | frz e' all' =>
        rw [e] at e'
        cases e'
        rw [NAll.inj ks _ _ all all']
theorem NAll.inj {H : Hp} : ∀ (ks ks' : List NestedKey) (vs : List V), NAll H ks vs → NAll H ks' vs → ks = ks'
  | [], _, _, h, h' => by cases h; cases h'; rfl
  | k :: ks, _, _, h, h' => by
    cases h with
    | cons a b =>
      cases h' with
      | cons a' b' => rw [NAt.inj k _ _ a a', NAll.inj ks _ _ b b']
end
section
variable {X : Cx} {pins : List (Addr × Obj)} {σ : L2.St} {H : Hp} {s : Shared}
mutual
theorem NAt.is (I : Inv X pins σ H s) : ∀ (k : NestedKey) (v : V) (u : Value), NAt H k v → RelV v u → NestedIs s.heap k u
  | .none, _, _, h, r => by
    cases h
    cases r
    exact .none
  | .num i, _, _, h, r => by
    cases h
    obtain ⟨t, rfl⟩ := r
    exact .int i t
  | .text x, _, _, h, r => by
    cases h
    obtain ⟨t, rfl⟩ := r
    exact .text x t
  | .tup ks, _, _, h, r => by
    cases h with
    | @tup a _ xs e all =>
      cases r
      obtain ⟨_, its, rel, o, h1, h2, n, h3⟩ := (show ObjOk X.prog X.w H s.heap a (.tup xs) from I.hok a _ e)
      exact .tup h1 h2 h3 (NAll.is I ks _ _ all rel)
    | @frz a ob _ xs e all =>
      cases r
      obtain ⟨_, _, its, rel, o, h1, h2, n, h3⟩ := (show ObjOk X.prog X.w H s.heap a (.frz ob (.tup xs)) from I.hok a _ e)
      exact .tup h1 h2 h3 (NAll.is I ks _ _ all rel)
theorem NAll.is (I : Inv X pins σ H s) : ∀ (ks : List NestedKey) (vs : List V) (us : List Value), NAll H ks vs → Vals vs us → NestedAll s.heap ks us
  | [], _, _, h, r => by
    cases h
    cases r
    exact .nil
  | k :: ks, _, _, h, r => by
    cases h with
    | cons a b =>
      cases r with
      | cons ra rb => exact .cons (NAt.is I k _ _ a ra) (NAll.is I ks _ _ b rb)
end
end
abbrev NEnt := NestedKey × Addr × V
def NVal (xs : List NEnt) (k : NestedKey) : Option V := (xs.find? fun x => decide (x.1 = k)).map (·.2.2)
def NPut (xs : List NEnt) (k : NestedKey) (a : Addr) (v : V) : List NEnt := if (NVal xs k).isSome then xs.map (fun x => if x.1 = k then (x.1, x.2.1, v) else x) else xs ++ [(k, a, v)]
abbrev NRel : List NEnt → List (NestedKey × Addr × Value) → Prop := Paired fun p q => p.1 = q.1 ∧ p.2.1 = q.2.1 ∧ RelV p.2.2 q.2.2
theorem NRel.val {xs : List NEnt} {ys : List (NestedKey × Addr × Value)} (r : NRel xs ys) (k : NestedKey) : RelO (NVal xs k) ((atKey ys k).map (·.2)) := by
  induction r with
  | nil => exact True.intro
  | @cons p q ps qs h t ih =>
    obtain ⟨h1, _, h2⟩ := h
    by_cases e : p.1 = k
    · have e' : q.1 = k := h1.symm.trans e
      have b : atKey (q :: qs) k = some q.2 := by simp [atKey, List.find?_cons, e']
      have c : NVal (p :: ps) k = some p.2.2 := by simp [NVal, List.find?_cons, e]
      rw [c, b]
      exact h2
    · have e' : ¬ q.1 = k := fun z => e (h1.trans z)
      have b : atKey (q :: qs) k = atKey qs k := by simp [atKey, List.find?_cons, e']
      have c : NVal (p :: ps) k = NVal ps k := by simp [NVal, List.find?_cons, e]
      rw [c, b]
      exact ih
theorem NRel.put {xs : List NEnt} {ys : List (NestedKey × Addr × Value)} (r : NRel xs ys) (k : NestedKey) (b : Addr) {y : V} {u : Value} (ry : RelV y u) : NRel (NPut xs k b y) (storedH ys k b u) := by
  have e : (NVal xs k).isSome = (atKey ys k).isSome := by rw [(r.val k).isSome_eq, Option.isSome_map]
  unfold NPut storedH
  rw [e]
  by_cases q : (atKey ys k).isSome = true
  · rw [if_pos q, if_pos q]
    clear e q
    induction r with
    | nil => exact .nil
    | @cons p q ps qs h t ih =>
      rw [List.map_cons, List.map_cons]
      refine .cons ?_ ih
      obtain ⟨h1, h2, h3⟩ := h
      unfold putAt
      by_cases e : p.1 = k
      · rw [if_pos e, if_pos (h1.symm.trans e)]
        exact ⟨h1, h2, ry⟩
      · rw [if_neg e, if_neg (fun z => e (h1.trans z))]
        exact ⟨h1, h2, h3⟩
  · rw [if_neg q, if_neg q]
    exact Paired.snoc r ⟨rfl, rfl, ry⟩
/-- the dict at a, keyed by nested tuples -/
def NO (P : Program) (w : World) (a : Addr) (xs : List NEnt) : HO := .ext fun h => xs.length ≤ sizeLine ∧ (a == sysModules) = false ∧ ∃ ys : List (NestedKey × Addr × Value), NRel xs ys ∧
  ∃ o es ep, h.get? a = some o ∧ o.ExactDict ∧ o.data = .dict es ep ∧ es.toList = ys.map (entryOfKey (nestedKind P w)) ∧ (ys.map (·.1)).Nodup
structure NDict (P : Program) (w : World) (H : Hp) (a : Addr) (xs : List NEnt) : Prop where
  at' : H a = some (NO P w a xs)
  keys : ∀ p ∈ xs, NAt H p.1 (.ref p.2.1) ∧ p.1.depth ≤ 8
theorem NDict.kp {P : Program} {w : World} {M : List Addr} {H H' : Hp} {a : Addr} {xs : List NEnt} (d : NDict P w H a xs) (k : Kp M H H') (t : KT H H') (h : a ∉ M) : NDict P w H' a xs :=
  ⟨k _ _ h d.at', fun p hp => ⟨NAt.kt t _ _ (d.keys p hp).1, (d.keys p hp).2⟩⟩
section
variable {X : Cx} {pins : List (Addr × Obj)} {σ : L2.St} {H : Hp} {s : Shared} {a : Addr} {xs : List NEnt}
theorem nd_of (I : Inv X pins σ H s) (d : NDict X.prog X.w H a xs) : xs.length ≤ sizeLine ∧ (a == sysModules) = false ∧ ∃ ys, NRel xs ys ∧ s.heap.DictOfH (nestedKind X.prog X.w) a ys := by
  obtain ⟨⟨z, y, ys, r, o, es, ep, h1, h2, h3, h4, h5⟩, hex, hst⟩ := (show ObjOk X.prog X.w H s.heap a (NO X.prog X.w a xs) from I.hok a _ d.at')
  refine ⟨z, y, ys, r, o, es, ep, h1, h2, h3, h4, ?_, h5⟩
  have hk := d.keys
  clear h4 h5 z d hex hst
  induction r with
  | nil => intro x hx; cases hx
  | @cons p q ps qs h t ih =>
    intro x hx
    rcases List.mem_cons.mp hx with rfl | hx
    · obtain ⟨g1, g2⟩ := hk p (by simp)
      have e1 : p.1 = x.1 := h.1
      have e2 : p.2.1 = x.2.1 := h.2.1
      rw [e1] at g1 g2
      rw [e2] at g1
      exact ⟨NAt.is I _ _ _ g1 rfl, g2⟩
    · exact ih (fun p hp => hk p (by simp [hp])) x hx
theorem nd_type (I : Inv X pins σ H s) (d : NDict X.prog X.w H a xs) : s.TypeIs (.ref a) "dict" ∧ (∀ b, Value.ref a = .ref b → ∃ ob, s.heap.get? b = some ob ∧ ob.dict = none) := by
  obtain ⟨_, _, ys, _, dd⟩ := nd_of I d
  refine ⟨dd.typeIs, fun b q => ?_⟩
  cases q
  obtain ⟨ob, _, _, h1, h2, _⟩ := dd
  exact ⟨ob, h1, h2.2.1⟩
theorem nk_is (I : Inv X pins σ H s) {b : Addr} {k : NestedKey} (h : NAt H k (.ref b)) (h8 : k.depth ≤ 8) : (nestedKind X.prog X.w).is s.heap k b := ⟨NAt.is I _ _ _ h rfl, h8⟩
variable {b : Addr} {k : NestedKey} {A : Around} {E : Value → Shared → Prop} {v : V} {r : Value}
theorem n_in {Q : Value → Shared → Prop} (hu : A.units + 9 < cLine) (I : Inv X pins σ H s) (d : NDict X.prog X.w H a xs) (hk : NAt H k (.ref b)) (h8 : k.depth ≤ 8) (h : ∀ s', Inv X pins σ H s' → Q (.bool (NVal xs k).isSome) s') :
    wpAny (model X.prog X.w) A (compareOp .In (.ref b) (.ref a)) Q E s := by
  obtain ⟨z, hd, ys, rel, dd⟩ := nd_of I d
  refine wpAny_in_heap (knd := nestedKind X.prog X.w) (show A.in1.units + 8 < cLine from by show A.units + 1 + 8 < cLine; omega) (nk_is I hk h8) hd dd ?_
  have q := (rel.val k).isSome_eq
  rw [Option.isSome_map] at q
  rw [← q]
  exact h _ (I.tok _)
theorem n_getItem {Q : Value → Shared → Prop} (hu : A.units + 9 < cLine) (I : Inv X pins σ H s) (d : NDict X.prog X.w H a xs) (hk : NAt H k (.ref b)) (h8 : k.depth ≤ 8) (l : NVal xs k = some v) (h : ∀ w' s', Inv X pins σ H s' → RelV v w' → Q w' s') :
    wpAny (model X.prog X.w) A (getItem (.ref a) (.ref b)) Q E s := by
  obtain ⟨z, hd, ys, rel, dd⟩ := nd_of I d
  obtain ⟨w', hw, rw'⟩ := RelO.some_of (v := v) (o := (atKey ys k).map (·.2)) (by rw [← l]; exact rel.val k)
  obtain ⟨p, hp, hp2⟩ := Option.map_eq_some_iff.mp hw
  refine wpAny_getItem_heap (knd := nestedKind X.prog X.w) (show A.in1.units + 8 < cLine from by show A.units + 1 + 8 < cLine; omega) (nk_is I hk h8) dd hp ?_
  rw [hp2]
  exact h w' _ (I.tok _) rw'
theorem n_setItem {Q : Unit → Shared → Prop} (hu : A.units + 9 < cLine) (I : Inv X pins σ H s) (d : NDict X.prog X.w H a xs) (hk : NAt H k (.ref b)) (h8 : k.depth ≤ 8) (hl : xs.length < sizeLine) (rv : RelV v r) (h : ∀ s', Inv X pins σ (upd H a (NO X.prog X.w a (NPut xs k b v))) s' → Q () s') :
    wpAny (model X.prog X.w) A (setItem (.ref a) (.ref b) r) Q E s := by
  obtain ⟨z, hd, ys, rel, dd⟩ := nd_of I d
  have hz : ys.length ≤ sizeLine := by rw [← Paired.length rel]; exact z
  have hl' : (NPut xs k b v).length ≤ sizeLine := by
    unfold NPut
    split
    · rw [List.length_map]; exact z
    · rw [List.length_append]; exact hl
  refine wpAny_setItem_heap (knd := nestedKind X.prog X.w) (hsz := hz) (show A.in1.units + 8 < cLine from by show A.units + 1 + 8 < cLine; omega) (nk_is I hk h8) dd fun h' dd' hs => h _ ?_
  obtain ⟨q, es, ep, hq, h2, h3, h4, _, h5⟩ := dd'
  refine d_write I (by rw [d.at']; exact True.intro) hs ⟨q, hq⟩ ⟨⟨hl', hd, _, rel.put k b rv, q, es, ep, hq, h2, h3, h4, h5⟩, ⟨q, hq⟩, ?_⟩
  rintro h1 h2' ⟨g1, g2, ys', g3, o, es, ep, g4, g5⟩ keep
  exact ⟨g1, g2, ys', g3, o, es, ep, keep _ g4, g5⟩
end
/-! ### the rules -/
def rNIn (P : Program) (w : World) (x y : V) (H : Hp) (Q : VK) : Prop := ∃ a b xs k, x = .ref a ∧ y = .ref b ∧ NDict P w H a xs ∧ NAt H k (.ref b) ∧ k.depth ≤ 8 ∧ Q (.bl (NVal xs k).isSome) H
def rNGet (P : Program) (w : World) (x y : V) (H : Hp) (Q : VK) : Prop := ∃ a b xs k v, x = .ref a ∧ y = .ref b ∧ NDict P w H a xs ∧ NAt H k (.ref b) ∧ k.depth ≤ 8 ∧ NVal xs k = some v ∧ Q v H
def rNIs (P : Program) (w : World) (x : V) (H : Hp) (R : Addr → Hp → Prop) : Prop := ∃ a xs, x = .ref a ∧ NDict P w H a xs ∧ R a H
def rNGet1 (P : Program) (w : World) (a : Addr) (y : V) (H : Hp) (Q : VK) : Prop := ∃ b xs k, y = .ref b ∧ NDict P w H a xs ∧ NAt H k (.ref b) ∧ k.depth ≤ 8 ∧ Q ((NVal xs k).getD .non) H
def rNPut (P : Program) (w : World) (x y v : V) (H : Hp) (R : Hp → Prop) : Prop := ∃ a b xs k, x = .ref a ∧ y = .ref b ∧ NDict P w H a xs ∧ NAt H k (.ref b) ∧ k.depth ≤ 8 ∧ xs.length < sizeLine ∧ R (upd H a (NO P w a (NPut xs k b v)))
def tNIn (P : Program) (w : World) (ty td : TE) : TE := fun σ H Q => ty σ H fun y H1 => td σ H1 fun x H2 => rNIn P w x y H2 Q
def tNGet (P : Program) (w : World) (td ty : TE) : TE := fun σ H Q => td σ H fun x H1 => ty σ H1 fun y H2 => rNGet P w x y H2 Q
def tNGet1 (P : Program) (w : World) (td ty : TE) : TE := fun σ H Q => td σ H fun x H1 => rNIs P w x H1 fun a H1 => ty σ H1 fun y H2 => rNGet1 P w a y H2 Q
def sNPut (P : Program) (w : World) (td ty tv : TE) : TS := fun D σ H => tv σ H fun v H1 => td σ H1 fun x H2 => ty σ H2 fun y H3 => rNPut P w x y v H3 fun H4 => D.nx σ H4
def tNNew (P : Program) (w : World) : TE := fun _ H Q => ∀ p, H p = none → Q (.ref p) (upd H p (NO P w p []))
section
variable {X : Cx} {o i e value : Expr} {pos pos' tpos apos cpos : Pos} {td ty tv : TE}
theorem pc_nin (hu : X.A.units + 64 < cLine) (hi : PE X i ty) (ho : PE X o td) : PC X .In i o (tNIn X.prog X.w ty td) := by
  refine ⟨fun pins s σ H Q I h => ?_⟩
  refine thn (hi.run pins s σ H _ I h) fun iv s1 ⟨y, H1, I1, ry, q1⟩ => thn (ho.run pins s1 σ H1 _ I1 q1) fun u s2 ⟨x, H2, I2, rx, a, b, xs, k, ex, ey, d, hk, h8, q2⟩ => ?_
  subst ex ey
  obtain rfl : u = Value.ref a := rx
  obtain rfl : iv = Value.ref b := ry
  exact n_in (by omega) I2 d hk h8 fun s3 I3 => ⟨.bl _, H2, I3, rfl, q2⟩
theorem pe_nget (hu : X.A.units + 64 < cLine) (ho : PE X o td) (hi : PE X i ty) (hs : NoSl i) : PE X (.Subscript o i pos) (tNGet X.prog X.w td ty) := by
  refine ⟨fun pins s σ H Q I h => ?_⟩
  refine subD_of PySem.F.slot_dict_getitem.lookup hs (thn (ho.run pins s σ H _ I h) fun u s1 ⟨x, H1, I1, rx, q1⟩ => thn (hi.run pins s1 σ H1 _ I1 q1) fun iv s2 ⟨y, H2, I2, ry, a, b, xs, k, v, ex, ey, d, hk, h8, l, q2⟩ => ?_)
  subst ex ey
  obtain rfl : u = Value.ref a := rx
  obtain rfl : iv = Value.ref b := ry
  exact ⟨(nd_type I2 d).1, n_getItem (by omega) I2 d hk h8 l fun w' s3 I3 rw' => ⟨v, H2, I3, rw', q2⟩⟩
theorem ps_nput (hu : X.A.units + 64 < cLine) (ho : PE X o td) (hi : PE X i ty) (hv : PE X value tv) (hs : swapsWith value (some (.Subscript o i pos')) pos.line X.env = pure false) :
    PS X (.Assign [.Subscript o i pos'] value pos) (sNPut X.prog X.w td ty tv) := by
  refine ⟨fun pins s σ H D I h => ?_⟩
  refine wpAny_Assign_Subscript (thn (hv.run pins s σ H _ I h) fun r s1 ⟨v, H1, I1, rv, q1⟩ => thn (ho.run pins s1 σ H1 _ I1 q1) fun u s2 ⟨x, H2, I2, rx, q2⟩ => thn (hi.run pins s2 σ H2 _ I2 q2) fun iv s3 ⟨y, H3, I3, ry, a, b, xs, k, ex, ey, d, hk, h8, hl, q3⟩ => ?_) hs
  subst ex ey
  obtain rfl : u = Value.ref a := rx
  obtain rfl : iv = Value.ref b := ry
  exact n_setItem (by omega) I3 d hk h8 hl rv fun s4 I4 => ⟨σ, _, I4, q3⟩
theorem pe_nnew : PE X (.Dict [] [] pos) (tNNew X.prog X.w) := ⟨fun pins s σ H Q I h =>
  wpAny_Dict_empty ⟨.ref s.heap.objs.size, _, I.laid (a := s.heap.objs.size) (o := NO X.prog X.w s.heap.objs.size []) (t' := s.toks) (fun _ _ q => Heap.get?_push_of_some _ q) (Nat.le_refl _)
    ⟨⟨Nat.zero_le _, beq_eq_false_iff_ne.mpr (Ne.symm (Nat.ne_of_lt I.big)), [], .nil, _, #[], 0, Heap.get?_push_size _ rfl, ⟨rfl, rfl, rfl⟩, rfl, rfl, List.nodup_nil⟩, ⟨_, Heap.get?_push_size _ rfl⟩, by
      rintro h1 h2' ⟨g1, g2, ys', g3, o, es, ep, g4, g5⟩ keep
      exact ⟨g1, g2, ys', g3, o, es, ep, keep _ g4, g5⟩⟩, rfl, h _ (I.hok.fresh (Nat.le_refl _))⟩⟩
end
section
variable {P : Program} {w : World} {K : PySem.W.Frag} {σ : L2.St} {H : Hp} {Q : VK} {nx bk ct : L2.St → Hp → Prop} {rt : VK} {v : V}
theorem w_nin {ty td : TE} (h : ty σ H fun y H1 => td σ H1 fun x H2 => rNIn P w x y H2 Q) : tNIn P w ty td σ H Q := h
theorem w_nget {td ty : TE} (h : td σ H fun x H1 => ty σ H1 fun y H2 => rNGet P w x y H2 Q) : tNGet P w td ty σ H Q := h
theorem w_nget1 {td ty : TE} (h : td σ H fun x H1 => rNIs P w x H1 fun a H1 => ty σ H1 fun y H2 => rNGet1 P w a y H2 Q) : tNGet1 P w td ty σ H Q := h
theorem w_nput {td ty tv : TE} (h : tv σ H fun v H1 => td σ H1 fun x H2 => ty σ H2 fun y H3 => rNPut P w x y v H3 fun H4 => nx σ H4) : sNPut P w td ty tv ⟨nx, rt, bk, ct⟩ σ H := h
theorem w_seqNP {td ty tv : TE} {u : TS} (h : tv σ H fun v H1 => td σ H1 fun x H2 => ty σ H2 fun y H3 => rNPut P w x y v H3 fun H4 => u ⟨nx, rt, bk, ct⟩ σ H4) : tSeq (sNPut P w td ty tv) u ⟨nx, rt, bk, ct⟩ σ H := h
theorem w_nin' {a b : Addr} {xs : List NEnt} {k : NestedKey} (d : NDict P w H a xs) (hk : NAt H k (.ref b)) (h8 : k.depth ≤ 8) (h : Q (.bl (NVal xs k).isSome) H) : rNIn P w (.ref a) (.ref b) H Q := ⟨a, b, xs, k, rfl, rfl, d, hk, h8, h⟩
theorem w_nget' {a b : Addr} {xs : List NEnt} {k : NestedKey} (d : NDict P w H a xs) (hk : NAt H k (.ref b)) (h8 : k.depth ≤ 8) (l : NVal xs k = some v) (h : Q v H) : rNGet P w (.ref a) (.ref b) H Q := ⟨a, b, xs, k, v, rfl, rfl, d, hk, h8, l, h⟩
theorem w_nput' {a b : Addr} {xs : List NEnt} {k : NestedKey} {R : Hp → Prop} (d : NDict P w H a xs) (hk : NAt H k (.ref b)) (h8 : k.depth ≤ 8) (hl : xs.length < sizeLine) (h : ∀ H1, NDict P w H1 a (NPut xs k b v) → Off a H H1 → R H1) : rNPut P w (.ref a) (.ref b) v H R := by
  refine ⟨a, b, xs, k, rfl, rfl, d, hk, h8, hl, h _ ⟨upd_same, fun p hp => ?_⟩ fun x hx => upd_ne hx⟩
  have t : KT H (upd H a (NO P w a (NPut xs k b v))) := ⟨fun c ys ec => upd_get (ne_of ec d.at' (fun z => nomatch z)) ec, fun c _ ys ec => upd_get (ne_of ec d.at' (fun z => nomatch z)) ec⟩
  have hp' : (NAt H p.1 (.ref p.2.1) ∧ p.1.depth ≤ 8) := by
    unfold NPut at hp
    split at hp
    · obtain ⟨q, hq, rfl⟩ := List.mem_map.mp hp
      have := d.keys q hq
      split <;> exact this
    · rcases List.mem_append.mp hp with hp | hp
      · exact d.keys p hp
      · have e : p = (k, b, v) := by simpa using hp
        subst e
        exact ⟨hk, h8⟩
  exact ⟨NAt.kt t _ _ hp'.1, hp'.2⟩
theorem w_nnew (h : ∀ p H1, H p = none → NDict P w H1 p [] → Same H H1 → Q (.ref p) H1) : tNNew P w σ H Q := fun p hp => h p _ hp ⟨upd_same, fun q hq => by cases hq⟩ (Same.new hp)
end
end FW

set_option Elab.async false
set_option linter.all false
set_option maxRecDepth 100000
set_option maxHeartbeats 4000000
/-! sets of ints out of lists, sorted at any length -/
namespace FW
open PySem PySem.Spec PyProof.Rows L2
/-- an empty set, as set.__new__ lays it -/
abbrev es0 (w : World) : Obj := { cls := .type "set", dict := none, data := .set #[] 0 (.fresh 0 0 (!w.params.followText "set-order")) }
section
variable {P : Program} {w : World} {A : Around} {E : Value → Shared → Prop} {s : Shared}
theorem set_of_list {l : Addr} {xs : Array Value} (ns : List Int) {Q : Value → Shared → Prop} (calm : A.handled = none) (isL : s.heap.IsList l xs) (are : IntsAre xs.toList ns) (few : ns.length + 1 < scanBound)
    (fin : ∀ (g : Heap) (tk c : Nat), SetR w g s.heap.objs.size (fun j => decide (j ∈ ns)) c → c ≤ ns.length → (∀ b o, s.heap.get? b = some o → g.get? b = some o) → Q (.ref s.heap.objs.size) { s with heap := g, toks := tk }) :
    wpAny (model P w) A (call (.type "set") [.ref l]) Q E s := by
  have size : xs.size = ns.length := by rw [← Array.length_toList]; exact IntsAre.length are
  obtain ⟨c0, tl, c1⟩ := F.called_set.mro
  have c2 := F.called_set.made
  have c3 := F.called_set.sub
  have c4 := F.called_set.notType
  have c5 := F.called_set.canCreate
  have c6 := F.typeCall_set_1 (.ref l)
  refine wpAny_call (codeAny_of_tree ?_)
  show wpAny (model P w) _ (callAny (.type "set") ⟨[.ref l], []⟩) _ _ s
  refine wpAny_pure ⟨Code.quiet_builtin _ (by decide +kernel), ?_⟩
  refine codeAny_builtin F.entry_type_call ?_
  rw [Around.under_plain (weight_type_call_type "set" [.ref l] []) rfl]
  repeat (any_goals (first | assumption | wp_step))
  refine codeAny_mono (code_set_led1 (w := w) (.ref l) (E := E) (Q₁ := fun y t => y = .ref s.heap.objs.size ∧ t = { s with heap := s.heap.push (es0 w) }) ⟨rfl, rfl⟩) fun r t hr => ?_
  match r, hr with
  | .error e, hr => exact hr
  | .ok (.ret y), hr =>
    obtain ⟨ey, et⟩ := hr
    subst ey et
    have at0 : (s.heap.push (es0 w)).get? s.heap.objs.size = some (es0 w) := Heap.get?_push_size _ rfl
    have ty0 : Shared.TypeIs { s with heap := s.heap.push (es0 w) } (.ref s.heap.objs.size) "set" := ⟨_, at0, rfl⟩
    have d1 := F.called_set.init.lookup
    have d2 := F.called_set.init.bind (.ref s.heap.objs.size)
    repeat (any_goals (first | assumption | wp_step))
    refine codeAny_mono (codeAny_call_builtin (R := wants (fun y t => y = .none ∧ ∃ g tk c, t = { s with heap := g, toks := tk } ∧ SetR w g s.heap.objs.size (fun j => decide (j ∈ ns)) c ∧ c ≤ ns.length ∧ (∀ b o, s.heap.get? b = some o → g.get? b = some o)) E) F.called_set.init.plain F.entry_set_init (check_set_init_1 ty0 ?_)) fun r2 t2 hr2 => ?_
    · obtain ⟨⟨kl, dc, dt, sl⟩, hol, hcl, nl, hdl⟩ := isL
      simp only at hcl hdl
      subst hcl
      subst hdl
      have at1 : (s.heap.push (es0 w)).get? l = some { cls := .type "list", dict := dc, data := .seq xs nl, slots := sl } := Heap.get?_push_of_some _ hol
      have n1 := F.sub_list_set
      have n2 := F.sub_list_frozenset
      have n3 : (Value.type "list" == Value.type "dict") = false := by decide
      have isL1 : (s.heap.push (es0 w)).IsList l xs := ⟨_, at1, rfl, nl, rfl⟩
      unfold Builtin.«set.__init__» noKeywords Builtin.Frozenset.updateFrom
      generalize gi : pyIter = it
      wp_walk
      subst gi
      refine wpAny_pyIter_list isL1 ?_
      refine wpAny_bind (wpAny_runValue ?_)
      have ll : l < s.heap.objs.size := Heap.lt_size hol
      have calm3 : A.in1.in1.in1.handled = none := by simp [calm]
      have sz1 : (s.heap.push (es0 w)).objs.size = s.heap.objs.size + 1 := Heap.size_push ..
      have ne1 : l ≠ (s.heap.push (es0 w)).objs.size := by rw [sz1]; exact Nat.ne_of_lt (Nat.lt_succ_of_lt ll)
      have ne2 : s.heap.objs.size ∉ [(s.heap.push (es0 w)).objs.size, l] := by
        rw [sz1]
        simp only [List.mem_cons, List.not_mem_nil, or_false, not_or]
        exact ⟨Nat.ne_of_lt (Nat.lt_succ_self _), Nat.ne_of_gt ll⟩
      have vals : ∀ (i : Nat) (v : Value), xs[i]? = some v → ∃ k t, ns[i]? = some k ∧ v = .int k t := fun i v hv => by
        have hi : i < ns.length := by rw [← size]; exact (Array.getElem?_eq_some_iff.mp hv).1
        obtain ⟨t, e⟩ := PyProof.Rows.IntsAre.int_at are i v (by rw [Array.getElem?_toList]; exact hv)
        exact ⟨ns[i], t, List.getElem?_eq_getElem hi, by rw [e, List.getD_eq_getElem?_getD, List.getElem?_eq_getElem hi]; rfl⟩
      refine set_update_ints (Walks.list calm3 _ l ne1 xs).toS s.heap.objs.size ne2 ns size few vals xs.size 0 _ (Nat.sub_zero _) (Nat.zero_le _) ⟨⟨_, Heap.get?_push_size _ rfl, rfl, rfl⟩, isL1.push _⟩ ⟨0, Nat.le_refl 0, setR_new_at (Heap.get?_push_of_some _ at0)⟩ ?_
      intro t c mv hc hS
      obtain ⟨g, g2, g3, tk, g5⟩ := t
      have q1 : g2 = s.gens := mv.gens
      have q2 : g3 = s.drawn := mv.drawn
      have q3 : g5 = s.os := mv.os
      subst q1 q2 q3
      show wpAny _ _ _ _ _ _
      refine wpAny_pure ?_
      show wpAny _ _ (ret Value.none) _ _ _
      rw [size] at hc
      refine wpAny_pure ⟨rfl, g, tk, c, rfl, hS, hc, fun b o e => ?_⟩
      have lb : b < s.heap.objs.size := Heap.lt_size e
      exact mv.heap b o (by rw [sz1]; simp only [List.mem_cons, List.not_mem_nil, or_false, not_or]; exact ⟨Nat.ne_of_lt lb, Nat.ne_of_lt (Nat.lt_succ_of_lt lb)⟩) (Heap.get?_push_of_some _ (Heap.get?_push_of_some _ e))
    · match r2, hr2 with
      | .error e, hr2 => exact hr2
      | .ok (.ret y), hr2 =>
        obtain ⟨ey, g, tk, c, et, hS, hc, keep⟩ := hr2
        subst ey et
        repeat (any_goals (first | assumption | wp_step))
        exact fin _ _ _ hS hc keep
      | .ok .next, hr2 => exact hr2.elim
      | .ok .brk, hr2 => exact hr2.elim
      | .ok .cont, hr2 => exact hr2.elim
  | .ok .next, hr => exact hr.elim
  | .ok .brk, hr => exact hr.elim
  | .ok .cont, hr => exact hr.elim
end
def rSetL (K : PySem.W.Frag) (w : World) (vs : List V) (H : Hp) (Q : VK) : Prop := ∃ (l : Addr) (ns : List Int), vs = [.ref l] ∧ SqL K H l (ns.map V.int) ∧ ns.length ≤ 4000 ∧ ∀ (p : Addr) (c : Nat), H p = none → c ≤ ns.length → Q (.ref p) (upd H p (SetO w p (fun j => decide (j ∈ ns)) c))
def rSortS (w : World) (vs : List V) (H : Hp) (Q : VK) : Prop := ∃ (a : Addr) (S : Int → Bool) (n : Nat), vs = [V.ref a] ∧ H a = some (SetO w a S n) ∧ n ≤ 4000 ∧ ∀ (ns : List Int) (p : Addr), ns.Pairwise (· < ·) → (∀ k : Int, k ∈ ns ↔ S k = true) → H p = none → Q (.ref p) (upd H p (.lst (ns.map V.int)))
section
variable {X : Cx}
theorem c_setL (calm : X.calm = true) : CallR X (.type "set") (rSetL X.K X.w) := by
  intro pins s σ H vs us Q I r h
  obtain ⟨l, ns, rfl, hl, hn, q⟩ := h
  rw [Vals.ref1 r]
  obtain ⟨its, rv, pl, hz⟩ := I.list hl
  refine set_of_list ns (I.ok.hd calm) pl.isList (by simpa using RZ.intsAre_vals rv) (by unfold scanBound; omega) fun g tk c R hc keep => ?_
  have free : H s.heap.objs.size = none := I.hok.fresh (Nat.le_refl _)
  exact ⟨.ref s.heap.objs.size, _, I.laid (t' := tk) keep (Nat.le_refl _) (setO_new R), rfl, q _ c free hc⟩
theorem c_sortS (calm : X.calm = true) : CallR X (.builtin "sorted") (rSortS X.w) := by
  intro pins s σ H vs us Q I r h
  obtain ⟨a, S, n, rfl, ha, hn4, q⟩ := h
  rw [Vals.ref1 r]
  obtain ⟨o, es, ep, t, ho, hex, hd, good, nd, hm, hb, hf, hn, ris, led⟩ := setO_get I ha
  refine Calls.call_function_entry kind_sorted plain_sorted entry_sorted (args_sorted1 _) ?_
  unfold Builtin.«sorted»; refine wpAny_bind (m := checkCount "sorted" 1 1 _) (wpAny_pure ?_)
  refine wpAny_bind (collect_set (A := X.A.in1) (I.ok.hd calm) ⟨o, ho, hex.1, hd⟩ hf hb ris led fun s1 xs k1 z1 g1 o1 pm => ?_)
  have xl : xs.length = n := by rw [pm.length_eq, List.length_map, Array.length_toList]; exact hn
  have xI : IntsAre xs (xs.map Builtin.Re.reRawOf) := L2.ints_of xs fun v hv => by
    obtain ⟨e, he, rfl⟩ := List.mem_map.mp (pm.mem_iff.mp hv)
    obtain ⟨k, tk, h1, _⟩ := good e he
    exact ⟨k, tk, h1⟩
  have pk : (xs.map Builtin.Re.reRawOf).Perm (es.toList.map keyOf) := by
    have q := pm.map Builtin.Re.reRawOf
    rwa [List.map_map] at q
  have hz : xs.length ≤ sizeLine := by rw [xl, sizeLine_eq]; omega
  refine wpAny_bind (wpAny_newList ?_ hz)
  have atL : (s1.heap.push (seqObj "list" xs.toArray 0)).get? s1.heap.objs.size = some (seqObj "list" xs.toArray 0) := Heap.get?_push_size _ rfl
  refine wpAny_bind (wpAny_holding (wpAny_call_entry slot_list_sort ⟨_, atL, rfl⟩ entry_list_sort (SrtO.list_sort_ord (s := { s1 with heap := s1.heap.push (seqObj "list" xs.toArray 0) }) SrtO.swo_int atL hz (fun h2 => SrtO.ints_sortable xI h2) fun out h1 h2 => ⟨_, rfl, ?_⟩) (args_list_sort _)))
  obtain ⟨i1, i2, i3⟩ := SrtO.ints_out xI h1 h2
  obtain ⟨e', he'⟩ := sortedHeap_at (vs := xs) (out := out.toArray) atL
  have pn : (out.map SrtO.iv).Perm (es.toList.map keyOf) := i2.trans pk
  have hlen : ((out.map SrtO.iv).map V.int).length ≤ sizeLine := by rw [List.length_map, i2.length_eq, List.length_map]; exact hz
  have free : H s1.heap.objs.size = none := I.hok.fresh z1
  have keep : ∀ b u, s.heap.get? b = some u → (sortedHeap (s1.heap.push (seqObj "list" xs.toArray 0)) s1.heap.objs.size xs out.toArray).get? b = some u := fun b u e => by
    have e1 := k1 b u e
    have lb : b < s1.heap.objs.size := Heap.lt_size e1
    rw [sortedHeap_old (Nat.ne_of_lt lb) (by rw [size_push']; exact Nat.lt_succ_of_lt lb)]
    exact Heap.get?_push_of_some _ e1
  have J : Inv X pins σ (upd H s1.heap.objs.size (.lst ((out.map SrtO.iv).map V.int))) { s with heap := sortedHeap (s1.heap.push (seqObj "list" xs.toArray 0)) s1.heap.objs.size xs out.toArray, gens := s1.gens, drawn := s1.drawn, toks := s1.toks } := I.call (ch := []) (Un.laid keep z1 free) (I.hok.laid (o := .lst ((out.map SrtO.iv).map V.int)) keep z1 ⟨hlen, out, e', vals_of_ints i1, he'⟩) (by rw [g1]; exact I.bare) (fun _ z => nomatch z)
  refine wpAny_pure ⟨_, rfl, .ref s1.heap.objs.size, upd H s1.heap.objs.size (.lst ((out.map SrtO.iv).map V.int)), ?_, rfl, q _ _ (lt_of_le_nodup _ i3 (pn.nodup_iff.mpr nd)) (fun k => by rw [pn.mem_iff, ← hm k]) free⟩
  cases s1
  cases s
  cases o1
  exact J
end
section
variable {K : PySem.W.Frag} {w : World} {H : Hp} {Q : VK}
theorem w_setOf {l : Addr} {ns : List Int} (h1 : SqL K H l (ns.map V.int)) (h2 : ns.length ≤ 4000) (h : ∀ p c H1, H p = none → c ≤ ns.length → H1 p = some (SetO w p (fun j => decide (j ∈ ns)) c) → Same H H1 → Q (.ref p) H1) : rSetL K w [.ref l] H Q :=
  ⟨l, ns, rfl, h1, h2, fun p c hp hc => h p c _ hp hc upd_same (Same.new hp)⟩
theorem w_sortS {a : Addr} {S : Int → Bool} {n : Nat} (h1 : H a = some (SetO w a S n)) (h2 : n ≤ 4000) (h : ∀ (ns : List Int) p H1, ns.Pairwise (· < ·) → (∀ k : Int, k ∈ ns ↔ S k = true) → H p = none → H1 p = some (.lst (ns.map V.int)) → Same H H1 → Q (.ref p) H1) : rSortS w [.ref a] H Q :=
  ⟨a, S, n, rfl, h1, h2, fun ns p hs hm hp => h ns p _ hs hm hp upd_same (Same.new hp)⟩
end
end FW

set_option Elab.async false
set_option linter.all false
set_option maxRecDepth 100000
set_option maxHeartbeats 4000000
/-! objects of own classes; max with a default; data in lists -/
namespace FW
open PySem PySem.Spec PyProof.Rows L2
/-! ### max(list, default=d) -/
def rMaxD (K : PySem.W.Frag) (vs zs : List V) (H : Hp) (Q : VK) : Prop := ∃ (a : Addr) (ns : List Int) (d : Int), vs = [.ref a] ∧ zs = [.int d] ∧ SqL K H a (ns.map V.int) ∧ (ns = [] → Q (.int d) H) ∧ ∀ m, m ∈ ns → (∀ y ∈ ns, y ≤ m) → Q (.int m) H
theorem maxOf_ge (ys : List Int) : ∀ y : Int, ∀ z ∈ y :: ys, z ≤ PySem.W.maxOf y ys := by
  induction ys with
  | nil => intro y z hz; have : z = y := by simpa using hz
           subst this; exact Int.le_refl _
  | cons x ys ih =>
    intro y z hz
    show z ≤ PySem.W.maxOf (if PySem.W.DatumOrd.lt y x = true then x else y) ys
    have e : PySem.W.DatumOrd.lt y x = decide (y < x) := rfl
    rw [e]
    by_cases h : y < x
    · rw [if_pos (decide_eq_true h)]
      have h1 := ih x
      rcases List.mem_cons.mp hz with rfl | hz
      · have := h1 x (by simp)
        omega
      · exact h1 z hz
    · rw [if_neg (fun q => h (of_decide_eq_true q))]
      have h1 := ih y
      rcases List.mem_cons.mp hz with rfl | hz
      · exact h1 z (by simp)
      · rcases List.mem_cons.mp hz with rfl | hz
        · have := h1 y (by simp)
          omega
        · exact h1 z (by simp [hz])
section
variable {X : Cx} {pins : List (Addr × Obj)} {σ : L2.St} {H : Hp} {s : Shared}
theorem hold_ints (h : Heap) : ∀ (ns : List Int) (its : List Value), Vals (ns.map V.int) its → PySem.W.HoldAll h its ns
  | [], _, r => by cases r; exact PySem.W.HoldAll.nil
  | n :: ns, _, r => by
    cases r with
    | cons r1 rr =>
      obtain ⟨t, rfl⟩ := r1
      exact PySem.W.HoldAll.cons ⟨_, Reads.int n t⟩ (hold_ints h ns _ rr)
theorem int_at {ns : List Int} {its : List Value} (r : Vals (ns.map V.int) its) {i : Nat} {v : Value} (h : its[i]? = some v) : ∃ k t, ns[i]? = some k ∧ v = .int k t := by
  induction ns generalizing its i with
  | nil =>
    cases r
    simp at h
  | cons n ns ih =>
    cases r with
    | cons r1 rr =>
      obtain ⟨t, rfl⟩ := r1
      cases i with
      | zero => exact ⟨n, t, rfl, by simpa using h.symm⟩
      | succ i => exact ih rr (by simpa using h)
theorem c_maxD (calm : X.calm = true) (hu : X.A.units + 64 < cLine) : CallRK X (.builtin "max") ["default"] (rMaxD X.K) := by
  intro pins s σ H vs zs us ws Q I r rz ⟨a, ns, d, e1, e2, hs, q0, q1⟩
  subst e1 e2
  obtain ⟨its, rv, hl, _⟩ := I.list hs
  rw [Vals.ref1 r]
  cases rz with
  | cons r1 rr =>
    cases rr
    obtain ⟨t, rfl⟩ := r1
    have hdp : PySem.W.Datum.depth Int ≤ 50 := by decide
    refine PySem.W.max_list_datum_default (d := .int d t) (xs := ns) (I.ok.hd calm) hl.isList (by simpa using hold_ints s.heap ns its rv) (by omega) (fun e h' tk hk => ?_) fun y ys i v h' tk e hi hv hk => ?_
    · exact ⟨.int d, H, I.kept (t' := tk) hk, ⟨_, rfl⟩, q0 e⟩
    · obtain ⟨k, t', hk', rfl⟩ := int_at rv (by simpa using hi)
      have ek : k = PySem.W.maxOf y ys := by
        obtain ⟨as, ra⟩ := hv
        cases ra
        rfl
      refine ⟨.int k, H, I.kept (t' := tk) hk, ⟨_, rfl⟩, q1 k (List.mem_of_getElem? hk') fun z hz => ?_⟩
      rw [ek]
      exact maxOf_ge ys y z (by rw [← e]; exact hz)
end
/-! ### fields, methods, makings -/
/-- a class as the top has left it, with the names of its fields -/
structure Kl (K : PySem.W.Frag) (mg : Str → Option Value) (x : Str) (C : Addr) (as : List Str) : Prop where
  g : mg x = some (.ref C)
  cl : Cls K C
  na : ∀ f ∈ as, NoAttr K C f
/-- a method -/
structure DfM (K : PySem.W.Frag) (C : Addr) (m qual : Str) (st : Stmt) (ps : List Str) (f : Addr) (fd : FuncData) : Prop where
  fn : Fun K m qual st f fd
  b : Binds K fd ps []
  m : Meth K C m f
def rFld (K : PySem.W.Frag) (f : Str) (x : V) (H : Hp) (Q : VK) : Prop := ∃ a C dx fs v, x = .ref a ∧ H a = some (.ins C dx fs) ∧ Cls K C ∧ NoAttr K C f ∧ fs.lookup f = some v ∧ Q v H
def rFldS (K : PySem.W.Frag) (f : Str) (x y : V) (H : Hp) (R : Hp → Prop) : Prop := ∃ a C dx fs, x = .ref a ∧ H a = some (.ins C dx fs) ∧ Cls K C ∧ NoAttr K C f ∧ fs.length < 1000 ∧ R (upd H a (.ins C dx (putF f y fs)))
def rMeth (C : Addr) (m : Str) (x : V) (H : Hp) (A : Prop) : Prop := ∃ a dx fs, x = .ref a ∧ H a = some (.ins C dx fs) ∧ fs.lookup m = none ∧ A
def rMake (C : Addr) (sp : Sp) (vs : List V) (H : Hp) (Q : VK) (E : XK) : Prop := ∀ x dx, H x = none → H dx = none → dx ≠ x → sp (.ref x :: vs) (upd (upd H dx (.own x)) x (.ins C dx [])) (fun v H2 => v = .non ∧ Q (.ref x) H2) E
section
variable {K : PySem.W.Frag} {σ : L2.St} {H : Hp} {Q : VK} {nx bk ct : L2.St → Hp → Prop} {rt : VK} {v : V}
theorem w_fld {ta : TE} {f : Str} (h : ta σ H fun x H1 => rFld K f x H1 Q) : tFld K ta f σ H Q := h
theorem w_fld' {f : Str} {a C dx : Addr} {fs : List (Str × V)} (h1 : H a = some (.ins C dx fs)) (h2 : Cls K C) (h3 : NoAttr K C f) (h4 : fs.lookup f = some v) (h : Q v H) : rFld K f (.ref a) H Q := ⟨a, C, dx, fs, v, rfl, h1, h2, h3, h4, h⟩
theorem w_fldS {ta tv : TE} {f : Str} (h : tv σ H fun y H1 => ta σ H1 fun x H2 => rFldS K f x y H2 fun H3 => nx σ H3) : sFld K ta tv f ⟨nx, rt, bk, ct⟩ σ H := h
theorem w_seqFS {ta tv : TE} {f : Str} {u : TS} (h : tv σ H fun y H1 => ta σ H1 fun x H2 => rFldS K f x y H2 fun H3 => u ⟨nx, rt, bk, ct⟩ σ H3) : tSeq (sFld K ta tv f) u ⟨nx, rt, bk, ct⟩ σ H := h
theorem w_fldS' {f : Str} {a C dx : Addr} {fs : List (Str × V)} {R : Hp → Prop} (h1 : H a = some (.ins C dx fs)) (h2 : Cls K C) (h3 : NoAttr K C f) (h4 : fs.length < 1000) (h : ∀ H1, H1 a = some (.ins C dx (putF f v fs)) → Off a H H1 → R H1) : rFldS K f (.ref a) v H R :=
  ⟨a, C, dx, fs, rfl, h1, h2, h3, h4, h _ upd_same fun x hx => upd_ne hx⟩
theorem w_meth {C : Addr} {m : Str} {sp : Sp} {E : XK} {ta : TE} {t : TA} (h : ta σ H fun x H1 => rMeth C m x H1 (t σ H1 fun vs H2 => sp (x :: (vs ++ [])) H2 Q E)) : tMeth C m sp [] E ta t σ H Q := by
  unfold tMeth
  exact h
theorem w_meth' {C a dx : Addr} {m : Str} {fs : List (Str × V)} {A : Prop} (h1 : H a = some (.ins C dx fs)) (h2 : fs.lookup m = none) (h : A) : rMeth C m (.ref a) H A := ⟨a, dx, fs, rfl, h1, h2, h⟩
theorem w_make {C : Addr} {sp : Sp} {E : XK} {t : TA} (h : t σ H fun vs H1 => rMake C sp (vs ++ []) H1 Q E) : tMake C sp [] E t σ H Q := h
theorem w_make' {C : Addr} {sp : Sp} {vs : List V} {E : XK} (h : ∀ x dx H1, H x = none → H dx = none → dx ≠ x → H1 x = some (.ins C dx []) → Same H H1 → sp (.ref x :: vs) H1 (fun v H2 => v = .non ∧ Q (.ref x) H2) E) : rMake C sp vs H Q E := fun x dx hx hd hne =>
  h x dx _ hx hd hne upd_same fun b o e => by
    rw [upd_ne (ne_of_none e hx), upd_ne (ne_of_none e hd)]
    exact e
theorem w_maxD {r : List V → List V → Hp → VK → Prop} {t tk : TA} (h : t σ H fun vs H1 => tk σ H1 fun zs H2 => r vs zs H2 Q) : tCKw r t tk σ H Q := h
theorem w_maxD' {a : Addr} {ns : List Int} {d : Int} (h1 : SqL K H a (ns.map V.int)) (h0 : ns = [] → Q (.int d) H) (h : ∀ m, m ∈ ns → (∀ y ∈ ns, y ≤ m) → Q (.int m) H) : rMaxD K [.ref a] [.int d] H Q := ⟨a, ns, d, rfl, rfl, h1, h0, h⟩
end
theorem pe_fldK {X : Cx} {K : PySem.W.Frag} {e : Expr} {f : Str} {pos : Pos} {ta : TE} (hk : X.K = K) (he : PE X e ta) (hb : attributeBase e f X.env (eval e X.env) = eval e X.env) : PE X (.Attribute e f pos) (tFld K ta f) := by
  subst hk
  exact pe_fld he hb
end FW

set_option Elab.async false
set_option linter.all false
set_option maxRecDepth 100000
set_option maxHeartbeats 4000000
/-! l[::-1] of a list; set of a tuple of ints; two promises of one def -/
namespace FW
open PySem PySem.Spec PyProof.Rows L2
def rRevL (K : PySem.W.Frag) (x z : V) (H : Hp) (Q : VK) : Prop := ∃ (a : Addr) (xs : List V), x = .ref a ∧ z = .int (-1) ∧ SqL K H a xs ∧ Nw (.lst xs.reverse) H Q
def tRevL (K : PySem.W.Frag) (te ts : TE) : TE := fun σ H Q => te σ H fun x H1 => ts σ H1 fun z H3 => rRevL K x z H3 Q
section
variable {X : Cx}
end
def rSetT (K : PySem.W.Frag) (w : World) (vs : List V) (H : Hp) (Q : VK) : Prop := ∃ (l : Addr) (ns : List Int), vs = [.ref l] ∧ SqT K H l (ns.map V.int) ∧ ns.length ≤ 4000 ∧ ∀ (p : Addr) (c : Nat), H p = none → c ≤ ns.length → Q (.ref p) (upd H p (SetO w p (fun j => decide (j ∈ ns)) c))
section
variable {K : PySem.W.Frag} {w : World} {σ : L2.St} {H : Hp} {Q : VK}
theorem w_revL {te ts : TE} (h : te σ H fun x H1 => ts σ H1 fun z H3 => rRevL K x z H3 Q) : tRevL K te ts σ H Q := h
end
theorem FnOk.or {P : Program} {w : World} {K : PySem.W.Frag} {mg : Str → Option Value} {base : Heap} {CX : CXT} {k : Nat} {f : Addr} {fd : FuncData} {ps : List Str} {sp sp' : Sp} (F : FnOk P w K mg base CX k f fd ps sp) (G : FnOk P w K mg base CX k f fd ps sp') : FnOk P w K mg base CX k f fd ps (fun vs H Q E => sp vs H Q E ∨ sp' vs H Q E) :=
  ⟨fun vs H Q E q => q.elim (F.len vs H Q E) (G.len vs H Q E), fun A outer s H args us vs Q E hr he hb hv hs => hs.elim (F.run A outer s H args us vs Q E hr he hb hv) (G.run A outer s H args us vs Q E hr he hb hv)⟩
end FW

set_option Elab.async false
set_option linter.all false
set_option maxRecDepth 100000
set_option maxHeartbeats 4000000
/-! d.items() of a dict of texts and ints, and sorted of it -/
namespace FW
open PySem PySem.Spec PyProof.Rows L2
def rItemsK : V → List V → Hp → VK → Prop := fun x xs H Q => ∃ (a : Addr) (kvs : List (Key × V)), x = .ref a ∧ xs = [] ∧ H a = some (.dK kvs) ∧ ∀ p, H p = none → Q (.ref p) (upd H p (L2.DX.itemsO p a))
theorem mt_itemsK {X : Cx} : MtR X "dict.items" rItemsK := by
  intro pins s σ H x xs v us Q I rx rxs h
  obtain ⟨a, kvs, rfl, rfl, ha, q⟩ := h
  cases rx
  cases rxs
  obtain ⟨z, lo, vs, rel, dd⟩ := dk_of I.hok ha
  refine call_meetsIn PySem.F.slot_dict_items dd.typeIs PySem.F.entry_dict_items (PySem.F.args_dict_items_1 _) (meets_dict_items (mixKind X.prog X.w) a lo) ⟨⟨vs, dd⟩, ?_⟩
  have hf : H s.heap.objs.size = none := I.hok.fresh (Nat.le_refl _)
  exact ⟨.ref s.heap.objs.size, upd H s.heap.objs.size (L2.DX.itemsO s.heap.objs.size a), I.laid (t' := s.toks) (fun b u e => Heap.get?_push_of_some _ e) (Nat.le_refl _) (L2.DX.itemsO_ok (Heap.get?_push_size _ rfl)), rfl, q _ hf⟩
/-! ### the order of pairs of a text and an int -/
abbrev TI := Addr × Str × Int
def encTI (b : TI) : PyData := .tuple [.str b.2.1, .int b.2.2]
abbrev txLt (x y : Str) : Prop := x.cps.toList < y.cps.toList
theorem eqv_strs (x y : Str) : PyData.eqv (.str x) (.str y) = true ↔ x = y := by
  simp [PyData.eqv]
theorem le_TI (a b : TI) : PySem.W.dataLe false encTI a b = !(decide (txLt b.2.1 a.2.1) || (decide (a.2.1 = b.2.1) && decide (b.2.2 < a.2.2))) := by
  show (!PySem.W.dataLt (encTI b) (encTI a)) = _
  unfold encTI
  rw [PySem.W.dataLt_pair (by simp [PySem.W.alike]) (by simp [PySem.W.alike]), PySem.W.dataLt_str, PySem.W.dataLt_int]
  by_cases h : b.2.1 = a.2.1
  · rw [if_pos ((eqv_strs _ _).mpr h)]
    have h1 : ¬ txLt b.2.1 a.2.1 := by rw [h]; exact List.lt_irrefl _
    have h2 : a.2.1 = b.2.1 := h.symm
    rw [decide_eq_false h1, decide_eq_true h2]
    simp only [PyData.eqv, beq_iff_eq, Bool.false_or, Bool.true_and]
    by_cases e : b.2.2 = a.2.2
    · rw [if_pos e, decide_eq_false (by omega)]
    · rw [if_neg e]
  · rw [if_neg (fun z => h ((eqv_strs _ _).mp z))]
    have h2 : ¬ a.2.1 = b.2.1 := fun e => h e.symm
    rw [decide_eq_false h2, Bool.false_and, Bool.or_false]
theorem tx_tri {x y : Str} (h : ¬ txLt x y) : txLt y x ∨ x = y := by
  by_cases h2 : txLt y x
  · exact .inl h2
  · exact .inr (PySem.W.str_of_cps (List.le_antisymm (List.not_lt.mp h2) (List.not_lt.mp h)))
theorem le_TI_iff (a b : TI) : PySem.W.dataLe false encTI a b = true ↔ (txLt a.2.1 b.2.1 ∨ (a.2.1 = b.2.1 ∧ a.2.2 ≤ b.2.2)) := by
  rw [le_TI]
  simp only [Bool.not_eq_true', Bool.or_eq_false_iff, decide_eq_false_iff_not, Bool.and_eq_false_iff]
  constructor
  · rintro ⟨h1, h2⟩
    rcases tx_tri h1 with h | h
    · exact .inl h
    · right
      refine ⟨h.symm, ?_⟩
      rcases h2 with h2 | h2
      · exact absurd h.symm h2
      · omega
  · rintro (h | ⟨h1, h2⟩)
    · refine ⟨List.lt_asymm h, .inl fun e => ?_⟩
      rw [e] at h
      exact List.lt_irrefl _ h
    · refine ⟨?_, .inr (by omega)⟩
      rw [h1]
      exact List.lt_irrefl _
theorem totTI : PySem.W.TotalLe (PySem.W.dataLe false encTI) where
  trans a b c h1 h2 := by
    rw [le_TI_iff] at *
    rcases h1 with h1 | ⟨h1, g1⟩
    · rcases h2 with h2 | ⟨h2, g2⟩
      · exact .inl (List.lt_trans h1 h2)
      · exact .inl (h2 ▸ h1)
    · rcases h2 with h2 | ⟨h2, g2⟩
      · exact .inl (h1 ▸ h2)
      · exact .inr ⟨h1.trans h2, by omega⟩
  total a b := by
    rw [le_TI_iff, le_TI_iff]
    by_cases h : txLt a.2.1 b.2.1
    · exact .inl (.inl h)
    · rcases tx_tri h with h | h
      · exact .inr (.inl h)
      · by_cases g : a.2.2 ≤ b.2.2
        · exact .inl (.inr ⟨h, g⟩)
        · exact .inr (.inr ⟨h.symm, by omega⟩)
theorem sorted_TI {bs : List TI} (nd : (bs.map (·.2.1)).Nodup) : (bs.mergeSort (PySem.W.dataLe false encTI)).Pairwise (fun x y => txLt x.2.1 y.2.1) := by
  have h := PySem.W.sort_pairwise totTI bs
  have hp := List.mergeSort_perm bs (PySem.W.dataLe false encTI)
  have nd2 : ((bs.mergeSort (PySem.W.dataLe false encTI)).map (·.2.1)).Nodup := ((hp.map (·.2.1)).nodup_iff).mpr nd
  unfold List.Nodup at nd2
  rw [List.pairwise_map] at nd2
  refine (h.and nd2).imp fun {x y} ⟨h1, h2⟩ => ?_
  rcases (le_TI_iff _ _).mp h1 with h | ⟨h, _⟩
  · exact h
  · exact absurd h h2
/-! ### the tuples laid -/
def kvTI (qs : List (Str × Int)) : List (Key × V) := qs.map fun q => ((Sum.inr q.1 : Key), V.int q.2)
theorem tups_laid {X : Cx} {pins : List (Addr × Obj)} {σ : L2.St} {H : Hp} {s : Shared} {h' : Heap} {tk : Nat} {kvs : List (Key × V)} {vs : List (Key × Value)} {as : List Addr} (I : Inv X pins σ H s) (kv : KV kvs vs)
    (hk : ∀ b o, s.heap.get? b = some o → h'.get? b = some o) (hl : as.length = vs.length) (hG : PySem.W.KdxG (mixKind X.prog X.w) vs s.heap.objs.size h' as) :
    (∀ t ∈ as, H t = none) ∧ (∀ b o, H b = some o → LiI.putT H as kvs b = some o) ∧ Paired (fun (t : Addr) (q : Key × V) => LiI.putT H as kvs t = some (.tup [kV q.1, q.2])) as kvs ∧ Inv X pins σ (LiI.putT H as kvs) { s with heap := h', toks := tk } := by
  have lk : kvs.length = vs.length := Paired.length kv
  have nd : as.Nodup := List.Pairwise.imp (fun {a b} (h : a < b) => Nat.ne_of_lt h) hG.rise
  have new : ∀ t ∈ as, H t = none := fun t ht => I.hok.fresh (Nat.le_of_lt (hG.above t ht))
  have atP := LiI.putT_at as kvs H (by omega) nd
  have off : ∀ b, b ∉ as → LiI.putT H as kvs b = H b := fun b h1 => LiI.putT_off as kvs _ h1
  have kp : ∀ b u, H b = some u → (LiI.putT H as kvs) b = some u := fun b u e => by
    rw [off b (fun z => by rw [new b z] at e; cases e)]
    exact e
  refine ⟨new, kp, atP, ?_⟩
  refine I.call' (ch := []) rfl ⟨fun b o q _ _ _ => hk b o q, fun b o q _ _ _ => ⟨o.slots, hk b o q⟩, fun b o q n _ => ?_, fun b o q _ => ⟨o, hk b o q⟩, fun b xs q => kp b _ q, fun b o u q => kp b _ q, fun b ps q => ⟨#[], by rw [kp b _ q]; simp⟩⟩ (fun b u q => ?_) I.bare fun b z => by simp at z
  · rw [off b fun z => absurd (Heap.lt_size q) (Nat.not_lt.mpr (Nat.le_of_lt (hG.above b z)))]
    exact n
  · by_cases hb : b ∈ as
    · obtain ⟨j, pk, e1, e2, e3⟩ := LiI.paired_ix atP hb
      rw [e3] at q
      cases q
      obtain ⟨key, k, x, f1, f2, f3⟩ := hG.pairs j b e1
      obtain ⟨qv, g1, g2, g3⟩ := LiI.paired_get kv e2
      rw [f1] at g1
      cases g1
      have rk : RelV (kV pk.1) key := by
        rw [g2]
        exact relV_key (show keyIs k key = true from f2)
      exact ⟨by show 2 ≤ sizeLine; decide, [key, x], .cons rk (.cons g3 .nil), ⟨_, f3, rfl, _, rfl⟩⟩
    · rw [off b hb] at q
      exact (I.hok b u q).stay (fun d v _ y => hk d v y) (fun d y => kp d _ y) fun d xs y => kp d _ y
def rSortI (vs : List V) (H : Hp) (Q : VK) : Prop := ∃ (a d : Addr) (qs : List (Str × Int)), vs = [.ref a] ∧ H a = some (L2.DX.itemsO a d) ∧ H d = some (.dK (kvTI qs)) ∧ (qs.map (·.1)).Nodup ∧
  ∀ (H' : Hp) (p : Addr) (ts : List TI), (∀ b o, H b = some o → H' b = some o) → H p = none → H' p = some (.lst (ts.map fun t => .ref t.1)) → (∀ t ∈ ts, H' t.1 = some (.tup [.str t.2.1, .int t.2.2])) → (ts.map (·.2)).Perm qs → ts.Pairwise (fun x y => txLt x.2.1 y.2.1) → Q (.ref p) H'
theorem each_refs {out : List Value} {bs : List TI} (h : PySem.W.EachIs (fun v (b : TI) => v = Value.ref b.1) out bs) : out = bs.map fun b => Value.ref b.1 := by
  induction h with
  | nil => rfl
  | cons h1 _ ih => rw [h1, ih]; rfl
theorem zip_map2 {as : List Addr} {qs : List (Str × Int)} (h : as.length = qs.length) : (as.zip qs).map (·.2) = qs := List.map_snd_zip (by omega)
theorem c_sortI {X : Cx} (hcalm : X.calm = true) (hu : X.A.units + 64 < cLine) : CallR X (.builtin "sorted") rSortI := by
  intro pins s σ H xs us Q I r ⟨a, d, qs, ex, hv, hd, nd, q⟩
  subst ex
  obtain ⟨u, eu, rx⟩ := vals1 r
  subst eu
  cases rx
  obtain ⟨z, lo, vs, rel, dd⟩ := dk_of I.hok hd
  obtain ⟨ep, hat⟩ := dd.dictAt
  obtain ⟨hview, _, _⟩ : ObjOk X.prog X.w H s.heap a (L2.DX.itemsO a d) := I.hok a _ hv
  have lk : (kvTI qs).length = vs.length := Paired.length rel
  have lq : (kvTI qs).length = qs.length := List.length_map ..
  refine Calls.call_function_entry kind_sorted plain_sorted entry_sorted (args_sorted1 _) ?_
  unfold Builtin.«sorted»
  refine wpAny_bind (m := checkCount "sorted" 1 1 _) (wpAny_pure ?_)
  refine wpAny_bind (PySem.W.kdx_collect (A := X.A.in1) (knd := mixKind X.prog X.w) (kvs := vs) (ep := ep) (I.ok.hd hcalm) hview hat (by omega) fun h' tk as hk hl hG => ?_)
  obtain ⟨new, kp, atP, I1⟩ := tups_laid (tk := tk) I rel hk hl hG
  have hz : (as.map Value.ref).length ≤ sizeLine := by rw [List.length_map]; omega
  refine wpAny_bind (wpAny_newList ?_ hz)
  have hoL : (h'.push (seqObj "list" (as.map Value.ref).toArray 0)).get? h'.objs.size = some (seqObj "list" (as.map Value.ref).toArray 0) := Heap.get?_push_size _ rfl
  have hlz : as.length = qs.length := by omega
  have e0 : (as.zip qs).map (fun b : TI => Value.ref b.1) = as.map Value.ref := by
    rw [← List.map_fst_zip (l₁ := as) (l₂ := qs) (by omega), List.map_map]
    rw [List.map_fst_zip (by omega)]
    rfl
  have eR : PySem.W.EachIs (fun v (b : TI) => v = Value.ref b.1) (as.map Value.ref) (as.zip qs) := by
    rw [← e0]
    generalize (as.zip qs : List TI) = l
    induction l with
    | nil => exact .nil
    | cons b l ih => exact .cons rfl ih
  have rd : ∀ b ∈ (as.zip qs : List TI), ∃ ws, Reads (h'.push (seqObj "list" (as.map Value.ref).toArray 0)) (.ref b.1) (encTI b) ws ∧ h'.objs.size ∉ ws := by
    intro b hb
    obtain ⟨j, hj⟩ := List.mem_iff_getElem?.mp hb
    obtain ⟨j1, j2⟩ := List.getElem?_zip_eq_some.mp hj
    obtain ⟨key, k, x, f1, f2, f3⟩ := hG.pairs j b.1 j1
    obtain ⟨qv, g1, g2, g3⟩ := LiI.paired_get rel (i := j) (x := ((Sum.inr b.2.1 : Key), V.int b.2.2)) (by unfold kvTI; rw [List.getElem?_map, j2]; rfl)
    rw [f1] at g1
    cases g1
    obtain ⟨t2, rfl⟩ := g3
    rcases keyIs_shape (show keyIs k key = true from f2) with ⟨i, t, ek, ev⟩ | ⟨y, t, ek, ev⟩
    · rw [ek] at g2
      cases g2
    · rw [ek] at g2
      cases g2
      rw [ev] at f3
      exact ⟨_, .tuple (Heap.get?_push_of_some _ f3) rfl rfl (.cons (.str _ _) (.cons (.int _ _) .nil)), by simp⟩
  have er : PySem.W.EachIs (fun v (b : TI) => ∃ ws, Reads (h'.push (seqObj "list" (as.map Value.ref).toArray 0)) v (encTI b) ws ∧ h'.objs.size ∉ ws) (as.map Value.ref) (as.zip qs) :=
    (PySem.W.each_mem eR).mono fun v b ⟨h1, h2⟩ => by
      rw [h1]
      exact rd b h2
  have hal : PySem.W.AllAlike ((as.zip qs : List TI).map encTI) := PySem.W.AllAlike.of fun b b' => by simp [encTI, PySem.W.alike, PySem.W.alikeAll]
  have hso : PySem.W.Sortable ((as.zip qs : List TI).map encTI) := PySem.W.Sortable.tuples fun b => ⟨_, _, rfl⟩
  have lz : (as.zip qs : List TI).length = qs.length := by rw [List.length_zip]; omega
  show wpAny _ _ _ _ _ { s with heap := h'.push (seqObj "list" (as.map Value.ref).toArray 0), toks := tk }
  refine wpAny_bind (wpAny_holding (PySem.W.list_sort_data (s := { s with heap := h'.push (seqObj "list" (as.map Value.ref).toArray 0), toks := tk }) (R := fun v (b : TI) => v = Value.ref b.1) (enc := encTI) (bs := as.zip qs) hoL eR er hal hso (by rw [lz]; omega) (fun b _ => ?_) fun out ho eo => ?_))
  · have : (encTI b).depth ≤ 8 := by
      show PyData.depthAll [.str b.2.1, .int b.2.2] + 1 ≤ 8
      simp only [PyData.depthAll, PyData.depth]
      decide
    show X.A.in1.units + 1 + (encTI b).depth < cLine
    have e : X.A.in1.units = X.A.units + 1 := rfl
    omega
  · have eo' := each_refs eo
    subst eo'
    generalize hts : (as.zip qs : List TI).mergeSort (PySem.W.dataLe false encTI) = ts
    have hp : ts.Perm (as.zip qs) := by rw [← hts]; exact List.mergeSort_perm _ _
    have hsrt : ts.Pairwise (fun x y => txLt x.2.1 y.2.1) := by
      rw [← hts]
      refine sorted_TI ?_
      have : (as.zip qs : List TI).map (·.2.1) = qs.map (·.1) := by
        have e : (as.zip qs : List TI).map (·.2.1) = ((as.zip qs : List TI).map (·.2)).map (·.1) := by rw [List.map_map]; rfl
        rw [e, zip_map2 hlz]
      rw [this]
      exact nd
    obtain ⟨e', he'⟩ := sortedHeap_at (vs := as.map Value.ref) (out := (ts.map fun b => Value.ref b.1).toArray) hoL
    have lts : ts.length = qs.length := by rw [hp.length_eq, lz]
    have hf1 : LiI.putT H as (kvTI qs) h'.objs.size = none := I1.hok.fresh (Nat.le_refl _)
    have hf0 : H h'.objs.size = none := by
      cases e : H h'.objs.size with
      | none => rfl
      | some o => rw [kp _ _ e] at hf1; cases hf1
    have vts : Vals ((ts.map fun t => V.ref t.1) : List V) (ts.map fun b => Value.ref b.1) := by
      generalize ts = l
      induction l with
      | nil => exact .nil
      | cons b l ih => exact .cons rfl ih
    have hlen : ((ts.map fun t => V.ref t.1) : List V).length ≤ sizeLine := by rw [List.length_map]; omega
    refine wpAny_pure ⟨_, rfl, .ref h'.objs.size, upd (LiI.putT H as (kvTI qs)) h'.objs.size (.lst (ts.map fun t => V.ref t.1)), I1.laid (t' := tk) (fun b u e => ?_) (Nat.le_refl _) (show ObjOk X.prog X.w _ _ _ (.lst (ts.map fun t => V.ref t.1)) from ⟨hlen, _, e', vts, he'⟩), rfl, q _ _ ts (fun b o e => ?_) hf0 upd_same (fun t ht => ?_) ?_ hsrt⟩
    · have hb : b < h'.objs.size := Heap.lt_size e
      rw [sortedHeap_old (Nat.ne_of_lt hb) (by rw [size_push']; exact Nat.lt_succ_of_lt hb)]
      exact Heap.get?_push_of_some _ e
    · rw [upd_ne (fun z => by rw [z, hf0] at e; cases e)]
      exact kp b o e
    · have hm := hp.mem_iff.mp ht
      obtain ⟨j, hj⟩ := List.mem_iff_getElem?.mp hm
      obtain ⟨j1, j2⟩ := List.getElem?_zip_eq_some.mp hj
      obtain ⟨y, y1, y2⟩ := LiI.paired_get atP j1
      unfold kvTI at y1
      rw [List.getElem?_map, j2] at y1
      have y3 := Option.some.inj y1
      subst y3
      rw [upd_ne (fun z => by rw [z, hf1] at y2; cases y2)]
      exact y2
    · have := hp.map (·.2)
      rwa [zip_map2 hlz] at this
theorem w_sortI {H : Hp} {Q : VK} {a d : Addr} {qs : List (Str × Int)} (hv : H a = some (L2.DX.itemsO a d)) (hd : H d = some (.dK (kvTI qs))) (nd : (qs.map (·.1)).Nodup)
    (h : ∀ (H' : Hp) (p : Addr) (ts : List TI), Same H H' → H p = none → H' p = some (.lst (ts.map fun t => .ref t.1)) → (∀ t ∈ ts, H' t.1 = some (.tup [.str t.2.1, .int t.2.2])) → (ts.map (·.2)).Perm qs → ts.Pairwise (fun x y => txLt x.2.1 y.2.1) → Q (.ref p) H') : rSortI [.ref a] H Q := ⟨a, d, qs, rfl, hv, hd, nd, h⟩
theorem w_itemsK {H : Hp} {Q : VK} {a : Addr} {kvs : List (Key × V)} (ha : H a = some (.dK kvs)) (h : ∀ p H1, H p = none → H1 p = some (L2.DX.itemsO p a) → Same H H1 → Q (.ref p) H1) : rItemsK (.ref a) [] H Q := ⟨a, kvs, rfl, rfl, ha, fun p hp => h p _ hp upd_same (Same.new hp)⟩
end FW

set_option Elab.async false
set_option linter.all false
set_option maxRecDepth 100000
set_option maxHeartbeats 4000000
/-! a def of an own class called through the class: C.m(x, ..) -/
namespace FW
open PySem PySem.Spec PyProof.Rows L2
/-- a class's reading, with the names of fields, whatever its name -/
structure Kf (K : PySem.W.Frag) (C : Addr) (as : List Str) : Prop where
  cl : Cls K C
  na : ∀ f ∈ as, NoAttr K C f
def tClsF (C : Addr) (sp : Sp) (dvs : List V) (E : XK) (ta : TE) (t : TA) : TE := fun σ H Q => ta σ H fun x H1 => x = .ref C ∧ t σ H1 fun vs H2 => sp (vs ++ dvs) H2 Q E
theorem pe_clsF {X : Cx} {CX : CXT} {k : Nat} {C f : Addr} {fd : FuncData} {ps : List Str} {mc : Value} {sp : Sp} {E : XK} {o e : Expr} {es : List Expr} {m : Str} {pos apos : Pos} {ta : TE} {t : TA} {pl : Sem Bool} {ds : List Value} {dvs : List V}
    (he : PE X o ta) (r : ClX.CRead X.K C mc) (c : ClX.CVal X.K C mc m (.ref f) (.ref f)) (hk : PySem.W.keepIn X.K (.ref f) = true) (F : FnOk X.prog X.w X.K X.mg X.base CX k f fd ps sp) (hr : Room k X.A) (hb : Binds X.K fd ps ds) (hd : Vals dvs ds) (hx : Passes CX X E) (ha : PA X (e :: es) t)
    (hst : starEach (e :: es) X.env = (false, eval e X.env) :: starEach es X.env := by rfl) (hpl : (backTo pos (starEach es X.env)).any (·.1) = false := by rfl)
    (ht : eval (.Call (.Attribute o m apos) (e :: es) [] pos) X.env = (do
      let ov ← eval o X.env
      standAt apos.atName
      let (f, first) ← holding [ov] (getMethod ov m pl)
      callWith pos f first (backTo pos (starEach (e :: es) X.env)) (backToKw pos (keywordEach [] X.env))) := by rfl) :
    PE X (.Call (.Attribute o m apos) (e :: es) [] pos) (tClsF C sp dvs E ta t) := by
  refine ⟨fun pins s σ H Q I h => ?_⟩
  refine PySem.W.methodCall_KW (pl := pl) (thn (he.run pins s σ H _ I h) fun u s1 ⟨x, H1, I1, rx, ex, q⟩ => ?_) ht
  subst ex
  obtain rfl : u = Value.ref C := rx
  refine PySem.W.method_cls I1.kIn r.ga (ClX.getcval_ok I1 r c fun s2 I2 => ?_)
  refine PySem.W.callWith_K (h₀ := X.base) I2.ok.mod.kin hk (thn (ha.run pos pins s2 σ H1 _ I2 q) fun us s3 ⟨vs, H2, I3, rv, q2⟩ => ⟨I3.kIn, ?_⟩) hst hpl
  exact run_fn F hr hb hd hx I3 rv q2
theorem w_clsF {σ : L2.St} {H : Hp} {Q : VK} {C : Addr} {sp : Sp} {E : XK} {t : TA} (h : t σ H fun vs H2 => sp (vs ++ []) H2 Q E) : tClsF C sp [] E (tC (.ref C)) t σ H Q := ⟨rfl, h⟩
end FW

set_option Elab.async false
set_option linter.all false
set_option maxRecDepth 100000
set_option maxHeartbeats 4000000
/-! len and str by an own class's defs; != of one object with itself -/
namespace FW
open PySem PySem.Spec PyProof.Rows L2
section
variable {X : Cx} {CX : CXT} {k : Nat} {f C : Addr} {fd : FuncData} {ps : List Str} {sp : Sp} {E : XK}
def rLenO (C : Addr) (sp : Sp) (E : XK) (xs : List V) (H : Hp) (Q : VK) : Prop := ∃ a dx fs, xs = [.ref a] ∧ H a = some (.ins C dx fs) ∧ sp [.ref a] H (fun v H2 => ∃ n : Nat, v = .int (n : Int) ∧ n ≤ 1000000 ∧ Q (.int (n : Int)) H2) E
def rStrO (C : Addr) (sp : Sp) (E : XK) (xs : List V) (H : Hp) (Q : VK) : Prop := ∃ a dx fs, xs = [.ref a] ∧ H a = some (.ins C dx fs) ∧ sp [.ref a] H (fun v H2 => ∃ z : Str, v = .str z ∧ Q (.str z) H2) E
end
def rStrI (xs : List V) (H : Hp) (Q : VK) : Prop := ∃ i, xs = [V.int i] ∧ i.natAbs.log2 < 1920 ∧ Q (.str (toString i)) H
/-! ### one object compared with itself -/
section
variable {M : Model} {prog : Program} {w : World} {A : Around} {E : Value → Shared → Prop} {s : Shared} {K : PySem.W.Frag} {x C : Addr} {ox : Obj} {od : Option Obj}
end
/-- an own class that compares by identity -/
structure EqI (K : PySem.W.Frag) (C : Addr) : Prop where
  mr : PySem.W.mroIn K C (.type "object") = some true
  eq : PySem.W.findIn K (.ref C) "__eq__" = some (some (.builtin "object.__eq__"))
  ne : PySem.W.findIn K (.ref C) "__ne__" = some (some (.builtin "object.__ne__"))
def rNeS (K : PySem.W.Frag) : R2 := fun x y H Q => ∃ a C dx fs, x = .ref a ∧ y = .ref a ∧ H a = some (.ins C dx fs) ∧ EqI K C ∧ Q (.bl false) H
end FW

set_option Elab.async false
set_option linter.all false
set_option maxRecDepth 100000
set_option maxHeartbeats 4000000
/-! f(x, k = v) in a try; for k, v in e.items() of a dict that a call made -/
namespace FW
open PySem PySem.Spec PyProof.Rows L2
section
variable {X : Cx} {CX : CXT} {k n : Nat} {f : Addr} {fd : FuncData} {ps ks : List Str} {sp : Sp} {E : L2.St → XK} {x : Str} {p pos : Pos} {e : Expr} {es : List Expr} {kws : List Keyword} {t tk : TA} {g : List Value → List Value → List Value} {gV : List V → List V → List V}
def tCallNS (n m : Nat) (sp : Sp) (gV : List V → List V → List V) (E : L2.St → XK) (t tk : TA) : TE := fun σ H Q => t σ H fun vs H1 => tk σ H1 fun zs H2 => vs.length = n ∧ zs.length = m ∧ sp (gV vs zs) H2 Q (E σ)
/-! ### a dict that is read from here on -/
def tFrz (td : TE) : TE := fun σ H Q => td σ H fun x H1 => ∃ d kvs, x = .ref d ∧ H1 d = some (.dK kvs) ∧ ∀ o H2, H2 d = some (.frz o (.dK kvs)) → Off d H1 H2 → Q x H2
def rItems (x : V) (H1 : Hp) (R : It → Hp → Prop) : Prop := ∃ d o kvs, x = .ref d ∧ H1 d = some (.frz o (.dK kvs)) ∧ R (Iti d o kvs) H1
end
end FW

set_option Elab.async false
set_option linter.all false
set_option maxRecDepth 100000
set_option maxHeartbeats 4000000
/-! zip of a tuple and a list -/
namespace FW
open PySem
section
variable {pg : Program} {w : World} {ar : Around} {er : Value → Shared → Prop} {sh : Shared}
end
abbrev zipMH1 (h : Heap) (l1 : Addr) : Heap := h.push { cls := .type "tuple_iterator", data := .fields #[.ref l1, .int 0 0] }
abbrev zipMH2 (h : Heap) (l1 l2 : Addr) : Heap := (zipMH1 h l1).push { cls := .type "list_iterator", data := .fields #[.ref l2, .int 0 0] }
abbrev zipMH3 (h : Heap) (l1 l2 : Addr) : Heap := (zipMH2 h l1 l2).push { cls := .type "tuple", data := .seq #[.ref h.objs.size, .ref (zipMH1 h l1).objs.size] }
abbrev zipMH4 (h : Heap) (l1 l2 : Addr) : Heap := (zipMH3 h l1 l2).push { cls := .type "tuple", data := .seq #[.none, .none] }
abbrev zipMH5 (h : Heap) (l1 l2 : Addr) : Heap := (zipMH4 h l1 l2).push { cls := .type "zip", data := .fields #[.none, .bool false, .bool false, .ref (zipMH2 h l1 l2).objs.size, .ref (zipMH3 h l1 l2).objs.size] }

section
variable {pg : Program} {w : World} {ar : Around} {er : Value → Shared → Prop} {sh : Shared}
end
open PySem.Spec PyProof.Rows L2
def ItzM (K : PySem.W.Frag) (aa b : Addr) : It :=
  ⟨fun ix H => ∃ (xs ys : List V) (x y : V), SqT K H aa xs ∧ SqL K H b ys ∧ xs[ix]? = some x ∧ ys[ix]? = some y,
    fun ix H v H' => ∃ T x y, v = .ref T ∧ H T = none ∧ H' = upd H T (.tup [x, y]) ∧ (∀ xs, SqT K H aa xs → xs[ix]? = some x) ∧ ∀ ys, SqL K H b ys → ys[ix]? = some y,
    fun ix H => ∃ xs ys : List V, SqT K H aa xs ∧ SqL K H b ys ∧ (xs.length ≤ ix ∨ ys.length ≤ ix)⟩
def iZipM (K : PySem.W.Frag) (ta : TA) : L2.TI := fun σ H R => ta σ H fun vs Hn => ∃ a b xs ys, vs = [.ref a, .ref b] ∧ SqT K Hn a xs ∧ SqL K Hn b ys ∧ R (ItzM K a b) Hn
def rZipM (K : PySem.W.Frag) (vs : List V) (H : Hp) (R : It → Hp → Prop) : Prop := ∃ a b xs ys, vs = [.ref a, .ref b] ∧ SqT K H a xs ∧ SqL K H b ys ∧ R (ItzM K a b) H
end FW

set_option Elab.async false
set_option linter.all false
set_option maxRecDepth 100000
set_option maxHeartbeats 4000000
/-! o.m(e, ..) of an own class's def that may raise, within a try -/
namespace FW
open PySem PySem.Spec PyProof.Rows L2
section
variable {X : Cx} {CX : CXT} {k : Nat} {f C : Addr} {fd : FuncData} {ps : List Str} {sp : Sp} {E : L2.St → XK} {x m : Str} {pos apos : Pos} {e o : Expr} {es : List Expr} {ta : TE} {t : TA}
def tMethTS (C : Addr) (m : Str) (sp : Sp) (E : L2.St → XK) (ta : TE) (t : TA) : TE := fun σ H Q => ta σ H fun x H1 => ∃ a dx fs, x = .ref a ∧ H1 a = some (.ins C dx fs) ∧ fs.lookup m = none ∧ t σ H1 fun vs H2 => sp (x :: vs) H2 Q (E σ)
theorem pe_methTS {pl : Sem Bool} (he : PE X o ta) (c : Cls X.K C) (hm : Meth X.K C m f) (F : FnOk X.prog X.w X.K X.mg X.base CX k f fd ps sp) (hr : Room k X.A) (hb : Binds X.K fd ps []) (hx : ∀ σ, PassesAt CX X σ (E σ)) (ha : PA X (e :: es) t)
    (hst : starEach (e :: es) X.env = (false, eval e X.env) :: starEach es X.env := by rfl) (hpl : (backTo pos (starEach es X.env)).any (·.1) = false := by rfl)
    (ht : eval (.Call (.Attribute o m apos) (e :: es) [] pos) X.env = (do
      let ov ← eval o X.env
      standAt apos.atName
      let (f, first) ← holding [ov] (getMethod ov m pl)
      callWith pos f first (backTo pos (starEach (e :: es) X.env)) (backToKw pos (keywordEach [] X.env))) := by rfl) :
    PE X (.Call (.Attribute o m apos) (e :: es) [] pos) (tMethTS C m sp E ta t) := by
  refine ⟨fun pins s σ H Q I h => ?_⟩
  refine PySem.W.methodCall_KW (pl := pl) (thn (he.run pins s σ H _ I h) fun u s1 ⟨x, H1, I1, rx, a, dx, fs, ex, ea, l, q⟩ => ?_) ht
  subst ex
  obtain rfl : u = Value.ref a := rx
  refine getmeth_ok I1 ea c hm l ?_
  refine PySem.W.callWith_K (first := [.ref a]) (h₀ := X.base) I.ok.mod.kin hm.kp (thn (ha.run pos pins s1 σ H1 _ I1 q) fun us s2 ⟨vs, H2, I2, r, q2⟩ => ⟨I2.kIn, ?_⟩) hst hpl
  exact run_fnS (us := .ref a :: us) (vs := .ref a :: vs) F hr hb (hx σ) I2 (.cons rfl r) q2
end
theorem w_methS {K : PySem.W.Frag} {σ : L2.St} {H : Hp} {Q : VK} {C : Addr} {m : Str} {sp : Sp} {E : L2.St → XK} {ta : TE} {t : TA} (h : ta σ H fun x H1 => ∃ a dx fs, x = .ref a ∧ H1 a = some (.ins C dx fs) ∧ fs.lookup m = none ∧ t σ H1 fun vs H2 => sp (x :: vs) H2 Q (E σ)) : tMethTS C m sp E ta t σ H Q := h
end FW

set_option Elab.async false
set_option linter.all false
set_option maxRecDepth 100000
set_option maxHeartbeats 4000000
namespace FW
open PySem L2
def top (i : Nat) : Stmt := PySem.Challenge.pw_fewasks_k65_which_are_held.main.body.getD i (.Pass ⟨0, 0, 0, 0⟩)
abbrev s_is_int : Stmt := top 14
abbrev N_is_int : List Str := ["thing", "least"]
theorem sc_is_int : FnScope N_is_int ["thing", "least"] (defScope s_is_int) := ⟨rfl, rfl, rfl, by decide +kernel, rfl, by decide +kernel, by decide +kernel⟩
abbrev s_is_text : Stmt := top 16
abbrev N_is_text : List Str := ["thing", "most", "sign"]
theorem sc_is_text : FnScope N_is_text ["thing", "most"] (defScope s_is_text) := ⟨rfl, rfl, rfl, by decide +kernel, rfl, by decide +kernel, by decide +kernel⟩
abbrev s_is_label : Stmt := top 17
abbrev N_is_label : List Str := ["thing", "sign"]
theorem sc_is_label : FnScope N_is_label ["thing"] (defScope s_is_label) := ⟨rfl, rfl, rfl, by decide +kernel, rfl, by decide +kernel, by decide +kernel⟩
abbrev s_rise : Stmt := top 18
abbrev N_rise : List Str := ["row", "k"]
theorem sc_rise : FnScope N_rise ["row"] (defScope s_rise) := ⟨rfl, rfl, rfl, by decide +kernel, rfl, by decide +kernel, by decide +kernel⟩
abbrev s_are_ints : Stmt := top 19
abbrev N_are_ints : List Str := ["thing", "part"]
theorem sc_are_ints : FnScope N_are_ints ["thing"] (defScope s_are_ints) := ⟨rfl, rfl, rfl, by decide +kernel, rfl, by decide +kernel, by decide +kernel⟩
abbrev s_rising_ints : Stmt := top 20
abbrev N_rising_ints : List Str := ["thing"]
theorem sc_rising_ints : FnScope N_rising_ints ["thing"] (defScope s_rising_ints) := ⟨rfl, rfl, rfl, by decide +kernel, rfl, by decide +kernel, by decide +kernel⟩
abbrev s_is_pair : Stmt := top 22
abbrev N_is_pair : List Str := ["thing"]
theorem sc_is_pair : FnScope N_is_pair ["thing"] (defScope s_is_pair) := ⟨rfl, rfl, rfl, by decide +kernel, rfl, by decide +kernel, by decide +kernel⟩
abbrev s_are_rows : Stmt := top 23
abbrev N_are_rows : List Str := ["thing", "row"]
theorem sc_are_rows : FnScope N_are_rows ["thing"] (defScope s_are_rows) := ⟨rfl, rfl, rfl, by decide +kernel, rfl, by decide +kernel, by decide +kernel⟩
abbrev s_Book___init__ : Stmt := inClass (top 27) 0
abbrev N_Book___init__ : List Str := ["self"]
theorem sc_Book___init__ : FnScope N_Book___init__ ["self"] (defScope s_Book___init__) := ⟨rfl, rfl, rfl, by decide +kernel, rfl, by decide +kernel, by decide +kernel⟩
abbrev s_Book_named : Stmt := inClass (top 27) 2
abbrev N_Book_named : List Str := ["self", "content"]
theorem sc_Book_named : FnScope N_Book_named ["self", "content"] (defScope s_Book_named) := ⟨rfl, rfl, rfl, by decide +kernel, rfl, by decide +kernel, by decide +kernel⟩
abbrev s_Book_thing : Stmt := inClass (top 27) 4
abbrev N_Book_thing : List Str := ["self", "name"]
theorem sc_Book_thing : FnScope N_Book_thing ["self", "name"] (defScope s_Book_thing) := ⟨rfl, rfl, rfl, by decide +kernel, rfl, by decide +kernel, by decide +kernel⟩
abbrev s_Book_kind : Stmt := inClass (top 27) 5
abbrev N_Book_kind : List Str := ["self", "name"]
theorem sc_Book_kind : FnScope N_Book_kind ["self", "name"] (defScope s_Book_kind) := ⟨rfl, rfl, rfl, by decide +kernel, rfl, by decide +kernel, by decide +kernel⟩
abbrev s_Book_parts : Stmt := inClass (top 27) 6
abbrev N_Book_parts : List Str := ["self", "name", "content", "label", "part"]
theorem sc_Book_parts : FnScope N_Book_parts ["self", "name"] (defScope s_Book_parts) := ⟨rfl, rfl, rfl, by decide +kernel, rfl, by decide +kernel, by decide +kernel⟩
abbrev s_is_name : Stmt := top 28
abbrev N_is_name : List Str := ["book", "thing"]
theorem sc_is_name : FnScope N_is_name ["book", "thing"] (defScope s_is_name) := ⟨rfl, rfl, rfl, by decide +kernel, rfl, by decide +kernel, by decide +kernel⟩
abbrev s_is_kind : Stmt := top 29
abbrev N_is_kind : List Str := ["book", "thing", "kind"]
theorem sc_is_kind : FnScope N_is_kind ["book", "thing", "kind"] (defScope s_is_kind) := ⟨rfl, rfl, rfl, by decide +kernel, rfl, by decide +kernel, by decide +kernel⟩
abbrev s_is_entry : Stmt := top 30
abbrev N_is_entry : List Str := ["book", "thing"]
theorem sc_is_entry : FnScope N_is_entry ["book", "thing"] (defScope s_is_entry) := ⟨rfl, rfl, rfl, by decide +kernel, rfl, by decide +kernel, by decide +kernel⟩
abbrev s_is_tree : Stmt := top 31
abbrev N_is_tree : List Str := ["book", "entries", "entry"]
theorem sc_is_tree : FnScope N_is_tree ["book", "entries"] (defScope s_is_tree) := ⟨rfl, rfl, rfl, by decide +kernel, rfl, by decide +kernel, by decide +kernel⟩
abbrev s_depth_of : Stmt := top 32
abbrev N_depth_of : List Str := ["book", "content", "label", "name"]
theorem sc_depth_of : FnScope N_depth_of ["book", "content"] (defScope s_depth_of) := ⟨rfl, rfl, rfl, by decide +kernel, rfl, by decide +kernel, by decide +kernel⟩
abbrev s_is_version : Stmt := top 33
abbrev N_is_version : List Str := ["book", "content", "parents", "parent"]
theorem sc_is_version : FnScope N_is_version ["book", "content"] (defScope s_is_version) := ⟨rfl, rfl, rfl, by decide +kernel, rfl, by decide +kernel, by decide +kernel⟩
abbrev s_is_content : Stmt := top 34
abbrev N_is_content : List Str := ["book", "thing"]
theorem sc_is_content : FnScope N_is_content ["book", "thing"] (defScope s_is_content) := ⟨rfl, rfl, rfl, by decide +kernel, rfl, by decide +kernel, by decide +kernel⟩
abbrev s_Holding___init__ : Stmt := inClass (top 82) 0
abbrev N_Holding___init__ : List Str := ["self", "book", "names", "name"]
theorem sc_Holding___init__ : FnScope N_Holding___init__ ["self", "book", "names"] (defScope s_Holding___init__) := ⟨rfl, rfl, rfl, by decide +kernel, rfl, by decide +kernel, by decide +kernel⟩
abbrev s_Holding_holds : Stmt := inClass (top 82) 4
abbrev N_Holding_holds : List Str := ["self", "name"]
theorem sc_Holding_holds : FnScope N_Holding_holds ["self", "name"] (defScope s_Holding_holds) := ⟨rfl, rfl, rfl, by decide +kernel, rfl, by decide +kernel, by decide +kernel⟩
abbrev s_Holding_names : Stmt := inClass (top 82) 5
abbrev N_Holding_names : List Str := ["self"]
theorem sc_Holding_names : FnScope N_Holding_names ["self"] (defScope s_Holding_names) := ⟨rfl, rfl, rfl, by decide +kernel, rfl, by decide +kernel, by decide +kernel⟩
abbrev s_Holding_versions : Stmt := inClass (top 82) 6
abbrev N_Holding_versions : List Str := ["self", "name"]
theorem sc_Holding_versions : FnScope N_Holding_versions ["self"] (defScope s_Holding_versions) := ⟨rfl, rfl, rfl, by decide +kernel, rfl, by decide +kernel, by decide +kernel⟩
abbrev s_Holding_edges : Stmt := inClass (top 82) 7
abbrev N_Holding_edges : List Str := ["self", "found", "version", "parent"]
theorem sc_Holding_edges : FnScope N_Holding_edges ["self"] (defScope s_Holding_edges) := ⟨rfl, rfl, rfl, by decide +kernel, rfl, by decide +kernel, by decide +kernel⟩
abbrev s_Store___init__ : Stmt := inClass (top 84) 0
abbrev N_Store___init__ : List Str := ["self", "book"]
theorem sc_Store___init__ : FnScope N_Store___init__ ["self", "book"] (defScope s_Store___init__) := ⟨rfl, rfl, rfl, by decide +kernel, rfl, by decide +kernel, by decide +kernel⟩
abbrev s_Store_put : Stmt := inClass (top 84) 2
abbrev N_Store_put : List Str := ["self", "name"]
theorem sc_Store_put : FnScope N_Store_put ["self", "name"] (defScope s_Store_put) := ⟨rfl, rfl, rfl, by decide +kernel, rfl, by decide +kernel, by decide +kernel⟩
abbrev s_Store_held : Stmt := inClass (top 84) 5
abbrev N_Store_held : List Str := ["self"]
theorem sc_Store_held : FnScope N_Store_held ["self"] (defScope s_Store_held) := ⟨rfl, rfl, rfl, by decide +kernel, rfl, by decide +kernel, by decide +kernel⟩
abbrev s_Store_view : Stmt := inClass (top 84) 6
abbrev N_Store_view : List Str := ["self"]
theorem sc_Store_view : FnScope N_Store_view ["self"] (defScope s_Store_view) := ⟨rfl, rfl, rfl, by decide +kernel, rfl, by decide +kernel, by decide +kernel⟩
abbrev s_Store_holds : Stmt := inClass (top 84) 4
abbrev N_Store_holds : List Str := ["self", "name"]
theorem sc_Store_holds : FnScope N_Store_holds ["self", "name"] (defScope s_Store_holds) := ⟨rfl, rfl, rfl, by decide +kernel, rfl, by decide +kernel, by decide +kernel⟩
abbrev s_Store_changes : Stmt := inClass (top 84) 7
abbrev N_Store_changes : List Str := ["self"]
theorem sc_Store_changes : FnScope N_Store_changes ["self"] (defScope s_Store_changes) := ⟨rfl, rfl, rfl, by decide +kernel, rfl, by decide +kernel, by decide +kernel⟩
abbrev s_House___init__ : Stmt := inClass (top 86) 0
abbrev N_House___init__ : List Str := ["self", "book"]
theorem sc_House___init__ : FnScope N_House___init__ ["self", "book"] (defScope s_House___init__) := ⟨rfl, rfl, rfl, by decide +kernel, rfl, by decide +kernel, by decide +kernel⟩
abbrev s_House_marks : Stmt := inClass (top 86) 1
abbrev N_House_marks : List Str := ["self"]
theorem sc_House_marks : FnScope N_House_marks ["self"] (defScope s_House_marks) := ⟨rfl, rfl, rfl, by decide +kernel, rfl, by decide +kernel, by decide +kernel⟩
abbrev s_House_pin : Stmt := inClass (top 86) 9
abbrev N_House_pin : List Str := ["self", "names", "told"]
theorem sc_House_pin : FnScope N_House_pin ["self", "names"] (defScope s_House_pin) := ⟨rfl, rfl, rfl, by decide +kernel, rfl, by decide +kernel, by decide +kernel⟩
abbrev s_must_hold : Stmt := top 79
abbrev N_must_hold : List Str := ["store", "names", "name"]
theorem sc_must_hold : FnScope N_must_hold ["store", "names"] (defScope s_must_hold) := ⟨rfl, rfl, rfl, by decide +kernel, rfl, by decide +kernel, by decide +kernel⟩
abbrev s_Pin___init__ : Stmt := inClass (top 80) 0
abbrev N_Pin___init__ : List Str := ["self", "store", "names", "name"]
theorem sc_Pin___init__ : FnScope N_Pin___init__ ["self", "store", "names"] (defScope s_Pin___init__) := ⟨rfl, rfl, rfl, by decide +kernel, rfl, by decide +kernel, by decide +kernel⟩
abbrev s_Teller___init__ : Stmt := inClass (top 74) 0
abbrev N_Teller___init__ : List Str := ["self", "house"]
theorem sc_Teller___init__ : FnScope N_Teller___init__ ["self", "house"] (defScope s_Teller___init__) := ⟨rfl, rfl, rfl, by decide +kernel, rfl, by decide +kernel, by decide +kernel⟩
abbrev s_Teller_answer : Stmt := inClass (top 74) 1
abbrev N_Teller_answer : List Str := ["self", "row"]
theorem sc_Teller_answer : FnScope N_Teller_answer ["self", "row"] (defScope s_Teller_answer) := ⟨rfl, rfl, rfl, by decide +kernel, rfl, by decide +kernel, by decide +kernel⟩
abbrev s_Teller_greeted : Stmt := inClass (top 74) 2
abbrev N_Teller_greeted : List Str := ["self", "edges"]
theorem sc_Teller_greeted : FnScope N_Teller_greeted ["self"] (defScope s_Teller_greeted) := ⟨rfl, rfl, rfl, by decide +kernel, rfl, by decide +kernel, by decide +kernel⟩
abbrev s_Teller_told : Stmt := inClass (top 74) 3
abbrev N_Teller_told : List Str := ["self", "names", "name"]
theorem sc_Teller_told : FnScope N_Teller_told ["self", "names"] (defScope s_Teller_told) := ⟨rfl, rfl, rfl, by decide +kernel, rfl, by decide +kernel, by decide +kernel⟩
abbrev s_law_deck : Stmt := top 88
abbrev N_law_deck : List Str := ["_law_script"]
theorem sc_law_deck : FnScope N_law_deck ["_law_script"] (defScope s_law_deck) := ⟨rfl, rfl, rfl, by decide +kernel, rfl, by decide +kernel, by decide +kernel⟩
abbrev s_law_mixed : Stmt := top 89
abbrev N_law_mixed : List Str := ["_law_cell", "_law_turn"]
theorem sc_law_mixed : FnScope N_law_mixed ["_law_cell", "_law_turn"] (defScope s_law_mixed) := ⟨rfl, rfl, rfl, by decide +kernel, rfl, by decide +kernel, by decide +kernel⟩
abbrev s_law_draw : Stmt := top 90
abbrev N_law_draw : List Str := ["_law_deck_here", "_law_many", "_law_cells", "_law_found", "_law_number"]
theorem sc_law_draw : FnScope N_law_draw ["_law_deck_here", "_law_many"] (defScope s_law_draw) := ⟨rfl, rfl, rfl, by decide +kernel, rfl, by decide +kernel, by decide +kernel⟩
abbrev s_law_text : Stmt := top 91
abbrev N_law_text : List Str := ["_law_deck_here", "_law_most", "_law_signs", "_law_k"]
theorem sc_law_text : FnScope N_law_text ["_law_deck_here", "_law_most"] (defScope s_law_text) := ⟨rfl, rfl, rfl, by decide +kernel, rfl, by decide +kernel, by decide +kernel⟩
abbrev s_law_label : Stmt := top 92
abbrev N_law_label : List Str := ["_law_deck_here", "_law_letters", "_law_k"]
theorem sc_law_label : FnScope N_law_label ["_law_deck_here"] (defScope s_law_label) := ⟨rfl, rfl, rfl, by decide +kernel, rfl, by decide +kernel, by decide +kernel⟩
abbrev s_law_give : Stmt := top 93
abbrev N_law_give : List Str := ["_law_things", "_law_content"]
theorem sc_law_give : FnScope N_law_give ["_law_things", "_law_content"] (defScope s_law_give) := ⟨rfl, rfl, rfl, by decide +kernel, rfl, by decide +kernel, by decide +kernel⟩
abbrev s_law_rows : Stmt := top 94
abbrev N_law_rows : List Str := ["_law_deck_here", "_law_elder", "_law_rows_here", "_law_k"]
theorem sc_law_rows : FnScope N_law_rows ["_law_deck_here", "_law_elder"] (defScope s_law_rows) := ⟨rfl, rfl, rfl, by decide +kernel, rfl, by decide +kernel, by decide +kernel⟩
abbrev s_law_entries : Stmt := top 95
abbrev N_law_entries : List Str := ["_law_deck_here", "_law_lows", "_law_entries_here", "_law_k"]
theorem sc_law_entries : FnScope N_law_entries ["_law_deck_here", "_law_lows"] (defScope s_law_entries) := ⟨rfl, rfl, rfl, by decide +kernel, rfl, by decide +kernel, by decide +kernel⟩
abbrev s_law_some : Stmt := top 96
abbrev N_law_some : List Str := ["_law_deck_here", "_law_names", "_law_most", "_law_some_here", "_law_k"]
theorem sc_law_some : FnScope N_law_some ["_law_deck_here", "_law_names", "_law_most"] (defScope s_law_some) := ⟨rfl, rfl, rfl, by decide +kernel, rfl, by decide +kernel, by decide +kernel⟩
abbrev s_law_family : Stmt := top 97
abbrev N_law_family : List Str := ["_law_deck_here", "_law_leaves", "_law_trees", "_law_versions", "_law_things", "_law_rows_here", "_law_lows", "_law_k", "_law_roots", "_law_stands", "_law_parents", "_law_root"]
theorem sc_law_family : FnScope N_law_family ["_law_deck_here", "_law_leaves", "_law_trees", "_law_versions"] (defScope s_law_family) := ⟨rfl, rfl, rfl, by decide +kernel, rfl, by decide +kernel, by decide +kernel⟩
abbrev s_law_parts : Stmt := top 98
abbrev N_law_parts : List Str := ["_law_content", "_law_label_here", "_law_name"]
theorem sc_law_parts : FnScope N_law_parts ["_law_content"] (defScope s_law_parts) := ⟨rfl, rfl, rfl, by decide +kernel, rfl, by decide +kernel, by decide +kernel⟩
abbrev s_law_under : Stmt := top 99
abbrev N_law_under : List Str := ["_law_things", "_law_starts", "_law_found", "_law_left", "_law_name"]
theorem sc_law_under : FnScope N_law_under ["_law_things", "_law_starts"] (defScope s_law_under) := ⟨rfl, rfl, rfl, by decide +kernel, rfl, by decide +kernel, by decide +kernel⟩
abbrev s_law_held : Stmt := top 100
abbrev N_law_held : List Str := ["_law_deck_here", "_law_things", "_law_names", "_law_pick", "_law_gone", "_law_heads", "_law_held_here", "_law_top", "_law_name", "_law_k"]
theorem sc_law_held : FnScope N_law_held ["_law_deck_here", "_law_things"] (defScope s_law_held) := ⟨rfl, rfl, rfl, by decide +kernel, rfl, by decide +kernel, by decide +kernel⟩
abbrev s_law_book : Stmt := top 101
abbrev N_law_book : List Str := ["_law_things", "_law_book_here", "_law_content"]
theorem sc_law_book : FnScope N_law_book ["_law_things"] (defScope s_law_book) := ⟨rfl, rfl, rfl, by decide +kernel, rfl, by decide +kernel, by decide +kernel⟩
abbrev s_law_house : Stmt := top 102
abbrev N_law_house : List Str := ["_law_book_here", "_law_held_here", "_law_house_here", "_law_name"]
theorem sc_law_house : FnScope N_law_house ["_law_book_here", "_law_held_here"] (defScope s_law_house) := ⟨rfl, rfl, rfl, by decide +kernel, rfl, by decide +kernel, by decide +kernel⟩
abbrev s_law_alike : Stmt := top 103
abbrev N_law_alike : List Str := ["_law_found", "_law_due", "_law_k"]
theorem sc_law_alike : FnScope N_law_alike ["_law_found", "_law_due"] (defScope s_law_alike) := ⟨rfl, rfl, rfl, by decide +kernel, rfl, by decide +kernel, by decide +kernel⟩
abbrev s_law_bad : Stmt := top 104
abbrev N_law_bad : List Str := ["_law_end", "_law_row", "_law_told", "e", "_law_kinds"]
theorem sc_law_bad : FnScope N_law_bad ["_law_end", "_law_row"] (defScope s_law_bad) := ⟨rfl, rfl, rfl, by decide +kernel, rfl, by decide +kernel, by decide +kernel⟩
abbrev s_law_asks : Stmt := top 105
abbrev N_law_asks : List Str := ["_law_deck_here", "_law_many", "_law_row", "_law_last", "_law_k"]
theorem sc_law_asks : FnScope N_law_asks ["_law_deck_here", "_law_many"] (defScope s_law_asks) := ⟨rfl, rfl, rfl, by decide +kernel, rfl, by decide +kernel, by decide +kernel⟩
abbrev s_law_bent : Stmt := top 106
abbrev N_law_bent : List Str := ["_law_deck_here", "_law_row", "_law_at", "_law_bent_here", "_law_pick"]
theorem sc_law_bent : FnScope N_law_bent ["_law_deck_here", "_law_row"] (defScope s_law_bent) := ⟨rfl, rfl, rfl, by decide +kernel, rfl, by decide +kernel, by decide +kernel⟩
abbrev s_law : Stmt := top 107
abbrev N_law : List Str := ["_law_script", "_law_deck_here", "_law_things", "_law_held_here", "_law_house_here", "_law_teller", "_law_asks_here", "_law_early", "_law_turn", "_law_row", "_law_told", "_law_name"]
theorem sc_law : FnScope N_law ["_law_script"] (defScope s_law) := ⟨rfl, rfl, rfl, by decide +kernel, rfl, by decide +kernel, by decide +kernel⟩
structure Df (K : PySem.W.Frag) (mg : Str → Option Value) (x : Str) (st : Stmt) (ps : List Str) (f : Addr) (fd : FuncData) : Prop where
  fn : Fun K x x st f fd
  b : Binds K fd ps []
  g : mg x = some (.ref f)
structure Txt (K : PySem.W.Frag) (mg : Str → Option Value) : Prop where
  n_len : mg "len" = none
  n_list : mg "list" = none
  n_isinstance : mg "isinstance" = none
  n_int : mg "int" = none
  n_bool : mg "bool" = none
  n_str : mg "str" = none
  n_tuple : mg "tuple" = none
  n_dict : mg "dict" = none
  n_range : mg "range" = none
  n_all : mg "all" = none
  n_any : mg "any" = none
  n_min : mg "min" = none
  n_max : mg "max" = none
  n_set : mg "set" = none
  n_sorted : mg "sorted" = none
  n_zip : mg "zip" = none
  n_ValueError : mg "ValueError" = none
  g_SIGNS : ∃ t, mg "SIGNS" = some (.str " !\"#$&'()*+,-./0123456789:;<=>?@ABCDEFGHIJKLMNOPQRSTUVWXYZ[\\]^_`abcdefghijklmnopqrstuvwxyz{|}~" t)
  g_LETTERS : ∃ t, mg "LETTERS" = some (.str "abcdefghijklmnopqrstuvwxyz" t)
  g_MOST : ∃ t, mg "MOST" = some (.int 400 t)
  g_DEEP : ∃ t, mg "DEEP" = some (.int 8 t)
local macro_rules | `(tactic| walk_at "sq") => `(tactic| first | assumption | exact SqL.of (by assumption) | exact SqT.of (by assumption) | exact TupD.sq (by assumption))
local macro_rules | `(tactic| walk_at "c") => `(tactic| first | ((with_reducible refine cdivw ?_ ?_) <;> first | decide | omega | assumption) | ((with_reducible refine cmul_r ?_ ?_) <;> first | decide | omega) | ((with_reducible refine cmul_l ?_ ?_) <;> first | decide | omega) | with_reducible assumption | decide | omega | exact ⟨by decide, by decide, by first | decide | omega⟩)
local macro_rules | `(tactic| walk_at "at") => `(tactic| first | assumption | exact rfl)
local macro_rules | `(tactic| walk_at "ty") => `(tactic| first | exact .base (.int _) | exact .base (.bl _) | exact .base (.str _) | exact .base .non | exact .base (.tup (by assumption)) | exact .base (.lst (by assumption)) | exact .base (.dK (by assumption)) | exact TupD.tx (by assumption))
local macro_rules | `(tactic| walk_at "kb") => `(tactic| first | exact kb_int_int | exact kb_int_bool | exact kb_int_str | exact kb_int_tuple | exact kb_int_list | exact kb_int_dict | exact kb_bool_int | exact kb_bool_bool | exact kb_bool_str | exact kb_bool_tuple | exact kb_bool_list | exact kb_bool_dict | exact kb_str_int | exact kb_str_bool | exact kb_str_str | exact kb_str_tuple | exact kb_str_list | exact kb_str_dict | exact kb_tuple_int | exact kb_tuple_bool | exact kb_tuple_str | exact kb_tuple_tuple | exact kb_tuple_list | exact kb_tuple_dict | exact kb_list_int | exact kb_list_bool | exact kb_list_str | exact kb_list_tuple | exact kb_list_list | exact kb_list_dict | exact kb_dict_int | exact kb_dict_bool | exact kb_dict_str | exact kb_dict_tuple | exact kb_dict_list | exact kb_dict_dict | exact kb_NoneType_int | exact kb_NoneType_bool | exact kb_NoneType_str | exact kb_NoneType_tuple | exact kb_NoneType_list | exact kb_NoneType_dict)
local macro_rules | `(tactic| walk_at "s") => `(tactic| first
  | dsimp only [Bool.not_true, Bool.not_false]
  )
local macro_rules | `(tactic| walk_at "s") => `(tactic| first
  | with_reducible refine w_m1 ?_
  | with_reducible refine w_isS ?_
  | with_reducible refine w_istr ?_
  | with_reducible refine w_istr' ?_
  | ((with_reducible refine' w_all ?h1 ?_); (case h1 => walk_at "sq"))
  | ((with_reducible refine' w_glst ?h1 ?h2 ?_); (case h1 => walk_at "sq"); (case h2 => exact rfl))
  | with_reducible refine w_callN ?_
  | with_reducible refine w_step ?_
  )
local macro_rules | `(tactic| walk_at "s") => `(tactic| first
  | with_reducible refine w_tryG ?_
  | with_reducible refine w_inS ?_
  | with_reducible refine w_neS ?_
  | with_reducible refine w_ltS ?_
  | with_reducible refine w_gtS ?_
  | ((with_reducible refine' w_augI ?hv ?_); (case hv => exact rfl))
  | ((with_reducible refine w_ipI ?_); dsimp only [List.set_cons_zero, List.set_cons_succ])
  | with_reducible refine w_callD ?_
  )
local macro_rules | `(tactic| walk_at "s") => `(tactic| first
  | with_reducible refine w_keys ?_
  | ((with_reducible refine' w_keys' ?h1 ?_); (case h1 => assumption))
  | ((with_reducible refine' w_dinF ?h1 ?_); (case h1 => assumption))
  | ((with_reducible refine' w_dgetF ?h1 ?h2 ?_); (case h1 => assumption); (case h2 => assumption))
  | ((with_reducible refine' w_any ?h1 ?_); (case h1 => walk_at "sq"))
  | with_reducible refine w_zipA ?_
  | ((with_reducible refine' w_zipT' ?h1 ?h2 ?_); (case h1 => walk_at "sq"); (case h2 => walk_at "sq"))
  | with_reducible refine w_dct ?_
  )
local macro_rules | `(tactic| walk_at "s") => `(tactic| first
  | with_reducible refine w_noPart ?_
  | with_reducible refine w_part ?_
  | with_reducible refine w_part' ?_
  | with_reducible refine w_enum ?_
  | ((with_reducible refine' w_enum' ?h1 ?_); (case h1 => walk_at "sq"))
  | with_reducible refine w_bm0 ?_
  | with_reducible refine w_retN ?_
  | with_reducible refine w_tyes ?_
  )
local macro_rules | `(tactic| walk_at "s") => `(tactic| first
  | ((with_reducible refine' w_trT ?h1 ?_); (case h1 => walk_at "sq"))
  | with_reducible refine w_dc ?_
  | with_reducible refine w_dc2 ?_
  | with_reducible refine w_dget1 ?_
  | ((with_reducible refine' w_dget1I ?h1 ?_); (case h1 => assumption))
  | with_reducible refine w_rev ?_
  | ((with_reducible refine' w_rev' ?h1 ?_); (case h1 => walk_at "sq"))
  | with_reducible refine w_slice ?_
  )
local macro_rules | `(tactic| walk_at "s") => `(tactic| first
  | with_reducible refine w_callS ?_
  | with_reducible refine w_try ?_
  | with_reducible refine w_isB ?_
  | with_reducible refine w_isN ?_
  | with_reducible refine w_notN ?_
  | with_reducible refine w_chain ?_
  | with_reducible refine w_tru ?_
  | ((with_reducible refine' w_trL ?h1 ?_); (case h1 => walk_at "sq"))
  )
local macro_rules | `(tactic| walk_at "s") => `(tactic| first
  | with_reducible refine w_dsetd ?_
  | ((with_reducible refine' w_leT2 ?h1 ?h2 ?_); (case h1 => walk_at "sq"); (case h2 => walk_at "sq"))
  | ((with_reducible refine' w_inT ?h1 ?_); (case h1 => walk_at "sq"))
  | ((with_reducible refine' w_ninT ?h1 ?_); (case h1 => walk_at "sq"))
  | ((with_reducible refine' w_inL ?h1 ?_); (case h1 => walk_at "sq"))
  | ((with_reducible refine' w_ninL ?h1 ?_); (case h1 => walk_at "sq"))
  | with_reducible refine w_pair ?_
  | with_reducible refine w_pnil ?_
  )
local macro_rules | `(tactic| walk_at "s") => `(tactic| first
  | ((with_reducible refine' w_dinI ?h1 ?_); (case h1 => assumption))
  | ((with_reducible refine' w_dnotinI ?h1 ?_); (case h1 => assumption))
  | ((with_reducible refine' w_dgetI ?h1 ?h2 ?_); (case h1 => assumption); (case h2 => assumption))
  | with_reducible refine w_dnewK ?_
  | with_reducible refine w_dput ?_
  | with_reducible refine w_dget2 ?_
  | ((with_reducible refine' w_isD ?h1 ?_); (case h1 => assumption))
  | ((with_reducible refine' w_dget2I ?h1 ?_); (case h1 => assumption))
  )
local macro_rules | `(tactic| walk_at "s") => `(tactic| first
  | with_reducible refine w_eqB ?_
  | ((with_reducible refine' w_sum ?h1 ?_); (case h1 => walk_at "sq"))
  | ((with_reducible refine' w_gtup ?h1 ?h2 ?_); (case h1 => walk_at "sq"); (case h2 => exact rfl))
  | with_reducible refine w_gcons ?_
  | with_reducible refine w_gnil ?_
  | with_reducible refine w_din ?_
  | with_reducible refine w_dnotin ?_
  | with_reducible refine w_dget ?_
  )
local macro_rules | `(tactic| walk_at "s") => `(tactic| first
  | ((with_reducible refine' w_itT' ?h1 ?_); (case h1 => walk_at "sq"))
  | with_reducible refine w_lc ?_
  | ((with_reducible refine' w_isi ?ty ?hk ?_); (case ty => walk_at "ty"); (case hk => walk_at "kb"))
  | with_reducible refine iteT ?_
  | with_reducible refine iteF ?_
  | with_reducible refine w_nT ?_
  | with_reducible refine w_nF ?_
  | with_reducible refine w_eqS ?_
  )
local macro_rules | `(tactic| walk_at "s") => `(tactic| first
  | with_reducible refine w_for ?_
  | with_reducible refine w_rng1 ?_
  | ((with_reducible refine w_rng1' ?h1 ?h2 ?_); (case h1 => omega); (case h2 => omega))
  | with_reducible refine w_rng2 ?_
  | ((with_reducible refine w_rng2' ?h1 ?_); (case h1 => omega))
  | with_reducible refine w_itL ?_
  | ((with_reducible refine' w_itL' ?h1 ?_); (case h1 => walk_at "sq"))
  | with_reducible refine w_itT ?_
  )
local macro_rules | `(tactic| walk_at "s") => `(tactic| first
  | ((with_reducible refine w_sz ?h1 ?_); (case h1 => first | decide | (simp only [List.length_cons, List.length_nil]; decide)))
  | with_reducible refine w_min2 ?_
  | with_reducible refine w_max2 ?_
  | with_reducible refine w_tupRg ?_
  | with_reducible refine w_rg2 ?_
  | with_reducible refine w_rg2' ?_
  | with_reducible refine w_bits ?_
  | with_reducible refine w_bits' ?_
  )
local macro_rules | `(tactic| walk_at "s") => `(tactic| first
  | with_reducible refine w_cons ?_
  | with_reducible refine w_call ?_
  | with_reducible refine w_lst ?_
  | with_reducible refine w_tup ?_
  | with_reducible refine w_bm ?_
  | ((with_reducible refine' w_tyL ?h1 ?_); (case h1 => assumption))
  | ((with_reducible refine' w_lenL ?h1 ?_); (case h1 => walk_at "sq"))
  | ((with_reducible refine' w_lenT ?h1 ?_); (case h1 => walk_at "sq"))
  )
local macro_rules | `(tactic| walk_at "s") => `(tactic| first
  | with_reducible refine w_andV ?_
  | with_reducible refine w_orV ?_
  | with_reducible refine w_notV ?_
  | with_reducible refine w_ret ?_
  | with_reducible refine w_drop ?_
  | with_reducible refine w_next ?_
  | with_reducible refine w_cb ?_
  | with_reducible refine w_nil ?_
  )
local macro_rules | `(tactic| walk_at "s") => `(tactic| first
  | with_reducible refine w_sub ?_
  | with_reducible refine w_if ?_
  | with_reducible refine w_test ?_
  | with_reducible refine w_tb ?_
  | with_reducible refine w_bl ?_
  | with_reducible refine w_and ?_
  | with_reducible refine w_or ?_
  | with_reducible refine w_not ?_
  )
local macro_rules | `(tactic| walk_at "s") => `(tactic| first
  | with_reducible refine w_eqI ?_
  | with_reducible refine w_neI ?_
  | ((with_reducible refine' w_ixL ?h1 ?h2 ?_); (case h1 => walk_at "sq"); (case h2 => walk_at "at"))
  | ((with_reducible refine' w_ixT ?h1 ?h2 ?_); (case h1 => walk_at "sq"); (case h2 => walk_at "at"))
  | ((with_reducible refine' w_ixSL ?h1 ?h2 ?_); (case h1 => walk_at "sq"); (case h2 => walk_at "at"))
  | ((with_reducible refine' w_ixST ?h1 ?h2 ?_); (case h1 => walk_at "sq"); (case h2 => walk_at "at"))
  | with_reducible refine w_neB ?_
  | with_reducible refine w_eqN ?_
  )
local macro_rules | `(tactic| walk_at "s") => `(tactic| first
  | with_reducible refine w_c ?_
  | ((with_reducible refine w_name ?_); dsimp only [List.set_cons_zero, List.set_cons_succ])
  | with_reducible refine w_name ?_
  | with_reducible refine w_op ?_
  | with_reducible refine w_un ?_
  | with_reducible refine w_neg ?_
  | with_reducible refine w_i0 ?_
  | ((with_reducible refine w_i ?hc ?_); (case hc => walk_at "c"))
  )
local macro_rules | `(tactic| walk_at "s") => `(tactic| first
  | with_reducible refine w_seqA ?_
  | with_reducible refine w_seqD ?_
  | with_reducible refine w_seqF ?_
  | with_reducible refine w_seqW ?_
  | with_reducible refine w_seqG ?_
  | with_reducible refine w_seqP ?_
  | with_reducible refine w_asg ?_
  | ((with_reducible refine' w_var ?hv ?_); (case hv => exact rfl))
  )
local macro_rules | `(tactic| walk_at "p") => `(tactic| first | assumption | omega | (simp only [List.length_cons, List.length_nil, List.length_map]; omega) | exact rfl | decide)
local macro_rules | `(tactic| walk_at "d") => `(tactic| first
  | ((with_reducible refine w_yes ?hp ?_); (case hp => walk_at "p"))
  | ((with_reducible refine w_no ?hp ?_); (case hp => walk_at "p"))
  | ((with_reducible refine w_nyes ?hp ?_); (case hp => walk_at "p"))
  | ((with_reducible refine w_nno ?hp ?_); (case hp => walk_at "p")))
local macro_rules | `(tactic| walk_at "g") => `(tactic| repeat walk_at "s")
local macro_rules | `(tactic| walk_at "dg") => `(tactic| (walk_at "d"; repeat walk_at "s"))
local macro_rules | `(tactic| walk_at "x") => `(tactic| ((try dsimp only [cxOf, Cx.nox, Cx.wish]); repeat walk_at "s"))
local macro_rules | `(tactic| walk_at "s") => `(tactic| with_reducible refine w_revT ?_)
local macro_rules | `(tactic| walk_at "s") => `(tactic| first
  | with_reducible refine w_nget ?_
  | with_reducible refine w_nget1 ?_
  | with_reducible refine w_seqNP ?_
  | with_reducible refine w_nput ?_
  | with_reducible refine w_maxD ?_
  )
local macro_rules | `(tactic| walk_at "s") => `(tactic| first
  | with_reducible refine w_fld ?_
  | ((with_reducible refine' w_fld' ?h1 ?h2 ?h3 ?h4 ?_); (case h1 => assumption); (case h2 => assumption); (case h3 => assumption); (case h4 => exact rfl))
  | with_reducible refine w_seqFS ?_
  | with_reducible refine w_fldS ?_
  | with_reducible refine w_meth ?_
  | ((with_reducible refine' w_meth' ?h1 ?h2 ?_); (case h1 => assumption); (case h2 => exact rfl))
  | with_reducible refine w_make ?_
  | with_reducible refine w_nin ?_
  )
local macro_rules | `(tactic| walk_at "s") => `(tactic| first
  | with_reducible refine w_revL ?_
  )
def spDeck (K : PySem.W.Frag) : Sp := fun vs H Q _ => ∃ (a : Addr) (ns : List Int), vs = [.ref a] ∧ SqL K H a (ns.map V.int) ∧
  ∀ H' d c, Same H H' → H d = none → H c = none → Deck H' d c 0 → Q (.ref d) H'
def spMixed : Sp := fun vs H Q _ => ∃ (x t : Int), vs = [.int x, .int t] ∧ 0 ≤ t ∧ t ≤ 2 ^ 41 ∧ ∀ i, Q (.int i) H
def spDraw : Sp := fun vs H Q _ => ∃ (d c : Addr) (n : Nat) (m : Int), vs = [.ref d, .int m] ∧ Deck H d c n ∧ n < MOSTD ∧ 0 < m ∧ m < 2 ^ 64 ∧
  ∀ (i : Nat) H', (i : Int) < m → Deck H' d c (n + 1) → Off d H H' → Q (.int i) H'
theorem w_deck {K : PySem.W.Frag} {H : Hp} {Q : VK} {E : XK} {a : Addr} {ns : List Int} (h1 : SqL K H a (ns.map V.int)) (h : ∀ H' d c, Same H H' → H d = none → H c = none → Deck H' d c 0 → Q (.ref d) H') : spDeck K ([V.ref a] ++ []) H Q E := ⟨a, ns, rfl, h1, h⟩
theorem w_draw {H : Hp} {Q : VK} {E : XK} {d c : Addr} {n : Nat} {m : Int} (D : Deck H d c n) (hn : n < MOSTD) (h0 : 0 < m) (h1 : m < 2 ^ 64) (h : ∀ (i : Nat) H', (i : Int) < m → Deck H' d c (n + 1) → Off d H H' → Q (.int i) H') : spDraw ([V.ref d, V.int m] ++ []) H Q E := ⟨d, c, n, m, rfl, D, hn, h0, h1, h⟩
section
variable {P : Program} {w : World} {K : PySem.W.Frag} {mg : Str → Option Value} {base : Heap}
theorem ok_deck {f : Addr} {fd : FuncData} (T : Txt K mg) (F : Fun K "_law_deck" "_law_deck" s_law_deck f fd) : FnOk P w K mg base CX0 1 f fd ["_law_script"] (spDeck K) := by
  refine F.ok sc_law_deck (fun vs H Q E h => ?_) (fun cdv A outer s H vs Q E hr h => ?_)
  · obtain ⟨a, ns, rfl, _⟩ := h
    rfl
  · obtain ⟨a, ns, rfl, hS, q⟩ := h
    refine ⟨_,
      (pss_one
        (ps_ret (pe_lst (pa_cons (pe_callTy (r := rListOf K) c_listOf (by rfl) T.n_list (by decide +kernel) (pa_cons (pv 0) pa_nil)) (pa_cons pe_int (pa_cons pe_int (pa_cons pe_int pa_nil)))))))
      , ?_⟩
    walk_at "x"
    refine w_listL hS fun c H1 hc e1 k1 => ?_
    walk_at "g"
    refine w_new fun d H2 hd e2 k2 => ?_
    refine q _ d c (Same.trans k1 k2) (k1.free hd) hc ⟨⟨ns, 0, 0, 0, e2, k2 _ _ e1, Nat.le_refl _⟩, ne_of_none e1 hd⟩
theorem ok_mixed {f : Addr} {fd : FuncData} (T : Txt K mg) (F : Fun K "_law_mixed" "_law_mixed" s_law_mixed f fd) : FnOk P w K mg base CX0 1 f fd ["_law_cell", "_law_turn"] spMixed := by
  refine F.ok sc_law_mixed (fun vs H Q E h => ?_) (fun cdv A outer s H vs Q E hr h => ?_)
  · obtain ⟨x, t, rfl, _⟩ := h
    rfl
  · obtain ⟨x, t, rfl, h0, h1, q⟩ := h
    refine ⟨_,
      (pss_one
        (ps_ret (pe_op op_mod (pe_op op_pow (pe_op op_add (pe_op op_add (pe_op op_mod (pv 0) pe_int) (pe_op op_mul (pv 1) pe_int)) pe_int) pe_int) pe_int)))
      , ?_⟩
    have e := Int.emod_lt_of_pos x (show (0 : Int) < 2147483629 by decide)
    have e2 := Int.emod_nonneg x (show (2147483629 : Int) ≠ 0 by decide)
    walk_at "x"
    exact q _
theorem ok_draw {f fM : Addr} {fd fdM : FuncData} (T : Txt K mg) (F : Fun K "_law_draw" "_law_draw" s_law_draw f fd) (D_law_mixed : Df K mg "_law_mixed" s_law_mixed ["_law_cell", "_law_turn"] fM fdM) : FnOk P w K mg base CX0 2 f fd ["_law_deck_here", "_law_many"] spDraw := by
  have G_law_mixed : FnOk P w K mg base CX0 1 fM fdM ["_law_cell", "_law_turn"] spMixed := ok_mixed T D_law_mixed.fn
  refine F.ok sc_law_draw (fun vs H Q E h => ?_) (fun cdv A outer s H vs Q E hr h => ?_)
  · obtain ⟨d, c, n, m, rfl, _⟩ := h
    rfl
  · obtain ⟨d, c, n, m, rfl, ⟨⟨cs, a, b, t, e1, e2, e3⟩, ne⟩, hn, hm, hm2, q⟩ := h
    have hn' : t < 1099511627776 := Nat.lt_of_le_of_lt e3 hn
    refine ⟨_,
      (pss_cons
        (ps_set (i := 2) sc_law_draw.nd rfl (.inl rfl) (pe_ix (r := rIxL K) ix_list (pv 0) pe_int (fun _ _ => rfl)))
      (pss_cons
        (ps_asg (pe_op op_add (pe_ix (r := rIxL K) ix_list (pv 0) pe_int (fun _ _ => rfl)) pe_int) (pg_sub (pv 0) pe_int set_list))
      (pss_cons
        (ps_if (PW.pt (pw_and (pt_cmpR op_eq (pe_ix (r := rIxL K) ix_list (pv 0) pe_int (fun _ _ => rfl)) pe_int (nomark _)) (pw_and1 (pt_cmpR op_lt (pe_ix (r := rIxL K) ix_list (pv 0) pe_int (fun _ _ => rfl)) (pe_callB (r := rLen K) c_len (by rfl) T.n_len (by decide +kernel) (pa_cons (pv 2) pa_nil)) (nomark _)))))
          (pss_cons
            (ps_asg (pe_op op_add (pe_ix (r := rIxL K) ix_list (pv 0) pe_int (fun _ _ => rfl)) pe_int) (pg_sub (pv 0) pe_int set_list))
          (pss_cons
            (ps_if (pt_cmpR op_lt (pe_ix (r := rIxL K) ix_list (pv 2) (pe_op op_sub (pe_ix (r := rIxL K) ix_list (pv 0) pe_int (fun _ _ => rfl)) pe_int) (fun _ _ => rfl)) (pe_op op_pow pe_int pe_int) (nomark _))
              (pss_one
                (ps_ret (pe_op op_mod (pe_call G_law_mixed (hr.mono (by omega)) (by rfl) D_law_mixed.g D_law_mixed.fn.kp D_law_mixed.b .nil pass0 (pa_cons (pe_ix (r := rIxL K) ix_list (pv 2) (pe_op op_sub (pe_ix (r := rIxL K) ix_list (pv 0) pe_int (fun _ _ => rfl)) pe_int) (fun _ _ => rfl)) (pa_cons (pe_ix (r := rIxL K) ix_list (pv 0) pe_int (fun _ _ => rfl)) pa_nil))) (pv 1))))
              pss_nil)
          (pss_one
            (ps_asg (pe_ix (r := rIxL K) ix_list (pv 2) (pe_op op_sub (pe_ix (r := rIxL K) ix_list (pv 0) pe_int (fun _ _ => rfl)) pe_int) (fun _ _ => rfl)) (pg_sub (pv 0) pe_int set_list)))))
          pss_nil)
      (pss_cons
        (ps_if (pt_cmpR op_gt (pe_ix (r := rIxL K) ix_list (pv 0) pe_int (fun _ _ => rfl)) pe_int (nomark _))
          (pss_cons
            (ps_set (i := 3) sc_law_draw.nd rfl (.inl rfl) (pe_op op_mod (pe_ix (r := rIxL K) ix_list (pv 0) pe_int (fun _ _ => rfl)) (pv 1)))
          (pss_cons
            (ps_asg (pe_op op_fdivW (pe_ix (r := rIxL K) ix_list (pv 0) pe_int (fun _ _ => rfl)) (pv 1)) (pg_sub (pv 0) pe_int set_list))
          (pss_one
            (ps_ret (pv 3)))))
          pss_nil)
      (pss_cons
        (ps_set (i := 4) sc_law_draw.nd rfl (.inl rfl) (pe_op op_mul (pe_ix (r := rIxL K) ix_list (pv 0) pe_int (fun _ _ => rfl)) pe_int))
      (pss_cons
        (ps_if (pt_cmpR op_gt (pe_callB (r := rLen K) c_len (by rfl) T.n_len (by decide +kernel) (pa_cons (pv 2) pa_nil)) pe_int (nomark _))
          (pss_one
            (ps_set (i := 4) sc_law_draw.nd rfl (.inl rfl) (pe_op op_add (pv 4) (pe_op op_mod (pe_ix (r := rIxL K) ix_list (pv 2) (pe_op op_mod (pe_op op_mul (pe_ix (r := rIxL K) ix_list (pv 0) pe_int (fun _ _ => rfl)) pe_int) (pe_callB (r := rLen K) c_len (by rfl) T.n_len (by decide +kernel) (pa_cons (pv 2) pa_nil))) (fun _ _ => rfl)) pe_int))))
          pss_nil)
      (pss_one
        (ps_ret (pe_op op_mod (pe_call G_law_mixed (hr.mono (by omega)) (by rfl) D_law_mixed.g D_law_mixed.fn.kp D_law_mixed.b .nil pass0 (pa_cons (pv 4) (pa_cons (pe_ix (r := rIxL K) ix_list (pv 0) pe_int (fun _ _ => rfl)) pa_nil))) (pv 1))))))))))
      , ?_⟩
    rw [show L2.start N_law_draw [V.ref d, V.int m] = [some (.ref d), some (.int m), none, none, none] from rfl]
    -- cells = deck[0]; deck[3] = deck[3] + 1
    walk_at "x"
    refine w_setL e1 rfl rfl fun H1 g0 o0 => ?_
    have fin : ∀ (H' : Hp) (a' : Nat) (b' i : Int), 0 ≤ i → i < m → H' d = some (.lst [.ref c, .int a', .int b', .int (t + 1)]) → Off d H H' → Q (.int i) H' := fun H' a' b' i i0 i1 g1 g2 => by
      have z := q i.toNat H' (by omega) ⟨⟨cs, a', b', t + 1, g1, (g2 c ne).trans e2, by omega⟩, ne⟩ g2
      rw [Int.toNat_of_nonneg i0] at z
      exact z
    have md : ∀ x : Int, 0 ≤ x % m ∧ x % m < m := fun x => ⟨Int.emod_nonneg x (by omega), Int.emod_lt_of_pos x hm⟩
    have g0 : H1 d = some (.lst [.ref c, .int a, .int b, .int ((t : Int) + 1)]) := g0
    have c1 : H1 c = some (.lst (cs.map V.int)) := (o0 c ne).trans e2
    -- if deck[2] == 0 and deck[1] < len(cells): ..
    refine w_seqJ (fun σ' H2 => σ' = [some (.ref d), some (.int m), some (.ref c), none, none] ∧ ∃ (a' : Nat) (b' : Int), H2 d = some (.lst [.ref c, .int a', .int b', .int ((t : Int) + 1)]) ∧ Off d H H2) ?_ ?_
    · rintro σ' H2 ⟨rfl, a', b', g2, o2⟩
      have c2 : H2 c = some (.lst (cs.map V.int)) := (o2 c ne).trans e2
      refine w_seqJ (fun σ' H3 => σ' = [some (.ref d), some (.int m), some (.ref c), none, none] ∧ H3 = H2) ?_ ?_
      · rintro σ' H3 ⟨rfl, rfl⟩
        -- number = deck[3] * 48271; if len(cells) > 0: ..
        walk_at "g"
        refine w_seqJ (fun σ' H4 => (∃ z : Int, σ' = [some (.ref d), some (.int m), some (.ref c), none, some (.int z)]) ∧ H4 = H3) ?_ ?_
        · rintro σ' H4 ⟨⟨z, rfl⟩, rfl⟩
          walk_at "g"
          refine ⟨_, _, rfl, by omega, by omega, fun y => ?_⟩
          walk_at "g"
          exact fin _ a' b' _ (md y).1 (md y).2 g2 o2
        · intro U hU
          walk_at "g"
          refine w_ite (fun hl => ?_) (fun hl => ?_)
          · obtain ⟨v, hv1, hv2⟩ := at_lt (xs := cs.map V.int) (i := ((t : Int) + 1) * 7 % ((cs.map V.int).length : Int)) (Int.emod_nonneg _ (by omega)) (Int.emod_lt_of_pos _ hl)
            rw [List.getElem?_map] at hv1
            obtain ⟨y, _, rfl⟩ := Option.map_eq_some_iff.mp hv1
            walk_at "g"
            exact hU _ _ ⟨⟨_, rfl⟩, rfl⟩
          · exact hU _ _ ⟨⟨_, rfl⟩, rfl⟩
      · intro U hU
        walk_at "g"
        refine w_ite (fun hl => ?_) (fun hl => ?_)
        · walk_at "g"
          refine w_setL g2 rfl rfl fun H9 g9 o9 => ?_
          walk_at "g"
          exact fin _ a' (b' / m) _ (md b').1 (md b').2 g9 (o2.trans o9)
        · exact hU _ _ ⟨rfl, rfl⟩
    · intro U hU
      have no : U [some (.ref d), some (.int m), some (.ref c), none, none] H1 := hU _ _ ⟨rfl, a, b, g0, o0⟩
      walk_at "g"
      refine w_ite (fun hl => ?_) (fun _ => no)
      walk_at "g"
      refine w_ite (fun hl2 => ?_) (fun _ => no)
      obtain ⟨v, hv1, hv2⟩ := at_lt (xs := cs.map V.int) (i := ((a + 1 : Nat) : Int) - 1) (by omega) (by omega)
      rw [List.getElem?_map] at hv1
      obtain ⟨y, _, rfl⟩ := Option.map_eq_some_iff.mp hv1
      walk_at "g"
      refine w_setL g0 rfl rfl fun H2 g2 o2 => ?_
      have g2 : H2 d = some (.lst [.ref c, .int ((a + 1 : Nat) : Int), .int b, .int ((t : Int) + 1)]) := g2
      have o2 : Off d H H2 := o0.trans o2
      have c2 : H2 c = some (.lst (cs.map V.int)) := (o2 c ne).trans e2
      refine w_seq ?_
      walk_at "g"
      refine w_ite (fun hl => ?_) (fun hl => ?_)
      · walk_at "g"
        refine ⟨_, _, rfl, by omega, by omega, fun y => ?_⟩
        walk_at "g"
        exact fin _ (a + 1) b _ (md y).1 (md y).2 g2 o2
      · walk_at "g"
        refine w_setL g2 rfl rfl fun H9 g9 o9 => ?_
        exact hU _ _ ⟨rfl, a + 1, y, g9, o2.trans o9⟩
end
/-! ### pieces and scripts -/
theorem map_at {α : Type} {f : α → V} {xs : List α} {i : Nat} {v : V} (h : (xs.map f)[i]? = some v) : ∃ x, xs[i]? = some x ∧ v = f x := by
  rw [List.getElem?_map] at h
  obtain ⟨y, h1, h2⟩ := Option.map_eq_some_iff.mp h
  exact ⟨y, h1, h2.symm⟩
theorem le_sum : ∀ {l : List Nat} {x : Nat}, x ∈ l → x ≤ l.sum
  | [], x, h => by cases h
  | y :: l, x, h => by
    rw [List.sum_cons]
    rcases List.mem_cons.mp h with rfl | h
    · omega
    · have := le_sum h
      omega
abbrev SG : Str := Str.ofString " !\"#$&'()*+,-./0123456789:;<=>?@ABCDEFGHIJKLMNOPQRSTUVWXYZ[\\]^_`abcdefghijklmnopqrstuvwxyz{|}~"
def LineOk (z : Str) : Prop := z.length ≤ 40 ∧ ∀ c ∈ z.cps.toList, c ∈ SG.cps.toList
inductive Pc where
  | take (b m : Nat)
  | put (ls : List Str)
def Pc.size : Pc → Nat
  | .take _ m => m
  | .put ls => ls.length
def Pc.make (base : List Str) : Pc → List Str
  | .take b m => (base.drop b).take m
  | .put ls => ls
def Pc.fits (n : Nat) : Pc → Prop
  | .take b m => b + m ≤ n
  | .put _ => True
def Pc.ok : Pc → Prop
  | .take _ m => 1 ≤ m
  | .put ls => ls ≠ [] ∧ ∀ z ∈ ls, LineOk z
def Pc.cost (t p : Int) : Pc → Int
  | .take _ _ => t
  | .put ls => p * (ls.length : Int)
theorem Pc.ok.pos {p : Pc} (h : p.ok) : 1 ≤ p.size := by
  cases p with
  | take b m => exact h
  | put ls =>
    have := List.length_pos_iff.mpr h.1
    exact this
def sizes (ps : List Pc) : Nat := (ps.map Pc.size).sum
def makes (base : List Str) (ps : List Pc) : List Str := (ps.map (Pc.make base)).flatten
def costs (t p : Int) (ps : List Pc) : Int := (ps.map (Pc.cost t p)).sum
theorem sizes_ge : ∀ {ps : List Pc}, (∀ p ∈ ps, p.ok) → ps.length ≤ sizes ps
  | [], _ => by simp [sizes]
  | p :: ps, h => by
    have h1 := (h p (by simp)).pos
    have h2 := sizes_ge (ps := ps) fun q hq => h q (by simp [hq])
    unfold sizes at *
    simp only [List.map_cons, List.sum_cons, List.length_cons]
    omega
def RwAt (H : Hp) (a : Addr) (ls : List Str) : Prop := H a = some (.tup (ls.map V.str))
def PcAt (H : Hp) (a : Addr) : Pc → Prop
  | .take b m => H a = some (.tup [.str "take", .int (b : Int), .int (m : Int)])
  | .put ls => ∃ r, H a = some (.tup [.str "put", .ref r]) ∧ RwAt H r ls
theorem PcAt.kt {H H' : Hp} {a : Addr} {p : Pc} (h : PcAt H a p) (k : KT H H') : PcAt H' a p := by
  cases p with
  | take b m => exact k _ _ h
  | put ls =>
    obtain ⟨r, h1, h2⟩ := h
    exact ⟨r, k _ _ h1, k _ _ h2⟩
structure ScAt (H : Hp) (s : Addr) (ps : List (Addr × Pc)) : Prop where
  at' : H s = some (.tup (ps.map fun q => .ref q.1))
  pc : ∀ q ∈ ps, PcAt H q.1 q.2
theorem ScAt.kt {H H' : Hp} {s : Addr} {ps : List (Addr × Pc)} (h : ScAt H s ps) (k : KT H H') : ScAt H' s ps := ⟨k _ _ h.at', fun q hq => (h.pc q hq).kt k⟩
structure ScOk (ps : List Pc) : Prop where
  ok : ∀ p ∈ ps, p.ok
  few : sizes ps ≤ 40
/-- data whose texts are not too long -/
inductive DatT (B : Nat) (H : Hp) : V → Prop where
  | leaf {x : V} {a : String} (t : Ty H x a) (h : a ≠ "tuple") (z : ∀ z, x = .str z → z.length ≤ B) : DatT B H x
  | tup {p : Addr} {xs : List V} (e : H p = some (.tup xs)) (l : xs.length ≤ B) (h : ∀ y ∈ xs, DatT B H y) : DatT B H (.ref p)
theorem DatT.ty {B : Nat} {H : Hp} {x : V} (h : DatT B H x) : ∃ a, Ty H x a := by
  cases h with
  | leaf t _ _ => exact ⟨_, t⟩
  | tup e _ _ => exact ⟨_, .tup e⟩
theorem DatT.len {B : Nat} {H : Hp} {z : Str} (h : DatT B H (.str z)) : z.length ≤ B := by
  cases h with
  | leaf _ _ hz => exact hz z rfl
theorem DatT.kd {B : Nat} {H H' : Hp} {x : V} (h : DatT B H x) (k : KD H H') : DatT B H' x := by
  induction h with
  | leaf t h z => exact .leaf (t.kd k) h z
  | tup e l _ ih => exact .tup (k.t _ _ e) l fun y hy => ih y hy
theorem DatT.cases {B : Nat} {H : Hp} {x : V} (h : DatT B H x) : (∃ a, Ty H x a ∧ a ≠ "tuple") ∨ ∃ (p : Addr) (xs : List V), x = .ref p ∧ H p = some (.tup xs) ∧ xs.length ≤ B ∧ ∀ y ∈ xs, DatT B H y := by
  cases h with
  | leaf t h _ => exact .inl ⟨_, t, h⟩
  | tup e l h => exact .inr ⟨_, _, rfl, e, l, h⟩
theorem DatT.back {B : Nat} {H H1 : Hp} {a : Addr} {xs : List V} (d : DatT B H (.ref a)) (k : Same H H1) (e : H1 a = some (.tup xs)) : H a = some (.tup xs) := by
  rcases d.cases with ⟨s, t, hne⟩ | ⟨p, ys, e1, e2, _⟩
  · cases t with
    | lst h => have z := k _ _ h; rw [e] at z; cases z
    | tup h => exact absurd rfl hne
    | dK h => have z := k _ _ h; rw [e] at z; cases z
  · cases e1
    have z := k _ _ e2
    rw [e] at z
    cases z
    exact e2
theorem DatT.elem {B : Nat} {H : Hp} {a : Addr} {xs : List V} (d : DatT B H (.ref a)) (e : H a = some (.tup xs)) : xs.length ≤ B ∧ ∀ y ∈ xs, DatT B H y := by
  rcases d.cases with ⟨s, t, hne⟩ | ⟨p, ys, e1, e2, h⟩
  · exact absurd (t.ofTup e) hne
  · cases e1
    rw [e] at e2
    cases e2
    exact h
theorem DatT.strs {B : Nat} {H : Hp} {a : Addr} {ls : List Str} (h : RwAt H a ls) (hl : ls.length ≤ B) (hz : ∀ z ∈ ls, z.length ≤ B) : DatT B H (.ref a) := .tup h (by rw [List.length_map]; exact hl) fun y hy => by
  obtain ⟨z, hz', rfl⟩ := List.mem_map.mp hy
  exact .leaf (.str z) (by decide) fun z' e => by cases e; exact hz z hz'
theorem PcAt.dat {B : Nat} {H : Hp} {a : Addr} {p : Pc} (h : PcAt H a p) (hB : 4 ≤ B) (hs : p.size ≤ B) (hz : ∀ ls, p = .put ls → ∀ z ∈ ls, z.length ≤ B) : DatT B H (.ref a) := by
  cases p with
  | take b m =>
    refine .tup h (by simp only [List.length_cons, List.length_nil]; omega) fun y hy => ?_
    have hy' : y = .str "take" ∨ y = .int (b : Int) ∨ y = .int (m : Int) := by simpa using hy
    rcases hy' with rfl | rfl | rfl
    · exact .leaf (.str _) (by decide) fun z e => by cases e; exact Nat.le_trans (show (Str.ofString "take").length ≤ 4 by decide) hB
    · exact .leaf (.int _) (by decide) fun z e => by cases e
    · exact .leaf (.int _) (by decide) fun z e => by cases e
  | put ls =>
    obtain ⟨r, h1, h2⟩ := h
    refine .tup h1 (by simp only [List.length_cons, List.length_nil]; omega) fun y hy => ?_
    have hy' : y = .str "put" ∨ y = .ref r := by simpa using hy
    rcases hy' with rfl | rfl
    · exact .leaf (.str _) (by decide) fun z e => by cases e; exact Nat.le_trans (show (Str.ofString "put").length ≤ 4 by decide) hB
    · exact DatT.strs h2 hs (hz ls rfl)
theorem ScAt.dat {B : Nat} {H : Hp} {s : Addr} {ps : List (Addr × Pc)} (h : ScAt H s ps) (k : ScOk (ps.map (·.2))) (hB : 40 ≤ B) : DatT B H (.ref s) := by
  have hl := sizes_ge k.ok
  have hf := k.few
  rw [List.length_map] at hl
  refine .tup h.at' (by rw [List.length_map]; omega) fun y hy => ?_
  obtain ⟨q, hq, rfl⟩ := List.mem_map.mp hy
  have hqm : q.2 ∈ ps.map (·.2) := List.mem_map_of_mem hq
  have hsz : q.2.size ≤ sizes (ps.map (·.2)) := by
    unfold sizes
    exact le_sum (List.mem_map_of_mem hqm)
  refine (h.pc q hq).dat (by omega) (by omega) fun ls e z hz => ?_
  have := k.ok _ hqm
  rw [e] at this
  have := (this.2 z hz).1
  omega
/-- a piece, as a thing of any kind -/
def PcV (H : Hp) (x : V) (p : Pc) : Prop := ∃ a, x = .ref a ∧ PcAt H a p ∧ p.ok
def ScV (H : Hp) (x : V) (ps : List (Addr × Pc)) : Prop := ∃ s, x = .ref s ∧ ScAt H s ps ∧ ScOk (ps.map (·.2))
def spIsInt : Sp := fun vs H Q _ => ∃ (x : V) (a : String), vs = [x, .int 0] ∧ Ty H x a ∧ (∀ n : Nat, x = .int (n : Int) → Q (.bl true) H) ∧ ((∀ n : Nat, x ≠ .int (n : Int)) → Q (.bl false) H)
def spIsText : Sp := fun vs H Q _ => ∃ (x : V) (B : Nat), vs = [x, .int 40] ∧ DatT B H x ∧ B ≤ 1000000 ∧ (∀ z, x = .str z → LineOk z → ∀ H', Same H H' → Q (.bl true) H') ∧ ((∀ z, x = .str z → ¬ LineOk z) → ∀ H', Same H H' → Q (.bl false) H')
def spMadeBy : Sp := fun vs H Q _ => ∃ (x : V) (B : Nat), vs = [x] ∧ DatT B H x ∧ B ≤ 1000000 ∧ (∀ p, PcV H x p → ∀ H', Same H H' → Q (.int (p.size : Int)) H') ∧ ((∀ p, ¬ PcV H x p) → ∀ H', Same H H' → Q (.int 0) H')
def spIsScript : Sp := fun vs H Q _ => ∃ (x : V) (B : Nat), vs = [x] ∧ DatT B H x ∧ B ≤ 1000000 ∧ (∀ ps, ScV H x ps → ∀ H', Same H H' → Q (.bl true) H') ∧ ((∀ ps, ¬ ScV H x ps) → ∀ H', Same H H' → Q (.bl false) H')
theorem ln_size {B : Nat} (h : B ≤ 1000000) {n : Nat} (h2 : n ≤ B) : n ≤ sizeLine := Nat.le_trans (Nat.le_trans h2 h) (by decide)
theorem Ty.kStr {H : Hp} {x : V} {a : String} (t : Ty H x a) : kitB a "str" = some (decide (a = "str")) := by
  cases t with
  | non => exact kb_NoneType_str
  | bl b => exact kb_bool_str
  | int i => exact kb_int_str
  | str z => exact kb_str_str
  | lst e => exact kb_list_str
  | tup e => exact kb_tuple_str
  | dK e => exact kb_dict_str
theorem w_isStr {K : PySem.W.Frag} {H : Hp} {Q : VK} {x : V} {a : String} (t : Ty H x a) (h : Q (.bl (decide (a = "str"))) H) : rIsi K [x, .ty "str"] H Q := w_isi t.tx t.kStr h
theorem Ty.isStr {H : Hp} {x : V} {a : String} (t : Ty H x a) (e : a = "str") : ∃ z, x = .str z := by
  cases t with
  | str z => exact ⟨z, rfl⟩
  | non => exact absurd e (by decide)
  | bl _ => exact absurd e (by decide)
  | tup _ => exact absurd e (by decide)
  | int _ => exact absurd e (by decide)
  | lst _ => exact absurd e (by decide)
  | dK _ => exact absurd e (by decide)
theorem Ty.ofStr {H : Hp} {z : Str} {a : String} (t : Ty H (.str z) a) : a = "str" := by
  cases t with
  | str i => rfl
section
variable {P : Program} {w : World} {K : PySem.W.Frag} {mg : Str → Option Value} {base : Heap}
theorem ok_isint {f : Addr} {fd : FuncData} (T : Txt K mg) (D : DfD K mg "is_int" s_is_int ["thing", "least"] [.int 0] f fd) : FnOk P w K mg base CX0 1 f fd ["thing", "least"] spIsInt := by
  refine okD D.fn sc_is_int (fun vs H Q E h => ?_) (fun cdv A outer s H vs Q E hr h => ?_)
  · obtain ⟨x, a, rfl, _⟩ := h
    rfl
  · obtain ⟨x, a, rfl, t, q1, q2⟩ := h
    refine ⟨_,
      (pss_one
        (ps_ret (pe_and (pe_callB (r := rIsi K) call_isi (by rfl) T.n_isinstance (by decide +kernel) (pa_cons (pv 0) (pa_cons (pe_bltn (v := .ty "int") (u := .type "int") (by rfl) T.n_int (by decide +kernel) rfl) pa_nil))) (pe_and (pe_not (pe_callB (r := rIsi K) call_isi (by rfl) T.n_isinstance (by decide +kernel) (pa_cons (pv 0) (pa_cons (pe_bltn (v := .ty "bool") (u := .type "bool") (by rfl) T.n_bool (by decide +kernel) rfl) pa_nil)))) (pe_one (pe_cmpR op_ge (pv 0) (pv 1) (nomark _)))))))
      , ?_⟩
    rw [show L2.start N_is_int [x, V.int 0] = [some x, some (.int 0)] from rfl]
    walk_at "x"
    refine w_isInt t ?_
    walk_at "g"
    refine w_itB (fun hb => ?_) (fun hb => ?_)
    · walk_at "g"
      refine w_isBool t ?_
      walk_at "g"
      refine w_itN (fun hn => ?_) (fun hn => ?_)
      · rw [decide_eq_false hn, Bool.or_false, decide_eq_true_iff] at hb
        obtain ⟨i, rfl⟩ := t.isInt hb
        walk_at "g"
        by_cases h : i ≥ 0
        · rw [decide_eq_true h]
          exact q1 i.toNat (by rw [Int.toNat_of_nonneg h])
        · rw [decide_eq_false h]
          exact q2 fun n e => by cases e; exact h (by omega)
      · exact q2 fun n e => by
          subst e
          rw [t.ofInt] at hn
          exact absurd hn (by decide)
    · exact q2 fun n e => by
        subst e
        rw [t.ofInt] at hb
        exact absurd hb (by decide)
theorem ok_istext {f : Addr} {fd : FuncData} (T : Txt K mg) (D : DfD K mg "is_text" s_is_text ["thing", "most"] [.int 40] f fd) : FnOk P w K mg base CX0 1 f fd ["thing", "most"] spIsText := by
  obtain ⟨tk_SIGNS, g_SIGNS⟩ := T.g_SIGNS
  refine okD D.fn sc_is_text (fun vs H Q E h => ?_) (fun cdv A outer s H vs Q E hr h => ?_)
  · obtain ⟨x, B, rfl, _⟩ := h
    rfl
  · obtain ⟨x, B, rfl, hd, hB, q1, q2⟩ := h
    obtain ⟨a, t⟩ := hd.ty
    refine ⟨_,
      (pss_one
        (ps_ret (pe_and (pe_callB (r := rIsi K) call_isi (by rfl) T.n_isinstance (by decide +kernel) (pa_cons (pv 0) (pa_cons (pe_bltn (v := .ty "str") (u := .type "str") (by rfl) T.n_str (by decide +kernel) rfl) pa_nil))) (pe_and (pe_cmpR op_le (pe_callB c_lenS (by rfl) T.n_len (by decide +kernel) (pa_cons (pv 0) pa_nil)) (pv 1) (nomark _)) (pe_one (pe_callB (r := rAll K) (cr_all rfl) (by rfl) T.n_all (by decide +kernel) (pa_cons (pe_lc (own := [("sign", 2)]) (g := (gName 2)) rfl sc_is_text.nd (pi_str (pv 0)) (blkOk_by (own := [("sign", 2)]) (N := N_is_text) (sc := defScope s_is_text) (by decide +kernel)) (fun _ _ _ _ _ => (pg_name (i := 2) sc_is_text.nd rfl (.inl rfl))) (fun _ _ _ _ _ => pts_nil) (fun _ _ _ _ _ => (pe_cmpR o_inS (pv 2) (pe_glob (v := .str " !\"#$&'()*+,-./0123456789:;<=>?@ABCDEFGHIJKLMNOPQRSTUVWXYZ[\\]^_`abcdefghijklmnopqrstuvwxyz{|}~") rfl g_SIGNS ⟨_, rfl⟩) rfl))) pa_nil)))))))
      , ?_⟩
    rw [show L2.start N_is_text [x, V.int 40] = [some x, some (.int 40), none] from rfl]
    walk_at "x"
    refine w_isStr t ?_
    walk_at "g"
    refine w_ite (fun hs => ?_) (fun hs => ?_)
    rotate_left
    · exact q2 (fun z e => by subst e; exact absurd t.ofStr hs) H (fun _ _ z => z)
    obtain ⟨z, rfl⟩ := t.isStr hs
    have hzl := hd.len
    walk_at "g"
    refine w_lenS (ln_size hB hzl) ?_
    walk_at "g"
    refine w_ite (fun h40 => ?_) (fun h40 => ?_)
    rotate_left
    · exact q2 (fun z' e hl => by cases e; exact h40 (by have := hl.1; omega)) H (fun _ _ z => z)
    walk_at "g"
    refine lcp_map (walk_str z) [] ((z.cps.toList.map fun c => decide (c ∈ SG.cps.toList)).map V.bl) (by simp) (by show z.length ≤ 1000000; omega) (fun _ _ => trivial) ?_ (by simp) ?_
    · rintro i x H1 H2 R hi k1 ⟨rfl, c, hc, rfl⟩ hR
      refine w_name ⟨rfl, ?_⟩
      walk_at "g"
      refine hR _ _ ?_ Kp.refl
      rw [List.getElem?_map, List.getElem?_map, Array.getElem?_toList, hc]
      rfl
    · intro L H1 hL k1 eL
      walk_at "g"
      have hk := k1.same
      by_cases h : ∀ c ∈ z.cps.toList, c ∈ SG.cps.toList
      · have e : (z.cps.toList.map fun c => decide (c ∈ SG.cps.toList)).all id = true := by
          rw [List.all_eq_true]
          intro b hb
          obtain ⟨c, hc, rfl⟩ := List.mem_map.mp hb
          exact decide_eq_true (h c hc)
        rw [e]
        exact q1 z rfl ⟨by omega, h⟩ _ hk
      · have e : (z.cps.toList.map fun c => decide (c ∈ SG.cps.toList)).all id = false := by
          rw [Bool.eq_false_iff]
          intro hall
          rw [List.all_eq_true] at hall
          exact h fun c hc => of_decide_eq_true (hall _ (List.mem_map_of_mem (f := fun c => decide (c ∈ SG.cps.toList)) hc))
        rw [e]
        exact q2 (fun z' e' hl => by cases e'; exact h hl.2) _ hk
end
/-! ### contents and books -/
inductive Ct where
  | leaf (rows : List Str)
  | tree (es : List (Str × Nat))
  | ver (ps : List Nat) (root stamp : Nat)
abbrev nV (n : Nat) : V := .int (n : Int)
def CtAt (H : Hp) (a : Addr) : Ct → Prop
  | .leaf rows => ∃ r, H a = some (.tup [.str "leaf", .ref r]) ∧ RwAt H r rows
  | .tree es => ∃ (r : Addr) (qs : List (Addr × Str × Nat)), H a = some (.tup [.str "tree", .ref r]) ∧ H r = some (.tup (qs.map fun q => .ref q.1)) ∧ qs.map (·.2) = es ∧ ∀ q ∈ qs, H q.1 = some (.tup [.str q.2.1, nV q.2.2])
  | .ver ps root stamp => ∃ r, H a = some (.tup [.str "version", .ref r, nV root, nV stamp]) ∧ H r = some (.tup (ps.map nV))
theorem CtAt.kt {H H' : Hp} {a : Addr} {c : Ct} (h : CtAt H a c) (k : KT H H') : CtAt H' a c := by
  cases c with
  | leaf rows =>
    obtain ⟨r, h1, h2⟩ := h
    exact ⟨r, k _ _ h1, k _ _ h2⟩
  | tree es =>
    obtain ⟨r, qs, h1, h2, h3, h4⟩ := h
    exact ⟨r, qs, k _ _ h1, k _ _ h2, h3, fun q hq => k _ _ (h4 q hq)⟩
  | ver ps root stamp =>
    obtain ⟨r, h1, h2⟩ := h
    exact ⟨r, k _ _ h1, k _ _ h2⟩
def Ct.word : Ct → Str
  | .leaf _ => "leaf"
  | .tree _ => "tree"
  | .ver _ _ _ => "version"
def Ct.key : Ct → NestedKey
  | .leaf rows => .tup [.text "leaf", .tup (rows.map .text)]
  | .tree es => .tup [.text "tree", .tup (es.map fun e => .tup [.text e.1, .num (e.2 : Int)])]
  | .ver ps root stamp => .tup [.text "version", .tup (ps.map fun n : Nat => .num (n : Int)), .num (root : Int), .num (stamp : Int)]
theorem nall_strs {H : Hp} : ∀ rows : List Str, NAll H (rows.map .text) (rows.map V.str)
  | [] => .nil
  | z :: r => .cons (.str z) (nall_strs r)
theorem nall_nats {H : Hp} : ∀ ns : List Nat, NAll H (ns.map fun n : Nat => .num (n : Int)) (ns.map nV)
  | [] => .nil
  | z :: r => .cons (.int _) (nall_nats r)
theorem nall_ents {H : Hp} : ∀ qs : List (Addr × Str × Nat), (∀ q ∈ qs, H q.1 = some (.tup [.str q.2.1, nV q.2.2])) → NAll H ((qs.map (·.2)).map fun e => .tup [.text e.1, .num (e.2 : Int)]) (qs.map fun q => .ref q.1)
  | [], _ => .nil
  | q :: r, h => .cons (.tup (h q (by simp)) (.cons (.str _) (.cons (.int _) .nil))) (nall_ents r fun z hz => h z (by simp [hz]))
theorem CtAt.nk {H : Hp} {a : Addr} {c : Ct} (h : CtAt H a c) : NAt H c.key (.ref a) := by
  cases c with
  | leaf rows =>
    obtain ⟨r, h1, h2⟩ := h
    exact .tup h1 (.cons (.str _) (.cons (.tup h2 (nall_strs rows)) .nil))
  | tree es =>
    obtain ⟨r, qs, h1, h2, rfl, h4⟩ := h
    exact .tup h1 (.cons (.str _) (.cons (.tup h2 (nall_ents qs h4)) .nil))
  | ver ps root stamp =>
    obtain ⟨r, h1, h2⟩ := h
    exact .tup h1 (.cons (.str _) (.cons (.tup h2 (nall_nats ps)) (.cons (.int _) (.cons (.int _) .nil))))
theorem da_texts : ∀ rows : List Str, NestedKey.depthAll (rows.map .text) = 0
  | [] => rfl
  | z :: r => by rw [List.map_cons, NestedKey.depthAll, da_texts r]; rfl
theorem da_nats : ∀ ns : List Nat, NestedKey.depthAll (ns.map fun n : Nat => .num (n : Int)) = 0
  | [] => rfl
  | z :: r => by rw [List.map_cons, NestedKey.depthAll, da_nats r]; rfl
theorem da_ents : ∀ es : List (Str × Nat), NestedKey.depthAll (es.map fun e => .tup [.text e.1, .num (e.2 : Int)]) ≤ 1
  | [] => Nat.zero_le _
  | z :: r => by
    rw [List.map_cons, NestedKey.depthAll]
    have := da_ents r
    have e : NestedKey.depth (.tup [.text z.1, .num (z.2 : Int)]) = 1 := rfl
    rw [e]
    omega
theorem Ct.key_depth (c : Ct) : c.key.depth ≤ 8 := by
  cases c with
  | leaf rows =>
    show NestedKey.depthAll [.text "leaf", .tup (rows.map .text)] + 1 ≤ 8
    simp only [NestedKey.depthAll, NestedKey.depth, da_texts]
    decide
  | tree es =>
    show NestedKey.depthAll [.text "tree", .tup (es.map fun e => .tup [.text e.1, .num (e.2 : Int)])] + 1 ≤ 8
    have := da_ents es
    simp only [NestedKey.depthAll, NestedKey.depth]
    omega
  | ver ps root stamp =>
    show NestedKey.depthAll [.text "version", .tup (ps.map fun n : Nat => .num (n : Int)), .num (root : Int), .num (stamp : Int)] + 1 ≤ 8
    simp only [NestedKey.depthAll, NestedKey.depth, da_nats]
    decide
theorem text_inj : ∀ {xs ys : List Str}, xs.map NestedKey.text = ys.map NestedKey.text → xs = ys
  | [], [], _ => rfl
  | [], _ :: _, h => by simp at h
  | _ :: _, [], h => by simp at h
  | x :: xs, y :: ys, h => by
    rw [List.map_cons, List.map_cons, List.cons.injEq] at h
    injection h.1 with e
    rw [e, text_inj h.2]
theorem num_inj : ∀ {xs ys : List Nat}, (xs.map fun n : Nat => NestedKey.num (n : Int)) = (ys.map fun n : Nat => NestedKey.num (n : Int)) → xs = ys
  | [], [], _ => rfl
  | [], _ :: _, h => by simp at h
  | _ :: _, [], h => by simp at h
  | x :: xs, y :: ys, h => by
    rw [List.map_cons, List.map_cons, List.cons.injEq] at h
    injection h.1 with e
    rw [show x = y by omega, num_inj h.2]
theorem ent_inj : ∀ {xs ys : List (Str × Nat)}, (xs.map fun e => NestedKey.tup [.text e.1, .num (e.2 : Int)]) = (ys.map fun e => NestedKey.tup [.text e.1, .num (e.2 : Int)]) → xs = ys
  | [], [], _ => rfl
  | [], _ :: _, h => by simp at h
  | _ :: _, [], h => by simp at h
  | x :: xs, y :: ys, h => by
    rw [List.map_cons, List.map_cons, List.cons.injEq] at h
    injection h.1 with e
    have e1 := (List.cons.inj e).1
    have e2 := (List.cons.inj (List.cons.inj e).2).1
    injection e1 with e1
    injection e2 with e2
    rw [show x = y from Prod.ext e1 (by omega), ent_inj h.2]
theorem lit_ne1 : ¬ ((Str.ofString "leaf") = "tree") := by decide +kernel
theorem lit_ne2 : ¬ ((Str.ofString "leaf") = "version") := by decide +kernel
theorem lit_ne3 : ¬ ((Str.ofString "tree") = "version") := by decide +kernel
theorem lit_ne4 : ¬ ((Str.ofString "tree") = "leaf") := by decide +kernel
theorem lit_ne5 : ¬ ((Str.ofString "version") = "leaf") := by decide +kernel
theorem lit_ne6 : ¬ ((Str.ofString "version") = "tree") := by decide +kernel
theorem Ct.key_inj {c d : Ct} (h : c.key = d.key) : c = d := by
  cases c with
  | leaf rows =>
    cases d with
    | leaf rows' =>
      injection h with h
      have := (List.cons.inj (List.cons.inj h).2).1
      injection this with this
      rw [text_inj this]
    | tree es =>
      injection h with h
      have := (List.cons.inj h).1
      injection this with this
      exact absurd this lit_ne1
    | ver ps r s =>
      injection h with h
      have := (List.cons.inj h).1
      injection this with this
      exact absurd this lit_ne2
  | tree es =>
    cases d with
    | leaf rows' =>
      injection h with h
      have := (List.cons.inj h).1
      injection this with this
      exact absurd this lit_ne4
    | tree es' =>
      injection h with h
      have := (List.cons.inj (List.cons.inj h).2).1
      injection this with this
      rw [ent_inj this]
    | ver ps r s =>
      injection h with h
      have := (List.cons.inj h).1
      injection this with this
      exact absurd this lit_ne3
  | ver ps r s =>
    cases d with
    | leaf rows' =>
      injection h with h
      have := (List.cons.inj h).1
      injection this with this
      exact absurd this lit_ne5
    | tree es' =>
      injection h with h
      have := (List.cons.inj h).1
      injection this with this
      exact absurd this lit_ne6
    | ver ps' r' s' =>
      injection h with h
      have h1 := (List.cons.inj (List.cons.inj h).2).1
      have h2 := (List.cons.inj (List.cons.inj (List.cons.inj h).2).2).1
      have h3 := (List.cons.inj (List.cons.inj (List.cons.inj (List.cons.inj h).2).2).2).1
      injection h1 with h1
      injection h2 with h2
      injection h3 with h3
      rw [num_inj h1, show r = r' by omega, show s = s' by omega]
def entsF : Nat → List (Addr × Ct) → List NEnt
  | _, [] => []
  | i, q :: r => (q.2.key, q.1, nV i) :: entsF (i + 1) r
theorem entsF_len : ∀ (cs : List (Addr × Ct)) (i : Nat), (entsF i cs).length = cs.length
  | [], _ => rfl
  | q :: r, i => by show (entsF (i + 1) r).length + 1 = _; rw [entsF_len r]; rfl
theorem entsF_snoc (a : Addr) (c : Ct) : ∀ (cs : List (Addr × Ct)) (i : Nat), entsF i (cs ++ [(a, c)]) = entsF i cs ++ [(c.key, a, nV (i + cs.length))]
  | [], i => rfl
  | q :: r, i => by
    show (q.2.key, q.1, nV i) :: entsF (i + 1) (r ++ [(a, c)]) = (q.2.key, q.1, nV i) :: (entsF (i + 1) r ++ _)
    rw [entsF_snoc a c r (i + 1), List.length_cons, show i + 1 + r.length = i + (r.length + 1) by omega]
theorem ents_none {c : Ct} : ∀ (cs : List (Addr × Ct)) (i : Nat), (∀ q ∈ cs, q.2 ≠ c) → NVal (entsF i cs) c.key = none
  | [], _, _ => rfl
  | q :: r, i, h => by
    have hne : ¬ q.2.key = c.key := fun e => h q (by simp) (Ct.key_inj e)
    show NVal ((q.2.key, q.1, nV i) :: entsF (i + 1) r) c.key = none
    have : NVal ((q.2.key, q.1, nV i) :: entsF (i + 1) r) c.key = NVal (entsF (i + 1) r) c.key := by simp [NVal, List.find?_cons, hne]
    rw [this]
    exact ents_none r (i + 1) fun z hz => h z (by simp [hz])
theorem ents_some {c : Ct} {a : Addr} : ∀ (cs : List (Addr × Ct)) (i j : Nat), (cs.map (·.2)).Nodup → cs[j]? = some (a, c) → NVal (entsF i cs) c.key = some (nV (i + j))
  | [], _, _, _, h => by simp at h
  | q :: r, i, 0, _, h => by
    have e : q = (a, c) := by simpa using h
    subst e
    show NVal ((c.key, a, nV i) :: entsF (i + 1) r) c.key = some (nV (i + 0))
    simp [NVal, List.find?_cons]
  | q :: r, i, j + 1, nd, h => by
    rw [List.map_cons, List.nodup_cons] at nd
    have hr : r[j]? = some (a, c) := by simpa using h
    have hne : ¬ q.2.key = c.key := fun e => nd.1 (by rw [Ct.key_inj e]; exact List.mem_map.mpr ⟨(a, c), List.mem_of_getElem? hr, rfl⟩)
    show NVal ((q.2.key, q.1, nV i) :: entsF (i + 1) r) c.key = _
    have : NVal ((q.2.key, q.1, nV i) :: entsF (i + 1) r) c.key = NVal (entsF (i + 1) r) c.key := by simp [NVal, List.find?_cons, hne]
    rw [this, ents_some r (i + 1) j nd.2 hr, show i + 1 + j = i + (j + 1) by omega]
def depOf (ds : List Nat) : Ct → Nat
  | .tree es => 1 + (es.map fun e => ds.getD e.2 0).foldl max 0
  | _ => 0
def LabOk (z : Str) : Prop := 1 ≤ z.length ∧ z.length ≤ 8 ∧ ∀ c ∈ z.cps.toList, c ∈ (Str.ofString "abcdefghijklmnopqrstuvwxyz").cps.toList
/-- a good content behind those of cs -/
def CtOk (cs : List Ct) (ds : List Nat) : Ct → Prop
  | .leaf rows => rows.length ≤ 40 ∧ ∀ z ∈ rows, LineOk z
  | .tree es => es.length ≤ 20 ∧ (∀ e ∈ es, LabOk e.1 ∧ ∃ c, cs[e.2]? = some c ∧ c.word ≠ "version") ∧ es.Pairwise (fun x y => x.1.cps.toList < y.1.cps.toList) ∧ depOf ds (.tree es) ≤ 8
  | .ver ps root stamp => ps.Pairwise (· < ·) ∧ ps.length ≤ 4 ∧ (∀ p ∈ ps, ∃ c, cs[p]? = some c ∧ c.word = "version") ∧ (∃ c, cs[root]? = some c ∧ c.word = "tree") ∧ stamp ≤ 10 ^ 18
structure BookAt (P : Program) (w : World) (C : Addr) (H : Hp) (p dx lc ld lg : Addr) (cs : List (Addr × Ct)) (ds : List Nat) : Prop where
  ob : H p = some (.ins C dx [("contents", .ref lc), ("depths", .ref ld), ("given", .ref lg)])
  co : H lc = some (.lst (cs.map fun q => .ref q.1))
  de : H ld = some (.lst (ds.map nV))
  gi : NDict P w H lg (entsF 0 cs)
  ct : ∀ q ∈ cs, CtAt H q.1 q.2
  nd : (cs.map (·.2)).Nodup
  dl : ds.length = cs.length
  ne : lc ≠ ld
  few : cs.length ≤ 400
theorem BookAt.kp {P : Program} {w : World} {C : Addr} {M : List Addr} {H H' : Hp} {p dx lc ld lg : Addr} {cs : List (Addr × Ct)} {ds : List Nat} (B : BookAt P w C H p dx lc ld lg cs ds) (k : Kp M H H') (t : KT H H') (h1 : p ∉ M) (h2 : lc ∉ M) (h3 : ld ∉ M) (h4 : lg ∉ M) : BookAt P w C H' p dx lc ld lg cs ds :=
  ⟨k _ _ h1 B.ob, k _ _ h2 B.co, k _ _ h3 B.de, B.gi.kp k t h4, fun q hq => (B.ct q hq).kt t, B.nd, B.dl, B.ne, B.few⟩
theorem BookAt.same {P : Program} {w : World} {C : Addr} {H H' : Hp} {p dx lc ld lg : Addr} {cs : List (Addr × Ct)} {ds : List Nat} (B : BookAt P w C H p dx lc ld lg cs ds) (k : Same H H') : BookAt P w C H' p dx lc ld lg cs ds :=
  B.kp (M := []) (Kp.of k) (KT.of k) (by simp) (by simp) (by simp) (by simp)
def spIsLabel : Sp := fun vs H Q _ => ∃ z : Str, vs = [.str z] ∧ LabOk z ∧ ∀ H', Same H H' → Q (.bl true) H'
def spRiseT : Sp := fun vs H Q _ => ∃ (r : Addr) (ns : List Nat), vs = [.ref r] ∧ H r = some (.tup (ns.map nV)) ∧ ns.length ≤ 1000 ∧ (ns.Pairwise (· < ·) → ∀ H', Same H H' → Q (.bl true) H') ∧ (¬ ns.Pairwise (· < ·) → ∀ H', Same H H' → Q (.bl false) H')
def spRiseS : Sp := fun vs H Q _ => ∃ (r : Addr) (zs : List Str), vs = [.ref r] ∧ H r = some (.lst (zs.map V.str)) ∧ zs.length ≤ 1000 ∧ zs.Pairwise (fun x y => x.cps.toList < y.cps.toList) ∧ ∀ H', Same H H' → Q (.bl true) H'
def NatsV (H : Hp) (x : V) (ns : List Nat) : Prop := ∃ a, x = .ref a ∧ H a = some (.tup (ns.map nV))
def spAreInts : Sp := fun vs H Q _ => ∃ (x : V) (B : Nat), vs = [x] ∧ DatT B H x ∧ B ≤ 1000 ∧ (∀ ns, NatsV H x ns → ∀ H', Same H H' → Q (.bl true) H') ∧ ((∀ ns, ¬ NatsV H x ns) → ∀ H', Same H H' → Q (.bl false) H')
def spRisingInts : Sp := fun vs H Q _ => ∃ (x : V) (B : Nat), vs = [x] ∧ DatT B H x ∧ B ≤ 1000 ∧ (∀ ns, NatsV H x ns → ns.Pairwise (· < ·) → ∀ H', Same H H' → Q (.bl true) H') ∧ ((∀ ns, NatsV H x ns → ¬ ns.Pairwise (· < ·)) → ∀ H', Same H H' → Q (.bl false) H')
def spAreRows : Sp := fun vs H Q _ => ∃ (r : Addr) (rows : List Str), vs = [.ref r] ∧ RwAt H r rows ∧ rows.length ≤ 40 ∧ (∀ z ∈ rows, LineOk z) ∧ ∀ H', Same H H' → Q (.bl true) H'
theorem nV_inj : ∀ {xs ys : List Nat}, xs.map nV = ys.map nV → xs = ys
  | [], [], _ => rfl
  | [], _ :: _, h => by simp at h
  | _ :: _, [], h => by simp at h
  | x :: xs, y :: ys, h => by
    rw [List.map_cons, List.map_cons, List.cons.injEq] at h
    have e : (x : Int) = y := V.int.inj h.1
    rw [show x = y by omega, nV_inj h.2]
theorem nats_of : ∀ {ys : List V}, (∀ y ∈ ys, ∃ n : Nat, y = nV n) → ∃ ns : List Nat, ys = ns.map nV
  | [], _ => ⟨[], rfl⟩
  | y :: ys, h => by
    obtain ⟨n, rfl⟩ := h y (by simp)
    obtain ⟨ns, rfl⟩ := nats_of (ys := ys) fun z hz => h z (by simp [hz])
    exact ⟨n :: ns, rfl⟩
theorem bls_of {C : Nat → Bool → Prop} {vs : List V} (h : ∀ (i : Nat) (y : V), vs[i]? = some y → ∃ b : Bool, y = .bl b ∧ C i b) : ∃ bs : List Bool, vs = bs.map V.bl ∧ ∀ (i : Nat) (b : Bool), bs[i]? = some b → C i b := by
  induction vs generalizing C with
  | nil => exact ⟨[], rfl, by simp⟩
  | cons v vs ih =>
    obtain ⟨b, rfl, hb⟩ := h 0 v rfl
    obtain ⟨bs, rfl, hbs⟩ := ih (C := fun i => C (i + 1)) fun i y hy => h (i + 1) y (by simpa using hy)
    refine ⟨b :: bs, rfl, fun i b' hb' => ?_⟩
    cases i with
    | zero =>
      have : b = b' := by simpa using hb'
      subst this
      exact hb
    | succ i => exact hbs i b' (by simpa using hb')
theorem pw_adj {α : Type} {R : α → α → Prop} (tr : ∀ a b c, R a b → R b c → R a c) : ∀ {l : List α}, (∀ (i : Nat) (x y : α), l[i]? = some x → l[i + 1]? = some y → R x y) → l.Pairwise R
  | [], _ => .nil
  | [x], _ => List.pairwise_singleton _ _
  | x :: y :: r, h => by
    have ih := pw_adj tr (l := y :: r) fun i a b ha hb => h (i + 1) a b (by simpa using ha) (by simpa using hb)
    refine List.pairwise_cons.mpr ⟨fun z hz => ?_, ih⟩
    have h0 := h 0 x y rfl rfl
    rcases List.mem_cons.mp hz with rfl | hz
    · exact h0
    · exact tr _ _ _ h0 ((List.pairwise_cons.mp ih).1 z hz)
theorem adj_pw {α : Type} {R : α → α → Prop} {l : List α} (h : l.Pairwise R) {i : Nat} {x y : α} (hx : l[i]? = some x) (hy : l[i + 1]? = some y) : R x y := by
  obtain ⟨h1, e1⟩ := List.getElem?_eq_some_iff.mp hx
  obtain ⟨h2, e2⟩ := List.getElem?_eq_some_iff.mp hy
  have := List.pairwise_iff_getElem.mp h i (i + 1) h1 h2 (by omega)
  rw [e1, e2] at this
  exact this
theorem nV_at {ns : List Nat} {i : Nat} (h : i < ns.length) : (ns.map nV)[i]? = some (nV (ns[i])) := by rw [List.getElem?_map, List.getElem?_eq_getElem h]; rfl
section
variable {P : Program} {w : World} {K : PySem.W.Frag} {mg : Str → Option Value} {base : Heap}
theorem ok_islabel {f : Addr} {fd : FuncData} (T : Txt K mg) (F : Fun K "is_label" "is_label" s_is_label f fd) : FnOk P w K mg base CX0 1 f fd ["thing"] spIsLabel := by
  obtain ⟨tk_LETTERS, g_LETTERS⟩ := T.g_LETTERS
  refine F.ok sc_is_label (fun vs H Q E h => ?_) (fun cdv A outer s H vs Q E hr h => ?_)
  · obtain ⟨z, rfl, _⟩ := h
    rfl
  · obtain ⟨z, rfl, ⟨l1, l8, hz⟩, q⟩ := h
    refine ⟨_,
      (pss_one
        (ps_ret (pe_and (pe_callB (r := rIsi K) call_isi (by rfl) T.n_isinstance (by decide +kernel) (pa_cons (pv 0) (pa_cons (pe_bltn (v := .ty "str") (u := .type "str") (by rfl) T.n_str (by decide +kernel) rfl) pa_nil))) (pe_and (pe_chain op_le op_le pe_int (pe_callB c_lenS (by rfl) T.n_len (by decide +kernel) (pa_cons (pv 0) pa_nil)) pe_int) (pe_one (pe_callB (r := rAll K) (cr_all rfl) (by rfl) T.n_all (by decide +kernel) (pa_cons (pe_lc (own := [("sign", 1)]) (g := (gName 1)) rfl sc_is_label.nd (pi_str (pv 0)) (blkOk_by (own := [("sign", 1)]) (N := N_is_label) (sc := defScope s_is_label) (by decide +kernel)) (fun _ _ _ _ _ => (pg_name (i := 1) sc_is_label.nd rfl (.inl rfl))) (fun _ _ _ _ _ => pts_nil) (fun _ _ _ _ _ => (pe_cmpR o_inS (pv 1) (pe_glob (v := .str "abcdefghijklmnopqrstuvwxyz") rfl g_LETTERS ⟨_, rfl⟩) rfl))) pa_nil)))))))
      , ?_⟩
    rw [show L2.start N_is_label [V.str z] = [some (.str z), none] from rfl]
    walk_at "x"
    refine w_lenS (Nat.le_trans l8 (by decide)) ?_
    walk_at "g"
    refine w_yes (by omega) ?_
    walk_at "g"
    refine w_yes (by omega) ?_
    walk_at "g"
    refine lcp_map (walk_str z) [] ((z.cps.toList.map fun c => true).map V.bl) (by simp) (by show z.length ≤ 1000000; omega) (fun _ _ => trivial) ?_ (by simp) ?_
    · rintro i x H1 H2 R hi k1 ⟨rfl, c, hc, rfl⟩ hR
      have hc' : z.cps.toList[i]? = some c := by rw [Array.getElem?_toList]; exact hc
      refine w_name ⟨rfl, ?_⟩
      walk_at "g"
      refine hR _ _ ?_ Kp.refl
      rw [List.getElem?_map, List.getElem?_map, hc', decide_eq_true (hz c (List.mem_of_getElem? hc'))]
      rfl
    · intro L H1 hL k1 eL
      walk_at "g"
      rw [show (z.cps.toList.map fun c => true).all id = true by simp]
      exact q _ k1.same
theorem ok_riseT {f : Addr} {fd : FuncData} (T : Txt K mg) (F : Fun K "rise" "rise" s_rise f fd) : FnOk P w K mg base CX0 1 f fd ["row"] spRiseT := by
  refine F.ok sc_rise (fun vs H Q E h => ?_) (fun cdv A outer s H vs Q E hr h => ?_)
  · obtain ⟨r, ns, rfl, _⟩ := h
    rfl
  · obtain ⟨r, ns, rfl, hr', hl, q1, q2⟩ := h
    refine ⟨_,
      (pss_one
        (ps_ret (pe_callB (r := rAll K) (cr_all rfl) (by rfl) T.n_all (by decide +kernel) (pa_cons (pe_lc (own := [("k", 1)]) (g := (gName 1)) rfl sc_rise.nd (pi_range2 (by rfl) T.n_range (pa_cons pe_int (pa_cons (pe_callB (r := rLen K) c_len (by rfl) T.n_len (by decide +kernel) (pa_cons (pv 0) pa_nil)) pa_nil))) (blkOk_by (own := [("k", 1)]) (N := N_rise) (sc := defScope s_rise) (by decide +kernel)) (fun _ _ _ _ _ => (pg_name (i := 1) sc_rise.nd rfl (.inl rfl))) (fun _ _ _ _ _ => pts_nil) (fun _ _ _ _ _ => (pe_cmpR op_lt (pe_ix (r := rIxT K) ix_tup (pv 0) (pe_op op_sub (pv 1) pe_int) (fun _ _ => rfl)) (pe_ix (r := rIxT K) ix_tup (pv 0) (pv 1) (fun _ _ => rfl)) (nomark _)))) pa_nil))))
      , ?_⟩
    rw [show L2.start N_rise [V.ref r] = [some (.ref r), none] from rfl]
    walk_at "x"
    try refine w_rng2' (by simp only [List.length_map]; omega) ?_
    refine lcp_map (walk_range (lo := 1) (n := ((((ns.map nV).length : Nat) : Int) - 1).toNat)) [] (((List.range (ns.length - 1)).map fun i => decide (ns.getD i 0 < ns.getD (i + 1) 0)).map V.bl) (by simp only [List.length_map, List.length_range]; omega) (by simp only [List.length_map]; omega) (fun _ _ => trivial) ?_ (by simp) ?_
    · rintro i x H1 H2 R hi k1 ⟨rfl, rfl⟩ hR
      have hi' : i + 1 < ns.length := by
        simp only [List.length_map] at hi
        omega
      have hr1 := k1.same _ _ hr'
      have at1 : atI (ns.map nV) (1 + (i : Int) - 1) = some (.int ((ns.getD i 0 : Nat) : Int)) := by
        rw [show (1 : Int) + (i : Int) - 1 = ((i : Nat) : Int) by omega]
        refine atI_nat ?_
        rw [nV_at (by omega), List.getD_eq_getElem?_getD, List.getElem?_eq_getElem (by omega)]
        rfl
      have at2 : atI (ns.map nV) (1 + (i : Int)) = some (.int ((ns.getD (i + 1) 0 : Nat) : Int)) := by
        rw [show (1 : Int) + (i : Int) = ((i + 1 : Nat) : Int) by omega]
        refine atI_nat ?_
        rw [nV_at hi', List.getD_eq_getElem?_getD, List.getElem?_eq_getElem hi']
        rfl
      refine w_name ⟨rfl, ?_⟩
      walk_at "g"
      refine hR _ _ ?_ Kp.refl
      rw [List.getElem?_map, List.getElem?_map, List.getElem?_range (by omega)]
      show some (V.bl (decide (ns.getD i 0 < ns.getD (i + 1) 0))) = some (V.bl (decide (((ns.getD i 0 : Nat) : Int) < ((ns.getD (i + 1) 0 : Nat) : Int))))
      congr 2
      rw [Bool.eq_iff_iff, decide_eq_true_iff, decide_eq_true_iff]
      omega
    · intro L H1 hL k1 eL
      walk_at "g"
      have gd : ∀ {i : Nat} {x : Nat}, ns[i]? = some x → ns.getD i 0 = x := fun {i x} h => by rw [List.getD_eq_getElem?_getD, h]; rfl
      by_cases h : ns.Pairwise (· < ·)
      · have e : ((List.range (ns.length - 1)).map fun i => decide (ns.getD i 0 < ns.getD (i + 1) 0)).all id = true := by
          rw [List.all_eq_true]
          intro b hb
          obtain ⟨i, hi, rfl⟩ := List.mem_map.mp hb
          rw [List.mem_range] at hi
          refine decide_eq_true ?_
          have h1 := List.getElem?_eq_getElem (show i < ns.length by omega)
          have h2 := List.getElem?_eq_getElem (show i + 1 < ns.length by omega)
          rw [gd h1, gd h2]
          exact adj_pw h h1 h2
        rw [e]
        exact q1 h _ k1.same
      · have e : ((List.range (ns.length - 1)).map fun i => decide (ns.getD i 0 < ns.getD (i + 1) 0)).all id = false := by
          rw [Bool.eq_false_iff]
          intro hall
          rw [List.all_eq_true] at hall
          refine h (pw_adj (R := (· < ·)) (fun a b c h1 h2 => Nat.lt_trans h1 h2) fun i x y hx hy => ?_)
          have hi : i < ns.length - 1 := by have := (List.getElem?_eq_some_iff.mp hy).1; omega
          have := of_decide_eq_true (hall _ (List.mem_map.mpr ⟨i, List.mem_range.mpr hi, rfl⟩))
          rwa [gd hx, gd hy] at this
        rw [e]
        exact q2 h _ k1.same
theorem ok_riseS {f : Addr} {fd : FuncData} (T : Txt K mg) (F : Fun K "rise" "rise" s_rise f fd) : FnOk P w K mg base CX0 1 f fd ["row"] spRiseS := by
  refine F.ok sc_rise (fun vs H Q E h => ?_) (fun cdv A outer s H vs Q E hr h => ?_)
  · obtain ⟨r, zs, rfl, _⟩ := h
    rfl
  · obtain ⟨r, zs, rfl, hr', hl, hp, q⟩ := h
    refine ⟨_,
      (pss_one
        (ps_ret (pe_callB (r := rAll K) (cr_all rfl) (by rfl) T.n_all (by decide +kernel) (pa_cons (pe_lc (own := [("k", 1)]) (g := (gName 1)) rfl sc_rise.nd (pi_range2 (by rfl) T.n_range (pa_cons pe_int (pa_cons (pe_callB (r := rLen K) c_len (by rfl) T.n_len (by decide +kernel) (pa_cons (pv 0) pa_nil)) pa_nil))) (blkOk_by (own := [("k", 1)]) (N := N_rise) (sc := defScope s_rise) (by decide +kernel)) (fun _ _ _ _ _ => (pg_name (i := 1) sc_rise.nd rfl (.inl rfl))) (fun _ _ _ _ _ => pts_nil) (fun _ _ _ _ _ => (pe_cmpR o_ltS (pe_ix (r := rIxL K) ix_list (pv 0) (pe_op op_sub (pv 1) pe_int) (fun _ _ => rfl)) (pe_ix (r := rIxL K) ix_list (pv 0) (pv 1) (fun _ _ => rfl)) (nomark _)))) pa_nil))))
      , ?_⟩
    rw [show L2.start N_rise [V.ref r] = [some (.ref r), none] from rfl]
    walk_at "x"
    try refine w_rng2' (by simp only [List.length_map]; omega) ?_
    refine lcp_map (walk_range (lo := 1) (n := ((((zs.map V.str).length : Nat) : Int) - 1).toNat)) [] (((List.range (zs.length - 1)).map fun i => true).map V.bl) (by simp only [List.length_map, List.length_range]; omega) (by simp only [List.length_map]; omega) (fun _ _ => trivial) ?_ (by simp) ?_
    · rintro i x H1 H2 R hi k1 ⟨rfl, rfl⟩ hR
      have hi' : i + 1 < zs.length := by
        simp only [List.length_map] at hi
        omega
      have hr1 := k1.same _ _ hr'
      have g1 := List.getElem?_eq_getElem (show i < zs.length by omega)
      have g2 := List.getElem?_eq_getElem hi'
      have at1 : atI (zs.map V.str) (1 + (i : Int) - 1) = some (.str zs[i]) := by
        rw [show (1 : Int) + (i : Int) - 1 = ((i : Nat) : Int) by omega]
        exact atI_nat (by rw [List.getElem?_map, g1]; rfl)
      have at2 : atI (zs.map V.str) (1 + (i : Int)) = some (.str zs[i + 1]) := by
        rw [show (1 : Int) + (i : Int) = ((i + 1 : Nat) : Int) by omega]
        exact atI_nat (by rw [List.getElem?_map, g2]; rfl)
      refine w_name ⟨rfl, ?_⟩
      walk_at "g"
      refine hR _ _ ?_ Kp.refl
      rw [List.getElem?_map, List.getElem?_map, List.getElem?_range (by omega), decide_eq_true (adj_pw hp g1 g2)]
      rfl
    · intro L H1 hL k1 eL
      walk_at "g"
      rw [show ((List.range (zs.length - 1)).map fun i => true).all id = true by simp]
      exact q _ k1.same
theorem ok_areints {f fI : Addr} {fd fdI : FuncData} (T : Txt K mg) (F : Fun K "are_ints" "are_ints" s_are_ints f fd) (D_is_int : DfD K mg "is_int" s_is_int ["thing", "least"] [.int 0] fI fdI) : FnOk P w K mg base CX0 2 f fd ["thing"] spAreInts := by
  obtain ⟨ds_is_int, V_is_int, B_is_int⟩ := D_is_int.b
  have G_is_int : FnOk P w K mg base CX0 1 fI fdI ["thing", "least"] spIsInt := ok_isint T D_is_int
  refine F.ok sc_are_ints (fun vs H Q E h => ?_) (fun cdv A outer s H vs Q E hr h => ?_)
  · obtain ⟨x, B, rfl, _⟩ := h
    rfl
  · obtain ⟨x, B, rfl, hd, hB, q1, q2⟩ := h
    refine ⟨_,
      (pss_one
        (ps_ret (pe_and (pe_callB (r := rIsi K) call_isi (by rfl) T.n_isinstance (by decide +kernel) (pa_cons (pv 0) (pa_cons (pe_bltn (v := .ty "tuple") (u := .type "tuple") (by rfl) T.n_tuple (by decide +kernel) rfl) pa_nil))) (pe_one (pe_callB (r := rAll K) (cr_all rfl) (by rfl) T.n_all (by decide +kernel) (pa_cons (pe_lc (own := [("part", 1)]) (g := (gName 1)) rfl sc_are_ints.nd (pi_tup (pv 0)) (blkOk_by (own := [("part", 1)]) (N := N_are_ints) (sc := defScope s_are_ints) (by decide +kernel)) (fun _ _ _ _ _ => (pg_name (i := 1) sc_are_ints.nd rfl (.inl rfl))) (fun _ _ _ _ _ => pts_nil) (fun _ _ _ _ _ => (pe_call G_is_int (hr.mono (by omega)) (by rfl) D_is_int.g D_is_int.kp B_is_int V_is_int pass0 (pa_cons (pv 1) pa_nil)))) pa_nil))))))
      , ?_⟩
    rw [show L2.start N_are_ints [x] = [some x, none] from rfl]
    walk_at "x"
    rcases hd.cases with ⟨ay, ty, hne⟩ | ⟨a, xs, rfl, ea, hxB, hxs⟩
    · refine w_isTup ty ?_
      rw [decide_eq_false hne]
      walk_at "g"
      refine q2 ?_ _ (fun _ _ z => z)
      rintro ns ⟨a, rfl, h⟩
      exact hne (ty.ofTup h)
    walk_at "g"
    refine lcp_gen (walk_tup (K := K) (a := a) (xs := xs)) [] (fun i y _ => ∃ bb : Bool, y = .bl bb ∧ ∀ z, xs[i]? = some z → (bb = true ↔ ∃ n : Nat, z = nV n)) (fun _ _ => True) (by omega) (fun _ _ _ _ _ h => h) (fun _ _ _ _ _ _ => trivial) (fun _ H1 k _ => .of (k _ _ (by simp) ea)) trivial ?_ (by simp) ?_
    · rintro i y H2 H3 R hi k2 t2 _ ⟨rfl, hy⟩ hR
      obtain ⟨a1, t1⟩ := ((hxs y (List.mem_of_getElem? hy)).kd (KD.of k2.same)).ty
      refine w_name ⟨rfl, ?_⟩
      walk_at "g"
      refine ⟨y, a1, rfl, t1, fun n hn => ?_, fun hn => ?_⟩
      · refine hR _ _ ⟨true, rfl, fun z hz => ⟨fun _ => ⟨n, ?_⟩, fun _ => rfl⟩⟩ Kp.refl KT.refl trivial
        rw [hy] at hz
        cases hz
        exact hn
      · refine hR _ _ ⟨false, rfl, fun z hz => ⟨fun h => Bool.noConfusion h, fun ⟨n, e⟩ => ?_⟩⟩ Kp.refl KT.refl trivial
        rw [hy] at hz
        cases hz
        exact absurd e (hn n)
    · intro L H2 vs hvl hvp hL k2' t2 _ eL
      have k2 := k2'.same
      obtain ⟨bs, rfl, hbs⟩ := bls_of hvp
      rw [List.length_map] at hvl
      walk_at "g"
      by_cases hall : ∀ y ∈ xs, ∃ n : Nat, y = nV n
      · have e : bs.all id = true := by
          rw [List.all_eq_true]
          intro b hb
          obtain ⟨i, hi, rfl⟩ := List.getElem_of_mem hb
          have hi2 : i < xs.length := by omega
          exact ((hbs i bs[i] (List.getElem?_eq_getElem hi)) xs[i] (List.getElem?_eq_getElem hi2)).mpr (hall _ (List.getElem_mem hi2))
        rw [e]
        obtain ⟨ns, rfl⟩ := nats_of hall
        exact q1 ns ⟨a, rfl, ea⟩ _ k2
      · have e : bs.all id = false := by
          rw [Bool.eq_false_iff]
          intro h
          rw [List.all_eq_true] at h
          refine hall fun y hy => ?_
          obtain ⟨i, hi, rfl⟩ := List.getElem_of_mem hy
          have hi2 : i < bs.length := by omega
          exact ((hbs i bs[i] (List.getElem?_eq_getElem hi2)) xs[i] (List.getElem?_eq_getElem hi)).mp (h _ (List.getElem_mem hi2))
        rw [e]
        refine q2 ?_ _ k2
        rintro ns ⟨a', e', h⟩
        cases e'
        rw [ea] at h
        cases h
        exact hall fun y hy => by
          obtain ⟨n, _, rfl⟩ := List.mem_map.mp hy
          exact ⟨n, rfl⟩
theorem ok_risingints {f fA fR fI : Addr} {fd fdA fdR fdI : FuncData} (T : Txt K mg) (F : Fun K "rising_ints" "rising_ints" s_rising_ints f fd) (D_are_ints : Df K mg "are_ints" s_are_ints ["thing"] fA fdA) (D_rise : Df K mg "rise" s_rise ["row"] fR fdR) (D_is_int : DfD K mg "is_int" s_is_int ["thing", "least"] [.int 0] fI fdI) : FnOk P w K mg base CX0 3 f fd ["thing"] spRisingInts := by
  have G_are_ints : FnOk P w K mg base CX0 2 fA fdA ["thing"] spAreInts := ok_areints T D_are_ints.fn D_is_int
  have G_rise : FnOk P w K mg base CX0 1 fR fdR ["row"] spRiseT := ok_riseT T D_rise.fn
  refine F.ok sc_rising_ints (fun vs H Q E h => ?_) (fun cdv A outer s H vs Q E hr h => ?_)
  · obtain ⟨x, B, rfl, _⟩ := h
    rfl
  · obtain ⟨x, B, rfl, hd, hB, q1, q2⟩ := h
    refine ⟨_,
      (pss_one
        (ps_ret (pe_and (pe_call G_are_ints (hr.mono (by omega)) (by rfl) D_are_ints.g D_are_ints.fn.kp D_are_ints.b .nil pass0 (pa_cons (pv 0) pa_nil)) (pe_one (pe_call G_rise (hr.mono (by omega)) (by rfl) D_rise.g D_rise.fn.kp D_rise.b .nil pass0 (pa_cons (pv 0) pa_nil))))))
      , ?_⟩
    rw [show L2.start N_rising_ints [x] = [some x] from rfl]
    walk_at "x"
    refine ⟨x, B, rfl, hd, hB, fun ns hns H1 k1 => ?_, fun hn H1 k1 => ?_⟩
    · walk_at "g"
      have hns' := hns
      obtain ⟨a, rfl, ea⟩ := hns
      have hlen : ns.length ≤ 1000 := by
        have := (hd.elem ea).1
        rw [List.length_map] at this
        omega
      refine ⟨a, ns, rfl, k1 _ _ ea, hlen, fun hp H2 k2 => ?_, fun hp H2 k2 => ?_⟩
      · exact q1 ns hns' hp _ (Same.trans k1 k2)
      · refine q2 ?_ _ (Same.trans k1 k2)
        rintro ns' ⟨a', e, h⟩
        cases e
        rw [ea] at h
        have e2 := Option.some.inj h
        injection e2 with e2
        rw [← nV_inj e2]
        exact hp
    · walk_at "g"
      exact q2 (fun ns h => absurd h (hn ns)) _ k1
theorem ok_arerows {f fT : Addr} {fd fdT : FuncData} (T : Txt K mg) (F : Fun K "are_rows" "are_rows" s_are_rows f fd) (D_is_text : DfD K mg "is_text" s_is_text ["thing", "most"] [.int 40] fT fdT) : FnOk P w K mg base CX0 2 f fd ["thing"] spAreRows := by
  obtain ⟨ds_is_text, V_is_text, B_is_text⟩ := D_is_text.b
  have G_is_text : FnOk P w K mg base CX0 1 fT fdT ["thing", "most"] spIsText := ok_istext T D_is_text
  refine F.ok sc_are_rows (fun vs H Q E h => ?_) (fun cdv A outer s H vs Q E hr h => ?_)
  · obtain ⟨r, rows, rfl, _⟩ := h
    rfl
  · obtain ⟨r, rows, rfl, hr', hl, hz, q⟩ := h
    have hr0 : H r = some (.tup (rows.map V.str)) := hr'
    refine ⟨_,
      (pss_one
        (ps_ret (pe_and (pe_callB (r := rIsi K) call_isi (by rfl) T.n_isinstance (by decide +kernel) (pa_cons (pv 0) (pa_cons (pe_bltn (v := .ty "tuple") (u := .type "tuple") (by rfl) T.n_tuple (by decide +kernel) rfl) pa_nil))) (pe_and (pe_cmpR op_le (pe_callB (r := rLen K) c_len (by rfl) T.n_len (by decide +kernel) (pa_cons (pv 0) pa_nil)) pe_int (nomark _)) (pe_one (pe_callB (r := rAll K) (cr_all rfl) (by rfl) T.n_all (by decide +kernel) (pa_cons (pe_lc (own := [("row", 1)]) (g := (gName 1)) rfl sc_are_rows.nd (pi_tup (pv 0)) (blkOk_by (own := [("row", 1)]) (N := N_are_rows) (sc := defScope s_are_rows) (by decide +kernel)) (fun _ _ _ _ _ => (pg_name (i := 1) sc_are_rows.nd rfl (.inl rfl))) (fun _ _ _ _ _ => pts_nil) (fun _ _ _ _ _ => (pe_call G_is_text (hr.mono (by omega)) (by rfl) D_is_text.g D_is_text.kp B_is_text V_is_text pass0 (pa_cons (pv 1) pa_nil)))) pa_nil)))))))
      , ?_⟩
    rw [show L2.start N_are_rows [V.ref r] = [some (.ref r), none] from rfl]
    walk_at "x"
    refine w_yes (by rw [List.length_map]; omega) ?_
    walk_at "g"
    refine lcp_map (walk_tup (K := K) (a := r) (xs := rows.map V.str)) [] ((rows.map fun _ => true).map V.bl) (by simp) (by rw [List.length_map]; omega) (fun H' k => .of (k _ _ (by simp) hr0)) ?_ (by simp) ?_
    · rintro i x H1 H2 R hi k1 ⟨rfl, hx⟩ hR
      obtain ⟨z, hz', rfl⟩ := map_at hx
      have hzo := hz z (List.mem_of_getElem? hz')
      refine w_name ⟨rfl, ?_⟩
      walk_at "g"
      refine ⟨.str z, 40, rfl, .leaf (.str z) (by decide) (fun z' e => by cases e; exact hzo.1), by omega, fun _ _ _ H3 k3 => ?_, fun hn => absurd hzo (hn z rfl)⟩
      refine hR _ _ ?_ (Kp.of k3)
      rw [List.getElem?_map, List.getElem?_map, hz']
      rfl
    · intro L H1 hL k1 eL
      walk_at "g"
      rw [show (rows.map fun _ => true).all id = true by simp]
      exact q _ k1.same
end
/-! ### a book's own defs -/
def spIsName (P : Program) (w : World) (C : Addr) : Sp := fun vs H Q _ => ∃ (p dx lc ld lg : Addr) (cs : List (Addr × Ct)) (ds : List Nat) (x : V) (a : String), vs = [.ref p, x] ∧ BookAt P w C H p dx lc ld lg cs ds ∧ Ty H x a ∧ (∀ n : Nat, x = nV n → n < cs.length → Q (.bl true) H) ∧ ((∀ n : Nat, x = nV n → ¬ n < cs.length) → Q (.bl false) H)
def spIsKind (P : Program) (w : World) (C : Addr) : Sp := fun vs H Q _ => ∃ (p dx lc ld lg : Addr) (cs : List (Addr × Ct)) (ds : List Nat) (x : V) (a : String) (k : Str), vs = [.ref p, x, .str k] ∧ BookAt P w C H p dx lc ld lg cs ds ∧ Ty H x a ∧ (∀ (n : Nat) (q : Addr × Ct), x = nV n → cs[n]? = some q → Q (.bl (decide (q.2.word = k))) H) ∧ ((∀ n : Nat, x = nV n → ¬ n < cs.length) → Q (.bl false) H)
def spIsPair2 : Sp := fun vs H Q _ => ∃ (a : Addr) (x y : V), vs = [.ref a] ∧ H a = some (.tup [x, y]) ∧ Q (.bl true) H
def spIsEntry (P : Program) (w : World) (C : Addr) : Sp := fun vs H Q _ => ∃ (p dx lc ld lg e : Addr) (cs : List (Addr × Ct)) (ds : List Nat) (z : Str) (n : Nat) (q : Addr × Ct), vs = [.ref p, .ref e] ∧ BookAt P w C H p dx lc ld lg cs ds ∧ H e = some (.tup [.str z, nV n]) ∧ LabOk z ∧ cs[n]? = some q ∧ q.2.word ≠ "version" ∧ ∀ H', Same H H' → Q (.bl true) H'
def spDepth (C : Addr) : Sp := fun vs H Q _ => ∃ (p dx lc ld lg a : Addr) (ds : List Nat) (c : Ct), vs = [.ref p, .ref a] ∧ H p = some (.ins C dx [("contents", .ref lc), ("depths", .ref ld), ("given", .ref lg)]) ∧ H ld = some (.lst (ds.map nV)) ∧ CtAt H a c ∧ (∀ es, c = .tree es → es.length ≤ 20 ∧ ∀ e ∈ es, e.2 < ds.length) ∧ ∀ H', Same H H' → Q (nV (depOf ds c)) H'
def spIsTree (P : Program) (w : World) (C : Addr) : Sp := fun vs H Q _ => ∃ (p dx lc ld lg r : Addr) (cs : List (Addr × Ct)) (ds : List Nat) (qs : List (Addr × Str × Nat)), vs = [.ref p, .ref r] ∧ BookAt P w C H p dx lc ld lg cs ds ∧ H r = some (.tup (qs.map fun q => .ref q.1)) ∧ (∀ q ∈ qs, H q.1 = some (.tup [.str q.2.1, nV q.2.2])) ∧ CtOk (cs.map (·.2)) ds (.tree (qs.map (·.2))) ∧ ∀ H', Same H H' → Q (.bl true) H'
def spIsContent (P : Program) (w : World) (C : Addr) : Sp := fun vs H Q _ => ∃ (p dx lc ld lg a : Addr) (cs : List (Addr × Ct)) (ds : List Nat) (c : Ct), vs = [.ref p, .ref a] ∧ BookAt P w C H p dx lc ld lg cs ds ∧ CtAt H a c ∧ CtOk (cs.map (·.2)) ds c ∧ ∀ H', Same H H' → Q (.bl true) H'
def spIsVersion (P : Program) (w : World) (C : Addr) : Sp := fun vs H Q _ => ∃ (p dx lc ld lg a : Addr) (cs : List (Addr × Ct)) (ds : List Nat) (ps : List Nat) (root stamp : Nat), vs = [.ref p, .ref a] ∧ BookAt P w C H p dx lc ld lg cs ds ∧ CtAt H a (.ver ps root stamp) ∧ CtOk (cs.map (·.2)) ds (.ver ps root stamp) ∧ ∀ H', Same H H' → Q (.bl true) H'
def spBookInit (P : Program) (w : World) (C : Addr) : Sp := fun vs H Q _ => ∃ (p dx : Addr), vs = [.ref p] ∧ H p = some (.ins C dx []) ∧ ∀ (lc ld lg : Addr) (H' : Hp), H lc = none → H ld = none → H lg = none → BookAt P w C H' p dx lc ld lg [] [] → Kp [p] H H' → Q .non H'
/-- what naming a content makes of a book -/
def spNamed (P : Program) (w : World) (C : Addr) : Sp := fun vs H Q _ => ∃ (p dx lc ld lg a : Addr) (cs : List (Addr × Ct)) (ds : List Nat) (c : Ct), vs = [.ref p, .ref a] ∧ BookAt P w C H p dx lc ld lg cs ds ∧ CtAt H a c ∧ CtOk (cs.map (·.2)) ds c ∧ cs.length < 400 ∧
  (∀ (j : Nat) (b : Addr) (H' : Hp), cs[j]? = some (b, c) → Same H H' → Q (nV j) H') ∧ ((∀ q ∈ cs, q.2 ≠ c) → ∀ H', BookAt P w C H' p dx lc ld lg (cs ++ [(a, c)]) (ds ++ [depOf ds c]) → Kp [lc, ld, lg] H H' → KT H H' → Q (nV cs.length) H')
def spThing (P : Program) (w : World) (C : Addr) : Sp := fun vs H Q _ => ∃ (p dx lc ld lg : Addr) (cs : List (Addr × Ct)) (ds : List Nat) (n : Nat) (q : Addr × Ct), vs = [.ref p, nV n] ∧ BookAt P w C H p dx lc ld lg cs ds ∧ cs[n]? = some q ∧ Q (.ref q.1) H
def spKind (P : Program) (w : World) (C : Addr) : Sp := fun vs H Q _ => ∃ (p dx lc ld lg : Addr) (cs : List (Addr × Ct)) (ds : List Nat) (n : Nat) (q : Addr × Ct), vs = [.ref p, nV n] ∧ BookAt P w C H p dx lc ld lg cs ds ∧ cs[n]? = some q ∧ Q (.str q.2.word) H
def spPartsV (P : Program) (w : World) (C : Addr) : Sp := fun vs H Q _ => ∃ (p dx lc ld lg : Addr) (cs : List (Addr × Ct)) (ds : List Nat) (n : Nat) (a : Addr) (ps : List Nat) (root stamp : Nat), vs = [.ref p, nV n] ∧ BookAt P w C H p dx lc ld lg cs ds ∧ cs[n]? = some (a, .ver ps root stamp) ∧ ps.length ≤ 900 ∧ ∀ H' r, Same H H' → H' r = some (.tup ((ps ++ [root]).map nV)) → Q (.ref r) H'
theorem CtAt.head {H : Hp} {a : Addr} {c : Ct} (h : CtAt H a c) : ∃ xs, H a = some (.tup (.str c.word :: xs)) := by
  cases c with
  | leaf rows => obtain ⟨r, h1, _⟩ := h; exact ⟨_, h1⟩
  | tree es => obtain ⟨r, qs, h1, _⟩ := h; exact ⟨_, h1⟩
  | ver ps root stamp => obtain ⟨r, h1, _⟩ := h; exact ⟨_, h1⟩
theorem fold_max (m : Nat) : ∀ (ns : List Nat) (b : Nat), (m = b ∨ m ∈ ns) → b ≤ m → (∀ y ∈ ns, y ≤ m) → ns.foldl max b = m
  | [], b, h, _, _ => by
    rcases h with h | h
    · exact h.symm
    · cases h
  | n :: ns, b, h, hb, hall => by
    show ns.foldl max (max b n) = m
    have hn := hall n (by simp)
    refine fold_max m ns (max b n) ?_ (by omega) fun y hy => hall y (by simp [hy])
    rcases h with h | h
    · exact .inl (by omega)
    · rcases List.mem_cons.mp h with h | h
      · exact .inl (by omega)
      · exact .inr h
theorem small1k {n : Nat} (h : n ≤ 1000) : n ≤ sizeLine := Nat.le_trans h (by decide)
theorem small1kl {n : Nat} (h : n ≤ 1000) : n < sizeLine := Nat.lt_of_le_of_lt h (by decide)
section
variable {P : Program} {w : World} {K : PySem.W.Frag} {mg : Str → Option Value} {base : Heap} {C : Addr}
theorem ok_isname {f fI : Addr} {fd fdI : FuncData} (T : Txt K mg) (F : Fun K "is_name" "is_name" s_is_name f fd) (K_Book : Kl K mg "Book" C ["contents", "depths", "given"]) (D_is_int : DfD K mg "is_int" s_is_int ["thing", "least"] [.int 0] fI fdI) : FnOk P w K mg base CX0 2 f fd ["book", "thing"] (spIsName P w C) := by
  obtain ⟨ds_is_int, V_is_int, B_is_int⟩ := D_is_int.b
  have G_is_int : FnOk P w K mg base CX0 1 fI fdI ["thing", "least"] spIsInt := ok_isint T D_is_int
  have cl := K_Book.cl
  have n1 := K_Book.na "contents" (by simp)
  refine F.ok sc_is_name (fun vs H Q E h => ?_) (fun cdv A outer s H vs Q E hr h => ?_)
  · obtain ⟨p, dx, lc, ld, lg, cs, ds, x, a, rfl, _⟩ := h
    rfl
  · obtain ⟨p, dx, lc, ld, lg, cs, ds, x, a, rfl, B, t, q1, q2⟩ := h
    have ob := B.ob
    have co := B.co
    refine ⟨_,
      (pss_one
        (ps_ret (pe_and (pe_call G_is_int (hr.mono (by omega)) (by rfl) D_is_int.g D_is_int.kp B_is_int V_is_int pass0 (pa_cons (pv 1) pa_nil)) (pe_one (pe_cmpR op_lt (pv 1) (pe_callB (r := rLen K) c_len (by rfl) T.n_len (by decide +kernel) (pa_cons (pe_fldK (K := K) rfl (pv 0) rfl) pa_nil)) (nomark _))))))
      , ?_⟩
    rw [show L2.start N_is_name [V.ref p, x] = [some (.ref p), some x] from rfl]
    walk_at "x"
    refine ⟨x, a, rfl, t, fun n hn => ?_, fun hn => ?_⟩
    · subst hn
      walk_at "g"
      by_cases h : n < cs.length
      · rw [decide_eq_true (by rw [List.length_map]; omega)]
        exact q1 n rfl h
      · rw [decide_eq_false (by rw [List.length_map]; omega)]
        exact q2 fun m e => by
          have : (n : Int) = m := V.int.inj e
          omega
    · walk_at "g"
      exact q2 fun n e => absurd e (hn n)
theorem ok_iskind {f fN fI : Addr} {fd fdN fdI : FuncData} (T : Txt K mg) (F : Fun K "is_kind" "is_kind" s_is_kind f fd) (K_Book : Kl K mg "Book" C ["contents", "depths", "given"]) (D_is_name : Df K mg "is_name" s_is_name ["book", "thing"] fN fdN) (D_is_int : DfD K mg "is_int" s_is_int ["thing", "least"] [.int 0] fI fdI) : FnOk P w K mg base CX0 3 f fd ["book", "thing", "kind"] (spIsKind P w C) := by
  have G_is_name : FnOk P w K mg base CX0 2 fN fdN ["book", "thing"] (spIsName P w C) := ok_isname T D_is_name.fn K_Book D_is_int
  have cl := K_Book.cl
  have n1 := K_Book.na "contents" (by simp)
  refine F.ok sc_is_kind (fun vs H Q E h => ?_) (fun cdv A outer s H vs Q E hr h => ?_)
  · obtain ⟨p, dx, lc, ld, lg, cs, ds, x, a, k, rfl, _⟩ := h
    rfl
  · obtain ⟨p, dx, lc, ld, lg, cs, ds, x, a, k, rfl, B, t, q1, q2⟩ := h
    have ob := B.ob
    have co := B.co
    refine ⟨_,
      (pss_one
        (ps_ret (pe_and (pe_call G_is_name (hr.mono (by omega)) (by rfl) D_is_name.g D_is_name.fn.kp D_is_name.b .nil pass0 (pa_cons (pv 0) (pa_cons (pv 1) pa_nil))) (pe_one (pe_cmpR op_eq (pe_ix (r := rIxT K) ix_tup (pe_ix (r := rIxL K) ix_list (pe_fldK (K := K) rfl (pv 0) rfl) (pv 1) (fun _ _ => rfl)) pe_int (fun _ _ => rfl)) (pv 2) (nomark _))))))
      , ?_⟩
    rw [show L2.start N_is_kind [V.ref p, x, V.str k] = [some (.ref p), some x, some (.str k)] from rfl]
    walk_at "x"
    refine ⟨p, dx, lc, ld, lg, cs, ds, x, a, rfl, B, t, fun n hn hl => ?_, fun hn => ?_⟩
    · subst hn
      have hq := List.getElem?_eq_getElem hl
      generalize cs[n] = q at hq
      obtain ⟨xs, hh⟩ := (B.ct q (List.mem_of_getElem? hq)).head
      have at1 : atI (cs.map fun q => V.ref q.1) (n : Int) = some (.ref q.1) := atI_nat (by rw [List.getElem?_map, hq]; rfl)
      have at0 : atI (V.str q.2.word :: xs) 0 = some (.str q.2.word) := atI_nat (j := 0) rfl
      walk_at "g"
      exact q1 n q rfl hq
    · walk_at "g"
      exact q2 hn
theorem ok_ispair2 {f : Addr} {fd : FuncData} (T : Txt K mg) (F : Fun K "is_pair" "is_pair" s_is_pair f fd) : FnOk P w K mg base CX0 1 f fd ["thing"] spIsPair2 := by
  refine F.ok sc_is_pair (fun vs H Q E h => ?_) (fun cdv A outer s H vs Q E hr h => ?_)
  · obtain ⟨a, x, y, rfl, _⟩ := h
    rfl
  · obtain ⟨a, x, y, rfl, ha, q⟩ := h
    refine ⟨_,
      (pss_one
        (ps_ret (pe_and (pe_callB (r := rIsi K) call_isi (by rfl) T.n_isinstance (by decide +kernel) (pa_cons (pv 0) (pa_cons (pe_bltn (v := .ty "tuple") (u := .type "tuple") (by rfl) T.n_tuple (by decide +kernel) rfl) pa_nil))) (pe_one (pe_cmpR op_eq (pe_callB (r := rLen K) c_len (by rfl) T.n_len (by decide +kernel) (pa_cons (pv 0) pa_nil)) pe_int (nomark _))))))
      , ?_⟩
    rw [show L2.start N_is_pair [V.ref a] = [some (.ref a)] from rfl]
    walk_at "x"
    exact q
theorem ok_isentry {f fN fI fP fL : Addr} {fd fdN fdI fdP fdL : FuncData} (T : Txt K mg) (F : Fun K "is_entry" "is_entry" s_is_entry f fd) (K_Book : Kl K mg "Book" C ["contents", "depths", "given"]) (D_is_name : Df K mg "is_name" s_is_name ["book", "thing"] fN fdN) (D_is_int : DfD K mg "is_int" s_is_int ["thing", "least"] [.int 0] fI fdI) (D_is_pair : Df K mg "is_pair" s_is_pair ["thing"] fP fdP) (D_is_label : Df K mg "is_label" s_is_label ["thing"] fL fdL) : FnOk P w K mg base CX0 3 f fd ["book", "thing"] (spIsEntry P w C) := by
  have G_is_name : FnOk P w K mg base CX0 2 fN fdN ["book", "thing"] (spIsName P w C) := ok_isname T D_is_name.fn K_Book D_is_int
  have G_is_pair : FnOk P w K mg base CX0 1 fP fdP ["thing"] spIsPair2 := ok_ispair2 T D_is_pair.fn
  have G_is_label : FnOk P w K mg base CX0 1 fL fdL ["thing"] spIsLabel := ok_islabel T D_is_label.fn
  have cl := K_Book.cl
  have n1 := K_Book.na "contents" (by simp)
  refine F.ok sc_is_entry (fun vs H Q E h => ?_) (fun cdv A outer s H vs Q E hr h => ?_)
  · obtain ⟨p, dx, lc, ld, lg, e, cs, ds, z, n, q, rfl, _⟩ := h
    rfl
  · obtain ⟨p, dx, lc, ld, lg, e, cs, ds, z, n, q, rfl, B, he, hz, hq, hw, qq⟩ := h
    have he' : H e = some (.tup [.str z, .int (n : Int)]) := he
    refine ⟨_,
      (pss_cons
        (ps_if (PW.pt (pw_or (pt_not (pt_val (pe_call G_is_pair (hr.mono (by omega)) (by rfl) D_is_pair.g D_is_pair.fn.kp D_is_pair.b .nil pass0 (pa_cons (pv 1) pa_nil)))) (pw_or1 (pt_not (pt_val (pe_call G_is_label (hr.mono (by omega)) (by rfl) D_is_label.g D_is_label.fn.kp D_is_label.b .nil pass0 (pa_cons (pe_ix (r := rIxT K) ix_tup (pv 1) pe_int (fun _ _ => rfl)) pa_nil)))))))
          (pss_one
            (ps_ret pe_bl))
          pss_nil)
      (pss_one
        (ps_ret (pe_and (pe_call G_is_name (hr.mono (by omega)) (by rfl) D_is_name.g D_is_name.fn.kp D_is_name.b .nil pass0 (pa_cons (pv 0) (pa_cons (pe_ix (r := rIxT K) ix_tup (pv 1) pe_int (fun _ _ => rfl)) pa_nil))) (pe_one (pe_cmpR op_ne (pe_ix (r := rIxT K) ix_tup (pe_ix (r := rIxL K) ix_list (pe_fldK (K := K) rfl (pv 0) rfl) (pe_ix (r := rIxT K) ix_tup (pv 1) pe_int (fun _ _ => rfl)) (fun _ _ => rfl)) pe_int (fun _ _ => rfl)) pe_str (nomark _)))))))
      , ?_⟩
    rw [show L2.start N_is_entry [V.ref p, V.ref e] = [some (.ref p), some (.ref e)] from rfl]
    refine w_seq ?_
    walk_at "x"
    refine ⟨e, _, _, rfl, he', ?_⟩
    walk_at "g"
    refine ⟨z, rfl, hz, fun H1 k1 => ?_⟩
    have B1 := B.same k1
    have ob1 := B1.ob
    have co1 := B1.co
    have he1 := k1 _ _ he'
    have hl : n < cs.length := (List.getElem?_eq_some_iff.mp hq).1
    obtain ⟨xs, hh⟩ := (B1.ct q (List.mem_of_getElem? hq)).head
    have at1 : atI (cs.map fun q => V.ref q.1) (n : Int) = some (.ref q.1) := atI_nat (by rw [List.getElem?_map, hq]; rfl)
    have at0 : atI (V.str q.2.word :: xs) 0 = some (.str q.2.word) := atI_nat (j := 0) rfl
    walk_at "g"
    refine ⟨p, dx, lc, ld, lg, cs, ds, .int (n : Int), "int", rfl, B1, .int _, fun m hm hml => ?_, fun hm => absurd hl (hm n rfl)⟩
    walk_at "g"
    rw [decide_eq_false hw]
    exact qq _ k1
theorem ok_depth {f : Addr} {fd : FuncData} (T : Txt K mg) (F : Fun K "depth_of" "depth_of" s_depth_of f fd) (K_Book : Kl K mg "Book" C ["contents", "depths", "given"]) : FnOk P w K mg base CX0 1 f fd ["book", "content"] (spDepth C) := by
  have cl := K_Book.cl
  have n2 := K_Book.na "depths" (by simp)
  refine F.ok sc_depth_of (fun vs H Q E h => ?_) (fun cdv A outer s H vs Q E hr h => ?_)
  · obtain ⟨p, dx, lc, ld, lg, a, ds, c, rfl, _⟩ := h
    rfl
  · obtain ⟨p, dx, lc, ld, lg, a, ds, c, rfl, ob, de, hc, ht, q⟩ := h
    refine ⟨_,
      (pss_cons
        (ps_if (pt_cmpR op_ne (pe_ix (r := rIxT K) ix_tup (pv 1) pe_int (fun _ _ => rfl)) pe_str (nomark _))
          (pss_one
            (ps_ret pe_int))
          pss_nil)
      (pss_one
        (ps_ret (pe_op op_add pe_int (pe_callBK (r := rMaxD K) (c_maxD rfl hr.units) (by rfl) T.n_max (by decide +kernel) (pa_cons (pe_lc (own := [("label", 2), ("name", 3)]) (g := (gTup K 2 (gCons (gName 2) (gCons (gName 3) gNil)))) rfl sc_depth_of.nd (pi_tup (pe_ix (r := rIxT K) ix_tup (pv 1) pe_int (fun _ _ => rfl))) (blkOk_by (own := [("label", 2), ("name", 3)]) (N := N_depth_of) (sc := defScope s_depth_of) (by decide +kernel)) (fun _ _ _ _ _ => (pg_tup rfl (pgs_cons (pg_name (i := 2) sc_depth_of.nd rfl (.inl rfl)) (pgs_cons (pg_name (i := 3) sc_depth_of.nd rfl (.inl rfl)) pgs_nil)))) (fun _ _ _ _ _ => pts_nil) (fun _ _ _ _ _ => (pe_ix (r := rIxL K) ix_list (pe_fldK (K := K) rfl (pv 0) rfl) (pv 3) (fun _ _ => rfl)))) pa_nil) (pk_cons pe_int pk_nil))))))
      , ?_⟩
    rw [show L2.start N_depth_of [V.ref p, V.ref a] = [some (.ref p), some (.ref a), none, none] from rfl]
    refine w_seq ?_
    have sm : Same H H := fun _ _ z => z
    cases c with
    | leaf rows =>
      obtain ⟨r, h1, _⟩ := hc
      walk_at "x"
      refine w_nno lit_ne1 ?_
      walk_at "g"
      exact q _ sm
    | ver ps root stamp =>
      obtain ⟨r, h1, _⟩ := hc
      walk_at "x"
      refine w_nno lit_ne6 ?_
      walk_at "g"
      exact q _ sm
    | tree es =>
      obtain ⟨r, qs, h1, h2, rfl, h4⟩ := hc
      obtain ⟨hl20, hin⟩ := ht _ rfl
      rw [List.length_map] at hl20
      walk_at "x"
      refine w_nyes rfl ?_
      walk_at "g"
      refine lcp_map (walk_tup (K := K) (a := r) (xs := qs.map fun q => V.ref q.1)) [] ((qs.map fun q => ds.getD q.2.2 0).map nV) (by simp) (by rw [List.length_map]; omega) (fun H' k => .of (k _ _ (by simp) h2)) ?_ (by simp) ?_
      · rintro i x H1 H2 R hi k1 ⟨rfl, hx⟩ hR
        obtain ⟨z, hz, rfl⟩ := map_at hx
        have hzm := List.mem_of_getElem? hz
        have e1 : H2 z.1 = some (.tup [.str z.2.1, .int (z.2.2 : Int)]) := k1.same _ _ (h4 z hzm)
        have ob1 := k1.same _ _ ob
        have de1 := k1.same _ _ de
        have hlt : z.2.2 < ds.length := hin z.2 (List.mem_map_of_mem hzm)
        have at1 : atI (ds.map nV) (z.2.2 : Int) = some (nV (ds.getD z.2.2 0)) := by
          refine atI_nat ?_
          rw [nV_at hlt, List.getD_eq_getElem?_getD, List.getElem?_eq_getElem hlt]
          rfl
        refine w_gtup (.of e1) rfl (w_gcons (w_name (w_gcons (w_name (w_gnil ⟨rfl, ?_⟩)))))
        walk_at "g"
        refine hR _ _ ?_ Kp.refl
        rw [List.getElem?_map, List.getElem?_map, hz]
        rfl
      · intro L H1 hL k1 eL
        have eL' : H1 L = some (.lst (((qs.map fun q => ds.getD q.2.2 0).map fun n : Nat => (n : Int)).map V.int)) := by rw [List.map_map]; exact eL
        walk_at "g"
        refine w_maxD' (.of eL') (fun e0 => ?_) fun m hm hall => ?_
        · have e1 : qs = [] := by simpa using e0
          subst e1
          walk_at "g"
          exact q _ k1.same
        · obtain ⟨n, hn, rfl⟩ := List.mem_map.mp hm
          walk_at "g"
          have e : depOf ds (.tree (qs.map (·.2))) = 1 + n := by
            show 1 + ((qs.map (·.2)).map fun e => ds.getD e.2 0).foldl max 0 = 1 + n
            rw [List.map_map]
            rw [fold_max n (qs.map ((fun e : Str × Nat => ds.getD e.2 0) ∘ fun q : Addr × Str × Nat => q.2)) 0 (.inr hn) (Nat.zero_le _) fun y hy => by
              have := hall (y : Int) (List.mem_map.mpr ⟨y, hy, rfl⟩)
              omega]
          have := q _ k1.same
          rw [e] at this
          rw [show nV (1 + n) = V.int (1 + (n : Int)) from congrArg V.int (by omega)] at this
          exact this
theorem ok_istree {f fE fR fO fN fI fP fL : Addr} {fd fdE fdR fdO fdN fdI fdP fdL : FuncData} (T : Txt K mg) (F : Fun K "is_tree" "is_tree" s_is_tree f fd) (K_Book : Kl K mg "Book" C ["contents", "depths", "given"]) (D_is_entry : Df K mg "is_entry" s_is_entry ["book", "thing"] fE fdE) (D_rise : Df K mg "rise" s_rise ["row"] fR fdR) (D_depth_of : Df K mg "depth_of" s_depth_of ["book", "content"] fO fdO) (D_is_name : Df K mg "is_name" s_is_name ["book", "thing"] fN fdN) (D_is_int : DfD K mg "is_int" s_is_int ["thing", "least"] [.int 0] fI fdI) (D_is_pair : Df K mg "is_pair" s_is_pair ["thing"] fP fdP) (D_is_label : Df K mg "is_label" s_is_label ["thing"] fL fdL) : FnOk P w K mg base CX0 4 f fd ["book", "entries"] (spIsTree P w C) := by
  have G_is_entry : FnOk P w K mg base CX0 3 fE fdE ["book", "thing"] (spIsEntry P w C) := ok_isentry T D_is_entry.fn K_Book D_is_name D_is_int D_is_pair D_is_label
  have G_rise : FnOk P w K mg base CX0 1 fR fdR ["row"] spRiseS := ok_riseS T D_rise.fn
  have G_depth_of : FnOk P w K mg base CX0 1 fO fdO ["book", "content"] (spDepth C) := ok_depth T D_depth_of.fn K_Book
  obtain ⟨tk_DEEP, g_DEEP⟩ := T.g_DEEP
  refine F.ok sc_is_tree (fun vs H Q E h => ?_) (fun cdv A outer s H vs Q E hr h => ?_)
  · obtain ⟨p, dx, lc, ld, lg, r, cs, ds, qs, rfl, _⟩ := h
    rfl
  · obtain ⟨p, dx, lc, ld, lg, r, cs, ds, qs, rfl, B, hr', hqs, ⟨c1, c2, c3, c4⟩, q⟩ := h
    rw [List.length_map] at c1
    refine ⟨_,
      (pss_cons
        (ps_if (PW.pt (pw_or (pt_not (pt_val (pe_callB (r := rIsi K) call_isi (by rfl) T.n_isinstance (by decide +kernel) (pa_cons (pv 1) (pa_cons (pe_bltn (v := .ty "tuple") (u := .type "tuple") (by rfl) T.n_tuple (by decide +kernel) rfl) pa_nil))))) (pw_or1 (pt_cmpR op_gt (pe_callB (r := rLen K) c_len (by rfl) T.n_len (by decide +kernel) (pa_cons (pv 1) pa_nil)) pe_int (nomark _)))))
          (pss_one
            (ps_ret pe_bl))
          pss_nil)
      (pss_cons
        (ps_if (PW.pt (pw_or (pt_not (pt_val (pe_callB (r := rAll K) (cr_all rfl) (by rfl) T.n_all (by decide +kernel) (pa_cons (pe_lc (own := [("entry", 2)]) (g := (gName 2)) rfl sc_is_tree.nd (pi_tup (pv 1)) (blkOk_by (own := [("entry", 2)]) (N := N_is_tree) (sc := defScope s_is_tree) (by decide +kernel)) (fun _ _ _ _ _ => (pg_name (i := 2) sc_is_tree.nd rfl (.inl rfl))) (fun _ _ _ _ _ => pts_nil) (fun _ _ _ _ _ => (pe_call G_is_entry (hr.mono (by omega)) (by rfl) D_is_entry.g D_is_entry.fn.kp D_is_entry.b .nil pass0 (pa_cons (pv 0) (pa_cons (pv 2) pa_nil))))) pa_nil)))) (pw_or1 (pt_not (pt_val (pe_call G_rise (hr.mono (by omega)) (by rfl) D_rise.g D_rise.fn.kp D_rise.b .nil pass0 (pa_cons (pe_lc (own := [("entry", 2)]) (g := (gName 2)) rfl sc_is_tree.nd (pi_tup (pv 1)) (blkOk_by (own := [("entry", 2)]) (N := N_is_tree) (sc := defScope s_is_tree) (by decide +kernel)) (fun _ _ _ _ _ => (pg_name (i := 2) sc_is_tree.nd rfl (.inl rfl))) (fun _ _ _ _ _ => pts_nil) (fun _ _ _ _ _ => (pe_ix (r := rIxT K) ix_tup (pv 2) pe_int (fun _ _ => rfl)))) pa_nil)))))))
          (pss_one
            (ps_ret pe_bl))
          pss_nil)
      (pss_one
        (ps_ret (pe_cmpR op_le (pe_call G_depth_of (hr.mono (by omega)) (by rfl) D_depth_of.g D_depth_of.fn.kp D_depth_of.b .nil pass0 (pa_cons (pv 0) (pa_cons (pe_tup (pa_cons pe_str (pa_cons (pv 1) pa_nil))) pa_nil))) (pe_glob (v := .int 8) rfl g_DEEP ⟨_, rfl⟩) (nomark _))))))
      , ?_⟩
    rw [show L2.start N_is_tree [V.ref p, V.ref r] = [some (.ref p), some (.ref r), none] from rfl]
    refine w_seq ?_
    walk_at "x"
    refine w_no (by rw [List.length_map]; omega) ?_
    walk_at "g"
    refine w_seq ?_
    walk_at "g"
    refine lcp_map (walk_tup (K := K) (a := r) (xs := qs.map fun q => V.ref q.1)) [] ((qs.map fun _ => true).map V.bl) (by simp) (by rw [List.length_map]; omega) (fun H' k => .of (k _ _ (by simp) hr')) ?_ (by simp) ?_
    · rintro i x H1 H2 R hi k1 ⟨rfl, hx⟩ hR
      obtain ⟨z, hz, rfl⟩ := map_at hx
      have hzm := List.mem_of_getElem? hz
      obtain ⟨g1, c, g2, g3⟩ := c2 z.2 (List.mem_map_of_mem hzm)
      rw [List.getElem?_map] at g2
      obtain ⟨q', hq', rfl⟩ := Option.map_eq_some_iff.mp g2
      refine w_name ⟨rfl, ?_⟩
      walk_at "g"
      refine ⟨p, dx, lc, ld, lg, z.1, cs, ds, z.2.1, z.2.2, q', rfl, B.same k1.same, k1.same _ _ (hqs z hzm), g1, hq', g3, fun H3 k3 => ?_⟩
      refine hR _ _ ?_ (Kp.of k3)
      rw [List.getElem?_map, List.getElem?_map, hz]
      rfl
    · intro L H1 hL k1' eL
      have k1 := k1'.same
      have hr1 := k1 _ _ hr'
      walk_at "g"
      rw [show (qs.map fun _ => true).all id = true by simp]
      walk_at "g"
      refine lcp_map (walk_tup (K := K) (a := r) (xs := qs.map fun q => V.ref q.1)) [] ((qs.map fun q => q.2.1).map V.str) (by simp) (by rw [List.length_map]; omega) (fun H' k => .of (k _ _ (by simp) hr1)) ?_ (by simp) ?_
      · rintro i x H2 H3 R hi k2 ⟨rfl, hx⟩ hR
        obtain ⟨z, hz, rfl⟩ := map_at hx
        have hzm := List.mem_of_getElem? hz
        have e1 : H3 z.1 = some (.tup [.str z.2.1, .int (z.2.2 : Int)]) := k2.same _ _ (k1 _ _ (hqs z hzm))
        refine w_name ⟨rfl, ?_⟩
        walk_at "g"
        refine hR _ _ ?_ Kp.refl
        rw [List.getElem?_map, List.getElem?_map, hz]
        rfl
      · intro L2' H2 hL2 k2' eL2
        have k2 := k2'.same
        walk_at "g"
        refine ⟨L2', qs.map fun q => q.2.1, rfl, eL2, by rw [List.length_map]; omega, ?_, fun H3 k3 => ?_⟩
        · rw [List.pairwise_map] at c3 ⊢
          exact c3
        walk_at "g"
        refine w_new fun t H4 ht e4 k4 => ?_
        have k04 : Same H H4 := Same.trans k1 (Same.trans k2 (Same.trans k3 k4))
        walk_at "g"
        refine ⟨p, dx, lc, ld, lg, t, ds, .tree (qs.map (·.2)), rfl, k04 _ _ B.ob, k04 _ _ B.de, ⟨r, qs, e4, k04 _ _ hr', rfl, fun z hz => k04 _ _ (hqs z hz)⟩, fun es e => ?_, fun H5 k5 => ?_⟩
        · cases e
          refine ⟨by rw [List.length_map]; exact c1, fun z hz => ?_⟩
          obtain ⟨_, c, g2, _⟩ := c2 z hz
          have := (List.getElem?_eq_some_iff.mp g2).1
          rw [B.dl]
          rwa [List.length_map] at this
        walk_at "g"
        rw [decide_eq_true (by omega)]
        exact q _ (Same.trans k04 k5)
theorem ok_isversion {f fG fA fR fK fN fI : Addr} {fd fdG fdA fdR fdK fdN fdI : FuncData} (T : Txt K mg) (F : Fun K "is_version" "is_version" s_is_version f fd) (K_Book : Kl K mg "Book" C ["contents", "depths", "given"]) (D_rising_ints : Df K mg "rising_ints" s_rising_ints ["thing"] fG fdG) (D_are_ints : Df K mg "are_ints" s_are_ints ["thing"] fA fdA) (D_rise : Df K mg "rise" s_rise ["row"] fR fdR) (D_is_kind : Df K mg "is_kind" s_is_kind ["book", "thing", "kind"] fK fdK) (D_is_name : Df K mg "is_name" s_is_name ["book", "thing"] fN fdN) (D_is_int : DfD K mg "is_int" s_is_int ["thing", "least"] [.int 0] fI fdI) : FnOk P w K mg base CX0 4 f fd ["book", "content"] (spIsVersion P w C) := by
  obtain ⟨ds_is_int, V_is_int, B_is_int⟩ := D_is_int.b
  have G_is_int : FnOk P w K mg base CX0 1 fI fdI ["thing", "least"] spIsInt := ok_isint T D_is_int
  have G_rising_ints : FnOk P w K mg base CX0 3 fG fdG ["thing"] spRisingInts := ok_risingints T D_rising_ints.fn D_are_ints D_rise D_is_int
  have G_is_kind : FnOk P w K mg base CX0 3 fK fdK ["book", "thing", "kind"] (spIsKind P w C) := ok_iskind T D_is_kind.fn K_Book D_is_name D_is_int
  refine F.ok sc_is_version (fun vs H Q E h => ?_) (fun cdv A outer s H vs Q E hr h => ?_)
  · obtain ⟨p, dx, lc, ld, lg, a, cs, ds, ps, root, stamp, rfl, _⟩ := h
    rfl
  · obtain ⟨p, dx, lc, ld, lg, a, cs, ds, ps, root, stamp, rfl, B, ⟨r, h1, h2⟩, ⟨c1, c2, c3, ⟨cr, c4, c5⟩, c6⟩, q⟩ := h
    refine ⟨_,
      (pss_cons
        (ps_set (i := 2) sc_is_version.nd rfl (.inl rfl) (pe_ix (r := rIxT K) ix_tup (pv 1) pe_int (fun _ _ => rfl)))
      (pss_cons
        (ps_if (PW.pt (pw_or (pt_not (pt_val (pe_call G_rising_ints (hr.mono (by omega)) (by rfl) D_rising_ints.g D_rising_ints.fn.kp D_rising_ints.b .nil pass0 (pa_cons (pv 2) pa_nil)))) (pw_or1 (pt_cmpR op_gt (pe_callB (r := rLen K) c_len (by rfl) T.n_len (by decide +kernel) (pa_cons (pv 2) pa_nil)) pe_int (nomark _)))))
          (pss_one
            (ps_ret pe_bl))
          pss_nil)
      (pss_cons
        (ps_if (PW.pt (pw_or (pt_not (pt_val (pe_callB (r := rAll K) (cr_all rfl) (by rfl) T.n_all (by decide +kernel) (pa_cons (pe_lc (own := [("parent", 3)]) (g := (gName 3)) rfl sc_is_version.nd (pi_tup (pv 2)) (blkOk_by (own := [("parent", 3)]) (N := N_is_version) (sc := defScope s_is_version) (by decide +kernel)) (fun _ _ _ _ _ => (pg_name (i := 3) sc_is_version.nd rfl (.inl rfl))) (fun _ _ _ _ _ => pts_nil) (fun _ _ _ _ _ => (pe_call G_is_kind (hr.mono (by omega)) (by rfl) D_is_kind.g D_is_kind.fn.kp D_is_kind.b .nil pass0 (pa_cons (pv 0) (pa_cons (pv 3) (pa_cons pe_str pa_nil)))))) pa_nil)))) (pw_or1 (pt_not (pt_val (pe_call G_is_kind (hr.mono (by omega)) (by rfl) D_is_kind.g D_is_kind.fn.kp D_is_kind.b .nil pass0 (pa_cons (pv 0) (pa_cons (pe_ix (r := rIxT K) ix_tup (pv 1) pe_int (fun _ _ => rfl)) (pa_cons pe_str pa_nil)))))))))
          (pss_one
            (ps_ret pe_bl))
          pss_nil)
      (pss_one
        (ps_ret (pe_and (pe_call G_is_int (hr.mono (by omega)) (by rfl) D_is_int.g D_is_int.kp B_is_int V_is_int pass0 (pa_cons (pe_ix (r := rIxT K) ix_tup (pv 1) pe_int (fun _ _ => rfl)) pa_nil)) (pe_one (pe_cmpR op_le (pe_ix (r := rIxT K) ix_tup (pv 1) pe_int (fun _ _ => rfl)) (pe_op op_pow pe_int pe_int) (nomark _)))))))))
      , ?_⟩
    rw [show L2.start N_is_version [V.ref p, V.ref a] = [some (.ref p), some (.ref a), none, none] from rfl]
    walk_at "x"
    refine w_seq ?_
    walk_at "g"
    have dat : DatT 10 H (.ref r) := .tup h2 (by rw [List.length_map]; omega) fun y hy => by
      obtain ⟨n, _, rfl⟩ := List.mem_map.mp hy
      exact .leaf (.int _) (by decide) fun z e => by cases e
    refine ⟨.ref r, 10, rfl, dat, by decide, fun ns hns hp H1 k1 => ?_, fun hn => absurd c1 (hn ps ⟨r, rfl, h2⟩)⟩
    have h11 := k1 _ _ h1
    have h21 := k1 _ _ h2
    walk_at "g"
    refine w_no (by rw [List.length_map]; omega) ?_
    walk_at "g"
    refine w_seq ?_
    walk_at "g"
    refine lcp_map (walk_tup (K := K) (a := r) (xs := ps.map nV)) [] ((ps.map fun _ => true).map V.bl) (by simp) (by rw [List.length_map]; omega) (fun H' k => .of (k _ _ (by simp) h21)) ?_ (by simp) ?_
    · rintro i x H2 H3 R hi k2 ⟨rfl, hx⟩ hR
      obtain ⟨n, hn, rfl⟩ := map_at hx
      obtain ⟨c, g2, g3⟩ := c3 n (List.mem_of_getElem? hn)
      rw [List.getElem?_map] at g2
      obtain ⟨q', hq', rfl⟩ := Option.map_eq_some_iff.mp g2
      have hl : n < cs.length := (List.getElem?_eq_some_iff.mp hq').1
      refine w_name ⟨rfl, ?_⟩
      walk_at "g"
      refine ⟨p, dx, lc, ld, lg, cs, ds, nV n, "int", "version", rfl, (B.same k1).same k2.same, .int _, fun m qm em hm => ?_, fun hm => absurd hl (hm n rfl)⟩
      have en : n = m := by have : (n : Int) = m := V.int.inj em; omega
      subst en
      rw [hq'] at hm
      cases hm
      rw [decide_eq_true g3]
      refine hR _ _ ?_ Kp.refl
      rw [List.getElem?_map, List.getElem?_map, hn]
      rfl
    · intro L H2 hL k2' eL
      have k2 := k2'.same
      have h12 := k2 _ _ h11
      rw [List.getElem?_map] at c4
      obtain ⟨q', hq', rfl⟩ := Option.map_eq_some_iff.mp c4
      have hl : root < cs.length := (List.getElem?_eq_some_iff.mp hq').1
      walk_at "g"
      rw [show (ps.map fun _ => true).all id = true by simp]
      walk_at "g"
      refine ⟨p, dx, lc, ld, lg, cs, ds, nV root, "int", "tree", rfl, (B.same k1).same k2, .int _, fun m qm em hm => ?_, fun hm => absurd hl (hm root rfl)⟩
      have en : root = m := by have : (root : Int) = m := V.int.inj em; omega
      subst en
      rw [hq'] at hm
      cases hm
      rw [decide_eq_true c5]
      walk_at "g"
      refine ⟨nV stamp, "int", rfl, .int _, fun m em => ?_, fun hm => absurd rfl (hm stamp)⟩
      walk_at "g"
      rw [decide_eq_true (by rw [show (10 : Int) ^ Int.toNat 18 = 1000000000000000000 by decide]; omega)]
      exact q _ (Same.trans k1 k2)
end
section
variable {P : Program} {w : World} {K : PySem.W.Frag} {mg : Str → Option Value} {base : Heap} {C : Addr}
theorem ok_iscontent {f fT fV fO fW fE fR fP fL fG fA fK fN fI fX : Addr} {fd fdT fdV fdO fdW fdE fdR fdP fdL fdG fdA fdK fdN fdI fdX : FuncData} (T : Txt K mg) (F : Fun K "is_content" "is_content" s_is_content f fd) (K_Book : Kl K mg "Book" C ["contents", "depths", "given"]) (D_is_tree : Df K mg "is_tree" s_is_tree ["book", "entries"] fT fdT) (D_is_version : Df K mg "is_version" s_is_version ["book", "content"] fV fdV) (D_depth_of : Df K mg "depth_of" s_depth_of ["book", "content"] fO fdO) (D_are_rows : Df K mg "are_rows" s_are_rows ["thing"] fW fdW) (D_is_entry : Df K mg "is_entry" s_is_entry ["book", "thing"] fE fdE) (D_rise : Df K mg "rise" s_rise ["row"] fR fdR) (D_is_pair : Df K mg "is_pair" s_is_pair ["thing"] fP fdP) (D_is_label : Df K mg "is_label" s_is_label ["thing"] fL fdL) (D_rising_ints : Df K mg "rising_ints" s_rising_ints ["thing"] fG fdG) (D_are_ints : Df K mg "are_ints" s_are_ints ["thing"] fA fdA) (D_is_kind : Df K mg "is_kind" s_is_kind ["book", "thing", "kind"] fK fdK) (D_is_name : Df K mg "is_name" s_is_name ["book", "thing"] fN fdN) (D_is_int : DfD K mg "is_int" s_is_int ["thing", "least"] [.int 0] fI fdI) (D_is_text : DfD K mg "is_text" s_is_text ["thing", "most"] [.int 40] fX fdX) : FnOk P w K mg base CX0 5 f fd ["book", "thing"] (spIsContent P w C) := by
  have G_is_tree : FnOk P w K mg base CX0 4 fT fdT ["book", "entries"] (spIsTree P w C) := ok_istree T D_is_tree.fn K_Book D_is_entry D_rise D_depth_of D_is_name D_is_int D_is_pair D_is_label
  have G_is_version : FnOk P w K mg base CX0 4 fV fdV ["book", "content"] (spIsVersion P w C) := ok_isversion T D_is_version.fn K_Book D_rising_ints D_are_ints D_rise D_is_kind D_is_name D_is_int
  have G_are_rows : FnOk P w K mg base CX0 2 fW fdW ["thing"] spAreRows := ok_arerows T D_are_rows.fn D_is_text
  refine F.ok sc_is_content (fun vs H Q E h => ?_) (fun cdv A outer s H vs Q E hr h => ?_)
  · obtain ⟨p, dx, lc, ld, lg, a, cs, ds, c, rfl, _⟩ := h
    rfl
  · obtain ⟨p, dx, lc, ld, lg, a, cs, ds, c, rfl, B, hc, ok, q⟩ := h
    refine ⟨_,
      (pss_cons
        (ps_if (PW.pt (pw_or (pt_not (pt_val (pe_callB (r := rIsi K) call_isi (by rfl) T.n_isinstance (by decide +kernel) (pa_cons (pv 1) (pa_cons (pe_bltn (v := .ty "tuple") (u := .type "tuple") (by rfl) T.n_tuple (by decide +kernel) rfl) pa_nil))))) (pw_or (pt_cmpR op_lt (pe_callB (r := rLen K) c_len (by rfl) T.n_len (by decide +kernel) (pa_cons (pv 1) pa_nil)) pe_int (nomark _)) (pw_or1 (pt_not (pt_val (pe_callB (r := rIsi K) call_isi (by rfl) T.n_isinstance (by decide +kernel) (pa_cons (pe_ix (r := rIxT K) ix_tup (pv 1) pe_int (fun _ _ => rfl)) (pa_cons (pe_bltn (v := .ty "str") (u := .type "str") (by rfl) T.n_str (by decide +kernel) rfl) pa_nil)))))))))
          (pss_one
            (ps_ret pe_bl))
          pss_nil)
      (pss_cons
        (ps_if (pt_cmpR op_eq (pe_ix (r := rIxT K) ix_tup (pv 1) pe_int (fun _ _ => rfl)) pe_str (nomark _))
          (pss_one
            (ps_ret (pe_and (pe_cmpR op_eq (pe_callB (r := rLen K) c_len (by rfl) T.n_len (by decide +kernel) (pa_cons (pv 1) pa_nil)) pe_int (nomark _)) (pe_one (pe_call G_are_rows (hr.mono (by omega)) (by rfl) D_are_rows.g D_are_rows.fn.kp D_are_rows.b .nil pass0 (pa_cons (pe_ix (r := rIxT K) ix_tup (pv 1) pe_int (fun _ _ => rfl)) pa_nil))))))
          pss_nil)
      (pss_cons
        (ps_if (pt_cmpR op_eq (pe_ix (r := rIxT K) ix_tup (pv 1) pe_int (fun _ _ => rfl)) pe_str (nomark _))
          (pss_one
            (ps_ret (pe_and (pe_cmpR op_eq (pe_callB (r := rLen K) c_len (by rfl) T.n_len (by decide +kernel) (pa_cons (pv 1) pa_nil)) pe_int (nomark _)) (pe_one (pe_call G_is_tree (hr.mono (by omega)) (by rfl) D_is_tree.g D_is_tree.fn.kp D_is_tree.b .nil pass0 (pa_cons (pv 0) (pa_cons (pe_ix (r := rIxT K) ix_tup (pv 1) pe_int (fun _ _ => rfl)) pa_nil)))))))
          pss_nil)
      (pss_one
        (ps_ret (pe_and (pe_cmpR op_eq (pe_ix (r := rIxT K) ix_tup (pv 1) pe_int (fun _ _ => rfl)) pe_str (nomark _)) (pe_and (pe_cmpR op_eq (pe_callB (r := rLen K) c_len (by rfl) T.n_len (by decide +kernel) (pa_cons (pv 1) pa_nil)) pe_int (nomark _)) (pe_one (pe_call G_is_version (hr.mono (by omega)) (by rfl) D_is_version.g D_is_version.fn.kp D_is_version.b .nil pass0 (pa_cons (pv 0) (pa_cons (pv 1) pa_nil)))))))))))
      , ?_⟩
    rw [show L2.start N_is_content [V.ref p, V.ref a] = [some (.ref p), some (.ref a)] from rfl]
    refine w_seq ?_
    cases c with
    | leaf rows =>
      obtain ⟨r, h1, h2⟩ := hc
      walk_at "x"
      refine w_no (by simp only [List.length_cons, List.length_nil]; omega) ?_
      walk_at "g"
      refine w_seq ?_
      walk_at "g"
      refine w_yes rfl ?_
      walk_at "g"
      refine w_yes rfl ?_
      walk_at "g"
      refine ⟨r, rows, rfl, h2, ok.1, ok.2, q⟩
    | tree es =>
      obtain ⟨r, qs, h1, h2, rfl, h4⟩ := hc
      walk_at "x"
      refine w_no (by simp only [List.length_cons, List.length_nil]; omega) ?_
      walk_at "g"
      refine w_seq ?_
      walk_at "g"
      refine w_no lit_ne4 ?_
      walk_at "g"
      refine w_seq ?_
      walk_at "g"
      refine w_yes rfl ?_
      walk_at "g"
      refine w_yes rfl ?_
      walk_at "g"
      refine ⟨p, dx, lc, ld, lg, r, cs, ds, qs, rfl, B, h2, h4, ok, q⟩
    | ver ps root stamp =>
      have hc' := hc
      obtain ⟨r, h1, h2⟩ := hc
      walk_at "x"
      refine w_no (by simp only [List.length_cons, List.length_nil]; omega) ?_
      walk_at "g"
      refine w_seq ?_
      walk_at "g"
      refine w_no lit_ne5 ?_
      walk_at "g"
      refine w_seq ?_
      walk_at "g"
      refine w_no lit_ne6 ?_
      walk_at "g"
      refine w_yes rfl ?_
      walk_at "g"
      refine w_yes rfl ?_
      walk_at "g"
      refine ⟨p, dx, lc, ld, lg, a, cs, ds, ps, root, stamp, rfl, B, hc', ok, q⟩
theorem ok_bookinit {f : Addr} {fd : FuncData} (T : Txt K mg) (F : Fun K "__init__" "Book.__init__" s_Book___init__ f fd) (K_Book : Kl K mg "Book" C ["contents", "depths", "given"]) : FnOk P w K mg base CX0 1 f fd ["self"] (spBookInit P w C) := by
  have cl := K_Book.cl
  have n1 := K_Book.na "contents" (by simp)
  have n2 := K_Book.na "depths" (by simp)
  have n3 := K_Book.na "given" (by simp)
  refine F.ok sc_Book___init__ (fun vs H Q E h => ?_) (fun cdv A outer s H vs Q E hr h => ?_)
  · obtain ⟨p, dx, rfl, _⟩ := h
    rfl
  · obtain ⟨p, dx, rfl, hp, q⟩ := h
    refine ⟨_,
      (pss_cons
        (ps_fld (pv 0) (pe_lst pa_nil) rfl)
      (pss_cons
        (ps_fld (pv 0) (pe_lst pa_nil) rfl)
      (pss_one
        (ps_fld (pv 0) pe_nnew rfl))))
      , ?_⟩
    rw [show L2.start N_Book___init__ [V.ref p] = [some (.ref p)] from rfl]
    walk_at "x"
    refine w_new fun lc H1 hlc e1 k1 => ?_
    have hp1 := k1 _ _ hp
    walk_at "g"
    refine w_fldS' hp1 cl n1 (by decide) fun H2 o2 f2 => ?_
    have nlc : lc ≠ p := (ne_of_none hp hlc).symm
    walk_at "g"
    refine w_new fun ld H3 hld e3 k3 => ?_
    have o3 := k3 _ _ o2
    have nld : ld ≠ p := (ne_of_none o2 hld).symm
    have hld1 : H1 ld = none := by rw [← f2 ld nld]; exact hld
    walk_at "g"
    refine w_fldS' o3 cl n2 (show (1 : Nat) < 1000 by decide) fun H4 o4 f4 => ?_
    walk_at "g"
    refine w_nnew fun lg H5 hlg d5 k5 => ?_
    have o5 := k5 _ _ o4
    have nlg : lg ≠ p := (ne_of_none o4 hlg).symm
    have hlg3 : H3 lg = none := by rw [← f4 lg nlg]; exact hlg
    walk_at "g"
    refine w_fldS' o5 cl n3 (show (2 : Nat) < 1000 by decide) fun H6 o6 f6 => ?_
    have e2 := f2.get nlc e1
    have ndc : lc ≠ ld := ne_of_none e2 hld
    have e6 : H6 lc = some (.lst []) := f6.get nlc (k5 _ _ (f4.get nlc (k3 _ _ e2)))
    have e6d : H6 ld = some (.lst []) := f6.get nld (k5 _ _ (f4.get nld e3))
    have d6 : NDict P w H6 lg [] := ⟨f6.get nlg d5.at', fun q hq => by cases hq⟩
    have hld0 : H ld = none := by
      cases e : H ld with
      | none => rfl
      | some o => rw [k1 _ _ e] at hld1; cases hld1
    have hlg0 : H lg = none := by
      cases e : H lg with
      | none => rfl
      | some o =>
        have := k3 _ _ (f2.get nlg (k1 _ _ e))
        rw [this] at hlg3
        cases hlg3
    refine q lc ld lg H6 hlc hld0 hlg0 ⟨o6, e6, e6d, d6, by simp, by simp, rfl, ndc, by simp⟩ fun b o hb e => ?_
    have hb' : b ≠ p := by simpa using hb
    exact f6.get hb' (k5 _ _ (f4.get hb' (k3 _ _ (f2.get hb' (k1 _ _ e)))))
theorem ok_thing {f fN fI : Addr} {fd fdN fdI : FuncData} (T : Txt K mg) (F : Fun K "thing" "Book.thing" s_Book_thing f fd) (K_Book : Kl K mg "Book" C ["contents", "depths", "given"]) (D_is_name : Df K mg "is_name" s_is_name ["book", "thing"] fN fdN) (D_is_int : DfD K mg "is_int" s_is_int ["thing", "least"] [.int 0] fI fdI) : FnOk P w K mg base CX0 3 f fd ["self", "name"] (spThing P w C) := by
  have G_is_name : FnOk P w K mg base CX0 2 fN fdN ["book", "thing"] (spIsName P w C) := ok_isname T D_is_name.fn K_Book D_is_int
  have cl := K_Book.cl
  have n1 := K_Book.na "contents" (by simp)
  refine F.ok sc_Book_thing (fun vs H Q E h => ?_) (fun cdv A outer s H vs Q E hr h => ?_)
  · obtain ⟨p, dx, lc, ld, lg, cs, ds, n, q, rfl, _⟩ := h
    rfl
  · obtain ⟨p, dx, lc, ld, lg, cs, ds, n, qc, rfl, B, hq, q⟩ := h
    have ob := B.ob
    have co := B.co
    have hl : n < cs.length := (List.getElem?_eq_some_iff.mp hq).1
    have at1 : atI (cs.map fun q => V.ref q.1) (n : Int) = some (.ref qc.1) := atI_nat (by rw [List.getElem?_map, hq]; rfl)
    refine ⟨_,
      (pss_cons
        (ps_if (pt_not (pt_val (pe_call G_is_name (hr.mono (by omega)) (by rfl) D_is_name.g D_is_name.fn.kp D_is_name.b .nil pass0 (pa_cons (pv 0) (pa_cons (pv 1) pa_nil)))))
          pss_never
          pss_nil)
      (pss_one
        (ps_ret (pe_ix (r := rIxL K) ix_list (pe_fldK (K := K) rfl (pv 0) rfl) (pv 1) (fun _ _ => rfl)))))
      , ?_⟩
    rw [show L2.start N_Book_thing [V.ref p, nV n] = [some (.ref p), some (.int (n : Int))] from rfl]
    refine w_seq ?_
    walk_at "x"
    refine ⟨p, dx, lc, ld, lg, cs, ds, nV n, "int", rfl, B, .int _, fun m _ _ => ?_, fun hm => absurd hl (hm n rfl)⟩
    walk_at "g"
    exact q
theorem ok_kind {f fG fN fI : Addr} {fd fdG fdN fdI : FuncData} (T : Txt K mg) (F : Fun K "kind" "Book.kind" s_Book_kind f fd) (K_Book : Kl K mg "Book" C ["contents", "depths", "given"]) (D_Book_thing : DfM K C "thing" "Book.thing" s_Book_thing ["self", "name"] fG fdG) (D_is_name : Df K mg "is_name" s_is_name ["book", "thing"] fN fdN) (D_is_int : DfD K mg "is_int" s_is_int ["thing", "least"] [.int 0] fI fdI) : FnOk P w K mg base CX0 4 f fd ["self", "name"] (spKind P w C) := by
  have G_Book_thing : FnOk P w K mg base CX0 3 fG fdG ["self", "name"] (spThing P w C) := ok_thing T D_Book_thing.fn K_Book D_is_name D_is_int
  refine F.ok sc_Book_kind (fun vs H Q E h => ?_) (fun cdv A outer s H vs Q E hr h => ?_)
  · obtain ⟨p, dx, lc, ld, lg, cs, ds, n, q, rfl, _⟩ := h
    rfl
  · obtain ⟨p, dx, lc, ld, lg, cs, ds, n, qc, rfl, B, hq, q⟩ := h
    have ob := B.ob
    obtain ⟨xs, hh⟩ := (B.ct qc (List.mem_of_getElem? hq)).head
    have at0 : atI (V.str qc.2.word :: xs) 0 = some (.str qc.2.word) := atI_nat (j := 0) rfl
    refine ⟨_,
      (pss_one
        (ps_ret (pe_ix (r := rIxT K) ix_tup (pe_meth (pv 0) K_Book.cl D_Book_thing.m G_Book_thing (hr.mono (by omega)) D_Book_thing.b .nil pass0 (pa_cons (pv 1) pa_nil)) pe_int (fun _ _ => rfl))))
      , ?_⟩
    rw [show L2.start N_Book_kind [V.ref p, nV n] = [some (.ref p), some (.int (n : Int))] from rfl]
    walk_at "x"
    refine ⟨p, dx, lc, ld, lg, cs, ds, n, qc, rfl, B, hq, ?_⟩
    walk_at "g"
    exact q
theorem ok_partsV {f fG fN fI : Addr} {fd fdG fdN fdI : FuncData} (T : Txt K mg) (F : Fun K "parts" "Book.parts" s_Book_parts f fd) (K_Book : Kl K mg "Book" C ["contents", "depths", "given"]) (D_Book_thing : DfM K C "thing" "Book.thing" s_Book_thing ["self", "name"] fG fdG) (D_is_name : Df K mg "is_name" s_is_name ["book", "thing"] fN fdN) (D_is_int : DfD K mg "is_int" s_is_int ["thing", "least"] [.int 0] fI fdI) : FnOk P w K mg base CX0 4 f fd ["self", "name"] (spPartsV P w C) := by
  have G_Book_thing : FnOk P w K mg base CX0 3 fG fdG ["self", "name"] (spThing P w C) := ok_thing T D_Book_thing.fn K_Book D_is_name D_is_int
  refine F.ok sc_Book_parts (fun vs H Q E h => ?_) (fun cdv A outer s H vs Q E hr h => ?_)
  · obtain ⟨p, dx, lc, ld, lg, cs, ds, n, a, ps, root, stamp, rfl, _⟩ := h
    rfl
  · obtain ⟨p, dx, lc, ld, lg, cs, ds, n, a, ps, root, stamp, rfl, B, hq, hpl, q⟩ := h
    have ob := B.ob
    obtain ⟨r, h1, h2⟩ := B.ct _ (List.mem_of_getElem? hq)
    refine ⟨_,
      (pss_cons
        (ps_set (i := 2) sc_Book_parts.nd rfl (.inl rfl) (pe_meth (pv 0) K_Book.cl D_Book_thing.m G_Book_thing (hr.mono (by omega)) D_Book_thing.b .nil pass0 (pa_cons (pv 1) pa_nil)))
      (pss_cons
        (ps_if (pt_cmpR op_eq (pe_ix (r := rIxT K) ix_tup (pv 2) pe_int (fun _ _ => rfl)) pe_str (nomark _))
          (pss_one
            (ps_ret (pe_tup pa_nil)))
          pss_nil)
      (pss_cons
        (ps_if (pt_cmpR op_eq (pe_ix (r := rIxT K) ix_tup (pv 2) pe_int (fun _ _ => rfl)) pe_str (nomark _))
          (pss_one
            (ps_ret (pe_callTy (r := rTupOf K) c_tupOf (by rfl) T.n_tuple (by decide +kernel) (pa_cons (pe_lc (own := [("label", 3), ("part", 4)]) (g := (gTup K 2 (gCons (gName 3) (gCons (gName 4) gNil)))) rfl sc_Book_parts.nd (pi_tup (pe_ix (r := rIxT K) ix_tup (pv 2) pe_int (fun _ _ => rfl))) (blkOk_by (own := [("label", 3), ("part", 4)]) (N := N_Book_parts) (sc := defScope s_Book_parts) (by decide +kernel)) (fun _ _ _ _ _ => (pg_tup rfl (pgs_cons (pg_name (i := 3) sc_Book_parts.nd rfl (.inl rfl)) (pgs_cons (pg_name (i := 4) sc_Book_parts.nd rfl (.inl rfl)) pgs_nil)))) (fun _ _ _ _ _ => pts_nil) (fun _ _ _ _ _ => (pv 4))) pa_nil))))
          pss_nil)
      (pss_one
        (ps_ret (pe_op op_catA (pe_ix (r := rIxT K) ix_tup (pv 2) pe_int (fun _ _ => rfl)) (pe_tup (pa_cons (pe_ix (r := rIxT K) ix_tup (pv 2) pe_int (fun _ _ => rfl)) pa_nil))))))))
      , ?_⟩
    rw [show L2.start N_Book_parts [V.ref p, nV n] = [some (.ref p), some (.int (n : Int)), none, none, none] from rfl]
    walk_at "x"
    refine ⟨p, dx, lc, ld, lg, cs, ds, n, _, rfl, B, hq, ?_⟩
    walk_at "g"
    refine w_seq ?_
    walk_at "g"
    refine w_no lit_ne5 ?_
    walk_at "g"
    refine w_seq ?_
    walk_at "g"
    refine w_no lit_ne6 ?_
    walk_at "g"
    refine w_new fun t H1 ht e1 k1 => ?_
    walk_at "g"
    refine w_catAt (k1 _ _ h2) e1 (small1k (by simp only [List.length_map, List.length_cons, List.length_nil]; omega)) fun r2 H2 e2 k2 => ?_
    exact q H2 r2 (Same.trans k1 k2) (by rw [e2, List.map_append]; rfl)
theorem ok_named {f fC fO : Addr} {fd fdC fdO : FuncData} (T : Txt K mg) (F : Fun K "named" "Book.named" s_Book_named f fd) (K_Book : Kl K mg "Book" C ["contents", "depths", "given"]) (D_is_content : Df K mg "is_content" s_is_content ["book", "thing"] fC fdC) (D_depth_of : Df K mg "depth_of" s_depth_of ["book", "content"] fO fdO) (G_is_content : FnOk P w K mg base CX0 5 fC fdC ["book", "thing"] (spIsContent P w C)) : FnOk P w K mg base CX0 6 f fd ["self", "content"] (spNamed P w C) := by
  have G_depth_of : FnOk P w K mg base CX0 1 fO fdO ["book", "content"] (spDepth C) := ok_depth T D_depth_of.fn K_Book
  obtain ⟨tk_MOST, g_MOST⟩ := T.g_MOST
  have cl := K_Book.cl
  have n1 := K_Book.na "contents" (by simp)
  have n2 := K_Book.na "depths" (by simp)
  have n3 := K_Book.na "given" (by simp)
  refine F.ok sc_Book_named (fun vs H Q E h => ?_) (fun cdv A outer s H vs Q E hr h => ?_)
  · obtain ⟨p, dx, lc, ld, lg, a, cs, ds, c, rfl, _⟩ := h
    rfl
  · obtain ⟨p, dx, lc, ld, lg, a, cs, ds, c, rfl, B, hc, ok, hlt, q1, q2⟩ := h
    refine ⟨_,
      (pss_cons
        (ps_if (pt_not (pt_val (pe_call G_is_content (hr.mono (by omega)) (by rfl) D_is_content.g D_is_content.fn.kp D_is_content.b .nil pass0 (pa_cons (pv 0) (pa_cons (pv 1) pa_nil)))))
          pss_never
          pss_nil)
      (pss_cons
        (ps_if (pt_cmp (pc_nin hr.units (pv 1) (pe_fldK (K := K) rfl (pv 0) rfl)))
          (pss_one
            (ps_ret (pe_nget hr.units (pe_fldK (K := K) rfl (pv 0) rfl) (pv 1) (fun _ _ => rfl))))
          pss_nil)
      (pss_cons
        (ps_if (pt_cmpR op_ge (pe_callB (r := rLen K) c_len (by rfl) T.n_len (by decide +kernel) (pa_cons (pe_fldK (K := K) rfl (pv 0) rfl) pa_nil)) (pe_glob (v := .int 400) rfl g_MOST ⟨_, rfl⟩) (nomark _))
          pss_never
          pss_nil)
      (pss_cons
        (ps_nput hr.units (pe_fldK (K := K) rfl (pv 0) rfl) (pv 1) (pe_callB (r := rLen K) c_len (by rfl) T.n_len (by decide +kernel) (pa_cons (pe_fldK (K := K) rfl (pv 0) rfl) pa_nil)) rfl)
      (pss_cons
        (ps_expr (pe_bm PySem.F.plainAttrs_list PySem.F.slot_list_append PySem.F.type_list_append mt_append (pe_fldK (K := K) rfl (pv 0) rfl) (pa_cons (pv 1) pa_nil)))
      (pss_cons
        (ps_expr (pe_bm PySem.F.plainAttrs_list PySem.F.slot_list_append PySem.F.type_list_append mt_append (pe_fldK (K := K) rfl (pv 0) rfl) (pa_cons (pe_call G_depth_of (hr.mono (by omega)) (by rfl) D_depth_of.g D_depth_of.fn.kp D_depth_of.b .nil pass0 (pa_cons (pv 0) (pa_cons (pv 1) pa_nil))) pa_nil)))
      (pss_one
        (ps_ret (pe_op op_sub (pe_callB (r := rLen K) c_len (by rfl) T.n_len (by decide +kernel) (pa_cons (pe_fldK (K := K) rfl (pv 0) rfl) pa_nil)) pe_int)))))))))
      , ?_⟩
    rw [show L2.start N_Book_named [V.ref p, V.ref a] = [some (.ref p), some (.ref a)] from rfl]
    refine w_seq ?_
    walk_at "x"
    refine ⟨p, dx, lc, ld, lg, a, cs, ds, c, rfl, B, hc, ok, fun H1 k1 => ?_⟩
    have B1 := B.same k1
    have hc1 := hc.kt (KT.of k1)
    have ob1 := B1.ob
    have co1 := B1.co
    have de1 := B1.de
    walk_at "g"
    refine w_seq ?_
    walk_at "g"
    refine w_nin' B1.gi hc1.nk c.key_depth ?_
    walk_at "g"
    by_cases hin : ∀ q ∈ cs, q.2 ≠ c
    · rw [ents_none cs 0 hin, Option.isSome_none]
      walk_at "g"
      refine w_seq ?_
      walk_at "g"
      refine w_no (by rw [List.length_map]; omega) ?_
      walk_at "g"
      refine w_nput' B1.gi hc1.nk c.key_depth (by rw [entsF_len]; exact small1kl (by omega)) fun H2 d2 o2 => ?_
      have t2 : KT H1 H2 := ⟨fun b ys e => o2.get (ne_of e B1.gi.at' (fun z => nomatch z)) e, fun b _ ys e => o2.get (ne_of e B1.gi.at' (fun z => nomatch z)) e⟩
      have nlc : lc ≠ lg := ne_of co1 B1.gi.at' (fun z => nomatch z)
      have nld : ld ≠ lg := ne_of de1 B1.gi.at' (fun z => nomatch z)
      have npg : p ≠ lg := ne_of ob1 B1.gi.at' (fun z => nomatch z)
      have npc : p ≠ lc := ne_of ob1 co1 (fun z => nomatch z)
      have npd : p ≠ ld := ne_of ob1 de1 (fun z => nomatch z)
      have co2 := o2.get nlc co1
      have de2 := o2.get nld de1
      have ob2 := o2.get npg ob1
      have ep : NPut (entsF 0 cs) c.key a (V.int ((cs.map fun q => V.ref q.1).length : Int)) = entsF 0 (cs ++ [(a, c)]) := by
        unfold NPut
        rw [ents_none cs 0 hin, entsF_snoc, List.length_map, Nat.zero_add]
        rfl
      rw [ep] at d2
      walk_at "g"
      refine w_app co2 (by rw [List.length_map]; exact small1kl (by omega)) fun H3 e3 o3 => ?_
      have t3 : KT H2 H3 := KT.off o3 co2
      have de3 := o3.get B1.ne.symm de2
      have ob3 := o3.get npc ob2
      walk_at "g"
      have kt13 := t2.trans t3
      have ct3 : ∀ q ∈ cs ++ [(a, c)], CtAt H3 q.1 q.2 := fun q hq => by
        rcases List.mem_append.mp hq with h | h
        · exact (B1.ct q h).kt kt13
        · have e : q = (a, c) := by simpa using h
          subst e
          exact hc1.kt kt13
      refine ⟨p, dx, lc, ld, lg, a, ds, c, rfl, ob3, de3, hc1.kt kt13, fun es e => ?_, fun H4 k4 => ?_⟩
      · subst e
        refine ⟨ok.1, fun z hz => ?_⟩
        obtain ⟨_, c', g2, _⟩ := ok.2.1 z hz
        have := (List.getElem?_eq_some_iff.mp g2).1
        rw [B.dl]
        rwa [List.length_map] at this
      have de4 := k4 _ _ de3
      walk_at "g"
      refine w_app de4 (by rw [List.length_map, B.dl]; exact small1kl (by omega)) fun H5 e5 o5 => ?_
      have t5 : KT H4 H5 := KT.off o5 de4
      have ob5 := o5.get npd (k4 _ _ ob3)
      have co5 := o5.get B1.ne (k4 _ _ e3)
      have d5 : NDict P w H5 lg (entsF 0 (cs ++ [(a, c)])) := ((d2.kp (M := [lc]) (o3.kp (by simp)) t3 (by simpa using nlc.symm)).kp (M := []) (Kp.of k4) (KT.of k4) (by simp)).kp (M := [ld]) (o5.kp (by simp)) t5 (by simpa using nld.symm)
      have kt15 : KT H1 H5 := kt13.trans ((KT.of k4).trans t5)
      walk_at "g"
      have hlen : ((cs.map fun q => V.ref q.1) ++ [V.ref a]).length = cs.length + 1 := by rw [List.length_append, List.length_map]; rfl
      rw [hlen, show (((cs.length + 1 : Nat) : Int) - 1) = (cs.length : Int) by omega]
      refine q2 hin H5 ⟨ob5, by rw [co5, List.map_append]; rfl, by rw [e5, List.map_append]; rfl, d5, fun q hq => (ct3 q hq).kt ((KT.of k4).trans t5), ?_, by rw [List.length_append, List.length_append, B.dl]; rfl, B.ne, by rw [List.length_append]; simp only [List.length_cons, List.length_nil]; omega⟩ ?_ ((KT.of k1).trans kt15)
      · rw [List.map_append, List.nodup_append]
        refine ⟨B.nd, by simp, fun x hx y hy e => ?_⟩
        obtain ⟨z, hz, rfl⟩ := List.mem_map.mp hx
        have e' : y = c := by simpa using hy
        rw [e'] at e
        exact hin z hz e
      · intro b o hb e
        simp only [List.mem_cons, List.not_mem_nil, or_false, not_or] at hb
        exact o5.get hb.2.1 (k4 _ _ (o3.get hb.1 (o2.get hb.2.2 (k1 _ _ e))))
    · obtain ⟨z, hz, ez⟩ : ∃ q ∈ cs, q.2 = c := by
        refine Classical.byContradiction fun h => hin fun q hq e => h ⟨q, hq, e⟩
      obtain ⟨j, hj, ej⟩ := List.getElem_of_mem hz
      have hj' : cs[j]? = some (z.1, c) := by rw [List.getElem?_eq_getElem hj, ej, ← ez]
      have ev := ents_some cs 0 j B.nd hj'
      rw [Nat.zero_add] at ev
      rw [ev, Option.isSome_some]
      walk_at "g"
      refine w_nget' B1.gi hc1.nk c.key_depth ev ?_
      exact q1 j z.1 H1 hj' k1
end
/-! ### views -/
def HereAt (H : Hp) (d : Addr) (hs : List Nat) : Prop := ∃ kvs, H d = some (.dK kvs) ∧ ∀ n : Nat, (valV kvs (Sum.inl (n : Int))).isSome = decide (n ∈ hs)
structure ViewAt (P : Program) (w : World) (C CH : Addr) (H : Hp) (v dv p dx lc ld lg rw' hd : Addr) (cs : List (Addr × Ct)) (ds hs : List Nat) : Prop where
  ob : H v = some (.ins CH dv [("book", .ref p), ("row", .ref rw'), ("here", .ref hd)])
  row : H rw' = some (.lst (hs.map nV))
  here : HereAt H hd hs
  bk : BookAt P w C H p dx lc ld lg cs ds
  in' : ∀ n ∈ hs, n < cs.length
  up : hs.Pairwise (· < ·)
theorem HereAt.kp {M : List Addr} {H H' : Hp} {d : Addr} {hs : List Nat} (h : HereAt H d hs) (k : Kp M H H') (n : d ∉ M) : HereAt H' d hs := by
  obtain ⟨kvs, h1, h2⟩ := h
  exact ⟨kvs, k _ _ n h1, h2⟩
theorem ViewAt.same {P : Program} {w : World} {C CH : Addr} {H H' : Hp} {v dv p dx lc ld lg rw' hd : Addr} {cs : List (Addr × Ct)} {ds hs : List Nat} (h : ViewAt P w C CH H v dv p dx lc ld lg rw' hd cs ds hs) (k : Same H H') : ViewAt P w C CH H' v dv p dx lc ld lg rw' hd cs ds hs :=
  ⟨k _ _ h.ob, k _ _ h.row, h.here.kp (M := []) (Kp.of k) (by simp), h.bk.same k, h.in', h.up⟩
theorem ViewAt.kp {P : Program} {w : World} {C CH : Addr} {M : List Addr} {H H' : Hp} {v dv p dx lc ld lg rw' hd : Addr} {cs : List (Addr × Ct)} {ds hs : List Nat} (h : ViewAt P w C CH H v dv p dx lc ld lg rw' hd cs ds hs) (k : Kp M H H') (t : KT H H') (h1 : v ∉ M) (h2 : rw' ∉ M) (h3 : hd ∉ M) (h4 : p ∉ M) (h5 : lc ∉ M) (h6 : ld ∉ M) (h7 : lg ∉ M) : ViewAt P w C CH H' v dv p dx lc ld lg rw' hd cs ds hs :=
  ⟨k _ _ h1 h.ob, k _ _ h2 h.row, h.here.kp k h3, h.bk.kp k t h4 h5 h6 h7, h.in', h.up⟩
def spViewInit (P : Program) (w : World) (C CH : Addr) : Sp := fun vs H Q _ => ∃ (v dv p dx lc ld lg l : Addr) (cs : List (Addr × Ct)) (ds names : List Nat), vs = [.ref v, .ref p, .ref l] ∧ H v = some (.ins CH dv []) ∧ BookAt P w C H p dx lc ld lg cs ds ∧ H l = some (.lst (names.map nV)) ∧ names.length ≤ 1000 ∧ (∀ n ∈ names, n < cs.length) ∧
  ∀ (rw' hd : Addr) (hs : List Nat) (H' : Hp), H rw' = none → H hd = none → ViewAt P w C CH H' v dv p dx lc ld lg rw' hd cs ds hs → (∀ n, n ∈ hs ↔ n ∈ names) → Kp [v] H H' → Q .non H'
def spHolds (P : Program) (w : World) (C CH : Addr) : Sp := fun vs H Q _ => ∃ (v dv p dx lc ld lg rw' hd : Addr) (cs : List (Addr × Ct)) (ds hs : List Nat) (x : V) (a : String), vs = [.ref v, x] ∧ ViewAt P w C CH H v dv p dx lc ld lg rw' hd cs ds hs ∧ Ty H x a ∧ (∀ n : Nat, x = nV n → n ∈ hs → Q (.bl true) H) ∧ ((∀ n : Nat, x = nV n → n ∉ hs) → Q (.bl false) H)
def pars (cs : List (Addr × Ct)) (n : Nat) : List Nat := match cs[n]? with
  | some (_, .ver ps _ _) => ps
  | _ => []
def isV (cs : List (Addr × Ct)) (n : Nat) : Prop := ∃ a ps r s, cs[n]? = some (a, Ct.ver ps r s)
def hpar (cs : List (Addr × Ct)) (hs : List Nat) (n : Nat) : List Nat := (pars cs n).filter fun p => decide (p ∈ hs)
def edgs (cs : List (Addr × Ct)) (hs ns : List Nat) : List Nat := ns.filter fun n => decide ((hpar cs hs n).length < (pars cs n).length)
theorem isV.at {cs : List (Addr × Ct)} {n : Nat} (h : isV cs n) : ∃ a r s, cs[n]? = some (a, Ct.ver (pars cs n) r s) := by
  obtain ⟨a, ps, r, s, e⟩ := h
  refine ⟨a, r, s, ?_⟩
  unfold pars
  rw [e]
theorem isV.of {cs : List (Addr × Ct)} {n p : Nat} (h : p ∈ pars cs n) : isV cs n := by
  unfold pars at h
  split at h
  · rename_i a ps r s e
    exact ⟨a, ps, r, s, e⟩
  · cases h
/-- a version's parents are versions, few -/
structure BkOk (cs : List (Addr × Ct)) : Prop where
  par : ∀ n p, p ∈ pars cs n → isV cs p ∧ p < n
  few : ∀ n, (pars cs n).length ≤ 4
theorem isV.lt {cs : List (Addr × Ct)} {n : Nat} (h : isV cs n) : n < cs.length := by
  obtain ⟨a, ps, r, s, e⟩ := h
  exact (List.getElem?_eq_some_iff.mp e).1
theorem rise_len : ∀ (hs : List Nat) (a b : Nat), hs.Pairwise (· < ·) → (∀ n ∈ hs, a ≤ n) → (∀ n ∈ hs, n < b) → a ≤ b → hs.length + a ≤ b
  | [], a, b, _, _, _, h => by simpa using h
  | n :: r, a, b, hp, h1, h2, h => by
    rw [List.pairwise_cons] at hp
    have q1 := h1 n (by simp)
    have q2 := h2 n (by simp)
    have := rise_len r (n + 1) b hp.2 (fun m hm => hp.1 m hm) (fun m hm => h2 m (by simp [hm])) (by omega)
    rw [List.length_cons]
    omega
def natSel (p : Nat → Bool) (ns : List Nat) (i : Nat) : Option V := ns[i]?.bind fun n => if p n = true then some (nV n) else none
theorem natSel_all (p : Nat → Bool) : ∀ ns : List Nat, (List.range ns.length).filterMap (natSel p ns) = (ns.filter p).map nV
  | [] => rfl
  | n :: ns => by
    have e : (List.range (n :: ns).length).filterMap (natSel p (n :: ns)) = (natSel p (n :: ns) 0).toList ++ (List.range ns.length).filterMap (natSel p ns) := by
      rw [List.length_cons, List.range_succ_eq_map, List.filterMap_cons]
      have e2 : List.filterMap (natSel p (n :: ns)) (List.map Nat.succ (List.range ns.length)) = List.filterMap (natSel p ns) (List.range ns.length) := by
        rw [List.filterMap_map]
        rfl
      rw [e2]
      cases natSel p (n :: ns) 0 <;> rfl
    rw [e, natSel_all p ns]
    show (if p n = true then some (nV n) else none).toList ++ _ = _
    by_cases h : p n = true
    · rw [if_pos h, List.filter_cons_of_pos h]
      rfl
    · rw [if_neg h, List.filter_cons_of_neg h]
      rfl
def spHeldParents (P : Program) (w : World) (C CH : Addr) : Sp := fun vs H Q _ => ∃ (v dv p dx lc ld lg rw' hd : Addr) (cs : List (Addr × Ct)) (ds hs : List Nat) (n : Nat), vs = [.ref v, nV n] ∧ ViewAt P w C CH H v dv p dx lc ld lg rw' hd cs ds hs ∧ BkOk cs ∧ isV cs n ∧ ∀ (H' : Hp) (l : Addr), Same H H' → H l = none → H' l = some (.lst ((hpar cs hs n).map nV)) → Q (.ref l) H'
def spEdgesOf (P : Program) (w : World) (C CH : Addr) : Sp := fun vs H Q _ => ∃ (v dv p dx lc ld lg rw' hd r : Addr) (cs : List (Addr × Ct)) (ds hs ns : List Nat), vs = [.ref v, .ref r] ∧ ViewAt P w C CH H v dv p dx lc ld lg rw' hd cs ds hs ∧ BkOk cs ∧ H r = some (.tup (ns.map nV)) ∧ ns.length ≤ 1000 ∧ (∀ n ∈ ns, isV cs n) ∧ ∀ (H' : Hp) (t : Addr), Same H H' → H' t = some (.tup ((edgs cs hs ns).map nV)) → Q (.ref t) H'
section
variable {P : Program} {w : World} {K : PySem.W.Frag} {mg : Str → Option Value} {base : Heap} {C CH : Addr}
theorem ok_viewinit {f fN fI : Addr} {fd fdN fdI : FuncData} (T : Txt K mg) (F : Fun K "__init__" "Holding.__init__" s_Holding___init__ f fd) (K_Book : Kl K mg "Book" C ["contents", "depths", "given"]) (K_Holding : Kl K mg "Holding" CH ["book", "row", "here"]) (D_is_name : Df K mg "is_name" s_is_name ["book", "thing"] fN fdN) (D_is_int : DfD K mg "is_int" s_is_int ["thing", "least"] [.int 0] fI fdI) : FnOk P w K mg base CX0 3 f fd ["self", "book", "names"] (spViewInit P w C CH) := by
  have G_is_name : FnOk P w K mg base CX0 2 fN fdN ["book", "thing"] (spIsName P w C) := ok_isname T D_is_name.fn K_Book D_is_int
  have cl := K_Holding.cl
  have n1 := K_Holding.na "book" (by simp)
  have n2 := K_Holding.na "row" (by simp)
  have n3 := K_Holding.na "here" (by simp)
  refine F.ok sc_Holding___init__ (fun vs H Q E h => ?_) (fun cdv A outer s H vs Q E hr h => ?_)
  · obtain ⟨v, dv, p, dx, lc, ld, lg, l, cs, ds, names, rfl, _⟩ := h
    rfl
  · obtain ⟨v, dv, p, dx, lc, ld, lg, l, cs, ds, names, rfl, hv, B, hl, hnl, hin, q⟩ := h
    refine ⟨_,
      (pss_cons
        (ps_for PassesOwn.never rfl (pi_list (pv 2)) (pg_name (i := 3) sc_Holding___init__.nd rfl (.inl rfl))
          (pss_one
            (ps_if (pt_not (pt_val (pe_call G_is_name (hr.mono (by omega)) (by rfl) D_is_name.g D_is_name.fn.kp D_is_name.b .nil pass0 (pa_cons (pv 1) (pa_cons (pv 3) pa_nil)))))
              pss_never
              pss_nil)))
      (pss_cons
        (ps_fld (pv 0) (pv 1) rfl)
      (pss_cons
        (ps_fld (pv 0) (pe_callB (r := rSortS w) (c_sortS rfl) (by rfl) T.n_sorted (by decide +kernel) (pa_cons (pe_callTy (r := rSetL K w) (c_setL rfl) (by rfl) T.n_set (by decide +kernel) (pa_cons (pv 2) pa_nil)) pa_nil)) rfl)
      (pss_one
        (ps_fld (pv 0) (pe_dc (own := [("name", 3)]) (g := (gName 3)) rfl sc_Holding___init__.nd (pi_list (pe_fldK (K := K) rfl (pv 0) rfl)) (blkOk_by (own := [("name", 3)]) (N := N_Holding___init__) (sc := defScope s_Holding___init__) (by decide +kernel)) (fun _ _ _ _ _ => (pg_name (i := 3) sc_Holding___init__.nd rfl (.inl rfl))) (fun _ _ _ _ _ => pts_nil) (fun _ _ _ _ _ => (pv 3)) (fun _ _ _ _ _ => pe_bl)) rfl)))))
      , ?_⟩
    rw [show L2.start N_Holding___init__ [V.ref v, V.ref p, V.ref l] = [some (.ref v), some (.ref p), some (.ref l), none] from rfl]
    walk_at "x"
    refine lp_list (xs := names.map nV) (fun i σ H' => H' = H ∧ ∃ y : Option V, σ = [some (.ref v), some (.ref p), some (.ref l), y]) ⟨rfl, _, rfl⟩ (fun i σ H' _ ⟨e, _⟩ => by rw [e]; exact .of hl) ?_ ?_
    · rintro i x σ H1 hx ⟨rfl, y, rfl⟩
      obtain ⟨n, hn, rfl⟩ := map_at hx
      have hlt := hin n (List.mem_of_getElem? hn)
      walk_at "g"
      refine ⟨p, dx, lc, ld, lg, cs, ds, nV n, "int", rfl, B, .int _, fun m _ _ => ?_, fun hm => absurd hlt (hm n rfl)⟩
      walk_at "g"
      exact ⟨rfl, _, rfl⟩
    · rintro σ H1 ⟨rfl, y, rfl⟩
      walk_at "g"
      refine w_fldS' hv cl n1 (by decide) fun H2 o2 f2 => ?_
      have vl : l ≠ v := ne_of hl hv (fun z => nomatch z)
      have hl2 := f2.get vl hl
      have hl2' : H2 l = some (.lst ((names.map fun n : Nat => (n : Int)).map V.int)) := by rw [List.map_map]; exact hl2
      walk_at "g"
      refine w_setOf (.of hl2') (by rw [List.length_map]; omega) fun st c H3 hst hc e3 k3 => ?_
      walk_at "g"
      refine w_sortS e3 (by rw [List.length_map] at hc; omega) fun ys rw' H4 hup hmem hrw e4 k4 => ?_
      have k24 := Same.trans k3 k4
      have o4 := k24 _ _ o2
      obtain ⟨hs, rfl⟩ : ∃ hs : List Nat, ys = hs.map fun n : Nat => (n : Int) := by
        have : ∀ {zs : List Int}, (∀ z ∈ zs, ∃ n : Nat, z = n) → ∃ hs : List Nat, zs = hs.map fun n : Nat => (n : Int) := by
          intro zs
          induction zs with
          | nil => intro _; exact ⟨[], rfl⟩
          | cons z zs ih =>
            intro h
            obtain ⟨n, rfl⟩ := h z (by simp)
            obtain ⟨hs, rfl⟩ := ih fun y hy => h y (by simp [hy])
            exact ⟨n :: hs, rfl⟩
        refine this fun z hz => ?_
        have := (hmem z).mp hz
        obtain ⟨n, _, rfl⟩ := List.mem_map.mp (of_decide_eq_true this)
        exact ⟨n, rfl⟩
      have hm2 : ∀ n, n ∈ hs ↔ n ∈ names := fun n => by
        have h1 := hmem (n : Int)
        have a1 : (n : Int) ∈ (hs.map fun n : Nat => (n : Int)) ↔ n ∈ hs := ⟨fun h => by
          obtain ⟨m, hm, e⟩ := List.mem_map.mp h
          have : m = n := by omega
          rw [← this]; exact hm, fun h => List.mem_map.mpr ⟨n, h, rfl⟩⟩
        have a2 : (n : Int) ∈ (names.map fun n : Nat => (n : Int)) ↔ n ∈ names := ⟨fun h => by
          obtain ⟨m, hm, e⟩ := List.mem_map.mp h
          have : m = n := by omega
          rw [← this]; exact hm, fun h => List.mem_map.mpr ⟨n, h, rfl⟩⟩
        rw [← a1, h1, decide_eq_true_iff, a2]
      have hup2 : hs.Pairwise (· < ·) := by
        rw [List.pairwise_map] at hup
        exact hup.imp fun {a b} h => by omega
      have e4' : H4 rw' = some (.lst (hs.map nV)) := by rw [e4, List.map_map]; rfl
      have nrw : rw' ≠ v := by
        intro z
        subst z
        rw [k3 _ _ o2] at hrw
        cases hrw
      have hrw0 : H1 rw' = none := by
        cases e : H1 rw' with
        | none => rfl
        | some o => rw [k3 _ _ (f2.get nrw e)] at hrw; cases hrw
      walk_at "g"
      refine w_fldS' o4 cl n2 (show (1 : Nat) < 1000 by decide) fun H5 o5 f5 => ?_
      have e5 := f5.get nrw e4'
      have hslen : hs.length ≤ 1000 := by
        have := rise_len hs 0 cs.length hup2 (fun n _ => Nat.zero_le n) (fun n hn => hin n ((hm2 n).mp hn)) (Nat.zero_le _)
        have := B.few
        omega
      walk_at "g"
      refine dcp_map (walk_list (K := K) (a := rw') (xs := hs.map nV)) [] (hs.map fun n : Nat => ((Sum.inl (n : Int) : Key), V.bl true)) (by simp) (by rw [List.length_map]; omega) (fun H' k => .of (k _ _ (by simp) e5)) ?_ (by simp) ?_
      · rintro i x H6 H7 R hi k6 ⟨rfl, hx⟩ hR
        obtain ⟨n, hn, rfl⟩ := map_at hx
        refine w_name ⟨rfl, ?_⟩
        walk_at "g"
        exact hR _ _ (by rw [List.getElem?_map, hn]; rfl) Kp.refl
      · intro hd H6 hhd k6' e6
        have k6 := k6'.same
        have o6 := k6 _ _ o5
        have nhd : hd ≠ v := by
          intro z
          subst z
          rw [o5] at hhd
          cases hhd
        have hhd0 : H1 hd = none := by
          cases e : H1 hd with
          | none => rfl
          | some o => rw [f5.get nhd (k24 _ _ (f2.get nhd e))] at hhd; cases hhd
        walk_at "g"
        refine w_fldS' o6 cl n3 (show (2 : Nat) < 1000 by decide) fun H7 o7 f7 => ?_
        have K17 : Kp [v] H1 H7 := fun b o hb e => by
          have hb' : b ≠ v := by simpa using hb
          exact f7.get hb' (k6 _ _ (f5.get hb' (k24 _ _ (f2.get hb' e))))
        have T17 : KT H1 H7 := ⟨fun b ys e => K17 b _ (by simpa using ne_of e hv (fun z => nomatch z)) e, fun b _ ys e => K17 b _ (by simpa using ne_of e hv (fun z => nomatch z)) e⟩
        have hpv : p ≠ v := fun z => by
          subst z
          have := B.ob
          rw [hv] at this
          have e2 := Option.some.inj this
          injection e2 with _ _ e2
          cases e2
        have hB := B.kp K17 T17 (by simpa using hpv) (by simpa using ne_of B.co hv (fun z => nomatch z)) (by simpa using ne_of B.de hv (fun z => nomatch z)) (by simpa using ne_of B.gi.at' hv (fun z => nomatch z))
        refine q rw' hd hs H7 hrw0 hhd0 ⟨o7, f7.get nrw (k6 _ _ e5), ⟨_, f7.get nhd e6, fun n => ?_⟩, hB, fun n hn => hin n ((hm2 n).mp hn), hup2⟩ hm2 K17
        rw [valV_merge, valV_nil, Bool.eq_iff_iff]
        simp
        exact ⟨fun ⟨x, hx, e⟩ => by rw [show n = x by omega]; exact hx, fun h => ⟨n, h, rfl⟩⟩
theorem ok_holds {f fN fI : Addr} {fd fdN fdI : FuncData} (T : Txt K mg) (F : Fun K "holds" "Holding.holds" s_Holding_holds f fd) (K_Book : Kl K mg "Book" C ["contents", "depths", "given"]) (K_Holding : Kl K mg "Holding" CH ["book", "row", "here"]) (D_is_name : Df K mg "is_name" s_is_name ["book", "thing"] fN fdN) (D_is_int : DfD K mg "is_int" s_is_int ["thing", "least"] [.int 0] fI fdI) : FnOk P w K mg base CX0 3 f fd ["self", "name"] (spHolds P w C CH) := by
  have G_is_name : FnOk P w K mg base CX0 2 fN fdN ["book", "thing"] (spIsName P w C) := ok_isname T D_is_name.fn K_Book D_is_int
  have cl := K_Holding.cl
  have n1 := K_Holding.na "book" (by simp)
  have n3 := K_Holding.na "here" (by simp)
  refine F.ok sc_Holding_holds (fun vs H Q E h => ?_) (fun cdv A outer s H vs Q E hr h => ?_)
  · obtain ⟨v, dv, p, dx, lc, ld, lg, rw', hd, cs, ds, hs, x, a, rfl, _⟩ := h
    rfl
  · obtain ⟨v, dv, p, dx, lc, ld, lg, rw', hd, cs, ds, hs, x, a, rfl, W, t, q1, q2⟩ := h
    have hu := hu_of hr
    have ob := W.ob
    obtain ⟨kvs, hh, hk⟩ := W.here
    refine ⟨_,
      (pss_one
        (ps_ret (pe_and (pe_call G_is_name (hr.mono (by omega)) (by rfl) D_is_name.g D_is_name.fn.kp D_is_name.b .nil pass0 (pa_cons (pe_fldK (K := K) rfl (pv 0) rfl) (pa_cons (pv 1) pa_nil))) (pe_one (pe_cmp (pc_din hu (pv 1) (pe_fldK (K := K) rfl (pv 0) rfl)))))))
      , ?_⟩
    rw [show L2.start N_Holding_holds [V.ref v, x] = [some (.ref v), some x] from rfl]
    walk_at "x"
    refine ⟨p, dx, lc, ld, lg, cs, ds, x, a, rfl, W.bk, t, fun n hn hl => ?_, fun hn => ?_⟩
    · subst hn
      walk_at "g"
      rw [hk]
      by_cases h : n ∈ hs
      · rw [decide_eq_true h]
        exact q1 n rfl h
      · rw [decide_eq_false h]
        exact q2 fun m e => by
          have : n = m := by have : (n : Int) = m := V.int.inj e; omega
          subst this
          exact h
    · walk_at "g"
      exact q2 fun n e h => hn n e (W.in' n h)
end
theorem dp_nats {K : PySem.W.Frag} {H : Hp} : ∀ ns : List Nat, DpAll K H (ns.map nV) (ns.map fun n : Nat => PyData.int (n : Int))
  | [] => .nil
  | n :: r => .cons (.int _) (dp_nats r)
theorem nats_eqv : ∀ ls xs : List Nat, PyData.eqvAll (ls.map fun n : Nat => PyData.int (n : Int)) (xs.map fun n : Nat => PyData.int (n : Int)) = decide (ls = xs)
  | [], [] => rfl
  | [], x :: xs => by simp [PyData.eqvAll]
  | z :: ls, [] => by simp [PyData.eqvAll]
  | z :: ls, x :: xs => by
    rw [List.map_cons, List.map_cons, PyData.eqvAll, PyData.eqv, nats_eqv ls xs]
    by_cases h1 : z = x
    · subst h1
      simp
    · have : ¬ (z : Int) = x := by omega
      simp [h1, this]
theorem nats_lay : ∀ ns : List Nat, PyData.canLayAll0 (ns.map fun n : Nat => PyData.int (n : Int)) = true ∧ PyData.depthAll (ns.map fun n : Nat => PyData.int (n : Int)) ≤ 1
  | [] => ⟨rfl, by decide⟩
  | n :: r => by
    obtain ⟨h1, h2⟩ := nats_lay r
    refine ⟨?_, ?_⟩
    · rw [List.map_cons, PyData.canLayAll0, h1, PyData.canLay0]; rfl
    · rw [List.map_cons, PyData.depthAll, PyData.depth]; omega
theorem nV_map (ns : List Nat) : ns.map nV = (ns.map fun n : Nat => (n : Int)).map V.int := by rw [List.map_map]; rfl
theorem int_mem {ns : List Nat} {n : Nat} : (n : Int) ∈ (ns.map fun n : Nat => (n : Int)) ↔ n ∈ ns := by
  constructor
  · intro h
    obtain ⟨m, hm, e⟩ := List.mem_map.mp h
    have : m = n := by omega
    rw [← this]
    exact hm
  · exact fun h => List.mem_map.mpr ⟨n, h, rfl⟩
theorem w_inNL {K : PySem.W.Frag} {H : Hp} {Q : VK} {p : Addr} {ns : List Nat} {n : Nat} (h1 : H p = some (.lst (ns.map nV))) (h : Q (.bl (decide (n ∈ ns))) H) : rIn K false (nV n) (.ref p) H Q := by
  refine w_inL (vs := ns.map fun n : Nat => (n : Int)) (.of (by rw [← nV_map]; exact h1)) ?_
  rw [decide_eq_decide.mpr int_mem]
  exact h
theorem w_ninNL {K : PySem.W.Frag} {H : Hp} {Q : VK} {p : Addr} {ns : List Nat} {n : Nat} (h1 : H p = some (.lst (ns.map nV))) (h : Q (.bl (!decide (n ∈ ns))) H) : rIn K true (nV n) (.ref p) H Q := by
  refine w_ninL (vs := ns.map fun n : Nat => (n : Int)) (.of (by rw [← nV_map]; exact h1)) ?_
  rw [decide_eq_decide.mpr int_mem]
  exact h
theorem cutV_init (xs : List V) (x : V) : cutV (xs ++ [x]) none (some (-1)) = xs := by
  have e : HT.sIx (xs ++ [x]).length (xs ++ [x]).length (some (-1)) = xs.length := by
    show (if (-1 : Int) < 0 then ((-1 : Int) + ((xs ++ [x]).length : Int)).toNat else min (-1 : Int).toNat (xs ++ [x]).length) = _
    rw [if_pos (by decide), List.length_append, List.length_cons, List.length_nil]
    omega
  unfold cutV
  rw [e, HT.sIx_none, List.drop_zero, Nat.sub_zero, List.take_left']
  rfl
def Vw (P : Program) (w : World) (C CH : Addr) (H : Hp) (v : Addr) (cs : List (Addr × Ct)) (hs : List Nat) : Prop := ∃ (dv p dx lc ld lg rw' hd : Addr) (ds : List Nat), ViewAt P w C CH H v dv p dx lc ld lg rw' hd cs ds hs
theorem Vw.same {P : Program} {w : World} {C CH : Addr} {H H' : Hp} {v : Addr} {cs : List (Addr × Ct)} {hs : List Nat} (h : Vw P w C CH H v cs hs) (k : Same H H') : Vw P w C CH H' v cs hs := by
  obtain ⟨dv, p, dx, lc, ld, lg, rw', hd, ds, W⟩ := h
  exact ⟨dv, p, dx, lc, ld, lg, rw', hd, ds, W.same k⟩
def addK (ks : List Int) (x : Int) : List Int := if x ∈ ks then ks else ks ++ [x]
theorem mem_addK {ks : List Int} {x y : Int} : y ∈ addK ks x ↔ y ∈ ks ∨ y = x := by
  unfold addK
  by_cases h : x ∈ ks
  · rw [if_pos h]
    constructor
    · exact .inl
    · rintro (a | rfl)
      · exact a
      · exact h
  · rw [if_neg h]
    simp
theorem nd_addK {ks : List Int} {x : Int} (h : ks.Nodup) : (addK ks x).Nodup := by
  unfold addK
  by_cases e : x ∈ ks
  · rw [if_pos e]; exact h
  · rw [if_neg e]
    exact List.nodup_append.mpr ⟨h, by simp, fun a ha b hb => by
      have : b = x := by simpa using hb
      subst this
      exact fun z => e (z ▸ ha)⟩
theorem putK_keys {fk : List (Key × V)} {ks : List Int} {x : Int} {v : V} (h : fk.map (·.1) = ks.map (Sum.inl : Int → Key)) : (putK fk (Sum.inl x) v).map (·.1) = (addK ks x).map (Sum.inl : Int → Key) := by
  have he : (fk.any fun kv => decide (kv.1 = (Sum.inl x : Key))) = true ↔ x ∈ ks := by
    rw [List.any_eq_true]
    constructor
    · rintro ⟨kv, hk, e⟩
      have m : (Sum.inl x : Key) ∈ ks.map Sum.inl := by
        rw [← h, ← of_decide_eq_true e]
        exact List.mem_map_of_mem hk
      obtain ⟨y, hy, e2⟩ := List.mem_map.mp m
      exact Sum.inl.inj e2 ▸ hy
    · intro hx
      have m : (Sum.inl x : Key) ∈ fk.map (·.1) := by
        rw [h]
        exact List.mem_map_of_mem hx
      obtain ⟨kv, hk, e⟩ := List.mem_map.mp m
      exact ⟨kv, hk, decide_eq_true e⟩
  unfold putK addK
  by_cases e : x ∈ ks
  · rw [if_pos (he.mpr e), if_pos e, ← h, List.map_map]
    apply List.map_congr_left
    intro kv _
    show (if kv.1 = Sum.inl x then (kv.1, v) else kv).1 = kv.1
    by_cases q : kv.1 = (Sum.inl x : Key)
    · rw [if_pos q]
    · rw [if_neg q]
  · rw [if_neg (fun z => e (he.mp z)), if_neg e, List.map_append, List.map_append, h]
    rfl
theorem nodup_le : ∀ (ks vs : List Int), ks.Nodup → (∀ x ∈ ks, x ∈ vs) → ks.length ≤ vs.length
  | [], _, _, _ => Nat.zero_le _
  | k :: ks, vs, h, hs => by
    rw [List.nodup_cons] at h
    have hk := hs k (by simp)
    have ih := nodup_le ks (vs.erase k) h.2 fun x hx => (List.mem_erase_of_ne (fun z => h.1 (by rw [← z]; exact hx))).mpr (hs x (by simp [hx]))
    rw [List.length_erase_of_mem hk] at ih
    have : 0 < vs.length := List.length_pos_of_mem hk
    rw [List.length_cons]
    omega
structure FoundAt (H : Hp) (f : Addr) (ks : List Int) : Prop where
  at' : ∃ fk, H f = some (.dK fk) ∧ fk.map (·.1) = ks.map (Sum.inl : Int → Key)
  nd : ks.Nodup
theorem FoundAt.put {H1 : Hp} {f : Addr} {ks : List Int} {fk : List (Key × V)} {x : Int} {v : V} (hk : fk.map (·.1) = ks.map (Sum.inl : Int → Key)) (nd : ks.Nodup) (e : H1 f = some (.dK (putK fk (Sum.inl x) v))) : FoundAt H1 f (addK ks x) := ⟨⟨_, e, putK_keys hk⟩, nd_addK nd⟩
theorem val_keys {kvs : List (Key × V)} {ks : List Int} (h : kvs.map (·.1) = ks.map (Sum.inl : Int → Key)) (x : Int) : (valV kvs (Sum.inl x)).isSome = decide (x ∈ ks) := by
  rw [Bool.eq_iff_iff, decide_eq_true_iff]
  constructor
  · intro z
    obtain ⟨v, e⟩ := Option.isSome_iff_exists.mp z
    have m := valV_in e
    rw [h] at m
    obtain ⟨y, hy, e2⟩ := List.mem_map.mp m
    exact Sum.inl.inj e2 ▸ hy
  · intro z
    cases e : valV kvs (Sum.inl x) with
    | some v => rfl
    | none => exact absurd (by rw [h]; exact List.mem_map_of_mem z) (valV_not e)
/-! ### contents as plain data -/
def Ct.data : Ct → PyData
  | .leaf rows => .tuple [.str "leaf", .tuple (rows.map .str)]
  | .tree es => .tuple [.str "tree", .tuple (es.map fun e => .tuple [.str e.1, .int (e.2 : Int)])]
  | .ver ps root stamp => .tuple [.str "version", .tuple (ps.map fun n : Nat => .int (n : Int)), .int (root : Int), .int (stamp : Int)]
def Ct.txts : Ct → Prop
  | .leaf rows => ∀ z ∈ rows, PyData.strOk z = true
  | .tree es => ∀ e ∈ es, PyData.strOk e.1 = true
  | .ver _ _ _ => True
theorem dp_txts {K : PySem.W.Frag} {H : Hp} : ∀ ls : List Str, DpAll K H (ls.map V.str) (ls.map .str)
  | [] => .nil
  | z :: r => .cons (.str z) (dp_txts r)
theorem dp_ents {K : PySem.W.Frag} {H : Hp} : ∀ qs : List (Addr × Str × Nat), (∀ q ∈ qs, H q.1 = some (.tup [.str q.2.1, nV q.2.2])) → DpAll K H (qs.map fun q => .ref q.1) ((qs.map (·.2)).map fun e => .tuple [.str e.1, .int (e.2 : Int)])
  | [], _ => .nil
  | q :: r, h => .cons (.tup (.of (h q (by simp))) (.cons (.str _) (.cons (.int _) .nil))) (dp_ents r fun z hz => h z (by simp [hz]))
theorem CtAt.dp {K : PySem.W.Frag} {H : Hp} {a : Addr} {c : Ct} (h : CtAt H a c) : Dp K H (.ref a) c.data := by
  cases c with
  | leaf rows =>
    obtain ⟨r, h1, h2⟩ := h
    exact .tup (.of h1) (.cons (.str _) (.cons (.tup (.of h2) (dp_txts rows)) .nil))
  | tree es =>
    obtain ⟨r, qs, h1, h2, rfl, h4⟩ := h
    exact .tup (.of h1) (.cons (.str _) (.cons (.tup (.of h2) (dp_ents qs h4)) .nil))
  | ver ps root stamp =>
    obtain ⟨r, h1, h2⟩ := h
    exact .tup (.of h1) (.cons (.str _) (.cons (.tup (.of h2) (dp_nats ps)) (.cons (.int _) (.cons (.int _) .nil))))
theorem txts_eqv : ∀ ls xs : List Str, PyData.eqvAll (ls.map .str) (xs.map .str) = true ↔ ls = xs
  | [], [] => by simp [PyData.eqvAll]
  | [], x :: xs => by simp [PyData.eqvAll]
  | z :: ls, [] => by simp [PyData.eqvAll]
  | z :: ls, x :: xs => by
    rw [List.map_cons, List.map_cons, PyData.eqvAll, PyData.eqv, Bool.and_eq_true_iff, txts_eqv ls xs, beq_iff_eq, List.cons.injEq]
theorem ents_eqv : ∀ ls xs : List (Str × Nat), PyData.eqvAll (ls.map fun e => .tuple [.str e.1, .int (e.2 : Int)]) (xs.map fun e => .tuple [.str e.1, .int (e.2 : Int)]) = true ↔ ls = xs
  | [], [] => by simp [PyData.eqvAll]
  | [], x :: xs => by simp [PyData.eqvAll]
  | z :: ls, [] => by simp [PyData.eqvAll]
  | (z, n) :: ls, (x, m) :: xs => by
    rw [List.map_cons, List.map_cons, PyData.eqvAll, PyData.eqv, Bool.and_eq_true_iff, ents_eqv ls xs, List.cons.injEq, Prod.mk.injEq]
    simp only [PyData.eqvAll, PyData.eqv, Bool.and_true, Bool.and_eq_true, beq_iff_eq]
    constructor
    · rintro ⟨⟨h1, h2⟩, h3⟩
      exact ⟨⟨h1, by omega⟩, h3⟩
    · rintro ⟨⟨h1, h2⟩, h3⟩
      exact ⟨⟨h1, by omega⟩, h3⟩
theorem Ct.eqv_iff (c d : Ct) : PyData.eqv c.data d.data = true ↔ c = d := by
  cases c with
  | leaf r =>
    cases d with
    | leaf r' => simp [Ct.data, PyData.eqv, PyData.eqvAll, txts_eqv]
    | tree e' => simp [Ct.data, PyData.eqv, PyData.eqvAll, lit_ne1]
    | ver a b c => simp [Ct.data, PyData.eqv, PyData.eqvAll]
  | tree e =>
    cases d with
    | leaf r' => simp [Ct.data, PyData.eqv, PyData.eqvAll, lit_ne4]
    | tree e' => simp [Ct.data, PyData.eqv, PyData.eqvAll, ents_eqv]
    | ver a b c => simp [Ct.data, PyData.eqv, PyData.eqvAll]
  | ver a b c =>
    cases d with
    | leaf r' => simp [Ct.data, PyData.eqv, PyData.eqvAll]
    | tree e' => simp [Ct.data, PyData.eqv, PyData.eqvAll]
    | ver a' b' c' =>
      simp only [Ct.data, PyData.eqv, PyData.eqvAll, nats_eqv, Bool.and_true, Bool.and_eq_true, beq_iff_eq, decide_eq_true_iff, Ct.ver.injEq, true_and, beq_self_eq_true]
      constructor
      · rintro ⟨h1, h2, h3⟩
        exact ⟨h1, by omega, by omega⟩
      · rintro ⟨h1, h2, h3⟩
        exact ⟨h1, by omega, by omega⟩
theorem lay_txts : ∀ {ls : List Str}, (∀ z ∈ ls, PyData.strOk z = true) → PyData.canLayAll0 (ls.map .str) = true ∧ PyData.depthAll (ls.map .str) = 0
  | [], _ => ⟨rfl, rfl⟩
  | z :: ls, h => by
    obtain ⟨h1, h2⟩ := lay_txts (ls := ls) fun x hx => h x (by simp [hx])
    have hz := h z (by simp)
    simp only [List.map_cons, PyData.canLayAll0, PyData.depthAll, PyData.canLay0, PyData.depth, h1, h2, hz]
    exact ⟨rfl, rfl⟩
theorem lay_ents : ∀ {es : List (Str × Nat)}, (∀ e ∈ es, PyData.strOk e.1 = true) → PyData.canLayAll0 (es.map fun e => .tuple [.str e.1, .int (e.2 : Int)]) = true ∧ PyData.depthAll (es.map fun e => .tuple [.str e.1, .int (e.2 : Int)]) ≤ 1
  | [], _ => ⟨rfl, by decide⟩
  | z :: ls, h => by
    obtain ⟨h1, h2⟩ := lay_ents (es := ls) fun x hx => h x (by simp [hx])
    have hz := h z (by simp)
    rw [List.map_cons, PyData.canLayAll0, PyData.depthAll, h1]
    simp only [PyData.canLay0, PyData.canLayAll0, PyData.depth, PyData.depthAll, hz]
    exact ⟨rfl, by omega⟩
theorem Ct.lay {c : Ct} (h : c.txts) : PyData.canLay0 c.data = true ∧ PyData.depth c.data ≤ 4 := by
  have w1 : PyData.strOk (Str.ofString "leaf") = true := by decide +kernel
  have w2 : PyData.strOk (Str.ofString "tree") = true := by decide +kernel
  have w3 : PyData.strOk (Str.ofString "version") = true := by decide +kernel
  cases c with
  | leaf rows =>
    obtain ⟨h1, h2⟩ := lay_txts h
    simp only [Ct.data, PyData.canLay0, PyData.canLayAll0, PyData.depth, PyData.depthAll, h1, h2, w1]
    exact ⟨rfl, by decide⟩
  | tree es =>
    obtain ⟨h1, h2⟩ := lay_ents h
    simp only [Ct.data, PyData.canLay0, PyData.canLayAll0, PyData.depth, PyData.depthAll, h1, w2]
    exact ⟨rfl, by omega⟩
  | ver ps r s =>
    obtain ⟨h1, h2⟩ := nats_lay ps
    simp only [Ct.data, PyData.canLay0, PyData.canLayAll0, PyData.depth, PyData.depthAll, h1, w3]
    exact ⟨rfl, by omega⟩
theorem Ct.shaped {c : Ct} (h : c.txts) : SeqAt.shaped c.data = true := by
  obtain ⟨h1, h2⟩ := Ct.lay h
  unfold SeqAt.shaped
  rw [Bool.and_eq_true_iff]
  exact ⟨h1, decide_eq_true (by omega)⟩
theorem cts_lay : ∀ {cs : List Ct}, (∀ c ∈ cs, c.txts) → PyData.canLayAll0 (cs.map Ct.data) = true ∧ PyData.depthAll (cs.map Ct.data) ≤ 4
  | [], _ => ⟨rfl, by decide⟩
  | c :: cs, h => by
    obtain ⟨h1, h2⟩ := cts_lay (cs := cs) fun x hx => h x (by simp [hx])
    obtain ⟨g1, g2⟩ := Ct.lay (h c (by simp))
    rw [List.map_cons, PyData.canLayAll0, PyData.depthAll, h1, g1]
    exact ⟨rfl, by omega⟩
theorem cts_shaped {cs : List Ct} (h : ∀ c ∈ cs, c.txts) : SeqAt.shaped (.list (cs.map Ct.data)) = true := by
  obtain ⟨h1, h2⟩ := cts_lay h
  unfold SeqAt.shaped
  rw [Bool.and_eq_true_iff]
  refine ⟨by rw [PyData.canLay0]; exact h1, decide_eq_true ?_⟩
  rw [PyData.depth]
  omega
/-- the law's own list of contents -/
structure ThAt (H : Hp) (th : Addr) (cs : List (Addr × Ct)) : Prop where
  at' : H th = some (.lst (cs.map fun q => .ref q.1))
  ct : ∀ q ∈ cs, CtAt H q.1 q.2
theorem ThAt.kp {M : List Addr} {H H' : Hp} {th : Addr} {cs : List (Addr × Ct)} (h : ThAt H th cs) (k : Kp M H H') (t : KT H H') (n : th ∉ M) : ThAt H' th cs := ⟨k _ _ n h.at', fun q hq => (h.ct q hq).kt t⟩
theorem ThAt.same {H H' : Hp} {th : Addr} {cs : List (Addr × Ct)} (h : ThAt H th cs) (k : Same H H') : ThAt H' th cs := h.kp (M := []) (Kp.of k) (KT.of k) (by simp)
theorem dp_cts {K : PySem.W.Frag} {H : Hp} : ∀ cs : List (Addr × Ct), (∀ q ∈ cs, CtAt H q.1 q.2) → DpAll K H (cs.map fun q => .ref q.1) ((cs.map (·.2)).map Ct.data)
  | [], _ => .nil
  | q :: r, h => .cons (h q (by simp)).dp (dp_cts r fun z hz => h z (by simp [hz]))
theorem ThAt.dp {K : PySem.W.Frag} {H : Hp} {th : Addr} {cs : List (Addr × Ct)} (h : ThAt H th cs) : Dp K H (.ref th) (.list ((cs.map (·.2)).map Ct.data)) := .lst (.of h.at') (dp_cts cs h.ct)
/-! ### dicts of names -/
def FAt (H : Hp) (f : Addr) (F : Nat → Prop) : Prop := ∃ (fk : List (Key × V)) (ks : List Int), H f = some (.dK fk) ∧ fk.map (·.1) = ks.map (Sum.inl : Int → Key) ∧ ks.Nodup ∧ (∀ k ∈ ks, 0 ≤ k ∧ k < 1000) ∧ ∀ n : Nat, (n : Int) ∈ ks ↔ F n
theorem FAt.kp {M : List Addr} {H H' : Hp} {f : Addr} {F : Nat → Prop} (h : FAt H f F) (k : Kp M H H') (n : f ∉ M) : FAt H' f F := by
  obtain ⟨fk, ks, h1, h2⟩ := h
  exact ⟨fk, ks, k _ _ n h1, h2⟩
theorem FAt.same {H H' : Hp} {f : Addr} {F : Nat → Prop} (h : FAt H f F) (k : Same H H') : FAt H' f F := h.kp (M := []) (Kp.of k) (by simp)
theorem FAt.iff {H : Hp} {f : Addr} {F G : Nat → Prop} (h : FAt H f F) (e : ∀ n, F n ↔ G n) : FAt H f G := by
  obtain ⟨fk, ks, h1, h2, h3, h4, h5⟩ := h
  exact ⟨fk, ks, h1, h2, h3, h4, fun n => (h5 n).trans (e n)⟩
theorem FAt.obj {H : Hp} {f : Addr} {F : Nat → Prop} (h : FAt H f F) : ∃ fk, H f = some (.dK fk) := by
  obtain ⟨fk, ks, h1, _⟩ := h
  exact ⟨fk, h1⟩
theorem few_keys {ks : List Int} (nd : ks.Nodup) (h : ∀ k ∈ ks, 0 ≤ k ∧ k < 1000) : ks.length ≤ 1000 := by
  have := nodup_le ks ((List.range 1000).map fun n : Nat => (n : Int)) nd fun k hk => by
    obtain ⟨h1, h2⟩ := h k hk
    exact List.mem_map.mpr ⟨k.toNat, List.mem_range.mpr (by omega), by omega⟩
  rwa [List.length_map, List.length_range] at this
theorem w_fput {H : Hp} {f : Addr} {F : Nat → Prop} {n : Nat} {v : V} {R : Hp → Prop} (h1 : FAt H f F) (hn : n < 1000) (h : ∀ H1, FAt H1 f (fun m => F m ∨ m = n) → Off f H H1 → R H1) : rDPut (.ref f) (nV n) v H R := by
  obtain ⟨fk, ks, e, hk, nd, hb, hm⟩ := h1
  have hfl : fk.length = ks.length := by rw [← List.length_map (f := (·.1)), hk, List.length_map]
  have := few_keys nd hb
  refine w_dputI e (by rw [hfl]; exact small1kl this) fun H1 e1 o1 => h H1 ⟨_, _, e1, putK_keys hk, nd_addK nd, fun k hk' => ?_, fun m => ?_⟩ o1
  · rcases mem_addK.mp hk' with h | h
    · exact hb k h
    · omega
  · rw [mem_addK, hm]
    constructor
    · rintro (h | h)
      · exact .inl h
      · exact .inr (by omega)
    · rintro (h | h)
      · exact .inl h
      · exact .inr (by omega)
theorem w_fin {H : Hp} {f : Addr} {F : Nat → Prop} {i : Int} {Q : VK} (h1 : FAt H f F) (hy : ∀ n : Nat, i = n → F n → Q (.bl true) H) (hn : (∀ n : Nat, i = n → ¬ F n) → Q (.bl false) H) : rDIn (.ref f) (.int i) H Q := by
  obtain ⟨fk, ks, e, hk, nd, hb, hm⟩ := h1
  refine w_dinI e ?_
  rw [val_keys hk]
  by_cases h : i ∈ ks
  · rw [decide_eq_true h]
    obtain ⟨g1, g2⟩ := hb i h
    have e1 : i = ((i.toNat : Nat) : Int) := by omega
    exact hy i.toNat e1 ((hm i.toNat).mp (by rw [← e1]; exact h))
  · rw [decide_eq_false h]
    exact hn fun n e hF => h (by rw [e]; exact (hm n).mpr hF)
theorem w_fin' {H : Hp} {f : Addr} {F : Nat → Prop} {n : Nat} {Q : VK} (h1 : FAt H f F) (hy : F n → Q (.bl true) H) (hn : ¬ F n → Q (.bl false) H) : rDIn (.ref f) (nV n) H Q :=
  w_fin h1 (fun m e h => hy (by rw [show n = m by omega]; exact h)) fun h => hn (h n rfl)
theorem ints_nats : ∀ {zs : List Int}, (∀ z ∈ zs, 0 ≤ z) → ∃ hs : List Nat, zs = hs.map fun n : Nat => (n : Int)
  | [], _ => ⟨[], rfl⟩
  | z :: zs, h => by
    obtain ⟨hs, rfl⟩ := ints_nats (zs := zs) fun y hy => h y (by simp [hy])
    exact ⟨z.toNat :: hs, by rw [List.map_cons, show ((z.toNat : Nat) : Int) = z by have := h z (by simp); omega]⟩
theorem lt_of_le_nd : ∀ {zs : List Int}, zs.Pairwise (· ≤ ·) → zs.Nodup → zs.Pairwise (· < ·)
  | [], _, _ => .nil
  | z :: zs, h, nd => by
    rw [List.pairwise_cons] at h ⊢
    rw [List.nodup_cons] at nd
    exact ⟨fun y hy => by
      have := h.1 y hy
      have : z ≠ y := fun e => nd.1 (by rw [e]; exact hy)
      omega, lt_of_le_nd h.2 nd.2⟩
theorem w_fsort {H : Hp} {f : Addr} {F : Nat → Prop} {Q : VK} (h1 : FAt H f F) (h : ∀ (ns : List Nat) p H1, ns.Pairwise (· < ·) → (∀ n, n ∈ ns ↔ F n) → ns.length ≤ 1000 → H p = none → H1 p = some (.lst (ns.map nV)) → Same H H1 → Q (.ref p) H1) : rSortA [.ref f] H Q := by
  obtain ⟨fk, ks, e, hk, nd, hb, hm⟩ := h1
  have fw := few_keys nd hb
  refine w_sortA e hk (by omega) fun ys p H1 hp hle hnone e1 k1 => ?_
  obtain ⟨ns, rfl⟩ := ints_nats (zs := ys) fun z hz => (hb z (hp.mem_iff.mp hz)).1
  have hlt := lt_of_le_nd hle (hp.nodup_iff.mpr nd)
  refine h ns p H1 ?_ (fun n => ?_) ?_ hnone (by rw [e1, nV_map]) k1
  · rw [List.pairwise_map] at hlt
    exact hlt.imp fun {a b} h => by omega
  · rw [← int_mem, hp.mem_iff, hm]
  · have := hp.length_eq
    rw [List.length_map] at this
    omega
theorem KX.offN {d L : Addr} {H H1 H2 : Hp} (k : KX d H H1) (o : Off L H1 H2) (h : H L = none) : KX d H H2 where
  t := ⟨fun b xs e => o.get (ne_of_none e h) (k.t b xs e), fun b u xs e => o.get (ne_of_none e h) (k.t.f b u xs e)⟩
  l := fun b xs e => by
    obtain ⟨ys, e1⟩ := k.l b xs e
    exact ⟨ys, o.get (ne_of_none e h) e1⟩
  d := fun b xs e => by
    obtain ⟨ys, e1⟩ := k.d b xs e
    exact ⟨ys, o.get (ne_of_none e h) e1⟩
  p := fun b u hb e => o.get (ne_of_none e h) (k.p b u hb e)
def spGive : Sp := fun vs H Q _ => ∃ (th a : Addr) (cs : List (Addr × Ct)) (c : Ct), vs = [.ref th, .ref a] ∧ ThAt H th cs ∧ (cs.map (·.2)).Nodup ∧ CtAt H a c ∧ cs.length < 1000 ∧ (∀ q ∈ cs, q.2.txts) ∧ c.txts ∧
  (∀ j b, cs[j]? = some (b, c) → Q (nV j) H) ∧ ((∀ q ∈ cs, q.2 ≠ c) → ∀ H', ThAt H' th (cs ++ [(a, c)]) → Off th H H' → Q (nV cs.length) H')
def spSome : Sp := fun vs H Q _ => ∃ (d c l : Addr) (n m : Nat) (names : List Nat), vs = [.ref d, .ref l, nV m] ∧ Deck H d c n ∧ n + m ≤ MOSTD ∧ H l = some (.lst (names.map nV)) ∧ l ≠ d ∧ l ≠ c ∧ names.length ≤ 1000 ∧ m ≤ 1000 ∧
  ∀ (H' : Hp) (t : Addr) (ns : List Nat), Deck H' d c (n + m) → KX d H H' → H' t = some (.tup (ns.map nV)) → ns.Pairwise (· < ·) → ns.length ≤ m → (∀ x ∈ ns, x ∈ names) → Q (.ref t) H'
def dsOf (cs : List Ct) : List Nat := cs.foldl (fun ds c => ds ++ [depOf ds c]) []
theorem dsOf_snoc (cs : List Ct) (c : Ct) : dsOf (cs ++ [c]) = dsOf cs ++ [depOf (dsOf cs) c] := by
  unfold dsOf
  rw [List.foldl_append]
  rfl
/-- every content is good behind those ahead of it -/
def ScnOk (cs : List Ct) : Prop := ∀ i c, cs[i]? = some c → CtOk (cs.take i) (dsOf (cs.take i)) c
def spLBook (P : Program) (w : World) (C : Addr) : Sp := fun vs H Q _ => ∃ (th : Addr) (cs : List (Addr × Ct)), vs = [.ref th] ∧ ThAt H th cs ∧ ScnOk (cs.map (·.2)) ∧ (cs.map (·.2)).Nodup ∧ cs.length ≤ 400 ∧
  ∀ H' p dx lc ld lg ds, H p = none → H lc = none → H ld = none → H lg = none → BookAt P w C H' p dx lc ld lg cs ds → Same H H' → Q (.ref p) H'
def spLHere : Sp := fun vs H Q _ => ∃ (l : Addr) (hs : List Nat), vs = [.ref l] ∧ H l = some (.lst (hs.map nV)) ∧ (∀ n ∈ hs, n < 1000) ∧ ∀ H' f, H f = none → Same H H' → FAt H' f (fun n => n ∈ hs) → Q (.ref f) H'
def spLParents : Sp := fun vs H Q _ => ∃ (th f : Addr) (cs : List (Addr × Ct)) (hs : List Nat) (n : Nat), vs = [.ref th, .ref f, nV n] ∧ ThAt H th cs ∧ FAt H f (fun n => n ∈ hs) ∧ isV cs n ∧ (pars cs n).length ≤ 1000 ∧ ∀ H' l, Same H H' → H l = none → H' l = some (.lst ((hpar cs hs n).map nV)) → Q (.ref l) H'
def spLVersions : Sp := fun vs H Q _ => ∃ (th f : Addr) (cs : List (Addr × Ct)) (hs : List Nat), vs = [.ref th, .ref f] ∧ ThAt H th cs ∧ FAt H f (fun n => n ∈ hs) ∧ (∀ n ∈ hs, n < cs.length) ∧ hs.length ≤ 1000 ∧
  ∀ (H' : Hp) (l : Addr) (vsn : List Nat), Same H H' → H l = none → H' l = some (.lst (vsn.map nV)) → vsn.Pairwise (· < ·) → (∀ n, n ∈ vsn ↔ n ∈ hs ∧ isV cs n) → vsn.length ≤ 1000 → Q (.ref l) H'
def spLBrims : Sp := fun vs H Q _ => ∃ (th f r : Addr) (cs : List (Addr × Ct)) (hs ns : List Nat), vs = [.ref th, .ref f, .ref r] ∧ ThAt H th cs ∧ FAt H f (fun n => n ∈ hs) ∧ H r = some (.tup (ns.map nV)) ∧ ns.length ≤ 1000 ∧ (∀ n ∈ ns, isV cs n) ∧ (∀ n, (pars cs n).length ≤ 1000) ∧ ∀ H' t, Same H H' → H t = none → H' t = some (.tup ((edgs cs hs ns).map nV)) → Q (.ref t) H'
theorem nodup_at {α : Type} {l : List α} (nd : l.Nodup) {i j : Nat} {hi : i < l.length} {hj : j < l.length} (h : l[i] = l[j]) : i = j := by
  refine Classical.byContradiction fun hne => ?_
  rcases Nat.lt_or_gt_of_ne hne with g | g
  · exact List.pairwise_iff_getElem.mp nd i j hi hj g h
  · exact List.pairwise_iff_getElem.mp nd j i hj hi g h.symm
theorem word_isV {cs : List (Addr × Ct)} {n : Nat} {q : Addr × Ct} (h : cs[n]? = some q) : q.2.word = "version" ↔ isV cs n := by
  obtain ⟨a, c⟩ := q
  constructor
  · intro hw
    cases c with
    | leaf _ => exact absurd hw lit_ne2
    | tree _ => exact absurd hw lit_ne3
    | ver ps r s => exact ⟨a, ps, r, s, h⟩
  · rintro ⟨a', ps, r, s, e⟩
    rw [h] at e
    cases e
    rfl
section
variable {P : Program} {w : World} {K : PySem.W.Frag} {mg : Str → Option Value} {base : Heap} {C : Addr}
theorem ok_give {f : Addr} {fd : FuncData} (T : Txt K mg) (F : Fun K "_law_give" "_law_give" s_law_give f fd) : FnOk P w K mg base CX0 1 f fd ["_law_things", "_law_content"] spGive := by
  refine F.ok sc_law_give (fun vs H Q E h => ?_) (fun cdv A outer s H vs Q E hr h => ?_)
  · obtain ⟨th, a, cs, c, rfl, _⟩ := h
    rfl
  · obtain ⟨th, a, cs, c, rfl, ht, nd, hc, hl, ho, hco, q1, q2⟩ := h
    have hth := ht.at'
    have hlay : ∀ d ∈ cs.map (·.2), d.txts := fun d hd => by
      obtain ⟨q, hq, rfl⟩ := List.mem_map.mp hd
      exact ho q hq
    refine ⟨_,
      (pss_cons
        (ps_if (pt_cmpR (r := rInD K) (op_inD (Nat.lt_of_le_of_lt (Nat.add_le_add_left (show 65 ≤ 100 by decide) _) (room100 hr))) (pv 1) (pv 0) rfl)
          (pss_one
            (ps_ret (pe_bm PySem.F.plainAttrs_list PySem.F.slot_list_index PySem.F.type_list_index (mt_indexD (Nat.lt_of_le_of_lt (Nat.add_le_add_left (show 65 ≤ 100 by decide) _) (room100 hr))) (pv 0) (pa_cons (pv 1) pa_nil))))
          pss_nil)
      (pss_cons
        (ps_expr (pe_bm PySem.F.plainAttrs_list PySem.F.slot_list_append PySem.F.type_list_append mt_append (pv 0) (pa_cons (pv 1) pa_nil)))
      (pss_one
        (ps_ret (pe_op op_sub (pe_callB (r := rLen K) c_len (by rfl) T.n_len (by decide +kernel) (pa_cons (pv 0) pa_nil)) pe_int)))))
      , ?_⟩
    rw [show L2.start N_law_give [V.ref th, V.ref a] = [some (.ref th), some (.ref a)] from rfl]
    refine w_seq ?_
    walk_at "x"
    refine ⟨c.data, _, hc.dp, ht.dp, Ct.shaped hco, cts_shaped hlay, ?_⟩
    walk_at "g"
    by_cases hin : ∀ q ∈ cs, q.2 ≠ c
    · have e : ((cs.map (·.2)).map Ct.data).any (fun z => PyData.eqv z c.data) = false := by
        rw [Bool.eq_false_iff]
        intro h
        rw [List.any_eq_true] at h
        obtain ⟨z, hz, e⟩ := h
        obtain ⟨d, hd, rfl⟩ := List.mem_map.mp hz
        obtain ⟨q, hq, rfl⟩ := List.mem_map.mp hd
        exact hin q hq ((Ct.eqv_iff _ _).mp e)
      rw [e]
      walk_at "g"
      refine w_app ht.at' (by rw [List.length_map]; exact small1kl (by omega)) fun H1 e1 o1 => ?_
      walk_at "g"
      rw [show (((cs.map fun q => V.ref q.1) ++ [V.ref a]).length : Int) - 1 = (cs.length : Int) by rw [List.length_append, List.length_map]; simp]
      refine q2 hin H1 ⟨by rw [e1, List.map_append]; rfl, fun q hq => ?_⟩ o1
      have t1 : KT H H1 := KT.off o1 ht.at'
      rcases List.mem_append.mp hq with h | h
      · exact (ht.ct q h).kt t1
      · have e : q = (a, c) := by simpa using h
        subst e
        exact hc.kt t1
    · obtain ⟨z, hz, ez⟩ : ∃ q ∈ cs, q.2 = c := by
        refine Classical.byContradiction fun h => hin fun q hq e => h ⟨q, hq, e⟩
      obtain ⟨j, hj, ej⟩ := List.getElem_of_mem hz
      have hj' : cs[j]? = some (z.1, c) := by rw [List.getElem?_eq_getElem hj, ej, ← ez]
      have e : ((cs.map (·.2)).map Ct.data).any (fun z => PyData.eqv z c.data) = true := by
        rw [List.any_eq_true]
        exact ⟨c.data, List.mem_map.mpr ⟨c, List.mem_map.mpr ⟨z, hz, ez⟩, rfl⟩, (Ct.eqv_iff _ _).mpr rfl⟩
      rw [e]
      walk_at "g"
      refine ⟨th, .ref a, c.data, _, j, c.data, rfl, rfl, ht.dp, hc.dp, cts_shaped hlay, Ct.shaped hco, by rw [List.getElem?_map, List.getElem?_map, hj']; rfl, (Ct.eqv_iff _ _).mpr rfl, fun m z' hm hz' => ?_, ?_⟩
      · rw [List.getElem?_map, List.getElem?_map] at hz'
        have hmj : m < cs.length := by omega
        rw [List.getElem?_eq_getElem hmj] at hz'
        have e2 : (cs[m]).2.data = z' := Option.some.inj hz'
        rw [← e2, Bool.eq_false_iff]
        intro h
        have e3 := (Ct.eqv_iff _ _).mp h
        have e4 : cs[j] = (z.1, c) := by
          have := List.getElem?_eq_getElem hj
          rw [hj'] at this
          exact (Option.some.inj this).symm
        have h1 : (cs.map (·.2))[m]'(by rw [List.length_map]; omega) = (cs.map (·.2))[j]'(by rw [List.length_map]; omega) := by
          rw [List.getElem_map, List.getElem_map, e3, e4]
        have := nodup_at nd h1
        omega
      · walk_at "g"
        exact q1 j z.1 hj'
theorem ok_some {f fM fD : Addr} {fd fdM fdD : FuncData} (T : Txt K mg) (F : Fun K "_law_some" "_law_some" s_law_some f fd) (D_law_mixed : Df K mg "_law_mixed" s_law_mixed ["_law_cell", "_law_turn"] fM fdM)
    (D_law_draw : Df K mg "_law_draw" s_law_draw ["_law_deck_here", "_law_many"] fD fdD) : FnOk P w K mg base CX0 3 f fd ["_law_deck_here", "_law_names", "_law_most"] spSome := by
  have G_law_draw : FnOk P w K mg base CX0 2 fD fdD ["_law_deck_here", "_law_many"] spDraw := ok_draw T D_law_draw.fn D_law_mixed
  refine F.ok sc_law_some (fun vs H Q E h => ?_) (fun cdv A outer s H vs Q E hr h => ?_)
  · obtain ⟨d, c, l, n, m, names, rfl, _⟩ := h
    rfl
  · obtain ⟨d, c, l, n, m, names, rfl, D0, hn, hl, ld, lc, hnl, hm, q⟩ := h
    refine ⟨_,
      (pss_cons
        (ps_set (i := 3) sc_law_some.nd rfl (.inl rfl) (pe_lst pa_nil))
      (pss_cons
        (ps_for PassesOwn.never rfl (pi_range1 (by rfl) T.n_range (pa_cons (pe_callB (c_min2 rfl) (by rfl) T.n_min (by decide +kernel) (pa_cons (pv 2) (pa_cons (pe_callB (r := rLen K) c_len (by rfl) T.n_len (by decide +kernel) (pa_cons (pv 1) pa_nil)) pa_nil))) pa_nil)) (pg_name (i := 4) sc_law_some.nd rfl (.inl rfl))
          (pss_one
            (ps_expr (pe_bm PySem.F.plainAttrs_list PySem.F.slot_list_append PySem.F.type_list_append mt_append (pv 3) (pa_cons (pe_ix (r := rIxL K) ix_list (pv 1) (pe_call G_law_draw (hr.mono (by omega)) (by rfl) D_law_draw.g D_law_draw.fn.kp D_law_draw.b .nil pass0 (pa_cons (pv 0) (pa_cons (pe_callB (r := rLen K) c_len (by rfl) T.n_len (by decide +kernel) (pa_cons (pv 1) pa_nil)) pa_nil))) (fun _ _ => rfl)) pa_nil)))))
      (pss_one
        (ps_ret (pe_callTy (r := rTupOf K) c_tupOf (by rfl) T.n_tuple (by decide +kernel) (pa_cons (pe_callB (r := rSortS w) (c_sortS rfl) (by rfl) T.n_sorted (by decide +kernel) (pa_cons (pe_callTy (r := rSetL K w) (c_setL rfl) (by rfl) T.n_set (by decide +kernel) (pa_cons (pv 3) pa_nil)) pa_nil)) pa_nil))))))
      , ?_⟩
    rw [show L2.start N_law_some [V.ref d, V.ref l, nV m] = [some (.ref d), some (.ref l), some (.int (m : Int)), none, none] from rfl]
    walk_at "x"
    refine w_new fun L H1 hL e1 k1 => ?_
    have D1 : Deck H1 d c n := D0.kp (M := []) (Kp.of k1) (by simp) (by simp)
    have hl1 := k1 _ _ hl
    obtain ⟨Ld, Lc⟩ := D0.ne1 hL
    have Ll : l ≠ L := ne_of_none hl hL
    walk_at "g"
    try refine w_rng1' (by simp only [List.length_map]; omega) (by simp only [List.length_map]; omega) ?_
    refine lp_range (fun i σ H' => ∃ (y : Option V) (dr : List Nat), σ = [some (.ref d), some (.ref l), some (.int (m : Int)), some (.ref L), y] ∧ Deck H' d c (n + i) ∧ KX d H H' ∧ H' L = some (.lst (dr.map nV)) ∧ dr.length = i ∧ ∀ x ∈ dr, x ∈ names) ⟨_, [], rfl, D1, KX.of k1, e1, rfl, by simp⟩ ?_ ?_
    · rintro i σ H2 hi ⟨y, dr, rfl, D2, k2, e2, hdl, hdr⟩
      have hi2 : i < m ∧ 0 < names.length := by
        simp only [List.length_map] at hi
        omega
      have hl2 := k2.p _ _ (by simpa using ld) hl
      walk_at "g"
      refine w_draw D2 (by omega) (by rw [List.length_map]; omega) (by rw [List.length_map]; omega) fun r H3 hr3 D3 o3 => ?_
      have hr4 : r < names.length := by rw [List.length_map] at hr3; omega
      have e3 := o3.get Ld e2
      have hl3 := o3.get ld hl2
      have at1 : atI (names.map nV) (r : Int) = some (.int ((names[r] : Nat) : Int)) := atI_nat (nV_at hr4)
      walk_at "g"
      refine w_app e3 (by rw [List.length_map]; exact small1kl (by omega)) fun H4 e4 o4 => ?_
      walk_at "g"
      refine ⟨_, dr ++ [names[r]], rfl, (D3.kp (M := [L]) (o4.kp (by simp)) (by simpa using Ld.symm) (by simpa using Lc.symm)).mono (by omega), (k2.trans (D2.kx D3 o3)).offN o4 hL, by rw [e4, List.map_append]; rfl, by rw [List.length_append, hdl]; rfl, fun x hx => ?_⟩
      rcases List.mem_append.mp hx with h | h
      · exact hdr x h
      · have : x = names[r] := by simpa using h
        rw [this]
        exact List.getElem_mem hr4
    · rintro σ H2 ⟨y, dr, rfl, D2, k2, e2, hdl, hdr⟩
      have hlm : dr.length ≤ m := by
        simp only [List.length_map] at hdl
        omega
      have e2' : H2 L = some (.lst ((dr.map fun n : Nat => (n : Int)).map V.int)) := by rw [e2, nV_map]
      walk_at "g"
      refine w_setOf (.of e2') (by rw [List.length_map]; omega) fun st c3 H3 hst hc e3 k3 => ?_
      walk_at "g"
      refine w_sortS e3 (by rw [List.length_map] at hc; omega) fun ys rw' H4 hup hmem hrw e4 k4 => ?_
      obtain ⟨ns, rfl⟩ := ints_nats (zs := ys) fun z hz => by
        have := of_decide_eq_true ((hmem z).mp hz)
        obtain ⟨n, _, rfl⟩ := List.mem_map.mp this
        omega
      have hmem2 : ∀ x ∈ ns, x ∈ dr := fun x hx => int_mem.mp (of_decide_eq_true ((hmem x).mp (int_mem.mpr hx)))
      have hup2 : ns.Pairwise (· < ·) := by
        rw [List.pairwise_map] at hup
        exact hup.imp fun {a b} h => by omega
      have hlen := nodup_le (ns.map fun n : Nat => (n : Int)) (dr.map fun n : Nat => (n : Int)) (hup.imp fun {a b} h => Int.ne_of_lt h) fun x hx => of_decide_eq_true ((hmem x).mp hx)
      rw [List.length_map, List.length_map] at hlen
      walk_at "g"
      refine w_tupL (.of e4) fun t H5 ht e5 k5 => ?_
      have k25 := Same.trans k3 (Same.trans k4 k5)
      refine q H5 t ns ((D2.kp (M := []) (Kp.of k25) (by simp) (by simp)).mono ?_) (k2.trans (KX.of k25)) (by rw [e5, nV_map]) hup2 (by omega) fun x hx => hdr x (hmem2 x hx)
      simp only [List.length_map] at hdl ⊢
      omega
theorem ok_lbook {f fI fN : Addr} {fd fdI fdN : FuncData} (T : Txt K mg) (F : Fun K "_law_book" "_law_book" s_law_book f fd) (K_Book : Kl K mg "Book" C ["contents", "depths", "given"]) (M_Book : Mk K C fI)
    (D_Book___init__ : DfM K C "__init__" "Book.__init__" s_Book___init__ ["self"] fI fdI) (D_Book_named : DfM K C "named" "Book.named" s_Book_named ["self", "content"] fN fdN) (G_Book_named : FnOk P w K mg base CX0 6 fN fdN ["self", "content"] (spNamed P w C)) : FnOk P w K mg base CX0 7 f fd ["_law_things"] (spLBook P w C) := by
  have G_Book___init__ : FnOk P w K mg base CX0 1 fI fdI ["self"] (spBookInit P w C) := ok_bookinit T D_Book___init__.fn K_Book
  refine F.ok sc_law_book (fun vs H Q E h => ?_) (fun cdv A outer s H vs Q E hr h => ?_)
  · obtain ⟨th, cs, rfl, _⟩ := h
    rfl
  · obtain ⟨th, cs, rfl, ht, hok, nd, hlen, q⟩ := h
    refine ⟨_,
      (pss_cons
        (ps_set (i := 1) sc_law_book.nd rfl (.inl rfl) (pe_make0 M_Book G_Book___init__ (hr.mono (by omega)) (by rfl) K_Book.g D_Book___init__.b .nil pass0))
      (pss_cons
        (ps_for PassesOwn.never rfl (pi_list (pv 0)) (pg_name (i := 2) sc_law_book.nd rfl (.inl rfl))
          (pss_one
            (ps_expr (pe_meth (pv 1) K_Book.cl D_Book_named.m G_Book_named (hr.mono (by omega)) D_Book_named.b .nil pass0 (pa_cons (pv 2) pa_nil)))))
      (pss_one
        (ps_ret (pv 1)))))
      , ?_⟩
    rw [show L2.start N_law_book [V.ref th] = [some (.ref th), none, none] from rfl]
    walk_at "x"
    refine w_make' fun p dx H1 hp hdx hne e1 k1 => ?_
    refine ⟨p, dx, rfl, e1, fun lc ld lg H2 hlc hld hlg B2 k2 => ⟨rfl, ?_⟩⟩
    have hlc0 := k1.free hlc
    have hld0 := k1.free hld
    have hlg0 := k1.free hlg
    have s2 : Same H H2 := fun b o e => k2 _ _ (by simpa using ne_of_none e hp) (k1 _ _ e)
    walk_at "g"
    refine w_itL' (.of (s2 _ _ ht.at')) ?_
    refine lp_list (xs := cs.map fun q => V.ref q.1) (fun i σ H' => (∃ y : Option V, σ = [some (.ref th), some (.ref p), y]) ∧ Same H H' ∧ BookAt P w C H' p dx lc ld lg (cs.take i) (dsOf ((cs.take i).map (·.2)))) ⟨⟨_, rfl⟩, s2, B2⟩ (fun i σ H' _ h => .of (h.2.1 _ _ ht.at')) ?_ ?_
    · rintro i x σ H3 hx ⟨⟨y, rfl⟩, s3, B3⟩
      obtain ⟨qc, hq, rfl⟩ := map_at hx
      have hi := (List.getElem?_eq_some_iff.mp hq).1
      have ob3 := B3.ob
      have etake : cs.take (i + 1) = cs.take i ++ [qc] := by rw [List.take_add_one, hq]; rfl
      have hlt : (cs.take i).length < 400 := by rw [List.length_take]; omega
      walk_at "g"
      refine ⟨p, dx, lc, ld, lg, qc.1, cs.take i, _, qc.2, rfl, B3, (ht.ct qc (List.mem_of_getElem? hq)).kt (KT.of s3), ?_, hlt, fun j b H4 hj k4 => ?_, fun hn H4 B4 k4 t4 => ?_⟩
      · have := hok i qc.2 (by rw [List.getElem?_map, hq]; rfl)
        rwa [← List.map_take] at this
      · exfalso
        have hj1 := (List.getElem?_eq_some_iff.mp hj).1
        rw [List.length_take] at hj1
        have hj2 : cs[j]? = some (b, qc.2) := by
          rw [List.getElem?_take] at hj
          rwa [if_pos (by omega)] at hj
        have h1 : (cs.map (·.2))[j]? = some qc.2 := by rw [List.getElem?_map, hj2]; rfl
        have h2 : (cs.map (·.2))[i]? = some qc.2 := by rw [List.getElem?_map, hq]; rfl
        obtain ⟨g1, g1'⟩ := List.getElem?_eq_some_iff.mp h1
        obtain ⟨g2, g2'⟩ := List.getElem?_eq_some_iff.mp h2
        have := nodup_at nd (g1'.trans g2'.symm)
        omega
      · walk_at "g"
        refine ⟨⟨_, rfl⟩, fun b o e => k4 _ _ ?_ (s3 _ _ e), ?_⟩
        · simp only [List.mem_cons, List.not_mem_nil, or_false, not_or]
          exact ⟨ne_of_none e hlc0, ne_of_none e hld0, ne_of_none e hlg0⟩
        · rw [etake, List.map_append, List.map_cons, List.map_nil, dsOf_snoc]
          exact B4
    · rintro σ H3 ⟨⟨y, rfl⟩, s3, B3⟩
      rw [List.length_map, List.take_length] at B3
      walk_at "g"
      exact q H3 p dx lc ld lg _ hp hlc0 hld0 hlg0 B3 s3
end
/-! ### labels, rows, entries of the drawn families -/
theorem seqIndex_nat {r n : Nat} (h : r < n) : seqIndex? (r : Int) n = some r := by
  unfold seqIndex?
  simp
  omega
theorem erase_map {α β : Type} (f : α → β) : ∀ (l : List α) (r : Nat), (l.map f).eraseIdx r = (l.eraseIdx r).map f
  | [], _ => by simp
  | x :: l, 0 => rfl
  | x :: l, r + 1 => by
    show f x :: (l.map f).eraseIdx r = f x :: (l.eraseIdx r).map f
    rw [erase_map f l r]
theorem small2000 {n : Nat} (h : n ≤ 2000) : n ≤ sizeLine := Nat.le_trans h (by decide)
theorem Deck.kxK {H H' : Hp} {d c : Addr} {n m : Nat} (D : Deck H d c n) (D' : Deck H' d c m) (k : Kp [d] H H') : KX d H H' := by
  obtain ⟨⟨xs, e⟩, _⟩ := D.at
  obtain ⟨⟨xs', e'⟩, _⟩ := D'.at
  refine ⟨⟨KT.kp k (by simp [e]), fun b ys h => ?_, fun b ys h => ?_⟩, k⟩
  · by_cases hb : b = d
    · subst hb
      exact ⟨_, e'⟩
    · exact ⟨_, k _ _ (by simpa using hb) h⟩
  · exact ⟨_, k _ _ (by simpa using ne_of h e (fun z => nomatch z)) h⟩
theorem Deck.ktK {H H' : Hp} {d c : Addr} {n : Nat} (D : Deck H d c n) (k : Kp [d] H H') : KT H H' := by
  obtain ⟨⟨xs, e⟩, _⟩ := D.at
  exact KT.kp k (by simp [e])
theorem w_bm0D {K : PySem.W.Frag} {σ : L2.St} {H : Hp} {Q : VK} {r : V → List V → Hp → VK → Prop} {to : TE} (h : to σ H fun x H1 => tyV K "dict" x H1 ∧ r x [] H1 Q) : tBM0 K "dict" r to σ H Q := h
theorem w_tyDK {K : PySem.W.Frag} {H : Hp} {p : Addr} {kvs : List (Key × V)} {A : Prop} (h1 : H p = some (.dK kvs)) (h : A) : tyV K "dict" (.ref p) H ∧ A := ⟨.inr (.inr (.inl ⟨rfl, .inl ⟨_, h1⟩⟩)), h⟩
def spText : Sp := fun vs H Q _ => ∃ (d c : Addr) (n : Nat) (m : Nat), vs = [.ref d, .int (m : Int)] ∧ Deck H d c n ∧ n + 42 ≤ MOSTD ∧ m ≤ 40 ∧ ∀ H' z, Deck H' d c (n + 42) → Kp [d] H H' → KT H H' → LineOk z → Q (.str z) H'
def spLabel : Sp := fun vs H Q _ => ∃ (d c : Addr) (n : Nat), vs = [.ref d] ∧ Deck H d c n ∧ n + 12 ≤ MOSTD ∧ ∀ H' z, Deck H' d c (n + 12) → Kp [d] H H' → KT H H' → LabOk z → Q (.str z) H'
def spRows : Sp := fun vs H Q _ => ∃ (d c t : Addr) (n : Nat) (ls : List Str), vs = [.ref d, .ref t] ∧ Deck H d c n ∧ n + 300 ≤ MOSTD ∧ RwAt H t ls ∧ ls.length ≤ 7 ∧ (∀ z ∈ ls, LineOk z) ∧
  ∀ H' r (ls' : List Str), Deck H' d c (n + 300) → KX d H H' → RwAt H' r ls' → ls'.length ≤ 7 → (∀ z ∈ ls', LineOk z) → Q (.ref r) H'
def spEntries : Sp := fun vs H Q _ => ∃ (d c l : Addr) (n : Nat) (lows : List Nat), vs = [.ref d, .ref l] ∧ Deck H d c n ∧ n + 60 ≤ MOSTD ∧ H l = some (.lst (lows.map nV)) ∧ l ≠ d ∧ lows ≠ [] ∧ lows.length ≤ 1000 ∧
  ∀ H' t (qs : List (Addr × Str × Nat)), Deck H' d c (n + 60) → KX d H H' → H' t = some (.tup (qs.map fun q => .ref q.1)) → (∀ q ∈ qs, H' q.1 = some (.tup [.str q.2.1, nV q.2.2])) → qs.length ≤ 3 → qs.Pairwise (fun x y => txLt x.2.1 y.2.1) → (∀ q ∈ qs, LabOk q.2.1 ∧ q.2.2 ∈ lows) → Q (.ref t) H'
theorem chs_of {S : List Nat} {ys : List V} (h : ∀ y ∈ ys, ∃ ch : Nat, y = .str ⟨#[ch]⟩ ∧ ch ∈ S) : ∃ zs : List Nat, ys = (zs.map fun ch => (⟨#[ch]⟩ : Str)).map V.str ∧ ∀ ch ∈ zs, ch ∈ S := by
  induction ys with
  | nil => exact ⟨[], rfl, by simp⟩
  | cons y ys ih =>
    obtain ⟨ch, rfl, hch⟩ := h y (by simp)
    obtain ⟨zs, rfl, hz⟩ := ih fun y hy => h y (by simp [hy])
    exact ⟨ch :: zs, rfl, fun c hc => by
      rcases List.mem_cons.mp hc with rfl | hc
      · exact hch
      · exact hz c hc⟩
theorem chs_sum (l : List Nat) : (l.map fun ch => ((⟨#[ch]⟩ : Str)).length).sum = l.length := by
  induction l with
  | nil => rfl
  | cons x l ih =>
    rw [List.map_cons, List.sum_cons, ih, List.length_cons]
    show 1 + l.length = _
    omega
theorem chs_flat (l : List Nat) : ((l.map fun ch => (⟨#[ch]⟩ : Str)).map fun y => y.cps.toList).flatten = l := by
  induction l with
  | nil => rfl
  | cons x l ih =>
    rw [List.map_cons, List.map_cons, List.flatten_cons, ih]
    rfl
abbrev LTR : Str := Str.ofString "abcdefghijklmnopqrstuvwxyz"
theorem strs_of {ys : List V} {p : Str → Prop} (h : ∀ y ∈ ys, ∃ z : Str, y = .str z ∧ p z) : ∃ zs : List Str, ys = zs.map V.str ∧ ∀ z ∈ zs, p z := by
  induction ys with
  | nil => exact ⟨[], rfl, by simp⟩
  | cons y ys ih =>
    obtain ⟨z, rfl, hz⟩ := h y (by simp)
    obtain ⟨zs, rfl, hs⟩ := ih fun y hy => h y (by simp [hy])
    exact ⟨z :: zs, rfl, fun c hc => by
      rcases List.mem_cons.mp hc with rfl | hc
      · exact hz
      · exact hs c hc⟩
theorem w_dputS {H : Hp} {a : Addr} {kvs : List (Key × V)} {z : Str} {v : V} {R : Hp → Prop} (e : H a = some (.dK kvs)) (hl : kvs.length < sizeLine) (h : ∀ H1, H1 a = some (.dK (putK kvs (Sum.inr z) v)) → Off a H H1 → R H1) : rDPut (.ref a) (.str z) v H R :=
  ⟨a, _, rfl, DPut.k (k := Sum.inr z) e hl, h _ upd_same fun x hx => upd_ne hx⟩
def putTI (qs : List (Str × Int)) (z : Str) (v : Int) : List (Str × Int) := if (qs.any fun q => decide (q.1 = z)) = true then qs.map (fun q => if q.1 = z then (q.1, v) else q) else qs ++ [(z, v)]
theorem putTI_kv (qs : List (Str × Int)) (z : Str) (v : Int) : putK (kvTI qs) (Sum.inr z) (V.int v) = kvTI (putTI qs z v) := by
  unfold putK putTI kvTI
  have e : ((qs.map fun q => ((Sum.inr q.1 : Key), V.int q.2)).any fun kv => decide (kv.1 = (Sum.inr z : Key))) = (qs.any fun q => decide (q.1 = z)) := by
    rw [List.any_map]
    congr 1
    funext q
    show decide ((Sum.inr q.1 : Key) = Sum.inr z) = decide (q.1 = z)
    by_cases h : q.1 = z
    · rw [decide_eq_true h, decide_eq_true (by rw [h])]
    · rw [decide_eq_false h, decide_eq_false (fun e => h (Sum.inr.inj e))]
  rw [e]
  by_cases h : (qs.any fun q => decide (q.1 = z)) = true
  · rw [if_pos h, if_pos h, List.map_map, List.map_map]
    refine List.map_congr_left fun q _ => ?_
    show (if (Sum.inr q.1 : Key) = Sum.inr z then ((Sum.inr q.1 : Key), V.int v) else ((Sum.inr q.1 : Key), V.int q.2)) = ((Sum.inr (if q.1 = z then (q.1, v) else q).1 : Key), V.int (if q.1 = z then (q.1, v) else q).2)
    by_cases g : q.1 = z
    · rw [if_pos (by rw [g]), if_pos g]
    · rw [if_neg (fun e => g (Sum.inr.inj e)), if_neg g]
  · rw [if_neg h, if_neg h, List.map_append]
    rfl
theorem putTI_nd {qs : List (Str × Int)} {z : Str} {v : Int} (nd : (qs.map (·.1)).Nodup) : ((putTI qs z v).map (·.1)).Nodup := by
  unfold putTI
  by_cases h : (qs.any fun q => decide (q.1 = z)) = true
  · rw [if_pos h, List.map_map]
    have : ((fun x : Str × Int => x.1) ∘ fun q => if q.1 = z then (q.1, v) else q) = fun q : Str × Int => q.1 := by
      funext q
      show (if q.1 = z then (q.1, v) else q).1 = q.1
      by_cases g : q.1 = z
      · rw [if_pos g]
      · rw [if_neg g]
    rw [this]
    exact nd
  · rw [if_neg h, List.map_append, List.nodup_append]
    refine ⟨nd, by simp, fun x hx y hy e => ?_⟩
    have : y = z := by simpa using hy
    subst this
    obtain ⟨q, hq, e2⟩ := List.mem_map.mp hx
    exact h (List.any_eq_true.mpr ⟨q, hq, decide_eq_true (e2.trans e)⟩)
theorem putTI_mem {qs : List (Str × Int)} {z : Str} {v : Int} {q : Str × Int} (h : q ∈ putTI qs z v) : q ∈ qs ∨ q = (z, v) := by
  unfold putTI at h
  by_cases g : (qs.any fun q => decide (q.1 = z)) = true
  · rw [if_pos g] at h
    obtain ⟨q', hq', e⟩ := List.mem_map.mp h
    by_cases f : q'.1 = z
    · rw [if_pos f] at e
      exact .inr (by rw [← e, f])
    · rw [if_neg f] at e
      exact .inl (by rw [← e]; exact hq')
  · rw [if_neg g] at h
    simpa using h
theorem putTI_len {qs : List (Str × Int)} {z : Str} {v : Int} : (putTI qs z v).length ≤ qs.length + 1 := by
  unfold putTI
  by_cases g : (qs.any fun q => decide (q.1 = z)) = true
  · rw [if_pos g, List.length_map]
    omega
  · rw [if_neg g, List.length_append]
    simp
section
variable {P : Program} {w : World} {K : PySem.W.Frag} {mg : Str → Option Value} {base : Heap}
theorem ok_text {f fM fD : Addr} {fd fdM fdD : FuncData} (T : Txt K mg) (F : Fun K "_law_text" "_law_text" s_law_text f fd) (D_law_mixed : Df K mg "_law_mixed" s_law_mixed ["_law_cell", "_law_turn"] fM fdM) (D_law_draw : Df K mg "_law_draw" s_law_draw ["_law_deck_here", "_law_many"] fD fdD) : FnOk P w K mg base CX0 3 f fd ["_law_deck_here", "_law_most"] spText := by
  have G_law_draw : FnOk P w K mg base CX0 2 fD fdD ["_law_deck_here", "_law_many"] spDraw := ok_draw T D_law_draw.fn D_law_mixed
  refine F.ok sc_law_text (fun vs H Q E h => ?_) (fun cdv A outer s H vs Q E hr h => ?_)
  · obtain ⟨d, c, n, m, rfl, _⟩ := h
    rfl
  · obtain ⟨d, c, n, m, rfl, D0, hn, hm, q⟩ := h
    refine ⟨_,
      (pss_cons
        (ps_set (i := 2) sc_law_text.nd rfl (.inr rfl) pe_str)
      (pss_cons
        (ps_if (pt_cmpR op_eq (pe_call G_law_draw (hr.mono (by omega)) (by rfl) D_law_draw.g D_law_draw.fn.kp D_law_draw.b .nil pass0 (pa_cons (pv 0) (pa_cons pe_int pa_nil))) pe_int (nomark _))
          (pss_one
            (ps_set (i := 2) sc_law_text.nd rfl (.inr rfl) pe_str))
          pss_nil)
      (pss_one
        (ps_ret (p_join pe_str (pe_lc (own := [("_law_k", 3)]) (g := (gName 3)) rfl sc_law_text.nd (pi_range1 (by rfl) T.n_range (pa_cons (pe_call G_law_draw (hr.mono (by omega)) (by rfl) D_law_draw.g D_law_draw.fn.kp D_law_draw.b .nil pass0 (pa_cons (pv 0) (pa_cons (pe_op op_add (pv 1) pe_int) pa_nil))) pa_nil)) (blkOk_by (own := [("_law_k", 3)]) (N := N_law_text) (sc := defScope s_law_text) (by decide +kernel)) (fun _ _ _ _ _ => (pg_name (i := 3) sc_law_text.nd rfl (.inl rfl))) (fun _ _ _ _ _ => pts_nil) (fun _ _ _ _ _ => (pe_ix ix_str (pv 2) (pe_call G_law_draw (hr.mono (by omega)) (by rfl) D_law_draw.g D_law_draw.fn.kp D_law_draw.b .nil pass0 (pa_cons (pv 0) (pa_cons (pe_callB c_lenS (by rfl) T.n_len (by decide +kernel) (pa_cons (pv 2) pa_nil)) pa_nil))) (fun _ _ => rfl)))))))))
      , ?_⟩
    rw [show L2.start N_law_text [V.ref d, V.int (m : Int)] = [some (.ref d), some (.int (m : Int)), none, none] from rfl]
    walk_at "x"
    refine w_seqJ (fun σ' H' => ∃ sg : Str, σ' = [some (.ref d), some (.int (m : Int)), some (.str sg), none] ∧ Deck H' d c (n + 1) ∧ Kp [d] H H' ∧ 0 < sg.length ∧ sg.length ≤ 100 ∧ ∀ c ∈ sg.cps.toList, c ∈ SG.cps.toList) ?_ ?_
    rotate_left
    · intro U hU
      walk_at "g"
      refine w_draw D0 (by omega) (by decide) (by decide) fun r H1 hr1 D1 o1 => ?_
      walk_at "g"
      refine w_ite (fun h => ?_) (fun h => ?_)
      · walk_at "g"
        exact hU _ _ ⟨_, rfl, D1, o1.kp (by simp), by decide, by decide, by decide⟩
      · walk_at "g"
        exact hU _ _ ⟨_, rfl, D1, o1.kp (by simp), by decide +kernel, by decide +kernel, fun c h => h⟩
    rintro σ' H1 ⟨sg, rfl, D1, k1, hs0, hs1, hsg⟩
    obtain ⟨⟨dx, ed1⟩, ⟨cx, ec1⟩⟩ := D1.at
    walk_at "g"
    refine w_draw D1 (by omega) (by omega) (by omega) fun r H2 hr2 D2 o2 => ?_
    obtain ⟨⟨dx2, ed2⟩, _⟩ := D2.at
    walk_at "g"
    refine lcp_gen (walk_range (lo := 0) (n := (r : Int).toNat)) [d] (fun i y _ => ∃ ch : Nat, y = .str ⟨#[ch]⟩ ∧ ch ∈ SG.cps.toList) (fun i H' => Deck H' d c (n + 2 + i)) (by omega) (fun _ _ _ _ _ h => h) (fun D hD i H1' o z => z.mut (D2.ne1 hD).1 (D2.ne1 hD).2) (fun _ _ _ _ => trivial) D2 ?_ (by intro b hb; have e : b = d := (by simpa using hb); subst e; exact ⟨_, ed2⟩) ?_
    · rintro i x H3 H4 R hi k3 t3 D3 ⟨rfl, rfl⟩ hR
      refine w_name ⟨rfl, ?_⟩
      walk_at "g"
      refine w_lenS (small2000 (by omega)) ?_
      walk_at "g"
      refine w_draw D3 (by unfold MOSTD at *; omega) (by omega) (by omega) fun r4 H5 hr4 D5 o5 => ?_
      obtain ⟨⟨dx3, ed3⟩, _⟩ := D3.at
      obtain ⟨ch, hch, ech⟩ : ∃ ch, sg.cps.toList[r4]? = some ch ∧ atI sg.cps.toList (r4 : Int) = some ch := by
        have hl : r4 < sg.cps.toList.length := by
          have : sg.length = sg.cps.toList.length := by show sg.cps.size = _; simp
          omega
        exact ⟨_, List.getElem?_eq_getElem hl, atI_nat (List.getElem?_eq_getElem hl)⟩
      walk_at "g"
      refine w_ixS (small2000 (by omega)) ech ?_
      exact hR _ _ ⟨ch, rfl, hsg ch (List.mem_of_getElem? hch)⟩ (o5.kp (by simp)) (KT.off o5 ed3) D5
    · intro L H3 ys hyl hyp hL k3 t3 D3 eL
      obtain ⟨zs, hzs, hzc⟩ : ∃ zs : List Nat, ys = (zs.map fun ch => (⟨#[ch]⟩ : Str)).map V.str ∧ ∀ ch ∈ zs, ch ∈ SG.cps.toList := by
        have : ∀ {ys : List V}, (∀ y ∈ ys, ∃ ch : Nat, y = .str ⟨#[ch]⟩ ∧ ch ∈ SG.cps.toList) → ∃ zs : List Nat, ys = (zs.map fun ch => (⟨#[ch]⟩ : Str)).map V.str ∧ ∀ ch ∈ zs, ch ∈ SG.cps.toList := by
          intro ys
          induction ys with
          | nil => intro _; exact ⟨[], rfl, by simp⟩
          | cons y ys ih =>
            intro h
            obtain ⟨ch, rfl, hch⟩ := h y (by simp)
            obtain ⟨zs, rfl, hz⟩ := ih fun y hy => h y (by simp [hy])
            exact ⟨ch :: zs, rfl, fun c hc => by
              rcases List.mem_cons.mp hc with rfl | hc
              · exact hch
              · exact hz c hc⟩
        refine this fun y hy => ?_
        obtain ⟨i, hi, e⟩ := List.getElem_of_mem hy
        exact hyp i y (by rw [List.getElem?_eq_getElem hi, e])
      have hzl : zs.length = (r : Int).toNat := by rw [← hyl, hzs]; simp
      subst hzs
      have hsum : ∀ l : List Nat, (l.map fun ch => ((⟨#[ch]⟩ : Str)).length).sum = l.length := by
        intro l
        induction l with
        | nil => rfl
        | cons x l ih =>
          rw [List.map_cons, List.sum_cons, ih, List.length_cons]
          show 1 + l.length = _
          omega
      have hflat : ∀ l : List Nat, ((l.map fun ch => (⟨#[ch]⟩ : Str)).map fun y => y.cps.toList).flatten = l := by
        intro l
        induction l with
        | nil => rfl
        | cons x l ih =>
          rw [List.map_cons, List.map_cons, List.flatten_cons, ih]
          rfl
      walk_at "g"
      refine w_joinL (.of eL) ?_ ?_
      · rw [List.map_map, List.length_map]
        have := hsum zs
        show (zs.map fun ch => ((⟨#[ch]⟩ : Str)).length).sum + zs.length * 0 ≤ _
        omega
      · have ec := join_cps (zs.map fun ch => (⟨#[ch]⟩ : Str))
        rw [hflat] at ec
        refine q H3 _ (D3.mono (by omega)) (k1.trans ((o2.kp (by simp)).trans k3)) ?_ ⟨?_, fun ch hch => ?_⟩
        · exact D0.ktK (k1.trans ((o2.kp (by simp)).trans k3))
        · show (Txt.join (Str.ofString "") (zs.map fun ch => (⟨#[ch]⟩ : Str))).cps.size ≤ 40
          rw [← Array.length_toList, ec]
          omega
        · rw [ec] at hch
          exact hzc ch hch
theorem ok_label {f fM fD : Addr} {fd fdM fdD : FuncData} (T : Txt K mg) (F : Fun K "_law_label" "_law_label" s_law_label f fd) (D_law_mixed : Df K mg "_law_mixed" s_law_mixed ["_law_cell", "_law_turn"] fM fdM) (D_law_draw : Df K mg "_law_draw" s_law_draw ["_law_deck_here", "_law_many"] fD fdD) : FnOk P w K mg base CX0 3 f fd ["_law_deck_here"] spLabel := by
  have G_law_draw : FnOk P w K mg base CX0 2 fD fdD ["_law_deck_here", "_law_many"] spDraw := ok_draw T D_law_draw.fn D_law_mixed
  refine F.ok sc_law_label (fun vs H Q E h => ?_) (fun cdv A outer s H vs Q E hr h => ?_)
  · obtain ⟨d, c, n, rfl, _⟩ := h
    rfl
  · obtain ⟨d, c, n, rfl, D0, hn, q⟩ := h
    refine ⟨_,
      (pss_cons
        (ps_if (pt_cmpR op_gt (pe_call G_law_draw (hr.mono (by omega)) (by rfl) D_law_draw.g D_law_draw.fn.kp D_law_draw.b .nil pass0 (pa_cons (pv 0) (pa_cons pe_int pa_nil))) pe_int (nomark _))
          (pss_one
            (ps_ret (pe_ix ix_str pe_str (pe_call G_law_draw (hr.mono (by omega)) (by rfl) D_law_draw.g D_law_draw.fn.kp D_law_draw.b .nil pass0 (pa_cons (pv 0) (pa_cons pe_int pa_nil))) (fun _ _ => rfl))))
          pss_nil)
      (pss_cons
        (ps_set (i := 1) sc_law_label.nd rfl (.inr rfl) pe_str)
      (pss_one
        (ps_ret (p_join pe_str (pe_lc (own := [("_law_k", 2)]) (g := (gName 2)) rfl sc_law_label.nd (pi_range1 (by rfl) T.n_range (pa_cons (pe_op op_add pe_int (pe_call G_law_draw (hr.mono (by omega)) (by rfl) D_law_draw.g D_law_draw.fn.kp D_law_draw.b .nil pass0 (pa_cons (pv 0) (pa_cons pe_int pa_nil)))) pa_nil)) (blkOk_by (own := [("_law_k", 2)]) (N := N_law_label) (sc := defScope s_law_label) (by decide +kernel)) (fun _ _ _ _ _ => (pg_name (i := 2) sc_law_label.nd rfl (.inl rfl))) (fun _ _ _ _ _ => pts_nil) (fun _ _ _ _ _ => (pe_ix ix_str (pv 1) (pe_call G_law_draw (hr.mono (by omega)) (by rfl) D_law_draw.g D_law_draw.fn.kp D_law_draw.b .nil pass0 (pa_cons (pv 0) (pa_cons pe_int pa_nil))) (fun _ _ => rfl)))))))))
      , ?_⟩
    rw [show L2.start N_law_label [V.ref d] = [some (.ref d), none, none] from rfl]
    refine w_seq ?_
    walk_at "x"
    refine w_draw D0 (by omega) (by decide) (by decide) fun r H1 hr1 D1 o1 => ?_
    walk_at "g"
    refine w_ite (fun h => ?_) (fun h => ?_)
    · walk_at "g"
      refine w_draw D1 (by omega) (by decide) (by decide) fun r2 H2 hr2 D2 o2 => ?_
      have hl : r2 < (Str.ofString "abcd").cps.toList.length := by
        have : (Str.ofString "abcd").cps.toList.length = 4 := by decide +kernel
        omega
      have ech : atI (Str.ofString "abcd").cps.toList (r2 : Int) = some (Str.ofString "abcd").cps.toList[r2] := atI_nat (List.getElem?_eq_getElem hl)
      walk_at "g"
      refine w_ixS (by decide +kernel) ech ?_
      walk_at "g"
      have k2 : Kp [d] H H2 := (o1.kp (by simp)).trans (o2.kp (by simp))
      refine q H2 _ (D2.mono (by omega)) k2 ((D0.kx D1 o1).trans (D1.kx D2 o2)).t ⟨Nat.le_refl 1, (show (1 : Nat) ≤ 8 by decide), fun ch hch => ?_⟩
      have hm : (Str.ofString "abcd").cps.toList[r2] ∈ (Str.ofString "abcd").cps.toList := List.getElem_mem hl
      have e : ch = (Str.ofString "abcd").cps.toList[r2] := by simpa using hch
      rw [← e] at hm
      have hsub : ∀ x ∈ (Str.ofString "abcd").cps.toList, x ∈ LTR.cps.toList := by decide +kernel
      exact hsub ch hm
    · walk_at "g"
      refine w_draw D1 (by omega) (by decide) (by decide) fun r2 H2 hr2 D2 o2 => ?_
      obtain ⟨⟨dx2, ed2⟩, _⟩ := D2.at
      walk_at "g"
      refine lcp_gen (walk_range (lo := 0) (n := (1 + (r2 : Int)).toNat)) [d] (fun i y _ => ∃ ch : Nat, y = .str ⟨#[ch]⟩ ∧ ch ∈ LTR.cps.toList) (fun i H' => Deck H' d c (n + 2 + i)) (by omega) (fun _ _ _ _ _ h => h) (fun D hD i H1' o z => z.mut (D2.ne1 hD).1 (D2.ne1 hD).2) (fun _ _ _ _ => trivial) D2 ?_ (by intro b hb; have e : b = d := (by simpa using hb); subst e; exact ⟨_, ed2⟩) ?_
      · rintro i x H3 H4 R hi k3 t3 D3 ⟨rfl, rfl⟩ hR
        refine w_name ⟨rfl, ?_⟩
        walk_at "g"
        refine w_draw D3 (by unfold MOSTD at *; omega) (by decide) (by decide) fun r4 H5 hr4 D5 o5 => ?_
        obtain ⟨⟨dx3, ed3⟩, _⟩ := D3.at
        have hl : r4 < LTR.cps.toList.length := by
          have : LTR.cps.toList.length = 26 := by decide +kernel
          omega
        have ech : atI LTR.cps.toList (r4 : Int) = some LTR.cps.toList[r4] := atI_nat (List.getElem?_eq_getElem hl)
        walk_at "g"
        refine w_ixS (by decide +kernel) ech ?_
        exact hR _ _ ⟨_, rfl, List.getElem_mem hl⟩ (o5.kp (by simp)) (KT.off o5 ed3) D5
      · intro L H3 ys hyl hyp hL k3 t3 D3 eL
        obtain ⟨zs, hzs, hzc⟩ := chs_of (S := LTR.cps.toList) (ys := ys) fun y hy => by
          obtain ⟨i, hi, e⟩ := List.getElem_of_mem hy
          exact hyp i y (by rw [List.getElem?_eq_getElem hi, e])
        have hzl : zs.length = (1 + (r2 : Int)).toNat := by rw [← hyl, hzs]; simp
        subst hzs
        walk_at "g"
        refine w_joinL (.of eL) ?_ ?_
        · rw [List.map_map, List.length_map]
          have := chs_sum zs
          show (zs.map fun ch => ((⟨#[ch]⟩ : Str)).length).sum + zs.length * 0 ≤ _
          omega
        · have ec := join_cps (zs.map fun ch => (⟨#[ch]⟩ : Str))
          rw [chs_flat] at ec
          have hlen : (Txt.join (Str.ofString "") (zs.map fun ch => (⟨#[ch]⟩ : Str))).length = zs.length := by
            show (Txt.join (Str.ofString "") (zs.map fun ch => (⟨#[ch]⟩ : Str))).cps.size = _
            rw [← Array.length_toList, ec]
          have k03 := ((o1.kp (M := [d]) (by simp)).trans ((o2.kp (by simp)).trans k3))
          refine q H3 _ (D3.mono (by omega)) k03 (D0.kxK D3 k03).t ⟨by omega, by omega, fun ch hch => ?_⟩
          rw [ec] at hch
          exact hzc ch hch
theorem ok_rows {f fM fD fT : Addr} {fd fdM fdD fdT : FuncData} (T : Txt K mg) (F : Fun K "_law_rows" "_law_rows" s_law_rows f fd) (D_law_mixed : Df K mg "_law_mixed" s_law_mixed ["_law_cell", "_law_turn"] fM fdM) (D_law_draw : Df K mg "_law_draw" s_law_draw ["_law_deck_here", "_law_many"] fD fdD) (D_law_text : Df K mg "_law_text" s_law_text ["_law_deck_here", "_law_most"] fT fdT) : FnOk P w K mg base CX0 4 f fd ["_law_deck_here", "_law_elder"] spRows := by
  have G_law_draw : FnOk P w K mg base CX0 2 fD fdD ["_law_deck_here", "_law_many"] spDraw := ok_draw T D_law_draw.fn D_law_mixed
  have G_law_text : FnOk P w K mg base CX0 3 fT fdT ["_law_deck_here", "_law_most"] spText := ok_text T D_law_text.fn D_law_mixed D_law_draw
  refine F.ok sc_law_rows (fun vs H Q E h => ?_) (fun cdv A outer s H vs Q E hr h => ?_)
  · obtain ⟨d, c, t, n, ls, rfl, _⟩ := h
    rfl
  · obtain ⟨d, c, t, n, ls, rfl, D0, hn, ht, hl7, hok, q⟩ := h
    refine ⟨_,
      (pss_cons
        (ps_set (i := 2) sc_law_rows.nd rfl (.inl rfl) (pe_callTy (r := rListOf K) c_listOf (by rfl) T.n_list (by decide +kernel) (pa_cons (pv 1) pa_nil)))
      (pss_cons
        (ps_if (pt_cmpR op_eq (pe_call G_law_draw (hr.mono (by omega)) (by rfl) D_law_draw.g D_law_draw.fn.kp D_law_draw.b .nil pass0 (pa_cons (pv 0) (pa_cons pe_int pa_nil))) pe_int (nomark _))
          (pss_one
            (ps_setLc (i := 2) (own := [("_law_k", 3)]) (g := (gName 3)) rfl sc_law_rows.nd rfl rfl (sw_true rfl rfl rfl (by decide +kernel)) (pi_range1 (by rfl) T.n_range (pa_cons (pe_call G_law_draw (hr.mono (by omega)) (by rfl) D_law_draw.g D_law_draw.fn.kp D_law_draw.b .nil pass0 (pa_cons (pv 0) (pa_cons pe_int pa_nil))) pa_nil)) (blkOk_by (own := [("_law_k", 3)]) (N := N_law_rows) (sc := defScope s_law_rows) (by decide +kernel)) (fun _ _ _ _ _ => (pg_name (i := 3) sc_law_rows.nd rfl (.inl rfl))) (fun _ _ _ _ _ => pts_nil) (fun _ _ _ _ _ => (pe_call G_law_text (hr.mono (by omega)) (by rfl) D_law_text.g D_law_text.fn.kp D_law_text.b .nil pass0 (pa_cons (pv 0) (pa_cons pe_int pa_nil))))))
          pss_nil)
      (pss_cons
        (ps_if (pt_cmpR op_eq (pe_call G_law_draw (hr.mono (by omega)) (by rfl) D_law_draw.g D_law_draw.fn.kp D_law_draw.b .nil pass0 (pa_cons (pv 0) (pa_cons pe_int pa_nil))) pe_int (nomark _))
          (pss_one
            (ps_expr (pe_bm PySem.F.plainAttrs_list PySem.F.slot_list_insert PySem.F.type_list_insert m_insert (pv 2) (pa_cons (pe_call G_law_draw (hr.mono (by omega)) (by rfl) D_law_draw.g D_law_draw.fn.kp D_law_draw.b .nil pass0 (pa_cons (pv 0) (pa_cons (pe_op op_add (pe_callB (r := rLen K) c_len (by rfl) T.n_len (by decide +kernel) (pa_cons (pv 2) pa_nil)) pe_int) pa_nil))) (pa_cons (pe_call G_law_text (hr.mono (by omega)) (by rfl) D_law_text.g D_law_text.fn.kp D_law_text.b .nil pass0 (pa_cons (pv 0) (pa_cons pe_int pa_nil))) pa_nil)))))
          pss_nil)
      (pss_cons
        (ps_if (pt_cmpR op_gt (pe_callB (r := rLen K) c_len (by rfl) T.n_len (by decide +kernel) (pa_cons (pv 2) pa_nil)) pe_int (nomark _))
          (pss_one
            (ps_expr (pe_bm PySem.F.plainAttrs_list PySem.F.slot_list_pop PySem.F.type_list_pop mt_popAt (pv 2) (pa_cons (pe_call G_law_draw (hr.mono (by omega)) (by rfl) D_law_draw.g D_law_draw.fn.kp D_law_draw.b .nil pass0 (pa_cons (pv 0) (pa_cons (pe_callB (r := rLen K) c_len (by rfl) T.n_len (by decide +kernel) (pa_cons (pv 2) pa_nil)) pa_nil))) pa_nil))))
          pss_nil)
      (pss_one
        (ps_ret (pe_callTy (r := rTupOf K) c_tupOf (by rfl) T.n_tuple (by decide +kernel) (pa_cons (pv 2) pa_nil))))))))
      , ?_⟩
    rw [show L2.start N_law_rows [V.ref d, V.ref t] = [some (.ref d), some (.ref t), none, none] from rfl]
    walk_at "x"
    refine w_listT (.of ht) fun L H1 hL e1 k1 => ?_
    have D1 : Deck H1 d c n := D0.kp (M := []) (Kp.of k1) (by simp) (by simp)
    walk_at "g"
    refine w_seqJ (fun σ' H' => ∃ (L : Addr) (y : Option V) (zs : List Str), σ' = [some (.ref d), some (.ref t), some (.ref L), y] ∧ Deck H' d c (n + 200) ∧ KX d H H' ∧ H L = none ∧ H' L = some (.lst (zs.map V.str)) ∧ zs.length ≤ 7 ∧ ∀ z ∈ zs, LineOk z) ?_ ?_
    · rintro σ' H2 ⟨L2', y, zs, rfl, D2, x2, hL2, e2, hz7, hzk⟩
      obtain ⟨Ld, Lc⟩ := D0.ne1 hL2
      refine w_seqJ (fun σ' H' => ∃ (zs : List Str), σ' = [some (.ref d), some (.ref t), some (.ref L2'), y] ∧ Deck H' d c (n + 250) ∧ KX d H H' ∧ H' L2' = some (.lst (zs.map V.str)) ∧ zs.length ≤ 8 ∧ ∀ z ∈ zs, LineOk z) ?_ ?_
      · rintro σ' H3 ⟨zs3, rfl, D3, x3, e3, hz8, hzk3⟩
        refine w_seqJ (fun σ' H' => ∃ (zs : List Str), σ' = [some (.ref d), some (.ref t), some (.ref L2'), y] ∧ Deck H' d c (n + 260) ∧ KX d H H' ∧ H' L2' = some (.lst (zs.map V.str)) ∧ zs.length ≤ 7 ∧ ∀ z ∈ zs, LineOk z) ?_ ?_
        · rintro σ' H4 ⟨zs4, rfl, D4, x4, e4, hz74, hzk4⟩
          walk_at "g"
          refine w_tupL (.of e4) fun r H5 hr5 e5 k5 => ?_
          exact q H5 r zs4 ((D4.kp (M := []) (Kp.of k5) (by simp) (by simp)).mono (by omega)) (x4.trans (KX.of k5)) e5 hz74 hzk4
        · intro U hU
          walk_at "g"
          refine w_ite (fun h => ?_) (fun h => ?_)
          · have hl8 : zs3.length = 8 := by rw [List.length_map] at h; omega
            walk_at "g"
            refine w_draw D3 (by omega) (by rw [List.length_map]; omega) (by rw [List.length_map]; omega) fun r H4 hr4 D4 o4 => ?_
            rw [List.length_map] at hr4
            have hr8 : r < zs3.length := by omega
            have e4 := o4.get Ld e3
            walk_at "g"
            refine w_popAt (k := r) (y := .str zs3[r]) e4 (by omega) (by omega) (seqIndex_nat (by rw [List.length_map]; omega)) (by rw [List.getElem?_map, List.getElem?_eq_getElem hr8]; rfl) fun H5 e5 o5 => ?_
            walk_at "g"
            refine hU _ _ ⟨zs3.eraseIdx r, rfl, (D4.kp (M := [L2']) (o5.kp (by simp)) (by simpa using Ld.symm) (by simpa using Lc.symm)).mono (by omega), (x3.trans (D3.kx D4 o4)).offN o5 hL2, by rw [e5, erase_map], by rw [List.length_eraseIdx]; split <;> omega, fun z hz => hzk3 z (List.mem_of_mem_eraseIdx hz)⟩
          · walk_at "g"
            exact hU _ _ ⟨zs3, rfl, D3.mono (by omega), x3, e3, by rw [List.length_map] at h; omega, hzk3⟩
      · intro U hU
        walk_at "g"
        refine w_draw D2 (by omega) (by decide) (by decide) fun r H3 hr3 D3 o3 => ?_
        have e3 := o3.get Ld e2
        have x3 := x2.trans (D2.kx D3 o3)
        walk_at "g"
        refine w_ite (fun h => ?_) (fun h => ?_)
        · walk_at "g"
          refine w_draw D3 (by omega) (by rw [List.length_map]; omega) (by rw [List.length_map]; omega) fun r2 H4 hr4 D4 o4 => ?_
          have e4 := o4.get Ld e3
          walk_at "g"
          refine ⟨d, c, _, 3, rfl, D4, by omega, by omega, fun H5 z D5 k5 t5 hz => ?_⟩
          have x5 := (x3.trans (D3.kx D4 o4)).trans (D4.kxK D5 k5)
          have e5 := k5 _ _ (by simpa using Ld) e4
          walk_at "g"
          refine w_insert e5 (by rw [List.length_map]; exact small1kl (by omega)) (by rw [List.length_map] at hr4; omega) fun H6 e6 o6 => ?_
          walk_at "g"
          refine hU _ _ ⟨zs.take r2 ++ [z] ++ zs.drop r2, rfl, (D5.kp (M := [L2']) (o6.kp (by simp)) (by simpa using Ld.symm) (by simpa using Lc.symm)).mono (by omega), x5.offN o6 hL2, by rw [e6, List.map_append, List.map_append, List.map_take, List.map_drop]; rfl, ?_, fun y hy => ?_⟩
          · rw [List.length_append, List.length_append, List.length_take, List.length_drop]
            simp only [List.length_cons, List.length_nil]
            omega
          · rcases List.mem_append.mp hy with hy | hy
            · rcases List.mem_append.mp hy with hy | hy
              · exact hzk y (List.mem_of_mem_take hy)
              · have : y = z := by simpa using hy
                rw [this]
                exact hz
            · exact hzk y (List.mem_of_mem_drop hy)
        · walk_at "g"
          exact hU _ _ ⟨zs, rfl, D3.mono (by omega), x3, e3, by omega, hzk⟩
    · intro U hU
      walk_at "g"
      refine w_draw D1 (by omega) (by decide) (by decide) fun r H2 hr2 D2 o2 => ?_
      obtain ⟨Ld, Lc⟩ := D0.ne1 hL
      have e2 := o2.get Ld e1
      have x2 : KX d H H2 := (KX.of k1).trans (D1.kx D2 o2)
      walk_at "g"
      refine w_ite (fun h => ?_) (fun h => ?_)
      · walk_at "g"
        refine w_draw D2 (by omega) (by decide) (by decide) fun r2 H3 hr3 D3 o3 => ?_
        obtain ⟨⟨dx3, ed3⟩, _⟩ := D3.at
        have x3 : KX d H H3 := x2.trans (D2.kx D3 o3)
        walk_at "g"
        refine lcp_gen (walk_range (lo := 0) (n := (r2 : Int).toNat)) [d] (fun i y _ => ∃ z : Str, y = .str z ∧ LineOk z) (fun i H' => Deck H' d c (n + 2 + 42 * i)) (by omega) (fun _ _ _ _ _ h => h) (fun D hD i H1' o z => z.mut (D3.ne1 hD).1 (D3.ne1 hD).2) (fun _ _ _ _ => trivial) D3 ?_ (by intro b hb; have e : b = d := (by simpa using hb); subst e; exact ⟨_, ed3⟩) ?_
        · rintro i x H4 H5 R hi k4 t4 D4 ⟨rfl, rfl⟩ hR
          refine w_name ⟨rfl, ?_⟩
          walk_at "g"
          refine ⟨d, c, _, 3, rfl, D4, by omega, by omega, fun H6 z D6 k6 t6 hz => ?_⟩
          exact hR _ _ ⟨z, rfl, hz⟩ k6 t6 (by rw [show n + 2 + 42 * (i + 1) = n + 2 + 42 * i + 42 by omega]; exact D6)
        · intro L2' H4 ys hyl hyp hL2 k4 t4 D4 eL
          obtain ⟨zs, rfl, hzk⟩ := strs_of (p := LineOk) (ys := ys) fun y hy => by
            obtain ⟨i, hi, e⟩ := List.getElem_of_mem hy
            exact hyp i y (by rw [List.getElem?_eq_getElem hi, e])
          have hL20 : H L2' = none := by
            cases e : H L2' with
            | none => rfl
            | some o =>
              by_cases hld : L2' = d
              · rw [hld, ed3] at hL2
                cases hL2
              · rw [x3.p _ _ (by simpa using hld) e] at hL2
                cases hL2
          rw [List.length_map] at hyl
          walk_at "g"
          exact hU _ _ ⟨L2', _, zs, rfl, D4.mono (by omega), x3.trans (D3.kxK D4 k4), hL20, eL, by omega, hzk⟩
      · walk_at "g"
        exact hU _ _ ⟨L, _, ls, rfl, D2.mono (by omega), x2, hL, e2, hl7, hok⟩
theorem ok_entries {f fM fD fL : Addr} {fd fdM fdD fdL : FuncData} (T : Txt K mg) (F : Fun K "_law_entries" "_law_entries" s_law_entries f fd) (D_law_mixed : Df K mg "_law_mixed" s_law_mixed ["_law_cell", "_law_turn"] fM fdM) (D_law_draw : Df K mg "_law_draw" s_law_draw ["_law_deck_here", "_law_many"] fD fdD) (D_law_label : Df K mg "_law_label" s_law_label ["_law_deck_here"] fL fdL) : FnOk P w K mg base CX0 4 f fd ["_law_deck_here", "_law_lows"] spEntries := by
  have G_law_draw : FnOk P w K mg base CX0 2 fD fdD ["_law_deck_here", "_law_many"] spDraw := ok_draw T D_law_draw.fn D_law_mixed
  have G_law_label : FnOk P w K mg base CX0 3 fL fdL ["_law_deck_here"] spLabel := ok_label T D_law_label.fn D_law_mixed D_law_draw
  refine F.ok sc_law_entries (fun vs H Q E h => ?_) (fun cdv A outer s H vs Q E hr h => ?_)
  · obtain ⟨d, c, l, n, lows, rfl, _⟩ := h
    rfl
  · obtain ⟨d, c, l, n, lows, rfl, D0, hn, hl, ld, hne, hll, q⟩ := h
    have hpos : 0 < lows.length := List.length_pos_iff.mpr hne
    have hu := hu_of hr
    refine ⟨_,
      (pss_cons
        (ps_set (i := 2) sc_law_entries.nd rfl (.inl rfl) pe_dnewK)
      (pss_cons
        (ps_for PassesOwn.never rfl (pi_range1 (by rfl) T.n_range (pa_cons (pe_call G_law_draw (hr.mono (by omega)) (by rfl) D_law_draw.g D_law_draw.fn.kp D_law_draw.b .nil pass0 (pa_cons (pv 0) (pa_cons pe_int pa_nil))) pa_nil)) (pg_name (i := 3) sc_law_entries.nd rfl (.inl rfl))
          (pss_one
            (ps_dput hu (pv 2) (pe_call G_law_label (hr.mono (by omega)) (by rfl) D_law_label.g D_law_label.fn.kp D_law_label.b .nil pass0 (pa_cons (pv 0) pa_nil)) (pe_ix (r := rIxL K) ix_list (pv 1) (pe_call G_law_draw (hr.mono (by omega)) (by rfl) D_law_draw.g D_law_draw.fn.kp D_law_draw.b .nil pass0 (pa_cons (pv 0) (pa_cons (pe_callB (r := rLen K) c_len (by rfl) T.n_len (by decide +kernel) (pa_cons (pv 1) pa_nil)) pa_nil))) (fun _ _ => rfl)) rfl)))
      (pss_one
        (ps_ret (pe_callTy (r := rTupOf K) c_tupOf (by rfl) T.n_tuple (by decide +kernel) (pa_cons (pe_callB (r := rSortI) (c_sortI rfl hr.units) (by rfl) T.n_sorted (by decide +kernel) (pa_cons (pe_bm0 PySem.F.plainAttrs_dict PySem.F.slot_dict_items PySem.F.type_dict_items mt_itemsK (pv 2)) pa_nil)) pa_nil))))))
      , ?_⟩
    rw [show L2.start N_law_entries [V.ref d, V.ref l] = [some (.ref d), some (.ref l), none, none] from rfl]
    walk_at "x"
    refine w_new fun e H1 he e1 k1 => ?_
    have D1 : Deck H1 d c n := D0.kp (M := []) (Kp.of k1) (by simp) (by simp)
    obtain ⟨ed, ec⟩ := D0.ne1 he
    have el : l ≠ e := ne_of_none hl he
    walk_at "g"
    refine w_draw D1 (by omega) (by decide) (by decide) fun many H2 hmany D2 o2 => ?_
    walk_at "g"
    try refine w_rng1' (by omega) (by omega) ?_
    refine lp_range (fun i σ H' => ∃ (y : Option V) (qs : List (Str × Int)), σ = [some (.ref d), some (.ref l), some (.ref e), y] ∧ Deck H' d c (n + 1 + 13 * i) ∧ KX d H H' ∧ H' e = some (.dK (kvTI qs)) ∧ qs.length ≤ i ∧ (qs.map (·.1)).Nodup ∧ ∀ q ∈ qs, LabOk q.1 ∧ ∃ m : Nat, q.2 = m ∧ m ∈ lows) ⟨_, [], rfl, D2, (KX.of k1).trans (D1.kx D2 o2), o2.get ed e1, by simp, by simp, by simp⟩ ?_ ?_
    · rintro i σ H3 hi ⟨y, qs, rfl, D3, x3, e3, hql, hnd, hqs⟩
      have hi3 : i < 3 := by omega
      have hl3 := x3.p _ _ (by simpa using ld) hl
      walk_at "g"
      refine w_draw D3 (by omega) (by rw [List.length_map]; omega) (by rw [List.length_map]; omega) fun r H4 hr4 D4 o4 => ?_
      rw [List.length_map] at hr4
      have hr5 : r < lows.length := by omega
      have hl4 := o4.get ld hl3
      have e4 := o4.get ed e3
      have at1 : atI (lows.map nV) (r : Int) = some (.int ((lows[r] : Nat) : Int)) := atI_nat (nV_at hr5)
      walk_at "g"
      refine ⟨d, c, _, rfl, D4, by omega, fun H5 z D5 k5 t5 hz => ?_⟩
      have e5 := k5 _ _ (by simpa using ed) e4
      have x5 := (x3.trans (D3.kx D4 o4)).trans (D4.kxK D5 k5)
      walk_at "g"
      refine w_dputS e5 (by unfold kvTI; rw [List.length_map]; exact small1kl (by omega)) fun H6 e6 o6 => ?_
      rw [putTI_kv] at e6
      walk_at "g"
      refine ⟨_, _, rfl, (D5.kp (M := [e]) (o6.kp (by simp)) (by simpa using ed.symm) (by simpa using ec.symm)).mono (by omega), x5.offN o6 he, e6, by have := putTI_len (qs := qs) (z := z) (v := ((lows[r] : Nat) : Int)); omega, putTI_nd hnd, fun q' hq' => ?_⟩
      rcases putTI_mem hq' with h | h
      · exact hqs q' h
      · rw [h]
        exact ⟨hz, lows[r], rfl, List.getElem_mem hr5⟩
    · rintro σ H3 ⟨y, qs, rfl, D3, x3, e3, hql, hnd, hqs⟩
      walk_at "g"
      refine w_bm0D ?_
      walk_at "g"
      refine w_tyDK e3 ?_
      refine w_itemsK e3 fun v H4 hv4 e4 k4 => ?_
      walk_at "g"
      refine w_sortI e4 (k4 _ _ e3) hnd fun H5 p ts k5 hp5 e5 hts hperm hsrt => ?_
      walk_at "g"
      refine w_tupL (.of e5) fun t H6 ht6 e6 k6 => ?_
      have k36 := Same.trans k4 (Same.trans k5 k6)
      have hval : ∀ b ∈ ts, LabOk b.2.1 ∧ ∃ m : Nat, b.2.2 = m ∧ m ∈ lows := fun b hb => hqs b.2 (hperm.mem_iff.mp (List.mem_map_of_mem hb))
      refine q H6 t (ts.map fun b => (b.1, b.2.1, b.2.2.toNat)) ((D3.kp (M := []) (Kp.of k36) (by simp) (by simp)).mono (by omega)) (x3.trans (KX.of k36)) (by rw [e6, List.map_map]; rfl) (fun q' hq' => ?_) ?_ ?_ (fun q' hq' => ?_)
      · obtain ⟨b, hb, rfl⟩ := List.mem_map.mp hq'
        obtain ⟨_, m, em, _⟩ := hval b hb
        have := k6 _ _ (hts b hb)
        show H6 b.1 = some (.tup [.str b.2.1, .int ((b.2.2.toNat : Nat) : Int)])
        rw [this, em]
        rfl
      · have h1 := hperm.length_eq
        rw [List.length_map] at h1
        rw [List.length_map]
        omega
      · rw [List.pairwise_map]
        exact hsrt
      · obtain ⟨b, hb, rfl⟩ := List.mem_map.mp hq'
        obtain ⟨g1, m, em, hm⟩ := hval b hb
        exact ⟨g1, by show b.2.2.toNat ∈ lows; rw [em]; exact hm⟩
end
/-! ### drawn families -/
theorem ScnOk.nil : ScnOk [] := fun i c h => by simp at h
theorem ScnOk.snoc {cs : List Ct} {c : Ct} (h : ScnOk cs) (hc : CtOk cs (dsOf cs) c) : ScnOk (cs ++ [c]) := by
  intro i x hx
  by_cases hi : i < cs.length
  · rw [List.getElem?_append_left hi] at hx
    have e : (cs ++ [c]).take i = cs.take i := List.take_append_of_le_length (by omega)
    rw [e]
    exact h i x hx
  · have hi2 : i = cs.length := by
      have := (List.getElem?_eq_some_iff.mp hx).1
      rw [List.length_append] at this
      simp only [List.length_cons, List.length_nil] at this
      omega
    subst hi2
    have e : (cs ++ [c]).take cs.length = cs := by simp
    rw [e]
    have : x = c := by simpa using hx.symm
    rw [this]
    exact hc
theorem fold_max_le {t : Nat} : ∀ (l : List Nat) (a : Nat), a ≤ t → (∀ x ∈ l, x ≤ t) → l.foldl max a ≤ t
  | [], a, h, _ => h
  | x :: l, a, h, h2 => fold_max_le l (max a x) (by have := h2 x (by simp); omega) fun y hy => h2 y (by simp [hy])
def DepLe (cs : List Ct) (t : Nat) : Prop := ∀ d ∈ dsOf cs, d ≤ t
theorem DepLe.tree {cs : List Ct} {t : Nat} (h : DepLe cs t) (es : List (Str × Nat)) : depOf (dsOf cs) (.tree es) ≤ t + 1 := by
  have := fold_max_le (t := t) (es.map fun e => (dsOf cs).getD e.2 0) 0 (Nat.zero_le _) fun x hx => by
    obtain ⟨e, _, rfl⟩ := List.mem_map.mp hx
    rw [List.getD_eq_getElem?_getD]
    cases g : (dsOf cs)[e.2]? with
    | none => exact Nat.zero_le _
    | some d => exact h d (List.mem_of_getElem? g)
  show 1 + _ ≤ _
  omega
theorem DepLe.snoc {cs : List Ct} {c : Ct} {t : Nat} (h : DepLe cs t) (hc : depOf (dsOf cs) c ≤ t) : DepLe (cs ++ [c]) t := by
  intro d hd
  rw [dsOf_snoc] at hd
  rcases List.mem_append.mp hd with g | g
  · exact h d g
  · have : d = depOf (dsOf cs) c := by simpa using g
    rw [this]
    exact hc
theorem sg_smallF : ∀ c ∈ SG.cps.toList, c < 0x110000 := by decide +kernel
theorem ltr_small : ∀ c ∈ LTR.cps.toList, c < 0x110000 := by decide +kernel
theorem line_strF {z : Str} (h : LineOk z) : PyData.strOk z = true := by
  unfold PyData.strOk
  rw [Array.all_eq_true_iff_forall_mem]
  intro c hc
  exact decide_eq_true (sg_smallF c (h.2 c (by simpa using hc)))
theorem lab_str {z : Str} (h : LabOk z) : PyData.strOk z = true := by
  unfold PyData.strOk
  rw [Array.all_eq_true_iff_forall_mem]
  intro c hc
  exact decide_eq_true (ltr_small c (h.2.2 c (by simpa using hc)))
theorem CtOk.txts {cs : List Ct} {ds : List Nat} {c : Ct} (h : CtOk cs ds c) : c.txts := by
  cases c with
  | leaf rows => exact fun z hz => line_strF (h.2 z hz)
  | tree es => exact fun e he => lab_str (h.2.1 e he).1
  | ver ps r s => trivial
structure Fam (cs : List (Addr × Ct)) (t : Nat) : Prop where
  ok : ScnOk (cs.map (·.2))
  nd : (cs.map (·.2)).Nodup
  dp : DepLe (cs.map (·.2)) t
theorem Fam.txts {cs : List (Addr × Ct)} {t : Nat} (h : Fam cs t) : ∀ q ∈ cs, q.2.txts := by
  intro q hq
  obtain ⟨i, hi, e⟩ := List.getElem_of_mem hq
  exact (h.ok i q.2 (by rw [List.getElem?_map, List.getElem?_eq_getElem hi, e]; rfl)).txts
theorem Fam.mono {cs : List (Addr × Ct)} {t u : Nat} (h : Fam cs t) (l : t ≤ u) : Fam cs u := ⟨h.ok, h.nd, fun d hd => Nat.le_trans (h.dp d hd) l⟩
theorem Fam.bk {cs : List (Addr × Ct)} {t : Nat} (h : Fam cs t) : BkOk cs := by
  have key : ∀ n, isV cs n → (pars cs n).length ≤ 4 ∧ ∀ p ∈ pars cs n, isV cs p ∧ p < n := fun n iv => by
    obtain ⟨a, r, s, e⟩ := iv.at
    obtain ⟨h1, h2, h3, _⟩ := h.ok n _ (by rw [List.getElem?_map, e]; rfl)
    refine ⟨h2, fun p hp => ?_⟩
    obtain ⟨c, hc, hw⟩ := h3 p hp
    have hpn : p < n := by
      have := (List.getElem?_eq_some_iff.mp hc).1
      rw [List.length_take] at this
      omega
    rw [List.getElem?_take, if_pos hpn, List.getElem?_map] at hc
    obtain ⟨q, hq, e2⟩ := Option.map_eq_some_iff.mp hc
    exact ⟨(word_isV hq).mp (by rw [e2]; exact hw), hpn⟩
  refine ⟨fun n p hp => (key n (isV.of hp)).2 p hp, fun n => ?_⟩
  by_cases iv : isV cs n
  · exact (key n iv).1
  · cases e : pars cs n with
    | nil => exact Nat.zero_le _
    | cons p r => exact absurd (isV.of (p := p) (by rw [e]; simp)) iv
def Grow (cs cs' : List (Addr × Ct)) : Prop := ∀ (i : Nat) (x : Addr × Ct), cs[i]? = some x → cs'[i]? = some x
theorem Grow.refl {cs : List (Addr × Ct)} : Grow cs cs := fun _ _ h => h
theorem Grow.snoc {cs : List (Addr × Ct)} {x : Addr × Ct} : Grow cs (cs ++ [x]) := fun i y h => by
  rw [List.getElem?_append_left (List.getElem?_eq_some_iff.mp h).1]
  exact h
theorem w_give {H : Hp} {Q : VK} {E : XK} {th a : Addr} {cs : List (Addr × Ct)} {c : Ct} {t : Nat} (ht : ThAt H th cs) (fm : Fam cs t) (hc : CtAt H a c) (ok : CtOk (cs.map (·.2)) (dsOf (cs.map (·.2))) c) (dp : depOf (dsOf (cs.map (·.2))) c ≤ t) (hl : cs.length < 900)
    (h : ∀ (H' : Hp) (cs' : List (Addr × Ct)) (j : Nat) (b : Addr), ThAt H' th cs' → Fam cs' t → Grow cs cs' → cs'[j]? = some (b, c) → cs'.length ≤ cs.length + 1 → Off th H H' → Q (nV j) H') : spGive ([V.ref th, V.ref a] ++ []) H Q E := by
  refine ⟨th, a, cs, c, rfl, ht, fm.nd, hc, by omega, fm.txts, ok.txts, fun j b hj => ?_, fun hno H' ht' o' => ?_⟩
  · exact h H cs j b ht fm .refl hj (by omega) fun _ _ => rfl
  · refine h H' _ cs.length a ht' ⟨?_, ?_, ?_⟩ .snoc (by simp) (by simp) o'
    · rw [List.map_append, List.map_cons, List.map_nil]
      exact fm.ok.snoc ok
    · rw [List.map_append, List.map_cons, List.map_nil, List.nodup_append]
      refine ⟨fm.nd, by simp, fun x hx y hy e => ?_⟩
      obtain ⟨z, hz, rfl⟩ := List.mem_map.mp hx
      have e' : y = c := by simpa using hy
      rw [e'] at e
      exact hno z hz e
    · rw [List.map_append, List.map_cons, List.map_nil]
      exact fm.dp.snoc dp
theorem cut_nats (ns : List Nat) (lo hi : Option Int) : ∃ ms : List Nat, cutV (ns.map nV) lo hi = ms.map nV ∧ (∀ x ∈ ms, x ∈ ns) ∧ ms.length ≤ ns.length := by
  refine ⟨(ns.drop (HT.sIx (ns.map nV).length 0 lo)).take (HT.sIx (ns.map nV).length (ns.map nV).length hi - HT.sIx (ns.map nV).length 0 lo), ?_, fun x hx => List.mem_of_mem_drop (List.mem_of_mem_take hx), ?_⟩
  · unfold cutV
    rw [List.map_take, List.map_drop]
  · rw [List.length_take, List.length_drop]
    omega
def isL (cs : List (Addr × Ct)) (n : Nat) : Prop := ∃ a rows, cs[n]? = some (a, Ct.leaf rows)
def isT (cs : List (Addr × Ct)) (n : Nat) : Prop := ∃ a es, cs[n]? = some (a, Ct.tree es)
theorem isL.grow {cs cs' : List (Addr × Ct)} {n : Nat} (h : isL cs n) (g : Grow cs cs') : isL cs' n := by
  obtain ⟨a, r, e⟩ := h
  exact ⟨a, r, g _ _ e⟩
theorem isT.grow {cs cs' : List (Addr × Ct)} {n : Nat} (h : isT cs n) (g : Grow cs cs') : isT cs' n := by
  obtain ⟨a, r, e⟩ := h
  exact ⟨a, r, g _ _ e⟩
theorem isV.grow {cs cs' : List (Addr × Ct)} {n : Nat} (h : isV cs n) (g : Grow cs cs') : isV cs' n := by
  obtain ⟨a, p, r, s, e⟩ := h
  exact ⟨a, p, r, s, g _ _ e⟩
theorem isV.word {cs : List (Addr × Ct)} {n : Nat} (h : isV cs n) : ∃ c, (cs.map (·.2))[n]? = some c ∧ c.word = "version" := by
  obtain ⟨a, p, r, s, e⟩ := h
  exact ⟨_, by rw [List.getElem?_map, e]; rfl, rfl⟩
theorem isT.word {cs : List (Addr × Ct)} {n : Nat} (h : isT cs n) : ∃ c, (cs.map (·.2))[n]? = some c ∧ c.word = "tree" := by
  obtain ⟨a, r, e⟩ := h
  exact ⟨_, by rw [List.getElem?_map, e]; rfl, rfl⟩
theorem low_word {cs : List (Addr × Ct)} {n : Nat} (h : isL cs n ∨ isT cs n) : ∃ c, (cs.map (·.2))[n]? = some c ∧ c.word ≠ "version" := by
  rcases h with ⟨a, r, e⟩ | ⟨a, r, e⟩
  · exact ⟨.leaf r, by rw [List.getElem?_map, e]; rfl, lit_ne2⟩
  · exact ⟨.tree r, by rw [List.getElem?_map, e]; rfl, lit_ne3⟩
def spFamily : Sp := fun vs H Q _ => ∃ (d c : Addr) (n l t v : Nat), vs = [.ref d, nV l, nV t, nV v] ∧ Deck H d c n ∧ 1 ≤ l ∧ 1 ≤ t ∧ t ≤ 8 ∧ l + t + v ≤ 390 ∧ n + 300 * l + 60 * t + 10 * v ≤ MOSTD ∧
  ∀ (H' : Hp) (th : Addr) (cs : List (Addr × Ct)), Deck H' d c (n + 300 * l + 60 * t + 10 * v) → KX d H H' → H th = none → ThAt H' th cs → Fam cs t → cs.length ≤ l + t + v → 1 ≤ cs.length → (1 ≤ v → ∃ i, isV cs i) → Q (.ref th) H'
section
variable {P : Program} {w : World} {K : PySem.W.Frag} {mg : Str → Option Value} {base : Heap} {C : Addr}
theorem ok_family {f fM fD fT fL fR fE fS fG : Addr} {fd fdM fdD fdT fdL fdR fdE fdS fdG : FuncData} (T : Txt K mg) (F : Fun K "_law_family" "_law_family" s_law_family f fd) (D_law_mixed : Df K mg "_law_mixed" s_law_mixed ["_law_cell", "_law_turn"] fM fdM)
    (D_law_draw : Df K mg "_law_draw" s_law_draw ["_law_deck_here", "_law_many"] fD fdD) (D_law_text : Df K mg "_law_text" s_law_text ["_law_deck_here", "_law_most"] fT fdT) (D_law_label : Df K mg "_law_label" s_law_label ["_law_deck_here"] fL fdL)
    (D_law_rows : Df K mg "_law_rows" s_law_rows ["_law_deck_here", "_law_elder"] fR fdR) (D_law_entries : Df K mg "_law_entries" s_law_entries ["_law_deck_here", "_law_lows"] fE fdE) (D_law_some : Df K mg "_law_some" s_law_some ["_law_deck_here", "_law_names", "_law_most"] fS fdS) (D_law_give : Df K mg "_law_give" s_law_give ["_law_things", "_law_content"] fG fdG) : FnOk P w K mg base CX0 5 f fd ["_law_deck_here", "_law_leaves", "_law_trees", "_law_versions"] spFamily := by
  have G_law_draw : FnOk P w K mg base CX0 2 fD fdD ["_law_deck_here", "_law_many"] spDraw := ok_draw T D_law_draw.fn D_law_mixed
  have G_law_rows : FnOk P w K mg base CX0 4 fR fdR ["_law_deck_here", "_law_elder"] spRows := ok_rows T D_law_rows.fn D_law_mixed D_law_draw D_law_text
  have G_law_entries : FnOk P w K mg base CX0 4 fE fdE ["_law_deck_here", "_law_lows"] spEntries := ok_entries T D_law_entries.fn D_law_mixed D_law_draw D_law_label
  have G_law_some : FnOk P w K mg base CX0 3 fS fdS ["_law_deck_here", "_law_names", "_law_most"] spSome := ok_some T D_law_some.fn D_law_mixed D_law_draw
  have G_law_give : FnOk P w K mg base CX0 1 fG fdG ["_law_things", "_law_content"] spGive := ok_give T D_law_give.fn
  refine F.ok sc_law_family (fun vs H Q E h => ?_) (fun cdv A outer s H vs Q E hr h => ?_)
  · obtain ⟨d, c, n, l, t, v, rfl, _⟩ := h
    rfl
  · obtain ⟨d, c, n, l, t, v, rfl, D0, hl1, ht1, ht8, hsum, hn, q⟩ := h
    refine ⟨_,
      (pss_cons
        (ps_set (i := 4) sc_law_family.nd rfl (.inl rfl) (pe_lst pa_nil))
      (pss_cons
        (ps_set (i := 5) sc_law_family.nd rfl (.inl rfl) (pe_tup pa_nil))
      (pss_cons
        (ps_set (i := 6) sc_law_family.nd rfl (.inl rfl) (pe_lst pa_nil))
      (pss_cons
        (ps_for PassesOwn.never rfl (pi_range1 (by rfl) T.n_range (pa_cons (pv 1) pa_nil)) (pg_name (i := 7) sc_law_family.nd rfl (.inl rfl))
          (pss_cons
            (ps_set (i := 5) sc_law_family.nd rfl (.inl rfl) (pe_call G_law_rows (hr.mono (by omega)) (by rfl) D_law_rows.g D_law_rows.fn.kp D_law_rows.b .nil pass0 (pa_cons (pv 0) (pa_cons (pv 5) pa_nil))))
          (pss_one
            (ps_expr (pe_bm PySem.F.plainAttrs_list PySem.F.slot_list_append PySem.F.type_list_append mt_append (pv 6) (pa_cons (pe_call G_law_give (hr.mono (by omega)) (by rfl) D_law_give.g D_law_give.fn.kp D_law_give.b .nil pass0 (pa_cons (pv 4) (pa_cons (pe_tup (pa_cons pe_str (pa_cons (pv 5) pa_nil))) pa_nil))) pa_nil))))))
      (pss_cons
        (ps_set (i := 8) sc_law_family.nd rfl (.inl rfl) (pe_lst pa_nil))
      (pss_cons
        (ps_for PassesOwn.never rfl (pi_range1 (by rfl) T.n_range (pa_cons (pv 2) pa_nil)) (pg_name (i := 7) sc_law_family.nd rfl (.inl rfl))
          (pss_one
            (ps_expr (pe_bm PySem.F.plainAttrs_list PySem.F.slot_list_append PySem.F.type_list_append mt_append (pv 8) (pa_cons (pe_call G_law_give (hr.mono (by omega)) (by rfl) D_law_give.g D_law_give.fn.kp D_law_give.b .nil pass0 (pa_cons (pv 4) (pa_cons (pe_tup (pa_cons pe_str (pa_cons (pe_call G_law_entries (hr.mono (by omega)) (by rfl) D_law_entries.g D_law_entries.fn.kp D_law_entries.b .nil pass0 (pa_cons (pv 0) (pa_cons (pe_op op_cat (pv 6) (pv 8)) pa_nil))) pa_nil))) pa_nil))) pa_nil)))))
      (pss_cons
        (ps_set (i := 9) sc_law_family.nd rfl (.inl rfl) (pe_lst pa_nil))
      (pss_cons
        (ps_for PassesOwn.never rfl (pi_range1 (by rfl) T.n_range (pa_cons (pv 3) pa_nil)) (pg_name (i := 7) sc_law_family.nd rfl (.inl rfl))
          (pss_cons
            (ps_set (i := 10) sc_law_family.nd rfl (.inl rfl) (pe_call G_law_some (hr.mono (by omega)) (by rfl) D_law_some.g D_law_some.fn.kp D_law_some.b .nil pass0 (pa_cons (pv 0) (pa_cons (pe_slice sl_list (pv 9) (po_some (pe_un un_neg pe_int)) po_none) (pa_cons (pe_call G_law_draw (hr.mono (by omega)) (by rfl) D_law_draw.g D_law_draw.fn.kp D_law_draw.b .nil pass0 (pa_cons (pv 0) (pa_cons pe_int pa_nil))) pa_nil)))))
          (pss_cons
            (ps_set (i := 11) sc_law_family.nd rfl (.inl rfl) (pe_ix (r := rIxL K) ix_list (pv 8) (pe_call G_law_draw (hr.mono (by omega)) (by rfl) D_law_draw.g D_law_draw.fn.kp D_law_draw.b .nil pass0 (pa_cons (pv 0) (pa_cons (pe_callB (r := rLen K) c_len (by rfl) T.n_len (by decide +kernel) (pa_cons (pv 8) pa_nil)) pa_nil))) (fun _ _ => rfl)))
          (pss_one
            (ps_expr (pe_bm PySem.F.plainAttrs_list PySem.F.slot_list_append PySem.F.type_list_append mt_append (pv 9) (pa_cons (pe_call G_law_give (hr.mono (by omega)) (by rfl) D_law_give.g D_law_give.fn.kp D_law_give.b .nil pass0 (pa_cons (pv 4) (pa_cons (pe_tup (pa_cons pe_str (pa_cons (pv 10) (pa_cons (pv 11) (pa_cons (pe_call G_law_draw (hr.mono (by omega)) (by rfl) D_law_draw.g D_law_draw.fn.kp D_law_draw.b .nil pass0 (pa_cons (pv 0) (pa_cons (pe_op op_add (pe_op op_pow pe_int pe_int) pe_int) pa_nil))) pa_nil))))) pa_nil))) pa_nil)))))))
      (pss_one
        (ps_ret (pv 4)))))))))))
      , ?_⟩
    rw [show L2.start N_law_family [V.ref d, nV l, nV t, nV v] = [some (.ref d), some (.int (l : Int)), some (.int (t : Int)), some (.int (v : Int)), none, none, none, none, none, none, none, none] from rfl]
    walk_at "x"
    refine w_new fun th H1 hth e1 k1 => ?_
    walk_at "g"
    refine w_new fun r0 H2 hr0 e2 k2 => ?_
    walk_at "g"
    refine w_new fun lo H3 hlo e3 k3 => ?_
    have k13 := Same.trans k1 (Same.trans k2 k3)
    have hlo0 : H lo = none := (Same.trans k1 k2).free hlo
    obtain ⟨thd, thc⟩ := D0.ne1 hth
    obtain ⟨lod, loc⟩ := D0.ne1 hlo0
    have nlt : lo ≠ th := fun e => by rw [e, k2 _ _ e1] at hlo; cases hlo
    have D3 : Deck H3 d c n := D0.kp (M := []) (Kp.of k13) (by simp) (by simp)
    walk_at "g"
    try refine w_rng1' (by omega) (by omega) ?_
    refine lp_range (fun i σ H' => ∃ (r : Addr) (y : Option V) (cs : List (Addr × Ct)) (ls : List Str) (lows : List Nat), σ = [some (.ref d), some (.int (l : Int)), some (.int (t : Int)), some (.int (v : Int)), some (.ref th), some (.ref r), some (.ref lo), y, none, none, none, none] ∧ Deck H' d c (n + 300 * i) ∧ KX d H H' ∧ ThAt H' th cs ∧ Fam cs 0 ∧ RwAt H' r ls ∧ ls.length ≤ 7 ∧ (∀ z ∈ ls, LineOk z) ∧ H' lo = some (.lst (lows.map nV)) ∧ lows.length = i ∧ cs.length ≤ i ∧ (∀ x ∈ lows, isL cs x)) ⟨r0, _, [], [], [], rfl, D3, KX.of k13, ⟨k3 _ _ (k2 _ _ e1), by simp⟩, ⟨.nil, by simp, fun d hd => by cases hd⟩, k3 _ _ e2, by simp, by simp, e3, rfl, by simp, by simp⟩ ?_ ?_
    · rintro i σ H4 hi ⟨r, y, cs, ls, lows, rfl, D4, x4, T4, F4, hr4, hl7, hok, elo4, hlow, hcl, hisl⟩
      have hil : i < l := by omega
      walk_at "g"
      refine ⟨d, c, r, _, ls, rfl, D4, by omega, hr4, hl7, hok, fun H5 r5 ls5 D5 x5 er5 hl5 hok5 => ?_⟩
      have elo5 := x5.p _ _ (by simpa using lod) elo4
      have T5 := T4.kp x5.p x5.t (by simpa using thd)
      walk_at "g"
      refine w_new fun a H6 ha e6 k6 => ?_
      have T6 := T5.same k6
      have elo6 := k6 _ _ elo5
      have okc : CtOk (cs.map (·.2)) (dsOf (cs.map (·.2))) (.leaf ls5) := ⟨by omega, hok5⟩
      walk_at "g"
      refine w_give (c := .leaf ls5) T6 F4 ⟨r5, e6, k6 _ _ er5⟩ okc (Nat.zero_le _) (by omega) fun H7 cs7 j b T7 F7 g7 hj hc7 o7 => ?_
      have elo7 := o7.get nlt elo6
      walk_at "g"
      refine w_app elo7 (by rw [List.length_map]; exact small1kl (by omega)) fun H8 e8 o8 => ?_
      walk_at "g"
      have x6 := (x4.trans x5).trans (KX.of k6)
      have x8 := (x6.offN o7 hth).offN o8 hlo0
      have t7 : KT H7 H8 := KT.off o8 elo7
      refine ⟨r5, _, cs7, ls5, lows ++ [j], rfl, ?_, x8, T7.kp (M := [lo]) (o8.kp (by simp)) t7 (by simpa using nlt.symm), F7, t7 _ _ (KT.off o7 T6.at' _ _ (k6 _ _ er5)), hl5, hok5, by rw [e8, List.map_append]; rfl, by rw [List.length_append, hlow]; rfl, by omega, fun x hx => ?_⟩
      · exact (((D5.kp (M := []) (Kp.of k6) (by simp) (by simp)).kp (M := [th]) (o7.kp (by simp)) (by simpa using thd.symm) (by simpa using thc.symm)).kp (M := [lo]) (o8.kp (by simp)) (by simpa using lod.symm) (by simpa using loc.symm)).mono (by omega)
      · rcases List.mem_append.mp hx with h | h
        · exact (hisl x h).grow g7
        · have : x = j := by simpa using h
          rw [this]
          exact ⟨b, ls5, hj⟩
    rintro σ H4 ⟨r, y, cs, ls, lows, rfl, D4, x4, T4, F4, hr4, hl7, hok, elo4, hlow, hcl, hisl⟩
    have hlt : ((l : Int)).toNat = l := by omega
    rw [hlt] at D4 hlow hcl
    walk_at "g"
    refine w_new fun ro H5 hro e5 k5 => ?_
    have hro0 : H ro = none := by
      cases e : H ro with
      | none => rfl
      | some o =>
        by_cases hd : ro = d
        · obtain ⟨⟨xs, e'⟩, _⟩ := D4.at
          rw [hd, e'] at hro
          cases hro
        · rw [x4.p _ _ (by simpa using hd) e] at hro
          cases hro
    obtain ⟨rod, roc⟩ := D0.ne1 hro0
    have nrt : ro ≠ th := fun e => by rw [e, T4.at'] at hro; cases hro
    have nrl : ro ≠ lo := fun e => by rw [e, elo4] at hro; cases hro
    have D5 : Deck H5 d c (n + 300 * l) := D4.kp (M := []) (Kp.of k5) (by simp) (by simp)
    walk_at "g"
    try refine w_rng1' (by omega) (by omega) ?_
    refine lp_range (fun i σ H' => ∃ (y : Option V) (cs : List (Addr × Ct)) (roots : List Nat), σ = [some (.ref d), some (.int (l : Int)), some (.int (t : Int)), some (.int (v : Int)), some (.ref th), some (.ref r), some (.ref lo), y, some (.ref ro), none, none, none] ∧ Deck H' d c (n + 300 * l + 60 * i) ∧ KX d H H' ∧ ThAt H' th cs ∧ Fam cs i ∧ H' lo = some (.lst (lows.map nV)) ∧ H' ro = some (.lst (roots.map nV)) ∧ roots.length = i ∧ cs.length ≤ l + i ∧ (∀ x ∈ lows, isL cs x) ∧ (∀ x ∈ roots, isT cs x)) ⟨_, cs, [], rfl, D5, x4.trans (KX.of k5), T4.same k5, F4, k5 _ _ elo4, e5, rfl, by omega, hisl, by simp⟩ ?_ ?_
    · rintro i σ H6 hi ⟨y, cs, roots, rfl, D6, x6, T6, F6, elo6, ero6, hrl, hcl, hisl, hist⟩
      have hit : i < t := by omega
      walk_at "g"
      refine w_cat elo6 ero6 (by rw [List.length_map, List.length_map]; exact Nat.le_of_lt (small1kl (by omega))) fun ca H7 hca e7 k7 => ?_
      rw [← List.map_append] at e7
      have D7 : Deck H7 d c _ := D6.kp (M := []) (Kp.of k7) (by simp) (by simp)
      obtain ⟨cad, cac⟩ := D6.ne1 hca
      walk_at "g"
      refine ⟨d, c, ca, _, lows ++ roots, rfl, D7, by omega, e7, cad, by intro e; have := congrArg List.length e; rw [List.length_append] at this; simp only [List.length_nil] at this; omega, by rw [List.length_append]; omega, fun H8 te qs D8 x8 e8 hqs hq3 hqp hql => ?_⟩
      have x78 := (KX.of (d := d) k7).trans x8
      have T8 := T6.kp x78.p x78.t (by simpa using thd)
      have elo8 := x78.p _ _ (by simpa using lod) elo6
      have ero8 := x78.p _ _ (by simpa using rod) ero6
      walk_at "g"
      refine w_new fun a H9 ha e9 k9 => ?_
      have T9 := T8.same k9
      have ero9 := k9 _ _ ero8
      have elo9 := k9 _ _ elo8
      have hdep := F6.dp.tree (qs.map (·.2))
      have okc : CtOk (cs.map (·.2)) (dsOf (cs.map (·.2))) (.tree (qs.map (·.2))) := by
        refine ⟨by rw [List.length_map]; omega, fun e he => ?_, by rw [List.pairwise_map]; exact hqp, by omega⟩
        obtain ⟨q', hq', rfl⟩ := List.mem_map.mp he
        obtain ⟨g1, g2⟩ := hql q' hq'
        refine ⟨g1, low_word ?_⟩
        rcases List.mem_append.mp g2 with h | h
        · exact .inl (hisl _ h)
        · exact .inr (hist _ h)
      walk_at "g"
      refine w_give (c := .tree (qs.map (·.2))) T9 (F6.mono (Nat.le_succ i)) ⟨te, qs, e9, k9 _ _ e8, rfl, fun q' hq' => k9 _ _ (hqs q' hq')⟩ okc hdep (by omega) fun H10 cs10 j b T10 F10 g10 hj hc10 o10 => ?_
      have ero10 := o10.get nrt ero9
      have elo10 := o10.get nlt elo9
      walk_at "g"
      refine w_app ero10 (by rw [List.length_map]; exact small1kl (by omega)) fun H11 e11 o11 => ?_
      walk_at "g"
      have x11 := (((x6.trans x78).trans (KX.of k9)).offN o10 hth).offN o11 hro0
      refine ⟨_, cs10, roots ++ [j], rfl, ?_, x11, T10.kp (M := [ro]) (o11.kp (by simp)) (KT.off o11 ero10) (by simpa using nrt.symm), F10, o11.get nrl.symm elo10, by rw [e11, List.map_append]; rfl, by rw [List.length_append, hrl]; rfl, by omega, fun x hx => (hisl x hx).grow g10, fun x hx => ?_⟩
      · exact (((D8.kp (M := []) (Kp.of k9) (by simp) (by simp)).kp (M := [th]) (o10.kp (by simp)) (by simpa using thd.symm) (by simpa using thc.symm)).kp (M := [ro]) (o11.kp (by simp)) (by simpa using rod.symm) (by simpa using roc.symm)).mono (by omega)
      · rcases List.mem_append.mp hx with h | h
        · exact (hist x h).grow g10
        · have : x = j := by simpa using h
          rw [this]
          exact ⟨b, _, hj⟩
    rintro σ H6 ⟨y, cs, roots, rfl, D6, x6, T6, F6, elo6, ero6, hrl, hcl, hisl, hist⟩
    have htt : ((t : Int)).toNat = t := by omega
    rw [htt] at D6 hrl hcl F6
    walk_at "g"
    refine w_new fun sd H7 hsd e7 k7 => ?_
    have hsd0 : H sd = none := by
      cases e : H sd with
      | none => rfl
      | some o =>
        by_cases hd : sd = d
        · obtain ⟨⟨xs, e'⟩, _⟩ := D6.at
          rw [hd, e'] at hsd
          cases hsd
        · rw [x6.p _ _ (by simpa using hd) e] at hsd
          cases hsd
    obtain ⟨sdd, sdc⟩ := D0.ne1 hsd0
    have nst : sd ≠ th := fun e => by rw [e, T6.at'] at hsd; cases hsd
    have nsr : sd ≠ ro := fun e => by rw [e, ero6] at hsd; cases hsd
    have D7 : Deck H7 d c (n + 300 * l + 60 * t) := D6.kp (M := []) (Kp.of k7) (by simp) (by simp)
    walk_at "g"
    try refine w_rng1' (by omega) (by omega) ?_
    refine lp_range (fun i σ H' => ∃ (y y2 y3 : Option V) (cs : List (Addr × Ct)) (sts : List Nat), σ = [some (.ref d), some (.int (l : Int)), some (.int (t : Int)), some (.int (v : Int)), some (.ref th), some (.ref r), some (.ref lo), y, some (.ref ro), some (.ref sd), y2, y3] ∧ Deck H' d c (n + 300 * l + 60 * t + 10 * i) ∧ KX d H H' ∧ ThAt H' th cs ∧ Fam cs t ∧ H' ro = some (.lst (roots.map nV)) ∧ H' sd = some (.lst (sts.map nV)) ∧ sts.length = i ∧ cs.length ≤ l + t + i ∧ 1 ≤ cs.length ∧ (∀ x ∈ roots, isT cs x) ∧ (∀ x ∈ sts, isV cs x)) ⟨_, _, _, cs, [], rfl, D7, x6.trans (KX.of k7), T6.same k7, F6, k7 _ _ ero6, e7, rfl, by omega, ?_, hist, by simp⟩ ?_ ?_
    · obtain ⟨x, hx⟩ : ∃ x, x ∈ roots := by
        cases roots with
        | nil => simp only [List.length_nil] at hrl; omega
        | cons x _ => exact ⟨x, by simp⟩
      obtain ⟨a, es, e⟩ := hist x hx
      have := (List.getElem?_eq_some_iff.mp e).1
      omega
    · rintro i σ H8 hi ⟨y, y2, y3, cs, sts, rfl, D8, x8, T8, F8, ero8, esd8, hsl, hcl, hc1, hist, hisv⟩
      have hiv : i < v := by omega
      obtain ⟨ms, ecut, hms, hml⟩ := cut_nats sts (some (-5)) none
      walk_at "g"
      refine w_slL (.of esd8) fun sl H9 hsl9 e9 k9 => ?_
      rw [ecut] at e9
      have D9 : Deck H9 d c _ := D8.kp (M := []) (Kp.of k9) (by simp) (by simp)
      obtain ⟨sld, slc⟩ := D8.ne1 hsl9
      walk_at "g"
      refine w_draw D9 (by omega) (by decide) (by decide) fun cnt H10 hcnt D10 o10 => ?_
      have e10 := o10.get sld e9
      walk_at "g"
      refine ⟨d, c, sl, _, cnt, ms, rfl, D10, by omega, e10, sld, slc, by omega, by omega, fun H11 tp ps D11 x11 e11 hup hpl hpm => ?_⟩
      have x8_11 : KX d H8 H11 := ((KX.of k9).trans (D9.kx D10 o10)).trans x11
      have ero11 := x8_11.p _ _ (by simpa using rod) ero8
      walk_at "g"
      refine w_draw D11 (by omega) (by rw [List.length_map]; omega) (by rw [List.length_map]; omega) fun ri H12 hri D12 o12 => ?_
      have hri2 : ri < roots.length := by rw [List.length_map] at hri; omega
      have ero12 := o12.get rod ero11
      have at1 : atI (roots.map nV) (ri : Int) = some (.int ((roots[ri] : Nat) : Int)) := atI_nat (nV_at hri2)
      have x8_12 := x8_11.trans (D11.kx D12 o12)
      have esd12 := x8_12.p _ _ (by simpa using sdd) esd8
      walk_at "g"
      refine w_draw D12 (by omega) (by decide) (by decide) fun st H13 hst D13 o13 => ?_
      have h18 : (10 : Int) ^ Int.toNat 18 = 1000000000000000000 := by decide
      have hst2 : st ≤ 10 ^ 18 := by
        have : (st : Int) < (10 : Int) ^ Int.toNat 18 + 1 := hst
        rw [h18] at this
        omega
      have x8_13 := x8_12.trans (D12.kx D13 o13)
      have T13 := T8.kp x8_13.p x8_13.t (by simpa using thd)
      have esd13 := x8_13.p _ _ (by simpa using sdd) esd8
      have ero13 := x8_13.p _ _ (by simpa using rod) ero8
      have e13 := ((D11.kx D12 o12).trans (D12.kx D13 o13)).t _ _ e11
      walk_at "g"
      refine w_new fun a H14 ha e14 k14 => ?_
      have T14 := T13.same k14
      have esd14 := k14 _ _ esd13
      have ero14 := k14 _ _ ero13
      have okc : CtOk (cs.map (·.2)) (dsOf (cs.map (·.2))) (.ver ps roots[ri] st) := ⟨hup, by omega, fun p hp => (hisv p (hms p (hpm p hp))).word, (hist _ (List.getElem_mem hri2)).word, hst2⟩
      walk_at "g"
      refine w_give (c := .ver ps roots[ri] st) T14 F8 ⟨tp, e14, k14 _ _ e13⟩ okc (Nat.zero_le _) (by omega) fun H15 cs15 j b T15 F15 g15 hj hc15 o15 => ?_
      have esd15 := o15.get nst esd14
      have ero15 := o15.get nrt ero14
      walk_at "g"
      refine w_app esd15 (by rw [List.length_map]; exact small1kl (by omega)) fun H16 e16 o16 => ?_
      walk_at "g"
      have x16 := (((x8.trans x8_13).trans (KX.of k14)).offN o15 hth).offN o16 hsd0
      refine ⟨_, _, _, cs15, sts ++ [j], rfl, ?_, x16, T15.kp (M := [sd]) (o16.kp (by simp)) (KT.off o16 esd15) (by simpa using nst.symm), F15, o16.get nsr.symm ero15, by rw [e16, List.map_append]; rfl, by rw [List.length_append, hsl]; rfl, by omega, ?_, fun x hx => (hist x hx).grow g15, fun x hx => ?_⟩
      · exact (((D13.kp (M := []) (Kp.of k14) (by simp) (by simp)).kp (M := [th]) (o15.kp (by simp)) (by simpa using thd.symm) (by simpa using thc.symm)).kp (M := [sd]) (o16.kp (by simp)) (by simpa using sdd.symm) (by simpa using sdc.symm)).mono (by omega)
      · have := (List.getElem?_eq_some_iff.mp hj).1
        omega
      · rcases List.mem_append.mp hx with h | h
        · exact (hisv x h).grow g15
        · have : x = j := by simpa using h
          rw [this]
          exact ⟨b, _, _, _, hj⟩
    · rintro σ H8 ⟨y, y2, y3, cs, sts, rfl, D8, x8, T8, F8, ero8, esd8, hsl, hcl, hc1, hist, hisv⟩
      have hvt : ((v : Int)).toNat = v := by omega
      rw [hvt] at D8 hsl hcl
      walk_at "g"
      refine q H8 th cs D8 x8 hth T8 F8 hcl hc1 fun hv => ?_
      cases sts with
      | nil => simp only [List.length_nil] at hsl; omega
      | cons x _ => exact ⟨x, hisv x (by simp)⟩
end
/-! ### stores, versions and edges of views -/
def isVb (cs : List (Addr × Ct)) (n : Nat) : Bool := decide ((cs.getD n (0, .leaf [])).2.word = "version")
theorem isVb_iff {cs : List (Addr × Ct)} {n : Nat} (h : n < cs.length) : isVb cs n = true ↔ isV cs n := by
  unfold isVb
  have eg : cs.getD n (0, .leaf []) = cs[n] := by rw [List.getD_eq_getElem?_getD, List.getElem?_eq_getElem h]; rfl
  rw [decide_eq_true_iff, eg]
  exact word_isV (List.getElem?_eq_getElem h)
def vers (cs : List (Addr × Ct)) (hs : List Nat) : List Nat := hs.filter (isVb cs)
def edgB (cs : List (Addr × Ct)) (hs : List Nat) (n : Nat) : Bool := !((pars cs n).all fun p => decide (p ∈ hs))
def vedg (cs : List (Addr × Ct)) (hs : List Nat) : List Nat := (vers cs hs).filter (edgB cs hs)
structure StAt (CS : Addr) (H : Hp) (s dy p hd : Addr) (rs : List (Str × V)) (k : Nat) (F : Nat → Prop) : Prop where
  ob : H s = some (.ins CS dy (("book", .ref p) :: ("here", .ref hd) :: ("turns", nV k) :: rs))
  here : FAt H hd F
  ne : hd ≠ s
theorem StAt.kp {CS : Addr} {M : List Addr} {H H' : Hp} {s dy p hd : Addr} {rs : List (Str × V)} {k : Nat} {F : Nat → Prop} (h : StAt CS H s dy p hd rs k F) (kp : Kp M H H') (h1 : s ∉ M) (h2 : hd ∉ M) : StAt CS H' s dy p hd rs k F := ⟨kp _ _ h1 h.ob, h.here.kp kp h2, h.ne⟩
theorem StAt.same {CS : Addr} {H H' : Hp} {s dy p hd : Addr} {rs : List (Str × V)} {k : Nat} {F : Nat → Prop} (h : StAt CS H s dy p hd rs k F) (kp : Same H H') : StAt CS H' s dy p hd rs k F := h.kp (M := []) (Kp.of kp) (by simp) (by simp)
def spStoreInit (CS : Addr) : Sp := fun vs H Q _ => ∃ (s dy p : Addr), vs = [.ref s, .ref p] ∧ H s = some (.ins CS dy []) ∧ ∀ (hd : Addr) (H' : Hp), H hd = none → StAt CS H' s dy p hd [] 0 (fun _ => False) → Kp [s] H H' → Q .non H'
def spPut (P : Program) (w : World) (C CS : Addr) : Sp := fun vs H Q _ => ∃ (s dy p dx lc ld lg hd : Addr) (cs : List (Addr × Ct)) (ds : List Nat) (rs : List (Str × V)) (k n : Nat) (F : Nat → Prop), vs = [.ref s, nV n] ∧ rs.length ≤ 900 ∧ StAt CS H s dy p hd rs k F ∧ BookAt P w C H p dx lc ld lg cs ds ∧ n < cs.length ∧ (F n → Q (.bl false) H) ∧ (¬ F n → ∀ H', StAt CS H' s dy p hd rs (k + 1) (fun m => F m ∨ m = n) → Kp [s, hd] H H' → KT H H' → Q (.bl true) H')
def spHeld (CS : Addr) : Sp := fun vs H Q _ => ∃ (s dy p hd : Addr) (rs : List (Str × V)) (k : Nat) (F : Nat → Prop), vs = [.ref s] ∧ StAt CS H s dy p hd rs k F ∧ ∀ (ns : List Nat) (l : Addr) (H' : Hp), ns.Pairwise (· < ·) → (∀ n, n ∈ ns ↔ F n) → ns.length ≤ 1000 → H l = none → H' l = some (.lst (ns.map nV)) → Same H H' → Q (.ref l) H'
def spView (P : Program) (w : World) (C CH CS : Addr) : Sp := fun vs H Q _ => ∃ (s dy p dx lc ld lg hd : Addr) (cs : List (Addr × Ct)) (ds : List Nat) (rs : List (Str × V)) (k : Nat) (F : Nat → Prop), vs = [.ref s] ∧ rs.lookup (Str.ofString "held") = none ∧ StAt CS H s dy p hd rs k F ∧ BookAt P w C H p dx lc ld lg cs ds ∧ (∀ n, F n → n < cs.length) ∧
  ∀ (v dv rw' hv : Addr) (hs : List Nat) (H' : Hp), H v = none → H rw' = none → H hv = none → ViewAt P w C CH H' v dv p dx lc ld lg rw' hv cs ds hs → (∀ n, n ∈ hs ↔ F n) → Same H H' → Q (.ref v) H'
def spVersions (P : Program) (w : World) (C CH : Addr) : Sp := fun vs H Q _ => ∃ (v dv p dx lc ld lg rw' hd : Addr) (cs : List (Addr × Ct)) (ds hs : List Nat), vs = [.ref v] ∧ ViewAt P w C CH H v dv p dx lc ld lg rw' hd cs ds hs ∧ ∀ (l : Addr) (H' : Hp), H l = none → H' l = some (.lst ((vers cs hs).map nV)) → Same H H' → Q (.ref l) H'
def spEdges (P : Program) (w : World) (C CH : Addr) : Sp := fun vs H Q _ => ∃ (v dv p dx lc ld lg rw' hd : Addr) (cs : List (Addr × Ct)) (ds hs : List Nat), vs = [.ref v] ∧ ViewAt P w C CH H v dv p dx lc ld lg rw' hd cs ds hs ∧ BkOk cs ∧ ∀ (l : Addr) (H' : Hp), H l = none → H' l = some (.lst ((vedg cs hs).map nV)) → Same H H' → Q (.ref l) H'
theorem ViewAt.len {P : Program} {w : World} {C CH : Addr} {H : Hp} {v dv p dx lc ld lg rw' hd : Addr} {cs : List (Addr × Ct)} {ds hs : List Nat} (W : ViewAt P w C CH H v dv p dx lc ld lg rw' hd cs ds hs) : hs.length ≤ 400 := by
  have := rise_len hs 0 cs.length W.up (fun n _ => Nat.zero_le n) W.in' (Nat.zero_le _)
  have := W.bk.few
  omega
section
variable {P : Program} {w : World} {K : PySem.W.Frag} {mg : Str → Option Value} {base : Heap} {C CH CS : Addr}
theorem ok_storeinit {f : Addr} {fd : FuncData} (T : Txt K mg) (F : Fun K "__init__" "Store.__init__" s_Store___init__ f fd) (K_Store : Kf K CS ["book", "here", "turns"]) : FnOk P w K mg base CX0 1 f fd ["self", "book"] (spStoreInit CS) := by
  have cl := K_Store.cl
  have n1 := K_Store.na "book" (by simp)
  have n2 := K_Store.na "here" (by simp)
  have n3 := K_Store.na "turns" (by simp)
  refine F.ok sc_Store___init__ (fun vs H Q E h => ?_) (fun cdv A outer s H vs Q E hr h => ?_)
  · obtain ⟨s, dy, p, rfl, _⟩ := h
    rfl
  · obtain ⟨s, dy, p, rfl, hs, q⟩ := h
    refine ⟨_,
      (pss_cons
        (ps_fld (pv 0) (pv 1) rfl)
      (pss_cons
        (ps_fld (pv 0) pe_dnewK rfl)
      (pss_one
        (ps_fld (pv 0) pe_int rfl))))
      , ?_⟩
    rw [show L2.start N_Store___init__ [V.ref s, V.ref p] = [some (.ref s), some (.ref p)] from rfl]
    walk_at "x"
    refine w_fldS' hs cl n1 (by decide) fun H1 o1 f1 => ?_
    walk_at "g"
    refine w_new fun hd H2 hhd e2 k2 => ?_
    have o2 := k2 _ _ o1
    have nhd : hd ≠ s := (ne_of_none o1 hhd).symm
    have hhd0 : H hd = none := by rw [← f1 hd nhd]; exact hhd
    walk_at "g"
    refine w_fldS' o2 cl n2 (show (1 : Nat) < 1000 by decide) fun H3 o3 f3 => ?_
    walk_at "g"
    refine w_fldS' o3 cl n3 (show (2 : Nat) < 1000 by decide) fun H4 o4 f4 => ?_
    refine q hd H4 hhd0 ⟨o4, ⟨[], [], f4.get nhd (f3.get nhd e2), rfl, .nil, by simp, by simp⟩, nhd⟩ fun b o hb e => ?_
    have hb' : b ≠ s := by simpa using hb
    exact f4.get hb' (f3.get hb' (k2 _ _ (f1.get hb' e)))
theorem w_fldAug {σ : L2.St} {H : Hp} {nx bk ct : L2.St → Hp → Prop} {rt : VK} {ta tv : TE} {f : Str} {u : TS} {rd : V → V → Hp → VK → Prop} (h : sFldAug K ta tv rd f ⟨u ⟨nx, rt, bk, ct⟩, rt, bk, ct⟩ σ H) : tSeq (sFldAug K ta tv rd f) u ⟨nx, rt, bk, ct⟩ σ H := h
theorem ok_put {f fN fI : Addr} {fd fdN fdI : FuncData} (T : Txt K mg) (F : Fun K "put" "Store.put" s_Store_put f fd) (K_Book : Kl K mg "Book" C ["contents", "depths", "given"]) (K_Store : Kf K CS ["book", "here", "turns"]) (D_is_name : Df K mg "is_name" s_is_name ["book", "thing"] fN fdN) (D_is_int : DfD K mg "is_int" s_is_int ["thing", "least"] [.int 0] fI fdI) : FnOk P w K mg base CX0 3 f fd ["self", "name"] (spPut P w C CS) := by
  have G_is_name : FnOk P w K mg base CX0 2 fN fdN ["book", "thing"] (spIsName P w C) := ok_isname T D_is_name.fn K_Book D_is_int
  have cl := K_Store.cl
  have n1 := K_Store.na "book" (by simp)
  have n2 := K_Store.na "here" (by simp)
  have n3 := K_Store.na "turns" (by simp)
  refine F.ok sc_Store_put (fun vs H Q E h => ?_) (fun cdv A outer s H vs Q E hr h => ?_)
  · obtain ⟨s, dy, p, dx, lc, ld, lg, hd, cs, ds, rs, k, n, F, rfl, _⟩ := h
    rfl
  · obtain ⟨s, dy, p, dx, lc, ld, lg, hd, cs, ds, rs, k, n, F, rfl, hrs, S, B, hn, q1, q2⟩ := h
    have hu := hu_of hr
    have ob := S.ob
    refine ⟨_,
      (pss_cons
        (ps_if (pt_not (pt_val (pe_call G_is_name (hr.mono (by omega)) (by rfl) D_is_name.g D_is_name.fn.kp D_is_name.b .nil pass0 (pa_cons (pe_fldK (K := K) rfl (pv 0) rfl) (pa_cons (pv 1) pa_nil)))))
          pss_never
          pss_nil)
      (pss_cons
        (ps_if (pt_cmp (pc_din hu (pv 1) (pe_fldK (K := K) rfl (pv 0) rfl)))
          (pss_one
            (ps_ret pe_bl))
          pss_nil)
      (pss_cons
        (ps_dput hu (pe_fldK (K := K) rfl (pv 0) rfl) (pv 1) pe_bl rfl)
      (pss_cons
        (ps_fldaug (pv 0) pe_int in_add)
      (pss_one
        (ps_ret pe_bl))))))
      , ?_⟩
    rw [show L2.start N_Store_put [V.ref s, nV n] = [some (.ref s), some (.int (n : Int))] from rfl]
    refine w_seq ?_
    walk_at "x"
    refine ⟨p, dx, lc, ld, lg, cs, ds, nV n, "int", rfl, B, .int _, fun m _ _ => ?_, fun hm => absurd hn (hm n rfl)⟩
    walk_at "g"
    refine w_seq ?_
    walk_at "g"
    have hcs : n < 1000 := by have := B.few; omega
    refine w_fin' S.here (fun hin => ?_) fun hno => ?_
    · walk_at "g"
      exact q1 hin
    · walk_at "g"
      refine w_fput S.here hcs fun H1 F1 o1 => ?_
      have ob1 := o1.get S.ne.symm ob
      walk_at "g"
      refine w_fldAug ?_
      unfold sFldAug
      walk_at "g"
      refine ⟨s, CS, dy, _, nV k, rfl, ob1, cl, n3, rfl, ?_⟩
      walk_at "g"
      refine ⟨(k : Int), 1, rfl, rfl, dy, _, ob1, by simp only [List.length_cons]; omega, ?_⟩
      walk_at "g"
      obtain ⟨fk, hfk⟩ := S.here.obj
      refine q2 hno _ ⟨upd_same, F1.kp (M := [s]) (Kp.mut (by simp)) (by simpa using S.ne), S.ne⟩ ((o1.kp (by simp)).trans (Kp.mut (by simp))) ⟨fun b xs e => ?_, fun b u xs e => ?_⟩ <;>
      (rw [upd_ne (ne_of e ob (fun z => nomatch z))]
       exact o1.get (ne_of e hfk (fun z => nomatch z)) e)
theorem ok_held {f : Addr} {fd : FuncData} (T : Txt K mg) (F : Fun K "held" "Store.held" s_Store_held f fd) (K_Store : Kf K CS ["book", "here", "turns"]) : FnOk P w K mg base CX0 1 f fd ["self"] (spHeld CS) := by
  have cl := K_Store.cl
  have n2 := K_Store.na "here" (by simp)
  refine F.ok sc_Store_held (fun vs H Q E h => ?_) (fun cdv A outer s H vs Q E hr h => ?_)
  · obtain ⟨s, dy, p, hd, rs, k, F, rfl, _⟩ := h
    rfl
  · obtain ⟨s, dy, p, hd, rs, k, F, rfl, S, q⟩ := h
    have ob := S.ob
    refine ⟨_,
      (pss_one
        (ps_ret (pe_callB (c_sortA rfl) (by rfl) T.n_sorted (by decide +kernel) (pa_cons (pe_fldK (K := K) rfl (pv 0) rfl) pa_nil))))
      , ?_⟩
    rw [show L2.start N_Store_held [V.ref s] = [some (.ref s)] from rfl]
    walk_at "x"
    refine w_fsort S.here fun ns l H1 hup hmem hnl hl e1 k1 => ?_
    exact q ns l H1 hup hmem hnl hl e1 k1
theorem ok_view {f fH fV fN fI : Addr} {fd fdH fdV fdN fdI : FuncData} (T : Txt K mg) (F : Fun K "view" "Store.view" s_Store_view f fd) (K_Book : Kl K mg "Book" C ["contents", "depths", "given"]) (K_Holding : Kl K mg "Holding" CH ["book", "row", "here"]) (M_Holding : Mk K CH fV) (K_Store : Kf K CS ["book", "here", "turns"]) (D_Store_held : DfM K CS "held" "Store.held" s_Store_held ["self"] fH fdH) (D_Holding___init__ : DfM K CH "__init__" "Holding.__init__" s_Holding___init__ ["self", "book", "names"] fV fdV) (D_is_name : Df K mg "is_name" s_is_name ["book", "thing"] fN fdN) (D_is_int : DfD K mg "is_int" s_is_int ["thing", "least"] [.int 0] fI fdI) : FnOk P w K mg base CX0 5 f fd ["self"] (spView P w C CH CS) := by
  have G_Store_held : FnOk P w K mg base CX0 1 fH fdH ["self"] (spHeld CS) := ok_held T D_Store_held.fn K_Store
  have G_Holding___init__ : FnOk P w K mg base CX0 3 fV fdV ["self", "book", "names"] (spViewInit P w C CH) := ok_viewinit T D_Holding___init__.fn K_Book K_Holding D_is_name D_is_int
  have cl := K_Store.cl
  have n1 := K_Store.na "book" (by simp)
  refine F.ok sc_Store_view (fun vs H Q E h => ?_) (fun cdv A outer s H vs Q E hr h => ?_)
  · obtain ⟨s, dy, p, dx, lc, ld, lg, hd, cs, ds, rs, k, F, rfl, _⟩ := h
    rfl
  · obtain ⟨s, dy, p, dx, lc, ld, lg, hd, cs, ds, rs, k, F, rfl, hrs, S, B, hF, q⟩ := h
    have ob := S.ob
    refine ⟨_,
      (pss_one
        (ps_ret (pe_make M_Holding G_Holding___init__ (hr.mono (by omega)) (by rfl) K_Holding.g D_Holding___init__.b .nil pass0 (pa_cons (pe_fldK (K := K) rfl (pv 0) rfl) (pa_cons (pe_meth0 (pv 0) K_Store.cl D_Store_held.m G_Store_held (hr.mono (by omega)) D_Store_held.b .nil pass0) pa_nil)))))
      , ?_⟩
    rw [show L2.start N_Store_view [V.ref s] = [some (.ref s)] from rfl]
    walk_at "x"
    refine w_meth' ob hrs ?_
    walk_at "g"
    refine ⟨s, dy, p, hd, rs, k, F, rfl, S, fun ns l H1 hup hmem hnl hl e1 k1 => ?_⟩
    walk_at "g"
    refine w_make' fun v dv H2 hv hdv hne e2 k2 => ?_
    have k12 := Same.trans k1 k2
    refine ⟨v, dv, p, dx, lc, ld, lg, l, cs, ds, ns, rfl, e2, B.same k12, k2 _ _ e1, hnl, fun n hn => hF n ((hmem n).mp hn), fun rw' hv' hs H3 hrw hhv W hm k3 => ⟨rfl, ?_⟩⟩
    have s3 : Same H H3 := fun b o e => k3 _ _ (by simpa using ne_of_none (k1 _ _ e) hv) (k12 _ _ e)
    exact q v dv rw' hv' hs H3 (k1.free hv) (k12.free hrw) (k12.free hhv) W (fun n => (hm n).trans (hmem n)) s3
theorem ok_versions {f fK fG fN fI : Addr} {fd fdK fdG fdN fdI : FuncData} (T : Txt K mg) (F : Fun K "versions" "Holding.versions" s_Holding_versions f fd) (K_Book : Kl K mg "Book" C ["contents", "depths", "given"]) (K_Holding : Kl K mg "Holding" CH ["book", "row", "here"]) (D_Book_kind : DfM K C "kind" "Book.kind" s_Book_kind ["self", "name"] fK fdK) (D_Book_thing : DfM K C "thing" "Book.thing" s_Book_thing ["self", "name"] fG fdG) (D_is_name : Df K mg "is_name" s_is_name ["book", "thing"] fN fdN) (D_is_int : DfD K mg "is_int" s_is_int ["thing", "least"] [.int 0] fI fdI) : FnOk P w K mg base CX0 5 f fd ["self"] (spVersions P w C CH) := by
  have G_Book_kind : FnOk P w K mg base CX0 4 fK fdK ["self", "name"] (spKind P w C) := ok_kind T D_Book_kind.fn K_Book D_Book_thing D_is_name D_is_int
  have cl := K_Holding.cl
  have n1 := K_Holding.na "book" (by simp)
  have n2 := K_Holding.na "row" (by simp)
  refine F.ok sc_Holding_versions (fun vs H Q E h => ?_) (fun cdv A outer s H vs Q E hr h => ?_)
  · obtain ⟨v, dv, p, dx, lc, ld, lg, rw', hd, cs, ds, hs, rfl, _⟩ := h
    rfl
  · obtain ⟨v, dv, p, dx, lc, ld, lg, rw', hd, cs, ds, hs, rfl, W, q⟩ := h
    have ob := W.ob
    have hlen := W.len
    refine ⟨_,
      (pss_one
        (ps_ret (pe_lc (own := [("name", 1)]) (g := (gName 1)) rfl sc_Holding_versions.nd (pi_list (pe_fldK (K := K) rfl (pv 0) rfl)) (blkOk_by (own := [("name", 1)]) (N := N_Holding_versions) (sc := defScope s_Holding_versions) (by decide +kernel)) (fun _ _ _ _ _ => (pg_name (i := 1) sc_Holding_versions.nd rfl (.inl rfl))) (fun _ _ _ _ _ => (pts_one (pt_cmpR op_eq (pe_meth (pe_fldK (K := K) rfl (pv 0) rfl) K_Book.cl D_Book_kind.m G_Book_kind (hr.mono (by omega)) D_Book_kind.b .nil pass0 (pa_cons (pv 1) pa_nil)) pe_str (nomark _)))) (fun _ _ _ _ _ => (pv 1)))))
      , ?_⟩
    rw [show L2.start N_Holding_versions [V.ref v] = [some (.ref v), none] from rfl]
    walk_at "x"
    try refine w_itL' (.of W.row) ?_
    refine lcp_sel (walk_list (K := K) (a := rw') (xs := hs.map nV)) [] (natSel (isVb cs) hs) (by rw [List.length_map]; omega) (fun H' k => .of (k _ _ (by simp) W.row)) ?_ (by simp) ?_
    · rintro i x H3 H4 R R0 hi k3 ⟨rfl, hx⟩ hR hR0
      obtain ⟨m, hm, rfl⟩ := map_at hx
      have W3 := W.same k3.same
      have ob3 := W3.ob
      have obB := W3.bk.ob
      have hlt := W.in' m (List.mem_of_getElem? hm)
      refine w_name ⟨rfl, ?_⟩
      walk_at "g"
      refine ⟨p, dx, lc, ld, lg, cs, ds, m, cs[m], rfl, W3.bk, List.getElem?_eq_getElem hlt, ?_⟩
      walk_at "g"
      have eg : cs.getD m (0, .leaf []) = cs[m] := by rw [List.getD_eq_getElem?_getD, List.getElem?_eq_getElem hlt]; rfl
      by_cases hw : (cs[m]).2.word = "version"
      · rw [decide_eq_true hw]
        walk_at "g"
        exact hR _ _ (by unfold natSel; rw [hm]; show (if isVb cs m = true then _ else _) = _; rw [if_pos (by unfold isVb; rw [eg]; exact decide_eq_true hw)]) Kp.refl
      · rw [decide_eq_false hw]
        walk_at "g"
        exact hR0 _ (by unfold natSel; rw [hm]; show (if isVb cs m = true then _ else _) = _; rw [if_neg (by unfold isVb; rw [eg]; simpa using hw)]) Kp.refl
    · intro L H3 hL k3 eL
      walk_at "g"
      rw [List.length_map, natSel_all] at eL
      exact q L H3 hL eL k3.same
theorem ok_edges {f fV fP fK fG fN fI : Addr} {fd fdV fdP fdK fdG fdN fdI : FuncData} (T : Txt K mg) (F : Fun K "edges" "Holding.edges" s_Holding_edges f fd) (K_Book : Kl K mg "Book" C ["contents", "depths", "given"]) (K_Holding : Kl K mg "Holding" CH ["book", "row", "here"]) (D_Holding_versions : DfM K CH "versions" "Holding.versions" s_Holding_versions ["self"] fV fdV) (D_Book_parts : DfM K C "parts" "Book.parts" s_Book_parts ["self", "name"] fP fdP) (D_Book_kind : DfM K C "kind" "Book.kind" s_Book_kind ["self", "name"] fK fdK) (D_Book_thing : DfM K C "thing" "Book.thing" s_Book_thing ["self", "name"] fG fdG) (D_is_name : Df K mg "is_name" s_is_name ["book", "thing"] fN fdN) (D_is_int : DfD K mg "is_int" s_is_int ["thing", "least"] [.int 0] fI fdI) : FnOk P w K mg base CX0 6 f fd ["self"] (spEdges P w C CH) := by
  have G_Book_parts : FnOk P w K mg base CX0 4 fP fdP ["self", "name"] (spPartsV P w C) := ok_partsV T D_Book_parts.fn K_Book D_Book_thing D_is_name D_is_int
  have G_Holding_versions : FnOk P w K mg base CX0 5 fV fdV ["self"] (spVersions P w C CH) := ok_versions T D_Holding_versions.fn K_Book K_Holding D_Book_kind D_Book_thing D_is_name D_is_int
  have cl := K_Holding.cl
  have n1 := K_Holding.na "book" (by simp)
  have n3 := K_Holding.na "here" (by simp)
  refine F.ok sc_Holding_edges (fun vs H Q E h => ?_) (fun cdv A outer s H vs Q E hr h => ?_)
  · obtain ⟨v, dv, p, dx, lc, ld, lg, rw', hd, cs, ds, hs, rfl, _⟩ := h
    rfl
  · obtain ⟨v, dv, p, dx, lc, ld, lg, rw', hd, cs, ds, hs, rfl, W, ok, q⟩ := h
    have hu := hu_of hr
    have ob := W.ob
    have hlen := W.len
    have hvl : (vers cs hs).length ≤ 400 := Nat.le_trans (List.length_filter_le _ _) hlen
    refine ⟨_,
      (pss_cons
        (ps_set (i := 1) sc_Holding_edges.nd rfl (.inl rfl) (pe_lst pa_nil))
      (pss_cons
        (ps_for PassesOwn.never rfl (pi_list (pe_meth0 (pv 0) K_Holding.cl D_Holding_versions.m G_Holding_versions (hr.mono (by omega)) D_Holding_versions.b .nil pass0)) (pg_name (i := 2) sc_Holding_edges.nd rfl (.inl rfl))
          (pss_one
            (ps_if (pt_not (pt_val (pe_callB (r := rAll K) (cr_all rfl) (by rfl) T.n_all (by decide +kernel) (pa_cons (pe_lc (own := [("parent", 3)]) (g := (gName 3)) rfl sc_Holding_edges.nd (pi_tup (pe_slice sl_tupA (pe_meth (pe_fldK (K := K) rfl (pv 0) rfl) K_Book.cl D_Book_parts.m G_Book_parts (hr.mono (by omega)) D_Book_parts.b .nil pass0 (pa_cons (pv 2) pa_nil)) po_none (po_some (pe_un un_neg pe_int)))) (blkOk_by (own := [("parent", 3)]) (N := N_Holding_edges) (sc := defScope s_Holding_edges) (by decide +kernel)) (fun _ _ _ _ _ => (pg_name (i := 3) sc_Holding_edges.nd rfl (.inl rfl))) (fun _ _ _ _ _ => pts_nil) (fun _ _ _ _ _ => (pe_cmp (pc_din hu (pv 3) (pe_fldK (K := K) rfl (pv 0) rfl))))) pa_nil))))
              (pss_one
                (ps_expr (pe_bm PySem.F.plainAttrs_list PySem.F.slot_list_append PySem.F.type_list_append mt_append (pv 1) (pa_cons (pv 2) pa_nil))))
              pss_nil)))
      (pss_one
        (ps_ret (pv 1)))))
      , ?_⟩
    rw [show L2.start N_Holding_edges [V.ref v] = [some (.ref v), none, none, none] from rfl]
    walk_at "x"
    refine w_new fun fo H1 hfo e1 k1 => ?_
    have W1 := W.same k1
    have ob1 := W1.ob
    walk_at "g"
    refine ⟨v, dv, p, dx, lc, ld, lg, rw', hd, cs, ds, hs, rfl, W1, fun l H2 hl e2 k2 => ?_⟩
    have k12 := Same.trans k1 k2
    have nlf : l ≠ fo := (ne_of_none e1 hl).symm
    walk_at "g"
    try refine w_itL' (.of e2) ?_
    refine lp_list (xs := (vers cs hs).map nV) (fun i σ H' => (∃ y1 y2 : Option V, σ = [some (.ref v), some (.ref fo), y1, y2]) ∧ Kp [fo] H2 H' ∧ H' fo = some (.lst ((((vers cs hs).take i).filter (edgB cs hs)).map nV))) ⟨⟨_, _, rfl⟩, Kp.refl, k2 _ _ e1⟩ (fun i σ H' _ h => .of (h.2.1 _ _ (by simpa using nlf) e2)) ?_ ?_
    · rintro i x σ H3 hx ⟨⟨y1, y2, rfl⟩, k3, e3⟩
      obtain ⟨m, hm, rfl⟩ := map_at hx
      have s3 : Same H H3 := fun b o e => k3 _ _ (by simpa using ne_of_none e hfo) (k12 _ _ e)
      have W3 := W.same s3
      have ob3 := W3.ob
      have obB := W3.bk.ob
      have hmv := List.mem_of_getElem? hm
      have hlt := W.in' m (List.mem_filter.mp hmv).1
      have iv := (isVb_iff hlt).mp (List.mem_filter.mp hmv).2
      obtain ⟨a, r, sst, hcs⟩ := iv.at
      have few := ok.few m
      have htl : (((vers cs hs).take i).filter (edgB cs hs)).length ≤ 400 := Nat.le_trans (List.length_filter_le _ _) (by rw [List.length_take]; omega)
      have etk : (vers cs hs).take (i + 1) = (vers cs hs).take i ++ [m] := by rw [List.take_add_one, hm]; rfl
      walk_at "g"
      refine ⟨p, dx, lc, ld, lg, cs, ds, m, a, pars cs m, r, sst, rfl, W3.bk, hcs, by omega, fun H4 t k4 e4 => ?_⟩
      walk_at "g"
      refine w_slAt e4 fun t2 H5 e5 k5 => ?_
      have ecut : cutV ((pars cs m ++ [r]).map nV) none (some (-1)) = (pars cs m).map nV := by
        rw [List.map_append]
        exact cutV_init _ _
      rw [ecut] at e5
      have k45 := Same.trans k4 k5
      have W5 := W3.same k45
      walk_at "g"
      try refine w_itT' (.of e5) ?_
      refine lcp_map (walk_tup (K := K) (a := t2) (xs := (pars cs m).map nV)) [] ((pars cs m).map fun q => V.bl (decide (q ∈ hs))) (by simp) (by rw [List.length_map]; omega) (fun H' k => .of (k _ _ (by simp) e5)) ?_ (by simp) ?_
      · rintro j y H6 H7 R hj k6 ⟨rfl, hy⟩ hR
        obtain ⟨z, hz, rfl⟩ := map_at hy
        have W6 := W5.same k6.same
        have ob6 := W6.ob
        obtain ⟨kvs, hh, hk⟩ := W6.here
        refine w_name ⟨rfl, ?_⟩
        walk_at "g"
        rw [hk]
        exact hR _ _ (by rw [List.getElem?_map, hz]; rfl) Kp.refl
      · intro L H6 hL k6 eL
        have eL' : H6 L = some (.lst (((pars cs m).map fun q => decide (q ∈ hs)).map V.bl)) := by rw [eL, List.map_map]; rfl
        have k36 := Same.trans k45 k6.same
        have e6 := k36 _ _ e3
        walk_at "g"
        rw [show ((pars cs m).map fun q => decide (q ∈ hs)).all id = (pars cs m).all (fun q => decide (q ∈ hs)) by rw [List.all_map, Function.id_comp]]
        by_cases hb : edgB cs hs m = true
        · have : ((pars cs m).all fun q => decide (q ∈ hs)) = false := by unfold edgB at hb; simpa using hb
          rw [this]
          walk_at "g"
          refine w_app e6 (by rw [List.length_map]; exact small1kl (by omega)) fun H7 e7 o7 => ?_
          walk_at "g"
          refine ⟨⟨_, _, rfl⟩, k3.trans (fun b o hb e => o7.get (by simpa using hb) (k36 _ _ e)), ?_⟩
          rw [e7, etk, List.filter_append, List.filter_cons_of_pos hb, List.map_append]
          rfl
        · have : ((pars cs m).all fun q => decide (q ∈ hs)) = true := by unfold edgB at hb; simpa using hb
          rw [this]
          walk_at "g"
          refine ⟨⟨_, _, rfl⟩, k3.trans (Kp.of k36), ?_⟩
          rw [e6, etk, List.filter_append, List.filter_cons_of_neg hb, List.filter_nil, List.append_nil]
    · rintro σ H3 ⟨⟨y1, y2, rfl⟩, k3, e3⟩
      rw [List.length_map, List.take_length] at e3
      walk_at "g"
      exact q fo H3 hfo e3 fun b o e => k3 _ _ (by simpa using ne_of_none e hfo) (k12 _ _ e)
end
/-! ### drawn holdings -/
theorem w_extLF {H : Hp} {Q : VK} {l b : Addr} {xs zs : List V} (h1 : H l = some (.lst xs)) (h2 : H b = some (.lst zs)) (hz : xs.length + zs.length ≤ sizeLine) (h : ∀ H1, H1 l = some (.lst (xs ++ zs)) → Off l H H1 → Q .non H1) : rExtend (.ref l) [.ref b] H Q :=
  ⟨l, b, xs, zs, rfl, rfl, h1, h2, hz, h _ upd_same fun x hx => upd_ne hx⟩
theorem w_lstRgF {σ : L2.St} {H : Hp} {Q : VK} {te : L2.St → Hp → (Int → Int → Hp → Prop) → Prop} (h : te σ H fun a b H1 => RgOk a b ∧ Nw (.lst (rgV a b)) H1 Q) : tLstRg te σ H Q := h
def rRg1F (x : V) (H : Hp) (R : Int → Int → Hp → Prop) : Prop := ∃ n, x = .int n ∧ R 0 n H
theorem w_rg1F {σ : L2.St} {H : Hp} {ta : TE} {R : Int → Int → Hp → Prop} (h : ta σ H fun x H1 => rRg1F x H1 R) : tRg1 ta σ H R := h
theorem w_rg1F' {H : Hp} {j : Int} {R : Int → Int → Hp → Prop} (h : R 0 j H) : rRg1F (.int j) H R := ⟨j, rfl, h⟩
theorem rgV_allF {j : Int} (b : Nat) (hj : j = b) : rgV 0 j = (List.range b).map nV := by
  unfold rgV
  rw [show (j - 0).toNat = b by omega]
  refine List.map_congr_left fun k _ => ?_
  show V.int (0 + (k : Nat)) = V.int ((k : Nat) : Int)
  rw [Int.zero_add]
local macro_rules | `(tactic| walk_at "s") => `(tactic| first
  | with_reducible refine w_lstRgF ?_
  | with_reducible refine w_rg1F ?_
  | with_reducible refine w_rg1F' ?_
  )
/-- [x for .. if ..]: A tells what is gathered so far -/
theorem lcp_acc {σ : L2.St} {H : Hp} {Q : VK} {J : It} {n : Nat} {G : Hp → Prop} {Y : Nat → Hp → V → Hp → Prop} (w : Walk J n G Y) {g : TG} {tt : TT} {te : TE} {vs : List Nat} (M : List Addr) (A : Nat → List V → Prop) (S : Nat → Hp → Prop) (hz : n ≤ 1000000)
    (SD : ∀ D, H D = none → ∀ i H1 o, S i H1 → S i (upd H1 D o)) (hG : ∀ i H', Kp M H H' → S i H' → G H') (S0 : S 0 H) (A0 : A 0 []) (hA : ∀ i acc, A i acc → acc.length ≤ i)
    (hs : ∀ i x H1 H2 (acc : List V) (R : V → Hp → Prop) (R0 : Hp → Prop), i < n → Kp M H H1 → S i H1 → A i acc → Y i H1 x H2 → (∀ y H4, A (i + 1) (acc ++ [y]) → Kp M H1 H4 → S (i + 1) H4 → R y H4) → (∀ H4, A (i + 1) acc → Kp M H1 H4 → S (i + 1) H4 → R0 H4) → g x (wipe σ vs) H2 fun σ2 H3 => wipe σ2 vs = wipe σ vs ∧ tt σ2 H3 fun b H4 => if b = true then te σ2 H4 R else R0 H4)
    (hM : ∀ b ∈ M, ∃ o, H b = some o)
    (hd : ∀ D H' ys, A n ys → H D = none → Kp M H H' → S n H' → H' D = some (.lst ys) → Q (.ref D) H') : LcP J g tt te vs Q σ H := by
  intro D hD
  have hDM : D ∉ M := fun z => by obtain ⟨o, e⟩ := hM D z; rw [hD] at e; cases e
  refine lc_it w (fun i H' => Kp M H H' ∧ S i H' ∧ ∃ ys, A i ys ∧ H' D = some (.lst ys)) ⟨Kp.new hD, SD D hD _ _ _ S0, [], A0, upd_same⟩ (fun i H' _ z => hG i H' z.1 z.2.1) ?_ ?_
  · rintro i x H1 H2 hi ⟨k1, s1, ys, ha, e1⟩ y
    have hl := hA i ys ha
    refine hs i x H1 H2 ys _ _ hi k1 s1 ha y ?_ ?_
    · intro z H4 az k4 s4
      exact ⟨ys, k4 _ _ hDM e1, Nat.lt_of_le_of_lt hl (Nat.lt_of_lt_of_le (Nat.lt_of_lt_of_le hi hz) (by decide)), (k1.trans k4).mutN hD, SD D hD _ _ _ s4, ys ++ [z], az, upd_same⟩
    · intro H4 a4 k4 s4
      exact ⟨k1.trans k4, s4, ys, a4, k4 _ _ hDM e1⟩
  · rintro H' ⟨k, sn, ys, ha, e⟩
    exact hd D H' ys ha hD k sn e
/-- what is gathered of 0, 1, .. -/
def UpTo (i : Nat) (acc : List V) : Prop := ∃ ms : List Nat, acc = ms.map nV ∧ ms.Pairwise (· < ·) ∧ ∀ m ∈ ms, m < i
theorem UpTo.nil : UpTo 0 [] := ⟨[], rfl, .nil, by simp⟩
theorem UpTo.len {i : Nat} {acc : List V} (h : UpTo i acc) : acc.length ≤ i := by
  obtain ⟨ms, rfl, h1, h2⟩ := h
  have := rise_len ms 0 i h1 (fun _ _ => Nat.zero_le _) h2 (Nat.zero_le _)
  rw [List.length_map]
  omega
theorem UpTo.add {i : Nat} {acc : List V} (h : UpTo i acc) : UpTo (i + 1) (acc ++ [nV i]) := by
  obtain ⟨ms, rfl, h1, h2⟩ := h
  refine ⟨ms ++ [i], by rw [List.map_append]; rfl, ?_, fun m hm => ?_⟩
  · rw [List.pairwise_append]
    refine ⟨h1, List.pairwise_singleton _ _, fun a ha b hb => ?_⟩
    have : b = i := by simpa using hb
    have := h2 a ha
    omega
  · rcases List.mem_append.mp hm with h | h
    · have := h2 m h
      omega
    · have : m = i := by simpa using h
      omega
theorem UpTo.skip {i : Nat} {acc : List V} (h : UpTo i acc) : UpTo (i + 1) acc := by
  obtain ⟨ms, rfl, h1, h2⟩ := h
  exact ⟨ms, rfl, h1, fun m hm => Nat.lt_succ_of_lt (h2 m hm)⟩
theorem range_at {n i : Nat} (h : i < n) : ((List.range n).map nV)[i]? = some (nV i) := by
  rw [List.getElem?_map, List.getElem?_eq_getElem (by rw [List.length_range]; exact h), List.getElem_range]
  rfl
def Ct.parts : Ct → List Nat
  | .leaf _ => []
  | .tree es => es.map (·.2)
  | .ver ps r _ => ps ++ [r]
theorem Fam.parts_lt {cs : List (Addr × Ct)} {t : Nat} (h : Fam cs t) {n : Nat} {q : Addr × Ct} (hn : cs[n]? = some q) : q.2.parts.length ≤ 20 ∧ ∀ p ∈ q.2.parts, p < n := by
  have hok := h.ok n q.2 (by rw [List.getElem?_map, hn]; rfl)
  have tk : ∀ {p : Nat} {c : Ct}, ((cs.map (·.2)).take n)[p]? = some c → p < n := fun {p c} hc => by
    have := (List.getElem?_eq_some_iff.mp hc).1
    rw [List.length_take] at this
    omega
  obtain ⟨a, c⟩ := q
  cases c with
  | leaf rows => exact ⟨Nat.zero_le _, fun p hp => by cases hp⟩
  | tree es =>
    obtain ⟨h1, h2, _⟩ := hok
    refine ⟨by show (es.map (·.2)).length ≤ 20; rw [List.length_map]; exact h1, fun p hp => ?_⟩
    obtain ⟨e, he, rfl⟩ := List.mem_map.mp (show p ∈ es.map (·.2) from hp)
    obtain ⟨_, c, hc, _⟩ := h2 e he
    exact tk hc
  | ver ps r s =>
    obtain ⟨h1, h2, h3, ⟨c, hc, _⟩, _⟩ := hok
    refine ⟨by show (ps ++ [r]).length ≤ 20; rw [List.length_append]; simp only [List.length_cons, List.length_nil]; omega, fun p hp => ?_⟩
    rcases List.mem_append.mp (show p ∈ ps ++ [r] from hp) with g | g
    · obtain ⟨c', hc', _⟩ := h3 p g
      exact tk hc'
    · have : p = r := by simpa using g
      rw [this]
      exact tk hc
def spParts : Sp := fun vs H Q _ => ∃ (a : Addr) (c : Ct), vs = [.ref a] ∧ CtAt H a c ∧ c.parts.length ≤ 1000 ∧ ∀ (l : Addr) (H' : Hp), H l = none → H' l = some (.lst (c.parts.map nV)) → Same H H' → Q (.ref l) H'
def spUnder : Sp := fun vs H Q _ => ∃ (th l : Addr) (cs : List (Addr × Ct)) (starts : List Nat) (t : Nat), vs = [.ref th, .ref l] ∧ ThAt H th cs ∧ Fam cs t ∧ cs.length ≤ 400 ∧ H l = some (.lst (starts.map nV)) ∧ (∀ n ∈ starts, n < cs.length) ∧ starts.length ≤ 1000 ∧
  ∀ (l' : Addr) (H' : Hp) (ns : List Nat), H l' = none → H' l' = some (.lst (ns.map nV)) → ns.Pairwise (· < ·) → (∀ n ∈ ns, n < cs.length) → Same H H' → Q (.ref l') H'
def spLHeld : Sp := fun vs H Q _ => ∃ (d c th : Addr) (n : Nat) (cs : List (Addr × Ct)) (t : Nat), vs = [.ref d, .ref th] ∧ Deck H d c n ∧ n + 500 ≤ MOSTD ∧ ThAt H th cs ∧ th ≠ d ∧ Fam cs t ∧ cs.length ≤ 400 ∧
  ∀ (l' : Addr) (H' : Hp) (hs : List Nat), H l' = none → H' l' = some (.lst (hs.map nV)) → hs.Pairwise (· < ·) → (∀ n ∈ hs, n < cs.length) → Deck H' d c (n + 500) → KX d H H' → Q (.ref l') H'
section
variable {P : Program} {w : World} {K : PySem.W.Frag} {mg : Str → Option Value} {base : Heap}
theorem ok_parts {f : Addr} {fd : FuncData} (T : Txt K mg) (F : Fun K "_law_parts" "_law_parts" s_law_parts f fd) : FnOk P w K mg base CX0 1 f fd ["_law_content"] spParts := by
  refine F.ok sc_law_parts (fun vs H Q E h => ?_) (fun cdv A outer s H vs Q E hr h => ?_)
  · obtain ⟨a, c, rfl, _⟩ := h
    rfl
  · obtain ⟨a, c, rfl, hc, hl, q⟩ := h
    refine ⟨_,
      (pss_cons
        (ps_if (pt_cmpR op_eq (pe_ix (r := rIxT K) ix_tup (pv 0) pe_int (fun _ _ => rfl)) pe_str (nomark _))
          (pss_one
            (ps_ret (pe_lst pa_nil)))
          pss_nil)
      (pss_cons
        (ps_if (pt_cmpR op_eq (pe_ix (r := rIxT K) ix_tup (pv 0) pe_int (fun _ _ => rfl)) pe_str (nomark _))
          (pss_one
            (ps_ret (pe_lc (own := [("_law_label_here", 1), ("_law_name", 2)]) (g := (gTup K 2 (gCons (gName 1) (gCons (gName 2) gNil)))) rfl sc_law_parts.nd (pi_tup (pe_ix (r := rIxT K) ix_tup (pv 0) pe_int (fun _ _ => rfl))) (blkOk_by (own := [("_law_label_here", 1), ("_law_name", 2)]) (N := N_law_parts) (sc := defScope s_law_parts) (by decide +kernel)) (fun _ _ _ _ _ => (pg_tup rfl (pgs_cons (pg_name (i := 1) sc_law_parts.nd rfl (.inl rfl)) (pgs_cons (pg_name (i := 2) sc_law_parts.nd rfl (.inl rfl)) pgs_nil)))) (fun _ _ _ _ _ => pts_nil) (fun _ _ _ _ _ => (pv 2)))))
          pss_nil)
      (pss_one
        (ps_ret (pe_op op_cat (pe_callTy (r := rListOf K) c_listOf (by rfl) T.n_list (by decide +kernel) (pa_cons (pe_ix (r := rIxT K) ix_tup (pv 0) pe_int (fun _ _ => rfl)) pa_nil)) (pe_lst (pa_cons (pe_ix (r := rIxT K) ix_tup (pv 0) pe_int (fun _ _ => rfl)) pa_nil)))))))
      , ?_⟩
    rw [show L2.start N_law_parts [V.ref a] = [some (.ref a), none, none] from rfl]
    cases c with
    | leaf rows =>
      obtain ⟨r, h1, h2⟩ := hc
      refine w_seq ?_
      walk_at "x"
      refine w_yes rfl ?_
      walk_at "g"
      refine w_new fun l H1 hl1 e1 k1 => ?_
      exact q l H1 hl1 e1 k1
    | tree es =>
      obtain ⟨r, qs, h1, h2, h3, h4⟩ := hc
      refine w_seq ?_
      walk_at "x"
      refine w_no lit_ne4 ?_
      walk_at "g"
      refine w_seq ?_
      walk_at "g"
      refine w_yes rfl ?_
      walk_at "g"
      have hql : qs.length ≤ 1000 := by
        have e : (es.map (·.2)).length = qs.length := by rw [← h3, List.length_map, List.length_map]
        have : (es.map (·.2)).length ≤ 1000 := hl
        omega
      refine lcp_map (walk_tup (K := K) (a := r) (xs := qs.map fun z => V.ref z.1)) [] (qs.map fun z => nV z.2.2) (by simp) (by rw [List.length_map]; omega) (fun H' k => .of (k _ _ (by simp) h2)) ?_ (by simp) ?_
      · rintro i x H3 H4 R hi k3 ⟨rfl, hx⟩ hR
        obtain ⟨z, hz, rfl⟩ := map_at hx
        have hz3 := k3.same _ _ (h4 z (List.mem_of_getElem? hz))
        walk_at "g"
        refine ⟨rfl, ?_⟩
        walk_at "g"
        exact hR _ _ (by rw [List.getElem?_map, hz]; rfl) Kp.refl
      · intro L H3 hL k3 eL
        walk_at "g"
        refine q L H3 hL ?_ k3.same
        rw [eL]
        show _ = some (HO.lst ((es.map (·.2)).map nV))
        rw [← h3, List.map_map, List.map_map]
        rfl
    | ver ps root stamp =>
      obtain ⟨r, h1, h2⟩ := hc
      have hpl : ps.length ≤ 1000 := by
        have : (ps ++ [root]).length ≤ 1000 := hl
        rw [List.length_append] at this
        omega
      refine w_seq ?_
      walk_at "x"
      refine w_no lit_ne5 ?_
      walk_at "g"
      refine w_seq ?_
      walk_at "g"
      refine w_no lit_ne6 ?_
      walk_at "g"
      refine w_listT (.of h2) fun l1 H1 hl1 e1 k1 => ?_
      have h1' := k1 _ _ h1
      walk_at "g"
      refine w_new fun l2 H2 hl2 e2 k2 => ?_
      walk_at "g"
      refine w_cat (k2 _ _ e1) e2 (by rw [List.length_map]; simp only [List.length_cons, List.length_nil]; exact Nat.le_trans (show ps.length + 1 ≤ 1001 by omega) (by decide)) fun l3 H3 hl3 e3 k3 => ?_
      exact q l3 H3 ((Same.trans k1 k2).free hl3) (by rw [e3]; show _ = some (HO.lst ((ps ++ [root]).map nV)); rw [List.map_append]; rfl) (Same.trans k1 (Same.trans k2 k3))
theorem ok_under {f fP : Addr} {fd fdP : FuncData} (T : Txt K mg) (F : Fun K "_law_under" "_law_under" s_law_under f fd) (D_law_parts : Df K mg "_law_parts" s_law_parts ["_law_content"] fP fdP) : FnOk P w K mg base CX0 2 f fd ["_law_things", "_law_starts"] spUnder := by
  have G_law_parts : FnOk P w K mg base CX0 1 fP fdP ["_law_content"] spParts := ok_parts T D_law_parts.fn
  refine F.ok sc_law_under (fun vs H Q E h => ?_) (fun cdv A outer s H vs Q E hr h => ?_)
  · obtain ⟨th, l, cs, starts, t, rfl, _⟩ := h
    rfl
  · obtain ⟨th, l, cs, starts, t, rfl, T0, fm, hcl, hl, hst, hsl, q⟩ := h
    have hu := hu_of hr
    refine ⟨_,
      (pss_cons
        (ps_set (i := 2) sc_law_under.nd rfl (.inl rfl) pe_dnewK)
      (pss_cons
        (ps_set (i := 3) sc_law_under.nd rfl (.inl rfl) (pe_callTy (r := rListOf K) c_listOf (by rfl) T.n_list (by decide +kernel) (pa_cons (pv 1) pa_nil)))
      (pss_cons
        (ps_while PassesOwn.never (pt_cmpR op_gt (pe_callB (r := rLen K) c_len (by rfl) T.n_len (by decide +kernel) (pa_cons (pv 3) pa_nil)) pe_int (nomark _))
          (pss_cons
            (ps_set (i := 4) sc_law_under.nd rfl (.inl rfl) (pe_bm0 PySem.F.plainAttrs_list PySem.F.slot_list_pop PySem.F.type_list_pop mt_pop (pv 3)))
          (pss_one
            (ps_if (pt_cmp (pc_dnotin hu (pv 4) (pv 2)))
              (pss_cons
                (ps_dput hu (pv 2) (pv 4) pe_bl rfl)
              (pss_one
                (ps_expr (pe_bm PySem.F.plainAttrs_list PySem.F.slot_list_extend PySem.F.type_list_extend mt_extend (pv 3) (pa_cons (pe_call G_law_parts (hr.mono (by omega)) (by rfl) D_law_parts.g D_law_parts.fn.kp D_law_parts.b .nil pass0 (pa_cons (pe_ix (r := rIxL K) ix_list (pv 0) (pv 4) (fun _ _ => rfl)) pa_nil)) pa_nil)))))
              pss_nil))))
      (pss_one
        (ps_ret (pe_callB (c_sortA rfl) (by rfl) T.n_sorted (by decide +kernel) (pa_cons (pv 2) pa_nil)))))))
      , ?_⟩
    rw [show L2.start N_law_under [V.ref th, V.ref l] = [some (.ref th), some (.ref l), none, none, none] from rfl]
    walk_at "x"
    refine w_new fun fo H1 hfo e1 k1 => ?_
    have hl1 := k1 _ _ hl
    walk_at "g"
    refine w_listL (.of hl1) fun lf H2 hlf e2 k2 => ?_
    have nlf : lf ≠ fo := (ne_of_none e1 hlf).symm
    have k12 := Same.trans k1 k2
    have hlf0 := k1.free hlf
    walk_at "g"
    refine w_whileN (fun m σ H' => ∃ (y : Option V) (fk : List (Key × V)) (ks : List Int) (left : List Nat), σ = [some (.ref th), some (.ref l), some (.ref fo), some (.ref lf), y] ∧ m = 30 * (cs.length - ks.length) + left.length ∧ Same H H' ∧ H' fo = some (.dK fk) ∧ fk.map (·.1) = ks.map (Sum.inl : Int → Key) ∧ ks.Nodup ∧ (∀ k ∈ ks, 0 ≤ k ∧ k < cs.length) ∧ H' lf = some (.lst (left.map nV)) ∧ (∀ n ∈ left, n < cs.length) ∧ left.length + 30 * (cs.length - ks.length) ≤ 14000) _ ⟨_, [], [], starts, rfl, rfl, k12, k2 _ _ e1, rfl, .nil, by simp, e2, hst, by simp only [List.length_nil]; omega⟩ ?_
    rintro m σ H3 ⟨y, fk, ks, left, rfl, rfl, s3, ef3, hk, nd, hks, el3, hleft, hbig⟩
    have hkl : ks.length ≤ cs.length := by
      have := nodup_le ks ((List.range cs.length).map fun n : Nat => (n : Int)) nd fun k hk' => by
        obtain ⟨g1, g2⟩ := hks k hk'
        exact List.mem_map.mpr ⟨k.toNat, List.mem_range.mpr (by omega), by omega⟩
      rwa [List.length_map, List.length_range] at this
    have hfl : fk.length = ks.length := by rw [← List.length_map (f := (·.1)), hk, List.length_map]
    walk_at "g"
    rcases List.eq_nil_or_concat left with rfl | ⟨ms, m, rfl⟩
    · refine w_no (by simp) ?_
      walk_at "g"
      refine w_sortA ef3 hk (by omega) fun ys p H4 hp hle hnone e4 k4 => ?_
      obtain ⟨ns, rfl⟩ := ints_nats (zs := ys) fun z hz => (hks z (hp.mem_iff.mp hz)).1
      have hlt := lt_of_le_nd hle (hp.nodup_iff.mpr nd)
      refine q p H4 ns (s3.free hnone) (by rw [e4, nV_map]) ?_ (fun n hn => ?_) (Same.trans s3 k4)
      · rw [List.pairwise_map] at hlt
        exact hlt.imp fun {a b} h => by omega
      · have := (hks n (hp.mem_iff.mp (int_mem.mpr hn))).2
        omega
    · refine w_yes (by first | (simp; omega) | simp) ?_
      refine w_turn ?_
      have el3' : H3 lf = some (.lst (ms.map nV ++ [nV m])) := by rw [el3]; simp
      have hlm : (ms.concat m).length = ms.length + 1 := by simp
      rw [hlm] at hbig
      have hm : m < cs.length := hleft m (by simp)
      walk_at "g"
      refine w_pop el3' fun H4 e4 o4 => ?_
      have ef4 := o4.get nlf.symm ef3
      have s4 : Same H H4 := fun b o e => o4.get (ne_of_none e hlf0) (s3 _ _ e)
      have T4 := T0.same s4
      have hth4 := T4.at'
      walk_at "g"
      rw [val_keys hk]
      by_cases hin : (m : Int) ∈ ks
      · rw [decide_eq_true hin]
        walk_at "g"
        exact ⟨_, by rw [hlm]; omega, _, fk, ks, ms, rfl, rfl, s4, ef4, hk, nd, hks, e4, fun n hn => hleft n (by simp [hn]), by omega⟩
      · rw [decide_eq_false hin]
        walk_at "g"
        refine w_dputI ef4 (by rw [hfl]; exact small1kl (by omega)) fun H5 e5 o5 => ?_
        have s5 : Same H H5 := fun b o e => o5.get (ne_of_none e hfo) (s4 _ _ e)
        have T5 := T0.same s5
        have hth5 := T5.at'
        have el5 := o5.get nlf e4
        have at1 : atI (cs.map fun q => V.ref q.1) (m : Int) = some (.ref (cs[m]).1) := atI_nat (by rw [List.getElem?_map, List.getElem?_eq_getElem hm]; rfl)
        obtain ⟨hp20, hplt⟩ := fm.parts_lt (List.getElem?_eq_getElem hm)
        walk_at "g"
        refine ⟨(cs[m]).1, (cs[m]).2, rfl, T5.ct _ (List.getElem_mem hm), by omega, fun lp H6 hlp e6 k6 => ?_⟩
        have el6 := k6 _ _ el5
        walk_at "g"
        refine w_extLF el6 e6 (by rw [List.length_map, List.length_map]; exact Nat.le_trans (show ms.length + (cs[m]).2.parts.length ≤ 20000 by omega) (by decide)) fun H7 e7 o7 => ?_
        walk_at "g"
        have hadd : (addK ks (m : Int)).length = ks.length + 1 := by unfold addK; rw [if_neg hin, List.length_append]; rfl
        have hlt : ks.length < cs.length := by
          have := nodup_le (addK ks (m : Int)) ((List.range cs.length).map fun n : Nat => (n : Int)) (nd_addK nd) fun k hk' => by
            rcases mem_addK.mp hk' with h | h
            · obtain ⟨g1, g2⟩ := hks k h
              exact List.mem_map.mpr ⟨k.toNat, List.mem_range.mpr (by omega), by omega⟩
            · exact List.mem_map.mpr ⟨m, List.mem_range.mpr hm, h.symm⟩
          rw [List.length_map, List.length_range, hadd] at this
          omega
        have s7 : Same H H7 := fun b o e => o7.get (ne_of_none e hlf0) (k6 _ _ (s5 _ _ e))
        refine ⟨_, ?_, _, _, addK ks (m : Int), ms ++ (cs[m]).2.parts, rfl, rfl, s7, o7.get nlf.symm (k6 _ _ e5), putK_keys hk, nd_addK nd, fun k hk' => ?_, by rw [e7, List.map_append], fun n hn => ?_, ?_⟩
        · rw [hlm, hadd, List.length_append]
          omega
        · rcases mem_addK.mp hk' with h | h
          · exact hks k h
          · omega
        · rcases List.mem_append.mp hn with h | h
          · exact hleft n (by simp [h])
          · have := hplt n h
            omega
        · rw [hadd, List.length_append]
          omega
theorem ok_lheld {f fM fD fP fU : Addr} {fd fdM fdD fdP fdU : FuncData} (T : Txt K mg) (F : Fun K "_law_held" "_law_held" s_law_held f fd) (D_law_mixed : Df K mg "_law_mixed" s_law_mixed ["_law_cell", "_law_turn"] fM fdM) (D_law_draw : Df K mg "_law_draw" s_law_draw ["_law_deck_here", "_law_many"] fD fdD) (D_law_parts : Df K mg "_law_parts" s_law_parts ["_law_content"] fP fdP) (D_law_under : Df K mg "_law_under" s_law_under ["_law_things", "_law_starts"] fU fdU) : FnOk P w K mg base CX0 3 f fd ["_law_deck_here", "_law_things"] spLHeld := by
  have G_law_draw : FnOk P w K mg base CX0 2 fD fdD ["_law_deck_here", "_law_many"] spDraw := ok_draw T D_law_draw.fn D_law_mixed
  have G_law_under : FnOk P w K mg base CX0 2 fU fdU ["_law_things", "_law_starts"] spUnder := ok_under T D_law_under.fn D_law_parts
  refine F.ok sc_law_held (fun vs H Q E h => ?_) (fun cdv A outer s H vs Q E hr h => ?_)
  · obtain ⟨d, c, th, n, cs, t, rfl, _⟩ := h
    rfl
  · obtain ⟨d, c, th, n, cs, t, rfl, D0, hn, T0, thd, fm, hcl, q⟩ := h
    have hu := hu_of hr
    have hth := T0.at'
    refine ⟨_,
      (pss_cons
        (ps_set (i := 2) sc_law_held.nd rfl (.inl rfl) (pe_listRg rfl (by rfl) T.n_list (prg_1 (by rfl) T.n_range (pe_callB (r := rLen K) c_len (by rfl) T.n_len (by decide +kernel) (pa_cons (pv 1) pa_nil)))))
      (pss_cons
        (ps_set (i := 3) sc_law_held.nd rfl (.inl rfl) (pe_call G_law_draw (hr.mono (by omega)) (by rfl) D_law_draw.g D_law_draw.fn.kp D_law_draw.b .nil pass0 (pa_cons (pv 0) (pa_cons pe_int pa_nil))))
      (pss_cons
        (ps_if (pt_cmpR op_eq (pv 3) pe_int (nomark _))
          (pss_one
            (ps_ret (pe_lc (own := [("_law_name", 8)]) (g := (gName 8)) rfl sc_law_held.nd (pi_list (pv 2)) (blkOk_by (own := [("_law_name", 8)]) (N := N_law_held) (sc := defScope s_law_held) (by decide +kernel)) (fun _ _ _ _ _ => (pg_name (i := 8) sc_law_held.nd rfl (.inl rfl))) (fun _ _ _ _ _ => (pts_one (pt_cmpR op_eq (pe_call G_law_draw (hr.mono (by omega)) (by rfl) D_law_draw.g D_law_draw.fn.kp D_law_draw.b .nil pass0 (pa_cons (pv 0) (pa_cons pe_int pa_nil))) pe_int (nomark _)))) (fun _ _ _ _ _ => (pv 8)))))
          pss_nil)
      (pss_cons
        (ps_if (pt_cmpR op_eq (pv 3) pe_int (nomark _))
          (pss_cons
            (ps_set (i := 4) sc_law_held.nd rfl (.inr rfl) (pe_lc (own := [("_law_k", 9)]) (g := (gName 9)) rfl sc_law_held.nd (pi_range1 (by rfl) T.n_range (pa_cons pe_int pa_nil)) (blkOk_by (own := [("_law_k", 9)]) (N := N_law_held) (sc := defScope s_law_held) (by decide +kernel)) (fun _ _ _ _ _ => (pg_name (i := 9) sc_law_held.nd rfl (.inl rfl))) (fun _ _ _ _ _ => pts_nil) (fun _ _ _ _ _ => (pe_call G_law_draw (hr.mono (by omega)) (by rfl) D_law_draw.g D_law_draw.fn.kp D_law_draw.b .nil pass0 (pa_cons (pv 0) (pa_cons (pe_op op_add (pe_callB (r := rLen K) c_len (by rfl) T.n_len (by decide +kernel) (pa_cons (pv 1) pa_nil)) pe_int) pa_nil))))))
          (pss_one
            (ps_ret (pe_lc (own := [("_law_name", 8)]) (g := (gName 8)) rfl sc_law_held.nd (pi_list (pv 2)) (blkOk_by (own := [("_law_name", 8)]) (N := N_law_held) (sc := defScope s_law_held) (by decide +kernel)) (fun _ _ _ _ _ => (pg_name (i := 8) sc_law_held.nd rfl (.inl rfl))) (fun _ _ _ _ _ => (pts_one (pt_cmpR (r := rIn K true) op_notIn_seq (pv 8) (pv 4) rfl))) (fun _ _ _ _ _ => (pv 8))))))
          pss_nil)
      (pss_cons
        (ps_setLc (i := 5) (own := [("_law_name", 8)]) (g := (gName 8)) rfl sc_law_held.nd rfl rfl (sw_true rfl rfl rfl (by decide +kernel)) (pi_list (pv 2)) (blkOk_by (own := [("_law_name", 8)]) (N := N_law_held) (sc := defScope s_law_held) (by decide +kernel)) (fun _ _ _ _ _ => (pg_name (i := 8) sc_law_held.nd rfl (.inl rfl))) (fun _ _ _ _ _ => (pts_one (PW.pt (pw_and (pt_cmpR op_eq (pe_ix (r := rIxT K) ix_tup (pe_ix (r := rIxL K) ix_list (pv 1) (pv 8) (fun _ _ => rfl)) pe_int (fun _ _ => rfl)) pe_str (nomark _)) (pw_and1 (pt_cmpR op_eq (pe_call G_law_draw (hr.mono (by omega)) (by rfl) D_law_draw.g D_law_draw.fn.kp D_law_draw.b .nil pass0 (pa_cons (pv 0) (pa_cons pe_int pa_nil))) pe_int (nomark _))))))) (fun _ _ _ _ _ => (pv 8)))
      (pss_cons
        (ps_if (pt_cmpR op_eq (pv 3) pe_int (nomark _))
          (pss_one
            (ps_ret (pe_call G_law_under (hr.mono (by omega)) (by rfl) D_law_under.g D_law_under.fn.kp D_law_under.b .nil pass0 (pa_cons (pv 1) (pa_cons (pv 5) pa_nil)))))
          pss_nil)
      (pss_cons
        (ps_set (i := 6) sc_law_held.nd rfl (.inl rfl) pe_dnewK)
      (pss_cons
        (ps_for PassesOwn.never rfl (pi_list (pv 5)) (pg_name (i := 7) sc_law_held.nd rfl (.inl rfl))
          (pss_cons
            (ps_dput hu (pv 6) (pv 7) pe_bl rfl)
          (pss_one
            (ps_for PassesOwn.never rfl (pi_list (pe_call G_law_under (hr.mono (by omega)) (by rfl) D_law_under.g D_law_under.fn.kp D_law_under.b .nil pass0 (pa_cons (pv 1) (pa_cons (pe_lst (pa_cons (pe_ix (r := rIxT K) ix_tup (pe_ix (r := rIxL K) ix_list (pv 1) (pv 7) (fun _ _ => rfl)) pe_int (fun _ _ => rfl)) pa_nil)) pa_nil)))) (pg_name (i := 8) sc_law_held.nd rfl (.inl rfl))
              (pss_one
                (ps_dput hu (pv 6) (pv 8) pe_bl rfl))))))
      (pss_one
        (ps_ret (pe_callB (c_sortA rfl) (by rfl) T.n_sorted (by decide +kernel) (pa_cons (pv 6) pa_nil))))))))))))
      , ?_⟩
    rw [show L2.start N_law_held [V.ref d, V.ref th] = [some (.ref d), some (.ref th), none, none, none, none, none, none, none, none] from rfl]
    walk_at "x"
    refine ⟨⟨by omega, by omega, by omega, by rw [List.length_map]; omega, by rw [List.length_map]; omega⟩, ?_⟩
    refine w_new fun nm H1 hnm e1 k1 => ?_
    rw [rgV_allF cs.length (by rw [List.length_map])] at e1
    have D1 : Deck H1 d c n := D0.kp (M := []) (Kp.of k1) (by simp) (by simp)
    obtain ⟨nmd, nmc⟩ := D0.ne1 hnm
    walk_at "g"
    refine w_draw D1 (by omega) (by decide) (by decide) fun pick H2 hpick D2 o2 => ?_
    have x2 : KX d H H2 := (KX.of k1).trans (D1.kx D2 o2)
    have e2 := o2.get nmd e1
    obtain ⟨⟨dxs, ed2⟩, _⟩ := D2.at
    have T2 := T0.kp x2.p x2.t (by simpa using thd)
    have hth2 := T2.at'
    have fr : ∀ {H' : Hp} {a : Addr}, KX d H H' → (∃ o, H' d = some o) → H' a = none → H a = none := fun {H' a} x ⟨o', e'⟩ ha => by
      cases e : H a with
      | none => rfl
      | some o =>
        by_cases hd : a = d
        · rw [hd, e'] at ha
          cases ha
        · rw [x.p _ _ (by simpa using hd) e] at ha
          cases ha
    have dkx : ∀ {H' : Hp} {m : Nat}, Deck H' d c m → Kp [d] H2 H' → KX d H H' := fun {H' m} D k => x2.trans (D2.kxK D k)
    walk_at "g"
    refine w_seq ?_
    walk_at "g"
    refine w_ite (fun h0 => ?_) (fun h0 => ?_)
    · walk_at "g"
      refine lcp_acc (walk_list (K := K) (a := nm) (xs := (List.range cs.length).map nV)) [d] UpTo (fun i H' => Deck H' d c (n + 1 + i)) (by rw [List.length_map, List.length_range]; omega) (fun D hD i H1' o z => z.mut (D2.ne1 hD).1 (D2.ne1 hD).2) (fun i H' k _ => .of (k _ _ (by simpa using nmd) e2)) D2 .nil (fun i acc h => h.len) ?_ (by intro b hb; have e : b = d := (by simpa using hb); subst e; exact ⟨_, ed2⟩) ?_
      · rintro i x H3 H4 acc R R0 hi k3 D3 ha ⟨rfl, hx⟩ hR hR0
        rw [List.length_map, List.length_range] at hi
        rw [range_at hi] at hx
        cases hx
        refine w_name ⟨rfl, ?_⟩
        walk_at "g"
        refine w_draw D3 (by omega) (by decide) (by decide) fun r H5 hr5 D5 o5 => ?_
        walk_at "g"
        refine w_ite (fun h1 => ?_) (fun h1 => ?_)
        · walk_at "g"
          exact hR _ _ ha.add (o5.kp (by simp)) D5
        · exact hR0 _ ha.skip (o5.kp (by simp)) D5
      · intro L H3 ys ha hL k3 D3 eL
        obtain ⟨ms, rfl, hup, hm⟩ := ha
        rw [List.length_map, List.length_range] at hm D3
        walk_at "g"
        exact q L H3 ms (fr x2 ⟨_, ed2⟩ hL) eL hup hm (D3.mono (by omega)) (dkx D3 k3)
    · walk_at "g"
      refine w_seq ?_
      walk_at "g"
      refine w_ite (fun h1 => ?_) (fun h1 => ?_)
      · walk_at "g"
        refine lcp_gen (walk_range (lo := 0) (n := 3)) [d] (fun i y _ => ∃ k : Nat, y = nV k) (fun i H' => Deck H' d c (n + 1 + i)) (by omega) (fun _ _ _ _ _ h => h) (fun D hD i H1' o z => z.mut (D2.ne1 hD).1 (D2.ne1 hD).2) (fun _ _ _ _ => trivial) D2 ?_ (by intro b hb; have e : b = d := (by simpa using hb); subst e; exact ⟨_, ed2⟩) ?_
        · rintro i x H3 H4 R hi k3 t3 D3 ⟨rfl, rfl⟩ hR
          have hth3 := k3 _ _ (by simpa using thd) hth2
          obtain ⟨⟨dx3, ed3⟩, _⟩ := D3.at
          refine w_name ⟨rfl, ?_⟩
          walk_at "g"
          refine w_draw D3 (by omega) (by rw [List.length_map]; omega) (by rw [List.length_map]; omega) fun r H5 hr5 D5 o5 => ?_
          exact hR _ _ ⟨r, rfl⟩ (o5.kp (by simp)) (KT.off o5 ed3) D5
        · intro G H3 ys hyl hyp hG k3 t3 D3 eG
          obtain ⟨gs, rfl⟩ : ∃ gs : List Nat, ys = gs.map nV := by
            have : ∀ {zs : List V}, (∀ y ∈ zs, ∃ k : Nat, y = nV k) → ∃ gs : List Nat, zs = gs.map nV := by
              intro zs
              induction zs with
              | nil => intro _; exact ⟨[], rfl⟩
              | cons z zs ih =>
                intro h
                obtain ⟨n, rfl⟩ := h z (by simp)
                obtain ⟨hs, rfl⟩ := ih fun y hy => h y (by simp [hy])
                exact ⟨n :: hs, rfl⟩
            refine this fun y hy => ?_
            obtain ⟨i, hi, e⟩ := List.getElem_of_mem hy
            exact hyp i y (by rw [List.getElem?_eq_getElem hi, e])
          have e3 := k3 _ _ (by simpa using nmd) e2
          obtain ⟨⟨dx3, ed3⟩, _⟩ := D3.at
          have x3 := dkx D3 k3
          walk_at "g"
          refine lcp_acc (walk_list (K := K) (a := nm) (xs := (List.range cs.length).map nV)) [] UpTo (fun i H' => True) (by rw [List.length_map, List.length_range]; omega) (fun _ _ _ _ _ _ => trivial) (fun i H' k _ => .of (k _ _ (by simp) e3)) trivial .nil (fun i acc h => h.len) ?_ (by simp) ?_
          · rintro i x H4 H5 acc R R0 hi k4 _ ha ⟨rfl, hx⟩ hR hR0
            rw [List.length_map, List.length_range] at hi
            rw [range_at hi] at hx
            cases hx
            have eG4 := k4.same _ _ eG
            refine w_name ⟨rfl, ?_⟩
            walk_at "g"
            refine w_ninNL eG4 ?_
            refine w_bl ?_
            refine w_itN (fun hni => ?_) (fun hyi => ?_)
            · walk_at "g"
              exact hR _ _ ha.add Kp.refl trivial
            · exact hR0 _ ha.skip Kp.refl trivial
          · intro L H4 ys ha hL k4 _ eL
            obtain ⟨ms, rfl, hup, hm⟩ := ha
            rw [List.length_map, List.length_range] at hm
            walk_at "g"
            exact q L H4 ms (fr x3 ⟨_, ed3⟩ hL) eL hup hm ((D3.kp (M := []) k4 (by simp) (by simp)).mono (by omega)) (x3.trans (KX.of k4.same))
      · walk_at "g"
        refine lcp_acc (walk_list (K := K) (a := nm) (xs := (List.range cs.length).map nV)) [d] (fun i acc => UpTo i acc ∧ ∀ m : Nat, nV m ∈ acc → isVb cs m = true) (fun i H' => Deck H' d c (n + 1 + i)) (by rw [List.length_map, List.length_range]; omega) (fun D hD i H1' o z => z.mut (D2.ne1 hD).1 (D2.ne1 hD).2) (fun i H' k _ => .of (k _ _ (by simpa using nmd) e2)) D2 ⟨.nil, by simp⟩ (fun i acc h => h.1.len) ?_ (by intro b hb; have e : b = d := (by simpa using hb); subst e; exact ⟨_, ed2⟩) ?_
        · rintro i x H3 H4 acc R R0 hi k3 D3 ⟨ha, hav⟩ ⟨rfl, hx⟩ hR hR0
          rw [List.length_map, List.length_range] at hi
          rw [range_at hi] at hx
          cases hx
          have x3 := dkx D3 k3
          have T3 := T0.kp x3.p x3.t (by simpa using thd)
          have hth3 := T3.at'
          have at1 : atI (cs.map fun q => V.ref q.1) (i : Int) = some (.ref (cs[i]).1) := atI_nat (by rw [List.getElem?_map, List.getElem?_eq_getElem hi]; rfl)
          obtain ⟨xs, hh⟩ := (T3.ct _ (List.getElem_mem hi)).head
          have at0 : atI (V.str (cs[i]).2.word :: xs) 0 = some (.str (cs[i]).2.word) := atI_nat (j := 0) rfl
          have eg : cs.getD i (0, .leaf []) = cs[i] := by rw [List.getD_eq_getElem?_getD, List.getElem?_eq_getElem hi]; rfl
          refine w_name ⟨rfl, ?_⟩
          walk_at "g"
          refine w_ite (fun hw => ?_) (fun hw => ?_)
          · walk_at "g"
            refine w_draw D3 (by omega) (by decide) (by decide) fun r H5 hr5 D5 o5 => ?_
            walk_at "g"
            refine w_ite (fun h1 => ?_) (fun h1 => ?_)
            · walk_at "g"
              refine hR _ _ ⟨ha.add, fun m hm => ?_⟩ (o5.kp (by simp)) D5
              rcases List.mem_append.mp hm with g | g
              · exact hav m g
              · have e : nV m = nV i := by simpa using g
                have : m = i := by have : (m : Int) = i := V.int.inj e; omega
                rw [this]
                unfold isVb
                rw [eg]
                exact decide_eq_true hw
            · exact hR0 _ ⟨ha.skip, hav⟩ (o5.kp (by simp)) D5
          · exact hR0 _ ⟨ha.skip, hav⟩ Kp.refl (D3.mono (by omega))
        · rintro L H3 ys ⟨⟨ms, rfl, hup, hm⟩, hav⟩ hL k3 D3 eL
          rw [List.length_map, List.length_range] at hm D3
          have hmv : ∀ m ∈ ms, isVb cs m = true := fun m hm' => hav m (List.mem_map_of_mem hm')
          have hml : ms.length ≤ cs.length := by
            have := rise_len ms 0 cs.length hup (fun _ _ => Nat.zero_le _) hm (Nat.zero_le _)
            omega
          have x3 := dkx D3 k3
          have T3 := T0.kp x3.p x3.t (by simpa using thd)
          obtain ⟨⟨dx3, ed3⟩, _⟩ := D3.at
          have eL' := eL
          walk_at "g"
          refine w_seq ?_
          walk_at "g"
          refine w_ite (fun h2 => ?_) (fun h2 => ?_)
          · walk_at "g"
            refine ⟨th, L, cs, ms, t, rfl, T3, fm, hcl, eL, hm, by omega, fun l' H4 ns hl' e4 hup4 hin4 k4 => ?_⟩
            walk_at "g"
            exact q l' H4 ns (fr x3 ⟨_, ed3⟩ hl') e4 hup4 hin4 ((D3.kp (M := []) (Kp.of k4) (by simp) (by simp)).mono (by omega)) (x3.trans (KX.of k4))
          · walk_at "g"
            refine w_new fun hh H4 hhh e4 k4 => ?_
            have F4 : FAt H4 hh (fun n => False) := ⟨[], [], e4, rfl, .nil, by simp, by simp⟩
            have eL4 := k4 _ _ eL
            have nhL : L ≠ hh := ne_of_none eL hhh
            walk_at "g"
            try refine w_itL' (.of eL4) ?_
            refine lp_list (xs := ms.map nV) (fun i σ H' => (∃ y1 y2 : Option V, σ = [some (.ref d), some (.ref th), some (.ref nm), some (.int (pick : Int)), none, some (.ref L), some (.ref hh), y1, y2, none]) ∧ Kp [hh] H4 H' ∧ ∃ Fm : Nat → Prop, FAt H' hh Fm ∧ ∀ m, Fm m → m < cs.length) ⟨⟨_, _, rfl⟩, Kp.refl, _, F4, fun m h => h.elim⟩ (fun i σ H' _ h => .of (h.2.1 _ _ (by simpa using nhL) eL4)) ?_ ?_
            · rintro i x σ H5 hx ⟨⟨y1, y2, rfl⟩, k5, Fm, F5, hFm⟩
              obtain ⟨m, hmi, rfl⟩ := map_at hx
              have hmm := List.mem_of_getElem? hmi
              have hlt := hm m hmm
              walk_at "g"
              refine w_fput F5 (by omega) fun H6 F6 o6 => ?_
              have s6 : Same H3 H6 := fun b o e => o6.get (ne_of_none e hhh) (k5 _ _ (by simpa using ne_of_none e hhh) (k4 _ _ e))
              have T6 := T3.same s6
              have hth6 := T6.at'
              have iv := (isVb_iff hlt).mp (hmv m hmm)
              obtain ⟨a, r, sst, hcs⟩ := iv.at
              obtain ⟨r', g1, g2⟩ := T6.ct _ (List.mem_of_getElem? hcs)
              have at1 : atI (cs.map fun q => V.ref q.1) (m : Int) = some (.ref a) := atI_nat (by rw [List.getElem?_map, hcs]; rfl)
              walk_at "g"
              refine w_new fun ln H7 hln e7 k7 => ?_
              obtain ⟨_, hplt⟩ := fm.parts_lt hcs
              have hr' : r < cs.length := by
                have := hplt r (by show r ∈ pars cs m ++ [r]; simp)
                omega
              walk_at "g"
              refine ⟨th, ln, cs, [r], t, rfl, T6.same k7, fm, hcl, e7, fun n hn => by have : n = r := (by simpa using hn); omega, by simp, fun l' H8 ns hl' e8 hup8 hin8 k8 => ?_⟩
              have nl' : l' ≠ hh := by
                obtain ⟨fk, hfk⟩ := (F6.same k7).obj
                exact (ne_of_none hfk hl').symm
              have k68 := Same.trans k7 k8
              walk_at "g"
              try refine w_itL' (.of e8) ?_
              refine lp_list (xs := ns.map nV) (fun j σ H' => (∃ y2 : Option V, σ = [some (.ref d), some (.ref th), some (.ref nm), some (.int (pick : Int)), none, some (.ref L), some (.ref hh), some (nV m), y2, none]) ∧ Kp [hh] H8 H' ∧ ∃ Fm : Nat → Prop, FAt H' hh Fm ∧ ∀ m, Fm m → m < cs.length) ⟨⟨_, rfl⟩, Kp.refl, _, F6.same k68, fun m' h => by rcases h with h | h; exact hFm m' h; omega⟩ (fun j σ H' _ h => .of (h.2.1 _ _ (by simpa using nl') e8)) ?_ ?_
              · rintro j x σ H9 hx ⟨⟨y2, rfl⟩, k9, Fm9, F9, hFm9⟩
                obtain ⟨m9, hm9, rfl⟩ := map_at hx
                have hlt9 := hin8 m9 (List.mem_of_getElem? hm9)
                walk_at "g"
                refine w_fput F9 (by omega) fun H10 F10 o10 => ?_
                walk_at "g"
                exact ⟨⟨_, rfl⟩, k9.trans (o10.kp (by simp)), _, F10, fun m' h => by rcases h with h | h; exact hFm9 m' h; omega⟩
              · rintro σ H9 ⟨⟨y2, rfl⟩, k9, Fm9, F9, hFm9⟩
                walk_at "g"
                exact ⟨⟨_, _, rfl⟩, ((k5.trans (o6.kp (by simp))).trans (Kp.of k68)).trans k9, _, F9, hFm9⟩
            · rintro σ H5 ⟨⟨y1, y2, rfl⟩, k5, Fm, F5, hFm⟩
              have s5 : Same H3 H5 := fun b o e => k5 _ _ (by simpa using ne_of_none e hhh) (k4 _ _ e)
              walk_at "g"
              refine w_fsort F5 fun ns p H6 hup6 hmem6 hnl6 hp6 e6 k6 => ?_
              have s6 := Same.trans s5 k6
              exact q p H6 ns (fr x3 ⟨_, ed3⟩ (s5.free hp6)) e6 hup6 (fun n hn => hFm n ((hmem6 n).mp hn)) ((D3.kp (M := []) (Kp.of s6) (by simp) (by simp)).mono (by omega)) (x3.trans (KX.of s6))
end
/-! ### houses -/
def hrs (a1 a2 a3 a4 : Addr) : List (Str × V) := [("stands", .ref a1), ("lately", .ref a2), ("others", .ref a3), ("pinned", .ref a4)]
structure HsAt (CU : Addr) (H : Hp) (s dy p hd a1 a2 a3 a4 : Addr) (k : Nat) (F : Nat → Prop) : Prop where
  st : StAt CU H s dy p hd (hrs a1 a2 a3 a4) k F
  h1 : H a1 = some (.dK [])
  h2 : H a2 = some (.lst [])
  h3 : H a3 = some (.dK [])
  h4 : H a4 = some (.lst [])
local macro_rules | `(tactic| walk_at "s") => `(tactic| first
  | with_reducible refine w_clsF ?_
  )
def spHouseInit (CU : Addr) : Sp := fun vs H Q _ => ∃ (s dy p : Addr), vs = [.ref s, .ref p] ∧ H s = some (.ins CU dy []) ∧ ∀ (hd a1 a2 a3 a4 : Addr) (H' : Hp), H hd = none → H a1 = none → H a2 = none → H a3 = none → H a4 = none → HsAt CU H' s dy p hd a1 a2 a3 a4 0 (fun _ => False) → (hd ≠ a1 ∧ hd ≠ a2 ∧ hd ≠ a3 ∧ hd ≠ a4) → (s ≠ a1 ∧ s ≠ a2 ∧ s ≠ a3 ∧ s ≠ a4) → Kp [s] H H' → Q .non H'
def spLHouse (P : Program) (w : World) (C CU : Addr) : Sp := fun vs H Q _ => ∃ (p dx lc ld lg l : Addr) (cs : List (Addr × Ct)) (ds hs : List Nat), vs = [.ref p, .ref l] ∧ BookAt P w C H p dx lc ld lg cs ds ∧ H l = some (.lst (hs.map nV)) ∧ (∀ n ∈ hs, n < cs.length) ∧ hs.length ≤ 400 ∧
  ∀ (s dy hd a1 a2 a3 a4 : Addr) (k : Nat) (H' : Hp), H s = none → H hd = none → H a1 = none → H a2 = none → H a3 = none → H a4 = none → HsAt CU H' s dy p hd a1 a2 a3 a4 k (fun n => n ∈ hs) → (hd ≠ a1 ∧ hd ≠ a2 ∧ hd ≠ a3 ∧ hd ≠ a4) → (s ≠ a1 ∧ s ≠ a2 ∧ s ≠ a3 ∧ s ≠ a4) → Same H H' → Q (.ref s) H'
section
variable {P : Program} {w : World} {K : PySem.W.Frag} {mg : Str → Option Value} {base : Heap} {C CH CS CU : Addr}
theorem house_kf (K_House : Kl K mg "House" CU ["book", "here", "turns", "stands", "lately", "others", "pinned"]) : Kf K CU ["book", "here", "turns"] := ⟨K_House.cl, fun f hf => K_House.na f (by
  simp only [List.mem_cons, List.not_mem_nil, or_false] at hf ⊢
  rcases hf with h | h | h
  · exact .inl h
  · exact .inr (.inl h)
  · exact .inr (.inr (.inl h)))⟩
theorem ok_houseinit {f fS : Addr} {fd fdS : FuncData} (T : Txt K mg) (F : Fun K "__init__" "House.__init__" s_House___init__ f fd) (K_Store : Kl K mg "Store" CS ["book", "here", "turns"]) (K_House : Kl K mg "House" CU ["book", "here", "turns", "stands", "lately", "others", "pinned"]) (D_Store___init__ : DfM K CS "__init__" "Store.__init__" s_Store___init__ ["self", "book"] fS fdS)
    (R_Store : ClX.CRead K CS (.type "type")) (V_Store___init__ : ClX.CVal K CS (.type "type") "__init__" (.ref fS) (.ref fS)) : FnOk P w K mg base CX0 2 f fd ["self", "book"] (spHouseInit CU) := by
  have G_Store___init__ : FnOk P w K mg base CX0 1 fS fdS ["self", "book"] (spStoreInit CU) := ok_storeinit T D_Store___init__.fn (house_kf K_House)
  let C_Store := CS
  have cl := K_House.cl
  have n1 := K_House.na "stands" (by simp)
  have n2 := K_House.na "lately" (by simp)
  have n3 := K_House.na "others" (by simp)
  have n4 := K_House.na "pinned" (by simp)
  refine F.ok sc_House___init__ (fun vs H Q E h => ?_) (fun cdv A outer s H vs Q E hr h => ?_)
  · obtain ⟨s, dy, p, rfl, _⟩ := h
    rfl
  · obtain ⟨s, dy, p, rfl, hs, q⟩ := h
    refine ⟨_,
      (pss_cons
        (ps_expr (pe_clsF (pe_glob (v := .ref C_Store) rfl K_Store.g rfl) R_Store V_Store___init__ D_Store___init__.fn.kp G_Store___init__ (hr.mono (by omega)) D_Store___init__.b .nil pass0 (pa_cons (pv 0) (pa_cons (pv 1) pa_nil))))
      (pss_cons
        (ps_fld (pv 0) pe_dnewK rfl)
      (pss_cons
        (ps_fld (pv 0) (pe_lst pa_nil) rfl)
      (pss_cons
        (ps_fld (pv 0) pe_dnewK rfl)
      (pss_one
        (ps_fld (pv 0) (pe_lst pa_nil) rfl))))))
      , ?_⟩
    rw [show L2.start N_House___init__ [V.ref s, V.ref p] = [some (.ref s), some (.ref p)] from rfl]
    walk_at "x"
    refine ⟨s, dy, p, rfl, hs, fun hd H1 hhd S1 k1 => ?_⟩
    have o1 := S1.ob
    obtain ⟨fk, efk⟩ := S1.here.obj
    have nh := S1.ne
    walk_at "g"
    refine w_new fun a1 H2 ha1 e2 k2 => ?_
    have o2 := k2 _ _ o1
    have m1 : a1 ≠ s := (ne_of_none o1 ha1).symm
    have p1 : a1 ≠ hd := (ne_of_none efk ha1).symm
    walk_at "g"
    refine w_fldS' o2 cl n1 (show (3 : Nat) < 1000 by decide) fun H3 o3 f3 => ?_
    walk_at "g"
    refine w_new fun a2 H4 ha2 e4 k4 => ?_
    have o4 := k4 _ _ o3
    have m2 : a2 ≠ s := (ne_of_none o3 ha2).symm
    have p2 : a2 ≠ hd := (ne_of_none (f3.get nh (k2 _ _ efk)) ha2).symm
    walk_at "g"
    refine w_fldS' o4 cl n2 (show (4 : Nat) < 1000 by decide) fun H5 o5 f5 => ?_
    walk_at "g"
    refine w_new fun a3 H6 ha3 e6 k6 => ?_
    have o6 := k6 _ _ o5
    have m3 : a3 ≠ s := (ne_of_none o5 ha3).symm
    have p3 : a3 ≠ hd := (ne_of_none (f5.get nh (k4 _ _ (f3.get nh (k2 _ _ efk)))) ha3).symm
    walk_at "g"
    refine w_fldS' o6 cl n3 (show (5 : Nat) < 1000 by decide) fun H7 o7 f7 => ?_
    walk_at "g"
    refine w_new fun a4 H8 ha4 e8 k8 => ?_
    have o8 := k8 _ _ o7
    have m4 : a4 ≠ s := (ne_of_none o7 ha4).symm
    have p4 : a4 ≠ hd := (ne_of_none (f7.get nh (k6 _ _ (f5.get nh (k4 _ _ (f3.get nh (k2 _ _ efk)))))) ha4).symm
    walk_at "g"
    refine w_fldS' o8 cl n4 (show (6 : Nat) < 1000 by decide) fun H9 o9 f9 => ?_
    have t12 : ∀ b o, b ≠ s → H1 b = some o → H3 b = some o := fun b o hb e => f3.get hb (k2 _ _ e)
    have t15 : ∀ b o, b ≠ s → H1 b = some o → H5 b = some o := fun b o hb e => f5.get hb (k4 _ _ (t12 b o hb e))
    have t17 : ∀ b o, b ≠ s → H1 b = some o → H7 b = some o := fun b o hb e => f7.get hb (k6 _ _ (t15 b o hb e))
    have t19 : ∀ b o, b ≠ s → H1 b = some o → H9 b = some o := fun b o hb e => f9.get hb (k8 _ _ (t17 b o hb e))
    have free : ∀ {a : Addr} {H' : Hp}, a ≠ s → (∀ b o, b ≠ s → H1 b = some o → H' b = some o) → H' a = none → H a = none := fun {a H'} ha t hn => by
      cases e : H a with
      | none => rfl
      | some o =>
        rw [t a o ha (k1 _ _ (by simpa using ha) e)] at hn
        cases hn
    refine q hd a1 a2 a3 a4 H9 hhd (free m1 (fun _ _ _ e => e) ha1) (free m2 t12 ha2) (free m3 t15 ha3) (free m4 t17 ha4) ⟨⟨o9, ?_, nh⟩, ?_, ?_, ?_, ?_⟩ ⟨p1.symm, p2.symm, p3.symm, p4.symm⟩ ⟨m1.symm, m2.symm, m3.symm, m4.symm⟩ fun b o hb e => ?_
    · exact S1.here.kp (M := [s]) (fun b o hb e => t19 b o (by simpa using hb) e) (by simpa using nh)
    · exact f9.get m1 (k8 _ _ (f7.get m1 (k6 _ _ (f5.get m1 (k4 _ _ (f3.get m1 e2))))))
    · exact f9.get m2 (k8 _ _ (f7.get m2 (k6 _ _ (f5.get m2 e4))))
    · exact f9.get m3 (k8 _ _ (f7.get m3 e6))
    · exact f9.get m4 e8
    · have hb' : b ≠ s := by simpa using hb
      exact t19 b o hb' (k1 _ _ hb e)
theorem ok_lhouse {f fS fU fP fN fI : Addr} {fd fdS fdU fdP fdN fdI : FuncData} (T : Txt K mg) (F : Fun K "_law_house" "_law_house" s_law_house f fd) (K_Book : Kl K mg "Book" C ["contents", "depths", "given"]) (K_Store : Kl K mg "Store" CS ["book", "here", "turns"]) (K_House : Kl K mg "House" CU ["book", "here", "turns", "stands", "lately", "others", "pinned"]) (M_House : Mk K CU fU) (D_Store___init__ : DfM K CS "__init__" "Store.__init__" s_Store___init__ ["self", "book"] fS fdS)
    (D_House___init__ : DfM K CU "__init__" "House.__init__" s_House___init__ ["self", "book"] fU fdU) (D_Store_put : DfM K CS "put" "Store.put" s_Store_put ["self", "name"] fP fdP) (I_House_put : Meth K CU "put" fP) (D_is_name : Df K mg "is_name" s_is_name ["book", "thing"] fN fdN) (D_is_int : DfD K mg "is_int" s_is_int ["thing", "least"] [.int 0] fI fdI)
    (R_Store : ClX.CRead K CS (.type "type")) (V_Store___init__ : ClX.CVal K CS (.type "type") "__init__" (.ref fS) (.ref fS)) : FnOk P w K mg base CX0 5 f fd ["_law_book_here", "_law_held_here"] (spLHouse P w C CU) := by
  have G_House___init__ : FnOk P w K mg base CX0 2 fU fdU ["self", "book"] (spHouseInit CU) := ok_houseinit T D_House___init__.fn K_Store K_House D_Store___init__ R_Store V_Store___init__
  have G_House_put : FnOk P w K mg base CX0 3 fP fdP ["self", "name"] (spPut P w C CU) := ok_put T D_Store_put.fn K_Book (house_kf K_House) D_is_name D_is_int
  refine F.ok sc_law_house (fun vs H Q E h => ?_) (fun cdv A outer s H vs Q E hr h => ?_)
  · obtain ⟨p, dx, lc, ld, lg, l, cs, ds, hs, rfl, _⟩ := h
    rfl
  · obtain ⟨p, dx, lc, ld, lg, l, cs, ds, hs, rfl, B, hl, hin, hlen, q⟩ := h
    refine ⟨_,
      (pss_cons
        (ps_set (i := 2) sc_law_house.nd rfl (.inl rfl) (pe_make M_House G_House___init__ (hr.mono (by omega)) (by rfl) K_House.g D_House___init__.b .nil pass0 (pa_cons (pv 0) pa_nil)))
      (pss_cons
        (ps_for PassesOwn.never rfl (pi_list (pv 1)) (pg_name (i := 3) sc_law_house.nd rfl (.inl rfl))
          (pss_one
            (ps_expr (pe_meth (pv 2) K_House.cl I_House_put G_House_put (hr.mono (by omega)) D_Store_put.b .nil pass0 (pa_cons (pv 3) pa_nil)))))
      (pss_one
        (ps_ret (pv 2)))))
      , ?_⟩
    rw [show L2.start N_law_house [V.ref p, V.ref l] = [some (.ref p), some (.ref l), none, none] from rfl]
    walk_at "x"
    refine w_make' fun s dy H1 hs0 hdy hne e1 k1 => ?_
    refine ⟨s, dy, p, rfl, e1, fun hd a1 a2 a3 a4 H2 hhd h1 h2 h3 h4 S2 nh ns k2 => ⟨rfl, ?_⟩⟩
    have s2 : Same H H2 := fun b o e => k2 _ _ (by simpa using ne_of_none e hs0) (k1 _ _ e)
    have hhd0 := k1.free hhd
    walk_at "g"
    try refine w_itL' (.of (s2 _ _ hl)) ?_
    refine lp_list (xs := hs.map nV) (fun i σ H' => (∃ y : Option V, σ = [some (.ref p), some (.ref l), some (.ref s), y]) ∧ Same H H' ∧ Kp [s, hd] H2 H' ∧ ∃ k, HsAt CU H' s dy p hd a1 a2 a3 a4 k (fun m => m ∈ hs.take i)) ⟨⟨_, rfl⟩, s2, Kp.refl, 0, ⟨S2.st.ob, S2.st.here.iff (fun n => by simp), S2.st.ne⟩, S2.h1, S2.h2, S2.h3, S2.h4⟩ (fun i σ H' _ h => .of (h.2.1 _ _ hl)) ?_ ?_
    · rintro i x σ H3 hx ⟨⟨y, rfl⟩, s3, k3, k, S3⟩
      obtain ⟨m, hm, rfl⟩ := map_at hx
      have ob3 := S3.st.ob
      have etk : hs.take (i + 1) = hs.take i ++ [m] := by rw [List.take_add_one, hm]; rfl
      walk_at "g"
      refine ⟨s, dy, p, dx, lc, ld, lg, hd, cs, ds, hrs a1 a2 a3 a4, k, m, _, rfl, (show (4 : Nat) ≤ 900 by decide), S3.st, B.same s3, hin m (List.mem_of_getElem? hm), fun h => ?_, fun _ H4 S4 k4 t4 => ?_⟩
      · walk_at "g"
        refine ⟨⟨_, rfl⟩, s3, k3, k, ⟨S3.st.ob, S3.st.here.iff fun n => ?_, S3.st.ne⟩, S3.h1, S3.h2, S3.h3, S3.h4⟩
        rw [etk]
        simp only [List.mem_append, List.mem_cons, List.not_mem_nil, or_false]
        constructor
        · exact .inl
        · rintro (h1 | rfl)
          · exact h1
          · exact h
      · walk_at "g"
        have out : ∀ {a : Addr}, hd ≠ a → s ≠ a → a ∉ [s, hd] := fun {a} g1 g2 => by
          simp only [List.mem_cons, List.not_mem_nil, or_false, not_or]
          exact ⟨g2.symm, g1.symm⟩
        refine ⟨⟨_, rfl⟩, fun b o e => k4 _ _ ?_ (s3 _ _ e), k3.trans k4, k + 1, ⟨S4.ob, S4.here.iff fun n => ?_, S4.ne⟩, k4 _ _ (out nh.1 ns.1) S3.h1, k4 _ _ (out nh.2.1 ns.2.1) S3.h2, k4 _ _ (out nh.2.2.1 ns.2.2.1) S3.h3, k4 _ _ (out nh.2.2.2 ns.2.2.2) S3.h4⟩
        · simp only [List.mem_cons, List.not_mem_nil, or_false, not_or]
          exact ⟨ne_of_none e hs0, ne_of_none e hhd0⟩
        · rw [etk]
          simp only [List.mem_append, List.mem_cons, List.not_mem_nil, or_false]
    · rintro σ H3 ⟨⟨y, rfl⟩, s3, k3, k, S3⟩
      rw [List.length_map, List.take_length] at S3
      walk_at "g"
      exact q s dy hd a1 a2 a3 a4 k H3 hs0 hhd0 (k1.free h1) (k1.free h2) (k1.free h3) (k1.free h4) S3 nh ns s3
end
/-! ### _law_alike, of data that are the same, kind for kind -/
def Sc : V → Prop
  | .non => True
  | .bl _ => True
  | .int _ => True
  | .str _ => True
  | _ => False
def SD : Nat → Hp → V → V → Prop
  | 0, _, x, y => x = y ∧ Sc x
  | n + 1, H, x, y => (x = y ∧ Sc x) ∨ ∃ p q xs ys, x = .ref p ∧ y = .ref q ∧ ((H p = some (.tup xs) ∧ H q = some (.tup ys)) ∨ (H p = some (.lst xs) ∧ H q = some (.lst ys))) ∧ xs.length = ys.length ∧ xs.length ≤ 100000 ∧
      ∀ (i : Nat) (a b : V), xs[i]? = some a → ys[i]? = some b → SD n H a b
theorem SD.same : ∀ {n : Nat} {H H' : Hp} {x y : V}, SD n H x y → Same H H' → SD n H' x y
  | 0, _, _, _, _, h, _ => h
  | n + 1, H, H', x, y, h, k => by
    rcases h with h | ⟨p, q, xs, ys, e1, e2, h, hl, hb, hs⟩
    · exact .inl h
    · refine .inr ⟨p, q, xs, ys, e1, e2, ?_, hl, hb, fun i a b ha hb => (hs i a b ha hb).same k⟩
      rcases h with ⟨h1, h2⟩ | ⟨h1, h2⟩
      · exact .inl ⟨k _ _ h1, k _ _ h2⟩
      · exact .inr ⟨k _ _ h1, k _ _ h2⟩
theorem w_isiTa {K : PySem.W.Frag} {H : Hp} {Q : VK} {x : V} {tp : Addr} {a n m : String} (ty : TyX K H x (.type a)) (ht : H tp = some (.tup [.ty n, .ty m])) (h1 : kitB a n = some true) (h : Q (.bl true) H) : rIsiT K [x, .ref tp] H Q :=
  ⟨x, tp, _, _, [.type n, .type m], true, rfl, ht, .cons (.ty n) (.cons (.ty m) .nil), ty, kitAny_cons (kit_ty h1) (fun z => nomatch z) (fun _ => rfl), h⟩
theorem w_isiTb {K : PySem.W.Frag} {H : Hp} {Q : VK} {x : V} {tp : Addr} {a n m : String} (ty : TyX K H x (.type a)) (ht : H tp = some (.tup [.ty n, .ty m])) (h1 : kitB a n = some false) (h2 : kitB a m = some true) (h : Q (.bl true) H) : rIsiT K [x, .ref tp] H Q :=
  ⟨x, tp, _, _, [.type n, .type m], true, rfl, ht, .cons (.ty n) (.cons (.ty m) .nil), ty, kitAny_cons (kit_ty h1) (fun _ => kitAny_cons (kit_ty h2) (fun z => nomatch z) (fun _ => rfl)) (fun _ => rfl), h⟩
theorem w_isiTn {K : PySem.W.Frag} {H : Hp} {Q : VK} {x : V} {tp : Addr} {a n m : String} (ty : TyX K H x (.type a)) (ht : H tp = some (.tup [.ty n, .ty m])) (h1 : kitB a n = some false) (h2 : kitB a m = some false) (h : Q (.bl false) H) : rIsiT K [x, .ref tp] H Q :=
  ⟨x, tp, _, _, [.type n, .type m], false, rfl, ht, .cons (.ty n) (.cons (.ty m) .nil), ty, kitAny_cons (kit_ty h1) (fun _ => kitAny_cons (kit_ty h2) (fun _ => rfl) (fun z => nomatch z)) (fun z => nomatch z), h⟩
local macro_rules | `(tactic| walk_at "s") => `(tactic| first
  | ((with_reducible refine' w_isiTa ?ty ?ht ?h1 ?_); (case ty => walk_at "ty"); (case ht => assumption); (case h1 => walk_at "kb"))
  | ((with_reducible refine' w_isiTb ?ty ?ht ?h1 ?h2 ?_); (case ty => walk_at "ty"); (case ht => assumption); (case h1 => walk_at "kb"); (case h2 => walk_at "kb"))
  | ((with_reducible refine' w_isiTn ?ty ?ht ?h1 ?h2 ?_); (case ty => walk_at "ty"); (case ht => assumption); (case h1 => walk_at "kb"); (case h2 => walk_at "kb"))
  )
def spAlike (n : Nat) : Sp := fun vs H Q _ => ∃ (x y : V), vs = [x, y] ∧ SD n H x y ∧ ∀ H', Same H H' → Q (.bl true) H'
section
variable {P : Program} {w : World} {K : PySem.W.Frag} {mg : Str → Option Value} {base : Heap}
theorem ok_alike0 {f : Addr} {fd : FuncData} (T : Txt K mg) (D_law_alike : Df K mg "_law_alike" s_law_alike ["_law_found", "_law_due"] f fd) : FnOk P w K mg base CX0 1 f fd ["_law_found", "_law_due"] (spAlike 0) := by
  refine D_law_alike.fn.ok sc_law_alike (fun vs H Q E h => ?_) (fun cdv A outer s H vs Q E hr h => ?_)
  · obtain ⟨x, y, rfl, _⟩ := h
    rfl
  · obtain ⟨x, y, rfl, ⟨rfl, hx⟩, q⟩ := h
    refine ⟨_,
      (pss_cons
        (ps_if (pt_val (pe_callB (r := rIsiT K) call_isiT (by rfl) T.n_isinstance (by decide +kernel) (pa_cons (pv 1) (pa_cons (pe_tup (pa_cons (pe_bltn (v := .ty "tuple") (u := .type "tuple") (by rfl) T.n_tuple (by decide +kernel) rfl) (pa_cons (pe_bltn (v := .ty "list") (u := .type "list") (by rfl) T.n_list (by decide +kernel) rfl) pa_nil))) pa_nil))))
          pss_never
          pss_nil)
      (pss_cons
        (ps_if (PW.pt (pw_or (pt_val (pe_callB (r := rIsi K) call_isi (by rfl) T.n_isinstance (by decide +kernel) (pa_cons (pv 1) (pa_cons (pe_bltn (v := .ty "bool") (u := .type "bool") (by rfl) T.n_bool (by decide +kernel) rfl) pa_nil)))) (pw_or1 (pt_val (pe_callB (r := rIsi K) call_isi (by rfl) T.n_isinstance (by decide +kernel) (pa_cons (pv 0) (pa_cons (pe_bltn (v := .ty "bool") (u := .type "bool") (by rfl) T.n_bool (by decide +kernel) rfl) pa_nil)))))))
          (pss_one
            (ps_ret (pe_and (pe_callB (r := rIsi K) call_isi (by rfl) T.n_isinstance (by decide +kernel) (pa_cons (pv 1) (pa_cons (pe_bltn (v := .ty "bool") (u := .type "bool") (by rfl) T.n_bool (by decide +kernel) rfl) pa_nil))) (pe_and (pe_callB (r := rIsi K) call_isi (by rfl) T.n_isinstance (by decide +kernel) (pa_cons (pv 0) (pa_cons (pe_bltn (v := .ty "bool") (u := .type "bool") (by rfl) T.n_bool (by decide +kernel) rfl) pa_nil))) (pe_one (pe_cmpR op_eq (pv 0) (pv 1) (nomark _)))))))
          pss_nil)
      (pss_cons
        (ps_if (pt_val (pe_callB (r := rIsi K) call_isi (by rfl) T.n_isinstance (by decide +kernel) (pa_cons (pv 1) (pa_cons (pe_bltn (v := .ty "int") (u := .type "int") (by rfl) T.n_int (by decide +kernel) rfl) pa_nil))))
          (pss_one
            (ps_ret (pe_and (pe_callB (r := rIsi K) call_isi (by rfl) T.n_isinstance (by decide +kernel) (pa_cons (pv 0) (pa_cons (pe_bltn (v := .ty "int") (u := .type "int") (by rfl) T.n_int (by decide +kernel) rfl) pa_nil))) (pe_one (pe_cmpR op_eq (pv 0) (pv 1) (nomark _))))))
          pss_nil)
      (pss_cons
        (ps_if (pt_val (pe_callB (r := rIsi K) call_isi (by rfl) T.n_isinstance (by decide +kernel) (pa_cons (pv 1) (pa_cons (pe_bltn (v := .ty "str") (u := .type "str") (by rfl) T.n_str (by decide +kernel) rfl) pa_nil))))
          (pss_one
            (ps_ret (pe_and (pe_callB (r := rIsi K) call_isi (by rfl) T.n_isinstance (by decide +kernel) (pa_cons (pv 0) (pa_cons (pe_bltn (v := .ty "str") (u := .type "str") (by rfl) T.n_str (by decide +kernel) rfl) pa_nil))) (pe_one (pe_cmpR op_eq (pv 0) (pv 1) (nomark _))))))
          pss_nil)
      (pss_one
        (ps_ret (pe_and (pe_cmpR o_isN (pv 1) pe_non (nomark _)) (pe_one (pe_cmpR o_isN (pv 0) pe_non (nomark _))))))))))
      , ?_⟩
    rw [show L2.start N_law_alike [x, x] = [some x, some x, none] from rfl]
    cases x with
    | byt _ => exact hx.elim
    | flt _ => exact hx.elim
    | ref _ => exact hx.elim
    | ty _ => exact hx.elim
    | non =>
      refine w_seq ?_
      walk_at "x"
      refine w_new fun tp H1 htp e1 k1 => ?_
      walk_at "g"
      refine w_seq ?_
      walk_at "g"
      refine w_seq ?_
      walk_at "g"
      refine w_seq ?_
      walk_at "g"
      refine w_yes rfl ?_
      walk_at "g"
      exact q _ k1
    | bl b =>
      refine w_seq ?_
      walk_at "x"
      refine w_new fun tp H1 htp e1 k1 => ?_
      walk_at "g"
      refine w_seq ?_
      walk_at "g"
      rw [decide_eq_true rfl]
      exact q _ k1
    | int i =>
      refine w_seq ?_
      walk_at "x"
      refine w_new fun tp H1 htp e1 k1 => ?_
      walk_at "g"
      refine w_seq ?_
      walk_at "g"
      refine w_seq ?_
      walk_at "g"
      rw [decide_eq_true rfl]
      exact q _ k1
    | str z =>
      refine w_seq ?_
      walk_at "x"
      refine w_new fun tp H1 htp e1 k1 => ?_
      walk_at "g"
      refine w_seq ?_
      walk_at "g"
      refine w_seq ?_
      walk_at "g"
      refine w_seq ?_
      walk_at "g"
      rw [decide_eq_true rfl]
      exact q _ k1
theorem ok_alike {f : Addr} {fd : FuncData} (T : Txt K mg) (D_law_alike : Df K mg "_law_alike" s_law_alike ["_law_found", "_law_due"] f fd) : ∀ n : Nat, FnOk P w K mg base CX0 (n + 1) f fd ["_law_found", "_law_due"] (spAlike n)
  | 0 => ok_alike0 T D_law_alike
  | n + 1 => by
    have G_law_alike : FnOk P w K mg base CX0 (n + 1) f fd ["_law_found", "_law_due"] (spAlike n) := ok_alike T D_law_alike n
    refine D_law_alike.fn.ok sc_law_alike (fun vs H Q E h => ?_) (fun cdv A outer s H vs Q E hr h => ?_)
    · obtain ⟨x, y, rfl, _⟩ := h
      rfl
    · obtain ⟨x, y, rfl, hd, q⟩ := h
      refine ⟨_,
      (pss_cons
        (ps_if (pt_val (pe_callB (r := rIsiT K) call_isiT (by rfl) T.n_isinstance (by decide +kernel) (pa_cons (pv 1) (pa_cons (pe_tup (pa_cons (pe_bltn (v := .ty "tuple") (u := .type "tuple") (by rfl) T.n_tuple (by decide +kernel) rfl) (pa_cons (pe_bltn (v := .ty "list") (u := .type "list") (by rfl) T.n_list (by decide +kernel) rfl) pa_nil))) pa_nil))))
          (pss_cons
            (ps_if (PW.pt (pw_or (pt_cmpR op_ne (pe_callB (r := rIsi K) call_isi (by rfl) T.n_isinstance (by decide +kernel) (pa_cons (pv 1) (pa_cons (pe_bltn (v := .ty "tuple") (u := .type "tuple") (by rfl) T.n_tuple (by decide +kernel) rfl) pa_nil))) (pe_callB (r := rIsi K) call_isi (by rfl) T.n_isinstance (by decide +kernel) (pa_cons (pv 0) (pa_cons (pe_bltn (v := .ty "tuple") (u := .type "tuple") (by rfl) T.n_tuple (by decide +kernel) rfl) pa_nil))) (nomark _)) (pw_or1 (pt_not (pt_val (pe_callB (r := rIsiT K) call_isiT (by rfl) T.n_isinstance (by decide +kernel) (pa_cons (pv 0) (pa_cons (pe_tup (pa_cons (pe_bltn (v := .ty "tuple") (u := .type "tuple") (by rfl) T.n_tuple (by decide +kernel) rfl) (pa_cons (pe_bltn (v := .ty "list") (u := .type "list") (by rfl) T.n_list (by decide +kernel) rfl) pa_nil))) pa_nil))))))))
              (pss_one
                (ps_ret pe_bl))
              pss_nil)
          (pss_cons
            (ps_if (pt_cmpR op_ne (pe_callB (r := rLen K) c_len (by rfl) T.n_len (by decide +kernel) (pa_cons (pv 0) pa_nil)) (pe_callB (r := rLen K) c_len (by rfl) T.n_len (by decide +kernel) (pa_cons (pv 1) pa_nil)) (nomark _))
              (pss_one
                (ps_ret pe_bl))
              pss_nil)
          (pss_cons
            (ps_for PassesOwn.never rfl (pi_range1 (by rfl) T.n_range (pa_cons (pe_callB (r := rLen K) c_len (by rfl) T.n_len (by decide +kernel) (pa_cons (pv 1) pa_nil)) pa_nil)) (pg_name (i := 2) sc_law_alike.nd rfl (.inl rfl))
              (pss_one
                (ps_if (pt_not (pt_val (pe_call G_law_alike (hr.mono (by omega)) (by rfl) D_law_alike.g D_law_alike.fn.kp D_law_alike.b .nil pass0 (pa_cons (pe_ix (r := rIx K) ix_seq (pv 0) (pv 2) (fun _ _ => rfl)) (pa_cons (pe_ix (r := rIx K) ix_seq (pv 1) (pv 2) (fun _ _ => rfl)) pa_nil)))))
                  (pss_one
                    (ps_ret pe_bl))
                  pss_nil)))
          (pss_one
            (ps_ret pe_bl)))))
          pss_nil)
      (pss_cons
        (ps_if (PW.pt (pw_or (pt_val (pe_callB (r := rIsi K) call_isi (by rfl) T.n_isinstance (by decide +kernel) (pa_cons (pv 1) (pa_cons (pe_bltn (v := .ty "bool") (u := .type "bool") (by rfl) T.n_bool (by decide +kernel) rfl) pa_nil)))) (pw_or1 (pt_val (pe_callB (r := rIsi K) call_isi (by rfl) T.n_isinstance (by decide +kernel) (pa_cons (pv 0) (pa_cons (pe_bltn (v := .ty "bool") (u := .type "bool") (by rfl) T.n_bool (by decide +kernel) rfl) pa_nil)))))))
          (pss_one
            (ps_ret (pe_and (pe_callB (r := rIsi K) call_isi (by rfl) T.n_isinstance (by decide +kernel) (pa_cons (pv 1) (pa_cons (pe_bltn (v := .ty "bool") (u := .type "bool") (by rfl) T.n_bool (by decide +kernel) rfl) pa_nil))) (pe_and (pe_callB (r := rIsi K) call_isi (by rfl) T.n_isinstance (by decide +kernel) (pa_cons (pv 0) (pa_cons (pe_bltn (v := .ty "bool") (u := .type "bool") (by rfl) T.n_bool (by decide +kernel) rfl) pa_nil))) (pe_one (pe_cmpR op_eq (pv 0) (pv 1) (nomark _)))))))
          pss_nil)
      (pss_cons
        (ps_if (pt_val (pe_callB (r := rIsi K) call_isi (by rfl) T.n_isinstance (by decide +kernel) (pa_cons (pv 1) (pa_cons (pe_bltn (v := .ty "int") (u := .type "int") (by rfl) T.n_int (by decide +kernel) rfl) pa_nil))))
          (pss_one
            (ps_ret (pe_and (pe_callB (r := rIsi K) call_isi (by rfl) T.n_isinstance (by decide +kernel) (pa_cons (pv 0) (pa_cons (pe_bltn (v := .ty "int") (u := .type "int") (by rfl) T.n_int (by decide +kernel) rfl) pa_nil))) (pe_one (pe_cmpR op_eq (pv 0) (pv 1) (nomark _))))))
          pss_nil)
      (pss_cons
        (ps_if (pt_val (pe_callB (r := rIsi K) call_isi (by rfl) T.n_isinstance (by decide +kernel) (pa_cons (pv 1) (pa_cons (pe_bltn (v := .ty "str") (u := .type "str") (by rfl) T.n_str (by decide +kernel) rfl) pa_nil))))
          (pss_one
            (ps_ret (pe_and (pe_callB (r := rIsi K) call_isi (by rfl) T.n_isinstance (by decide +kernel) (pa_cons (pv 0) (pa_cons (pe_bltn (v := .ty "str") (u := .type "str") (by rfl) T.n_str (by decide +kernel) rfl) pa_nil))) (pe_one (pe_cmpR op_eq (pv 0) (pv 1) (nomark _))))))
          pss_nil)
      (pss_one
        (ps_ret (pe_and (pe_cmpR o_isN (pv 1) pe_non (nomark _)) (pe_one (pe_cmpR o_isN (pv 0) pe_non (nomark _))))))))))
        , ?_⟩
      rw [show L2.start N_law_alike [x, y] = [some x, some y, none] from rfl]
      rcases hd with ⟨rfl, hx⟩ | ⟨p, r, xs, ys, rfl, rfl, hk, hlen, hle, hd⟩
      · cases x with
        | byt _ => exact hx.elim
        | flt _ => exact hx.elim
        | ref _ => exact hx.elim
        | ty _ => exact hx.elim
        | non =>
          refine w_seq ?_
          walk_at "x"
          refine w_new fun tp H1 htp e1 k1 => ?_
          walk_at "g"
          refine w_seq ?_
          walk_at "g"
          refine w_seq ?_
          walk_at "g"
          refine w_seq ?_
          walk_at "g"
          refine w_yes rfl ?_
          walk_at "g"
          exact q _ k1
        | bl b =>
          refine w_seq ?_
          walk_at "x"
          refine w_new fun tp H1 htp e1 k1 => ?_
          walk_at "g"
          refine w_seq ?_
          walk_at "g"
          rw [decide_eq_true rfl]
          exact q _ k1
        | int i =>
          refine w_seq ?_
          walk_at "x"
          refine w_new fun tp H1 htp e1 k1 => ?_
          walk_at "g"
          refine w_seq ?_
          walk_at "g"
          refine w_seq ?_
          walk_at "g"
          rw [decide_eq_true rfl]
          exact q _ k1
        | str z =>
          refine w_seq ?_
          walk_at "x"
          refine w_new fun tp H1 htp e1 k1 => ?_
          walk_at "g"
          refine w_seq ?_
          walk_at "g"
          refine w_seq ?_
          walk_at "g"
          refine w_seq ?_
          walk_at "g"
          rw [decide_eq_true rfl]
          exact q _ k1
      · have turn : ∀ (i : Nat), i < ys.length → ∃ a b, atI xs (0 + (i : Int)) = some a ∧ atI ys (0 + (i : Int)) = some b ∧ SD n H a b := fun i hi => by
          have h1 : xs[i]? = some xs[i] := List.getElem?_eq_getElem (by omega)
          have h2 : ys[i]? = some ys[i] := List.getElem?_eq_getElem hi
          rw [show 0 + (i : Int) = (i : Int) by omega]
          exact ⟨_, _, atI_nat h1, atI_nat h2, hd i _ _ h1 h2⟩
        rcases hk with ⟨h1, h2⟩ | ⟨h1, h2⟩
        all_goals
          refine w_seq ?_
          walk_at "x"
          refine w_new fun tp H1 htp e1 k1 => ?_
          have h1' := k1 _ _ h1
          have h2' := k1 _ _ h2
          walk_at "g"
          refine w_seq ?_
          walk_at "g"
          walk_at "dg"
          refine w_new fun tp2 H2 htp2 e2 k2 => ?_
          have h1'' := k2 _ _ h1'
          have h2'' := k2 _ _ h2'
          have k02 := Same.trans k1 k2
          walk_at "g"
          refine w_seq ?_
          walk_at "g"
          walk_at "dg"
          refine lp_range (fun i σ H' => Same H H' ∧ ∃ y2, σ = [some (.ref p), some (.ref r), y2]) ⟨k02, _, rfl⟩ ?_ ?_
          · rintro i σ H3 hi ⟨k3, y2, rfl⟩
            have g1 := k3 _ _ h1
            have g2 := k3 _ _ h2
            obtain ⟨a, b, ha, hb, hab⟩ := turn i (by omega)
            walk_at "g"
            refine ⟨a, b, rfl, hab.same k3, fun H4 k4 => ?_⟩
            walk_at "g"
            exact ⟨Same.trans k3 k4, _, rfl⟩
          · rintro σ H3 ⟨k3, y2, rfl⟩
            walk_at "g"
            exact q _ k3
end
def spNames (P : Program) (w : World) (C CH : Addr) : Sp := fun vs H Q _ => ∃ (v dv p dx lc ld lg rw' hd : Addr) (cs : List (Addr × Ct)) (ds hs : List Nat), vs = [.ref v] ∧ ViewAt P w C CH H v dv p dx lc ld lg rw' hd cs ds hs ∧ ∀ (l : Addr) (H' : Hp), H l = none → H' l = some (.lst (hs.map nV)) → Same H H' → Q (.ref l) H'
section
variable {P : Program} {w : World} {K : PySem.W.Frag} {mg : Str → Option Value} {base : Heap} {C CH : Addr}
theorem ok_names {f : Addr} {fd : FuncData} (T : Txt K mg) (F : Fun K "names" "Holding.names" s_Holding_names f fd) (K_Holding : Kl K mg "Holding" CH ["book", "row", "here"]) : FnOk P w K mg base CX0 1 f fd ["self"] (spNames P w C CH) := by
  have cl := K_Holding.cl
  have n2 := K_Holding.na "row" (by simp)
  refine F.ok sc_Holding_names (fun vs H Q E h => ?_) (fun cdv A outer s H vs Q E hr h => ?_)
  · obtain ⟨v, dv, p, dx, lc, ld, lg, rw', hd, cs, ds, hs, rfl, _⟩ := h
    rfl
  · obtain ⟨v, dv, p, dx, lc, ld, lg, rw', hd, cs, ds, hs, rfl, W, q⟩ := h
    have ob := W.ob
    refine ⟨_,
      (pss_one
        (ps_ret (pe_callTy (r := rListOf K) c_listOf (by rfl) T.n_list (by decide +kernel) (pa_cons (pe_fldK (K := K) rfl (pv 0) rfl) pa_nil))))
      , ?_⟩
    rw [show L2.start N_Holding_names [V.ref v] = [some (.ref v)] from rfl]
    walk_at "x"
    refine w_listL (.of W.row) fun l H1 hl e1 k1 => ?_
    exact q l H1 hl e1 k1
end
/-! ### pins of a house on names that are held -/
def spHHolds (P : Program) (w : World) (C CS : Addr) : Sp := fun vs H Q _ => ∃ (s dy p dx lc ld lg hd : Addr) (cs : List (Addr × Ct)) (ds : List Nat) (rs : List (Str × V)) (k : Nat) (x : V) (a : String) (F : Nat → Prop), vs = [.ref s, x] ∧ StAt CS H s dy p hd rs k F ∧ BookAt P w C H p dx lc ld lg cs ds ∧ Ty H x a ∧ ((∃ n : Nat, x = nV n ∧ n < cs.length ∧ F n) → Q (.bl true) H) ∧ ((∀ n : Nat, x = nV n → n < cs.length → ¬ F n) → Q (.bl false) H)
def spHChanges (CS : Addr) : Sp := fun vs H Q _ => ∃ (s dy p hd : Addr) (rs : List (Str × V)) (k : Nat) (F : Nat → Prop), vs = [.ref s] ∧ StAt CS H s dy p hd rs k F ∧ Q (nV k) H
def spMust (P : Program) (w : World) (C CU : Addr) : Sp := fun vs H Q _ => ∃ (s dy p dx lc ld lg hd a1 a2 a3 a4 t : Addr) (cs : List (Addr × Ct)) (ds : List Nat) (k : Nat) (F : Nat → Prop) (ns : List Nat), vs = [.ref s, .ref t] ∧ StAt CU H s dy p hd (hrs a1 a2 a3 a4) k F ∧ BookAt P w C H p dx lc ld lg cs ds ∧ H t = some (.tup (ns.map nV)) ∧ (∀ n ∈ ns, n < cs.length ∧ F n) ∧ Q .non H
structure PinAt (CP : Addr) (H : Hp) (z dz s od : Addr) (b : Bool) (ns : List Nat) : Prop where
  ob : H z = some (.ins CP dz [("store", .ref s), ("on", .ref od), ("loose", .bl b)])
  on : HereAt H od ns
def spPinInit (CP : Addr) : Sp := fun vs H Q _ => ∃ (z dz s t : Addr) (ns : List Nat), vs = [.ref z, .ref s, .ref t] ∧ H z = some (.ins CP dz []) ∧ H t = some (.tup (ns.map nV)) ∧ ns.length ≤ 1000 ∧ ∀ (od : Addr) (H' : Hp), H od = none → PinAt CP H' z dz s od false ns → Kp [z] H H' → Q .non H'
def spPin (P : Program) (w : World) (C CU CP : Addr) : Sp := fun vs H Q _ => ∃ (s dy p dx lc ld lg hd a1 a2 a3 a4 t : Addr) (cs : List (Addr × Ct)) (ds : List Nat) (k : Nat) (F : Nat → Prop) (ns : List Nat) (xs : List V), vs = [.ref s, .ref t] ∧ StAt CU H s dy p hd (hrs a1 a2 a3 a4) k F ∧ BookAt P w C H p dx lc ld lg cs ds ∧ H t = some (.tup (ns.map nV)) ∧ (∀ n ∈ ns, n < cs.length ∧ F n) ∧ ns.length ≤ 1000 ∧ H a4 = some (.lst xs) ∧ xs.length ≤ 1000 ∧
  ∀ (z dz od : Addr) (H' : Hp), H z = none → H od = none → PinAt CP H' z dz s od false ns → H' a4 = some (.lst (xs ++ [.ref z])) → Kp [a4] H H' → KT H H' → Q (.ref z) H'
def spMarks (CU : Addr) : Sp := fun vs H Q _ => ∃ (s dy p hd a1 a2 a3 a4 : Addr) (k : Nat) (F : Nat → Prop) (ms : List (Str × Int)), vs = [.ref s] ∧ StAt CU H s dy p hd (hrs a1 a2 a3 a4) k F ∧ H a1 = some (.dK (kvTI ms)) ∧ (ms.map (·.1)).Nodup ∧
  ∀ (H' : Hp) (l : Addr) (ts : List TI), Same H H' → H l = none → H' l = some (.lst (ts.map fun t => .ref t.1)) → (∀ t ∈ ts, H' t.1 = some (.tup [.str t.2.1, .int t.2.2])) → (ts.map (·.2)).Perm ms → ts.Pairwise (fun x y => txLt x.2.1 y.2.1) → Q (.ref l) H'
section
variable {P : Program} {w : World} {K : PySem.W.Frag} {mg : Str → Option Value} {base : Heap} {C CH CS CU CP : Addr}
theorem ok_hholds {f fN fI : Addr} {fd fdN fdI : FuncData} (T : Txt K mg) (F : Fun K "holds" "Store.holds" s_Store_holds f fd) (K_Book : Kl K mg "Book" C ["contents", "depths", "given"]) (K_Store : Kf K CS ["book", "here", "turns"]) (D_is_name : Df K mg "is_name" s_is_name ["book", "thing"] fN fdN) (D_is_int : DfD K mg "is_int" s_is_int ["thing", "least"] [.int 0] fI fdI) : FnOk P w K mg base CX0 3 f fd ["self", "name"] (spHHolds P w C CS) := by
  have G_is_name : FnOk P w K mg base CX0 2 fN fdN ["book", "thing"] (spIsName P w C) := ok_isname T D_is_name.fn K_Book D_is_int
  have cl := K_Store.cl
  have n1 := K_Store.na "book" (by simp)
  have n2 := K_Store.na "here" (by simp)
  refine F.ok sc_Store_holds (fun vs H Q E h => ?_) (fun cdv A outer s H vs Q E hr h => ?_)
  · obtain ⟨s, dy, p, dx, lc, ld, lg, hd, cs, ds, rs, k, x, a, F, rfl, _⟩ := h
    rfl
  · obtain ⟨s, dy, p, dx, lc, ld, lg, hd, cs, ds, rs, k, x, a, F, rfl, S, B, ty, q1, q2⟩ := h
    have hu := hu_of hr
    have ob := S.ob
    refine ⟨_,
      (pss_one
        (ps_ret (pe_and (pe_call G_is_name (hr.mono (by omega)) (by rfl) D_is_name.g D_is_name.fn.kp D_is_name.b .nil pass0 (pa_cons (pe_fldK (K := K) rfl (pv 0) rfl) (pa_cons (pv 1) pa_nil))) (pe_one (pe_cmp (pc_din hu (pv 1) (pe_fldK (K := K) rfl (pv 0) rfl)))))))
      , ?_⟩
    rw [show L2.start N_Store_holds [V.ref s, x] = [some (.ref s), some x] from rfl]
    walk_at "x"
    refine ⟨p, dx, lc, ld, lg, cs, ds, x, a, rfl, B, ty, fun n e hn => ?_, fun hn => ?_⟩
    · subst e
      walk_at "g"
      refine w_fin' S.here (fun hin => ?_) fun hno => ?_
      · exact q1 ⟨n, rfl, hn, hin⟩
      · exact q2 fun m e _ => by
          have : n = m := by have : (n : Int) = m := V.int.inj e; omega
          subst this
          exact hno
    · walk_at "g"
      exact q2 fun n e h => absurd h (hn n e)
theorem ok_hchanges {f : Addr} {fd : FuncData} (T : Txt K mg) (F : Fun K "changes" "Store.changes" s_Store_changes f fd) (K_Store : Kf K CS ["book", "here", "turns"]) : FnOk P w K mg base CX0 1 f fd ["self"] (spHChanges CS) := by
  have cl := K_Store.cl
  have n3 := K_Store.na "turns" (by simp)
  refine F.ok sc_Store_changes (fun vs H Q E h => ?_) (fun cdv A outer s H vs Q E hr h => ?_)
  · obtain ⟨s, dy, p, hd, rs, k, F, rfl, _⟩ := h
    rfl
  · obtain ⟨s, dy, p, hd, rs, k, F, rfl, S, q⟩ := h
    have ob := S.ob
    refine ⟨_,
      (pss_one
        (ps_ret (pe_fldK (K := K) rfl (pv 0) rfl)))
      , ?_⟩
    rw [show L2.start N_Store_changes [V.ref s] = [some (.ref s)] from rfl]
    walk_at "x"
    exact q
theorem ok_musthold {f fH fN fI : Addr} {fd fdH fdN fdI : FuncData} (T : Txt K mg) (F : Fun K "must_hold" "must_hold" s_must_hold f fd) (K_Book : Kl K mg "Book" C ["contents", "depths", "given"]) (K_House : Kl K mg "House" CU ["book", "here", "turns", "stands", "lately", "others", "pinned"]) (D_Store_holds : DfM K CS "holds" "Store.holds" s_Store_holds ["self", "name"] fH fdH) (I_House_holds : Meth K CU "holds" fH) (D_is_name : Df K mg "is_name" s_is_name ["book", "thing"] fN fdN) (D_is_int : DfD K mg "is_int" s_is_int ["thing", "least"] [.int 0] fI fdI) : FnOk P w K mg base CX0 4 f fd ["store", "names"] (spMust P w C CU) := by
  have G_is_name : FnOk P w K mg base CX0 2 fN fdN ["book", "thing"] (spIsName P w C) := ok_isname T D_is_name.fn K_Book D_is_int
  have G_House_holds : FnOk P w K mg base CX0 3 fH fdH ["self", "name"] (spHHolds P w C CU) := ok_hholds T D_Store_holds.fn K_Book (house_kf K_House) D_is_name D_is_int
  have cl := K_House.cl
  have n1 := K_House.na "book" (by simp)
  refine F.ok sc_must_hold (fun vs H Q E h => ?_) (fun cdv A outer s H vs Q E hr h => ?_)
  · obtain ⟨s, dy, p, dx, lc, ld, lg, hd, a1, a2, a3, a4, t, cs, ds, k, F, ns, rfl, _⟩ := h
    rfl
  · obtain ⟨s, dy, p, dx, lc, ld, lg, hd, a1, a2, a3, a4, t, cs, ds, k, F, ns, rfl, S, B, et, hns, q⟩ := h
    have ob := S.ob
    refine ⟨_,
      (pss_cons
        (ps_for PassesOwn.never rfl (pi_tup (pv 1)) (pg_name (i := 2) sc_must_hold.nd rfl (.inl rfl))
          (pss_one
            (ps_if (pt_not (pt_val (pe_call G_is_name (hr.mono (by omega)) (by rfl) D_is_name.g D_is_name.fn.kp D_is_name.b .nil pass0 (pa_cons (pe_fldK (K := K) rfl (pv 0) rfl) (pa_cons (pv 2) pa_nil)))))
              pss_never
              pss_nil)))
      (pss_one
        (ps_for PassesOwn.never rfl (pi_tup (pv 1)) (pg_name (i := 2) sc_must_hold.nd rfl (.inl rfl))
          (pss_one
            (ps_if (pt_not (pt_val (pe_meth (pv 0) K_House.cl I_House_holds G_House_holds (hr.mono (by omega)) D_Store_holds.b .nil pass0 (pa_cons (pv 2) pa_nil))))
              pss_never
              pss_nil)))))
      , ?_⟩
    rw [show L2.start N_must_hold [V.ref s, V.ref t] = [some (.ref s), some (.ref t), none] from rfl]
    walk_at "x"
    refine lp_tup (xs := ns.map nV) (fun i σ H' => ∃ y : Option V, σ = [some (.ref s), some (.ref t), y] ∧ H' = H) ⟨_, rfl, rfl⟩ (fun i σ H' _ h => by obtain ⟨_, _, e⟩ := h; rw [e]; exact .of et) ?_ ?_
    · rintro i x σ H1 hx ⟨y, rfl, rfl⟩
      obtain ⟨n, hn, rfl⟩ := map_at hx
      obtain ⟨g1, g2⟩ := hns n (List.mem_of_getElem? hn)
      walk_at "g"
      refine ⟨p, dx, lc, ld, lg, cs, ds, nV n, "int", rfl, B, .int _, fun m _ _ => ?_, fun hm => absurd g1 (hm n rfl)⟩
      walk_at "g"
      exact ⟨_, rfl, rfl⟩
    rintro σ H1 ⟨y, rfl, rfl⟩
    walk_at "g"
    refine lp_tup (xs := ns.map nV) (fun i σ H' => ∃ y : Option V, σ = [some (.ref s), some (.ref t), y] ∧ H' = H1) ⟨_, rfl, rfl⟩ (fun i σ H' _ h => by obtain ⟨_, _, e⟩ := h; rw [e]; exact .of et) ?_ ?_
    · rintro i x σ H2 hx ⟨y, rfl, rfl⟩
      obtain ⟨n, hn, rfl⟩ := map_at hx
      obtain ⟨g1, g2⟩ := hns n (List.mem_of_getElem? hn)
      walk_at "g"
      refine ⟨s, dy, p, dx, lc, ld, lg, hd, cs, ds, hrs a1 a2 a3 a4, k, nV n, "int", F, rfl, S, B, .int _, fun _ => ?_, fun h => absurd g2 (h n rfl g1)⟩
      walk_at "g"
      exact ⟨_, rfl, rfl⟩
    rintro σ H2 ⟨y, rfl, rfl⟩
    walk_at "g"
    exact q
theorem ok_pininit {f : Addr} {fd : FuncData} (T : Txt K mg) (F : Fun K "__init__" "Pin.__init__" s_Pin___init__ f fd) (K_Pin : Kl K mg "Pin" CP ["store", "on", "loose"]) : FnOk P w K mg base CX0 1 f fd ["self", "store", "names"] (spPinInit CP) := by
  have cl := K_Pin.cl
  have n1 := K_Pin.na "store" (by simp)
  have n2 := K_Pin.na "on" (by simp)
  have n3 := K_Pin.na "loose" (by simp)
  refine F.ok sc_Pin___init__ (fun vs H Q E h => ?_) (fun cdv A outer s H vs Q E hr h => ?_)
  · obtain ⟨z, dz, s, t, ns, rfl, _⟩ := h
    rfl
  · obtain ⟨z, dz, s, t, ns, rfl, ez, et, hnl, q⟩ := h
    refine ⟨_,
      (pss_cons
        (ps_fld (pv 0) (pv 1) rfl)
      (pss_cons
        (ps_fld (pv 0) (pe_dc (own := [("name", 3)]) (g := (gName 3)) rfl sc_Pin___init__.nd (pi_tup (pv 2)) (blkOk_by (own := [("name", 3)]) (N := N_Pin___init__) (sc := defScope s_Pin___init__) (by decide +kernel)) (fun _ _ _ _ _ => (pg_name (i := 3) sc_Pin___init__.nd rfl (.inl rfl))) (fun _ _ _ _ _ => pts_nil) (fun _ _ _ _ _ => (pv 3)) (fun _ _ _ _ _ => pe_bl)) rfl)
      (pss_one
        (ps_fld (pv 0) pe_bl rfl))))
      , ?_⟩
    rw [show L2.start N_Pin___init__ [V.ref z, V.ref s, V.ref t] = [some (.ref z), some (.ref s), some (.ref t), none] from rfl]
    walk_at "x"
    refine w_fldS' ez cl n1 (by decide) fun H2 o2 f2 => ?_
    have tz : t ≠ z := ne_of et ez (fun z => nomatch z)
    have et2 := f2.get tz et
    walk_at "g"
    refine dcp_map (walk_tup (K := K) (a := t) (xs := ns.map nV)) [] (ns.map fun n : Nat => ((Sum.inl (n : Int) : Key), V.bl true)) (by simp) (by rw [List.length_map]; omega) (fun H' k => .of (k _ _ (by simp) et2)) ?_ (by simp) ?_
    · rintro i x H6 H7 R hi k6 ⟨rfl, hx⟩ hR
      obtain ⟨n, hn, rfl⟩ := map_at hx
      refine w_name ⟨rfl, ?_⟩
      walk_at "g"
      exact hR _ _ (by rw [List.getElem?_map, hn]; rfl) Kp.refl
    intro od H3 hod k3' e3
    have k3 := k3'.same
    have o3 := k3 _ _ o2
    have nod : od ≠ z := fun h => by rw [h, o2] at hod; cases hod
    have hod0 : H od = none := by
      cases e : H od with
      | none => rfl
      | some o => rw [f2.get nod e] at hod; cases hod
    walk_at "g"
    refine w_fldS' o3 cl n2 (show (1 : Nat) < 1000 by decide) fun H4 o4 f4 => ?_
    walk_at "g"
    refine w_fldS' o4 cl n3 (show (2 : Nat) < 1000 by decide) fun H5 o5 f5 => ?_
    refine q od H5 hod0 ⟨o5, _, f5.get nod (f4.get nod e3), fun n => ?_⟩ fun b o hb e => by
      have hb' : b ≠ z := by simpa using hb
      exact f5.get hb' (f4.get hb' (k3 _ _ (f2.get hb' e)))
    rw [valV_merge, valV_nil, Bool.eq_iff_iff]
    simp
    exact ⟨fun ⟨x, hx, e⟩ => by rw [show n = x by omega]; exact hx, fun h => ⟨n, h, rfl⟩⟩
theorem ok_pin {f fM fQ fH fN fI : Addr} {fd fdM fdQ fdH fdN fdI : FuncData} (T : Txt K mg) (F : Fun K "pin" "House.pin" s_House_pin f fd) (K_Book : Kl K mg "Book" C ["contents", "depths", "given"]) (K_House : Kl K mg "House" CU ["book", "here", "turns", "stands", "lately", "others", "pinned"]) (K_Pin : Kl K mg "Pin" CP ["store", "on", "loose"]) (M_Pin : Mk K CP fQ) (D_Pin___init__ : DfM K CP "__init__" "Pin.__init__" s_Pin___init__ ["self", "store", "names"] fQ fdQ) (D_must_hold : Df K mg "must_hold" s_must_hold ["store", "names"] fM fdM) (D_Store_holds : DfM K CS "holds" "Store.holds" s_Store_holds ["self", "name"] fH fdH) (I_House_holds : Meth K CU "holds" fH) (D_is_name : Df K mg "is_name" s_is_name ["book", "thing"] fN fdN) (D_is_int : DfD K mg "is_int" s_is_int ["thing", "least"] [.int 0] fI fdI) : FnOk P w K mg base CX0 5 f fd ["self", "names"] (spPin P w C CU CP) := by
  have G_must_hold : FnOk P w K mg base CX0 4 fM fdM ["store", "names"] (spMust P w C CU) := ok_musthold T D_must_hold.fn K_Book K_House D_Store_holds I_House_holds D_is_name D_is_int
  have G_Pin___init__ : FnOk P w K mg base CX0 1 fQ fdQ ["self", "store", "names"] (spPinInit CP) := ok_pininit T D_Pin___init__.fn K_Pin
  have cl := K_House.cl
  have n7 := K_House.na "pinned" (by simp)
  refine F.ok sc_House_pin (fun vs H Q E h => ?_) (fun cdv A outer s H vs Q E hr h => ?_)
  · obtain ⟨s, dy, p, dx, lc, ld, lg, hd, a1, a2, a3, a4, t, cs, ds, k, F, ns, xs, rfl, _⟩ := h
    rfl
  · obtain ⟨s, dy, p, dx, lc, ld, lg, hd, a1, a2, a3, a4, t, cs, ds, k, F, ns, xs, rfl, S, B, et, hns, hnl, e4, hxl, q⟩ := h
    have ob := S.ob
    refine ⟨_,
      (pss_cons
        (ps_expr (pe_call G_must_hold (hr.mono (by omega)) (by rfl) D_must_hold.g D_must_hold.fn.kp D_must_hold.b .nil pass0 (pa_cons (pv 0) (pa_cons (pv 1) pa_nil))))
      (pss_cons
        (ps_set (i := 2) sc_House_pin.nd rfl (.inl rfl) (pe_make M_Pin G_Pin___init__ (hr.mono (by omega)) (by rfl) K_Pin.g D_Pin___init__.b .nil pass0 (pa_cons (pv 0) (pa_cons (pv 1) pa_nil))))
      (pss_cons
        (ps_expr (pe_bm PySem.F.plainAttrs_list PySem.F.slot_list_append PySem.F.type_list_append mt_append (pe_fldK (K := K) rfl (pv 0) rfl) (pa_cons (pv 2) pa_nil)))
      (pss_one
        (ps_ret (pv 2))))))
      , ?_⟩
    rw [show L2.start N_House_pin [V.ref s, V.ref t] = [some (.ref s), some (.ref t), none] from rfl]
    walk_at "x"
    refine ⟨s, dy, p, dx, lc, ld, lg, hd, a1, a2, a3, a4, t, cs, ds, k, F, ns, rfl, S, B, et, hns, ?_⟩
    walk_at "g"
    refine w_make' fun z dz H1 hz hdz hne e1 k1 => ?_
    refine ⟨z, dz, s, t, ns, rfl, e1, k1 _ _ et, hnl, fun od H2 hod P2 k2 => ⟨rfl, ?_⟩⟩
    have s02 : Same H H2 := fun b o e => k2 _ _ (by simpa using ne_of_none e hz) (k1 _ _ e)
    have ob2 := s02 _ _ ob
    have e42 := s02 _ _ e4
    have hod0 : H od = none := k1.free hod
    have nz4 : z ≠ a4 := (ne_of_none e4 hz).symm
    have nod4 : od ≠ a4 := (ne_of_none e4 hod0).symm
    walk_at "g"
    refine w_app e42 (small2000 (by omega)) fun H3 e3 o3 => ?_
    walk_at "g"
    obtain ⟨kvs, g1, g2⟩ := P2.on
    exact q z dz od H3 hz hod0 ⟨o3.get nz4 P2.ob, kvs, o3.get nod4 g1, g2⟩ e3 (fun b o hb e => o3.get (by simpa using hb) (s02 _ _ e)) ((KT.of s02).trans (KT.off o3 e42))
theorem ok_marks {f : Addr} {fd : FuncData} (T : Txt K mg) (F : Fun K "marks" "House.marks" s_House_marks f fd) (K_House : Kl K mg "House" CU ["book", "here", "turns", "stands", "lately", "others", "pinned"]) : FnOk P w K mg base CX0 1 f fd ["self"] (spMarks CU) := by
  have cl := K_House.cl
  have n4 := K_House.na "stands" (by simp)
  refine F.ok sc_House_marks (fun vs H Q E h => ?_) (fun cdv A outer s H vs Q E hr h => ?_)
  · obtain ⟨s, dy, p, hd, a1, a2, a3, a4, k, F, ms, rfl, _⟩ := h
    rfl
  · obtain ⟨s, dy, p, hd, a1, a2, a3, a4, k, F, ms, rfl, S, e1, nd, q⟩ := h
    have hu := hu_of hr
    have ob := S.ob
    refine ⟨_,
      (pss_one
        (ps_ret (pe_callB (r := rSortI) (c_sortI rfl hr.units) (by rfl) T.n_sorted (by decide +kernel) (pa_cons (pe_bm0 PySem.F.plainAttrs_dict PySem.F.slot_dict_items PySem.F.type_dict_items mt_itemsK (pe_fldK (K := K) rfl (pv 0) rfl)) pa_nil))))
      , ?_⟩
    rw [show L2.start N_House_marks [V.ref s] = [some (.ref s)] from rfl]
    walk_at "x"
    refine w_bm0D ?_
    walk_at "g"
    refine w_tyDK e1 ?_
    refine w_itemsK e1 fun v H2 hv2 e2 k2 => ?_
    walk_at "g"
    refine w_sortI e2 (k2 _ _ e1) nd fun H3 l ts k3 hl e3 hts hperm hsrt => ?_
    exact q H3 l ts (Same.trans k2 k3) (k2.free hl) e3 hts hperm hsrt
end
/-! ### tellers: the first answer, which names are held -/
mutual
theorem dp_same {K : PySem.W.Frag} {H H' : Hp} (k : Same H H') : ∀ {v : V} {d : PyData}, Dp K H v d → Dp K H' v d
  | _, _, .non => .non
  | _, _, .bl b => .bl b
  | _, _, .int i => .int i
  | _, _, .str x => .str x
  | _, _, .lst h1 h2 => .lst ((Kp.of (M := []) k).seqL (by simp) h1) (dpAll_same k h2)
  | _, _, .tup h1 h2 => .tup ((Kp.of (M := []) k).seqT (by simp) h1) (dpAll_same k h2)
theorem dpAll_same {K : PySem.W.Frag} {H H' : Hp} (k : Same H H') : ∀ {vs : List V} {ds : List PyData}, DpAll K H vs ds → DpAll K H' vs ds
  | _, _, .nil => .nil
  | _, _, .cons h1 h2 => .cons (dp_same k h1) (dpAll_same k h2)
end
theorem one_sh (t : Str) (h : PyData.strOk t = true) : SeqAt.shaped (.tuple [.str t]) = true := by
  unfold SeqAt.shaped
  rw [Bool.and_eq_true_iff]
  refine ⟨?_, decide_eq_true ?_⟩
  · simp only [PyData.canLay0, PyData.canLayAll0, h]
    rfl
  · simp only [PyData.depth, PyData.depthAll]
    omega
def TeAt (CT : Addr) (H : Hp) (te dt s : Addr) (sv hv gv : V) : Prop := ∃ wv bv lv pkv : V, H te = some (.ins CT dt [("home", .ref s), ("seen", sv), ("hold", hv), ("greeting", gv), ("wants", wv), ("bill", bv), ("lacks", lv), ("pack", pkv), ("ended", .bl false)])
theorem TeAt.kp {CT : Addr} {M : List Addr} {H H' : Hp} {te dt s : Addr} {sv hv gv : V} (h : TeAt CT H te dt s sv hv gv) (k : Kp M H H') (n : te ∉ M) : TeAt CT H' te dt s sv hv gv := by
  obtain ⟨a, b, c, d, e⟩ := h
  exact ⟨a, b, c, d, k _ _ n e⟩
theorem KT.offI {p : Addr} {H H' : Hp} {C dx : Addr} {fs : List (Str × V)} (k : Off p H H') (e : H p = some (.ins C dx fs)) : KT H H' := ⟨fun b ys e2 => k.get (ne_of e2 e (fun z => nomatch z)) e2, fun b o ys e2 => k.get (ne_of e2 e (fun z => nomatch z)) e2⟩
def spTellInit (CT : Addr) : Sp := fun vs H Q _ => ∃ (te dt s : Addr), vs = [.ref te, .ref s] ∧ H te = some (.ins CT dt []) ∧ ∀ (g : Addr) (H' : Hp), TeAt CT H' te dt s .non .non (.ref g) → Kp [te] H H' → Q .non H'
/-- what the first answer needs: a teller, its house, the book -/
structure GrW (P : Program) (w : World) (C CU CT : Addr) (H : Hp) (te dt s dy p dx lc ld lg hd a1 a2 a3 a4 : Addr) (cs : List (Addr × Ct)) (ds : List Nat) (k : Nat) (F : Nat → Prop) (xs : List V) : Prop where
  te' : ∃ g, TeAt CT H te dt s .non .non (.ref g)
  st : StAt CU H s dy p hd (hrs a1 a2 a3 a4) k F
  bk : BookAt P w C H p dx lc ld lg cs ds
  ok : BkOk cs
  lt : ∀ n, F n → n < cs.length
  m1 : H a1 = some (.dK [])
  m4 : H a4 = some (.lst xs)
  ml : xs.length ≤ 900
  n1 : te ≠ s ∧ te ≠ p
  n2 : lc ≠ a4 ∧ ld ≠ a4
theorem GrW.same {P : Program} {w : World} {C CU CT : Addr} {H H' : Hp} {te dt s dy p dx lc ld lg hd a1 a2 a3 a4 : Addr} {cs : List (Addr × Ct)} {ds : List Nat} {k : Nat} {F : Nat → Prop} {xs : List V} (h : GrW P w C CU CT H te dt s dy p dx lc ld lg hd a1 a2 a3 a4 cs ds k F xs) (kp : Same H H') : GrW P w C CU CT H' te dt s dy p dx lc ld lg hd a1 a2 a3 a4 cs ds k F xs := by
  obtain ⟨g, e⟩ := h.te'
  exact ⟨⟨g, e.kp (M := []) (Kp.of kp) (by simp)⟩, h.st.same kp, h.bk.same kp, h.ok, h.lt, kp _ _ h.m1, kp _ _ h.m4, h.ml, h.n1, h.n2⟩
def GrQ (P : Program) (w : World) (C CH CU CT : Addr) (H : Hp) (te dt s dy p dx lc ld lg hd a1 a2 a3 a4 : Addr) (cs : List (Addr × Ct)) (ds : List Nat) (k : Nat) (F : Nat → Prop) (xs : List V) (Q : VK) : Prop :=
  ∀ (v dv rw' hv z g : Addr) (hs : List Nat) (H' : Hp), H v = none → H rw' = none → H hv = none → H z = none → TeAt CT H' te dt s (.ref v) (.ref z) (.ref g) → ViewAt P w C CH H' v dv p dx lc ld lg rw' hv cs ds hs → (∀ n, n ∈ hs ↔ F n) → StAt CU H' s dy p hd (hrs a1 a2 a3 a4) k F → H' a4 = some (.lst (xs ++ [.ref z])) → Kp [te, a4] H H' → KT H H' → Q (.ref g) H'
def spGreet (P : Program) (w : World) (C CH CU CT : Addr) : Sp := fun vs H Q _ => ∃ (te dt s dy p dx lc ld lg hd a1 a2 a3 a4 : Addr) (cs : List (Addr × Ct)) (ds : List Nat) (k : Nat) (F : Nat → Prop) (xs : List V), vs = [.ref te] ∧ GrW P w C CU CT H te dt s dy p dx lc ld lg hd a1 a2 a3 a4 cs ds k F xs ∧ GrQ P w C CH CU CT H te dt s dy p dx lc ld lg hd a1 a2 a3 a4 cs ds k F xs Q
/-- the names of a have row, whatever they are -/
def TdQ (CB : Addr) (H : Hp) (hs : List Nat) (x : V) (Q : VK) (E : XK) : Prop := (∀ ns, NatsV H x ns → ns.Pairwise (· < ·) → 1 ≤ ns.length → ns.length ≤ 20 → ∀ (H' : Hp) (a b : Addr), Same H H' → H' a = some (.tup [.str "have", .ref b]) → H' b = some (.tup (ns.map fun n => V.bl (decide (n ∈ hs)))) → Q (.ref a) H') ∧ ((∀ ns, NatsV H x ns → ¬ (ns.Pairwise (· < ·) ∧ 1 ≤ ns.length ∧ ns.length ≤ 20)) → ∀ H', Same H H' → E (.ref CB) none H')
def spTold (P : Program) (w : World) (C CH CT CB : Addr) : Sp := fun vs H Q E => ∃ (te dt s v dv p dx lc ld lg rw' hd : Addr) (hv gv : V) (cs : List (Addr × Ct)) (ds hs : List Nat) (x : V) (B : Nat), vs = [.ref te, x] ∧ TeAt CT H te dt s (.ref v) hv gv ∧ ViewAt P w C CH H v dv p dx lc ld lg rw' hd cs ds hs ∧ DatT B H x ∧ B ≤ 1000 ∧ TdQ CB H hs x Q E
/-- the rows that come: the first one, then have rows; a have row ahead of the first one is refused -/
def spAnswer (P : Program) (w : World) (K : PySem.W.Frag) (C CH CU CT CB : Addr) : Sp := fun vs H Q E => ∃ (te r : Addr), vs = [.ref te, .ref r] ∧
  ((∃ (dt s dy p dx lc ld lg hd a1 a2 a3 a4 : Addr) (cs : List (Addr × Ct)) (ds : List Nat) (k : Nat) (F : Nat → Prop) (xs : List V), H r = some (.tup [.str "hello"]) ∧ GrW P w C CU CT H te dt s dy p dx lc ld lg hd a1 a2 a3 a4 cs ds k F xs ∧ ∀ H0, Same H H0 → GrQ P w C CH CU CT H0 te dt s dy p dx lc ld lg hd a1 a2 a3 a4 cs ds k F xs Q)
  ∨ (∃ (dt s : Addr) (x : V) (d : PyData), H r = some (.tup [.str "have", x]) ∧ Dp K H x d ∧ SeqAt.shaped (.tuple [.str "have", d]) = true ∧ ((∃ gv, TeAt CT H te dt s .non .non gv) ∧ (∀ H', Same H H' → E (.ref CB) none H') ∨
    ∃ (v dv p dx lc ld lg rw' hd : Addr) (hv gv : V) (cs : List (Addr × Ct)) (ds hs : List Nat) (B : Nat), TeAt CT H te dt s (.ref v) hv gv ∧ ViewAt P w C CH H v dv p dx lc ld lg rw' hd cs ds hs ∧ DatT B H x ∧ B ≤ 1000 ∧ ∀ H0, Same H H0 → TdQ CB H0 hs x Q E)))
section
variable {P : Program} {w : World} {K : PySem.W.Frag} {mg : Str → Option Value} {base : Heap} {C CH CS CU CP CT : Addr}
theorem ok_tellinit {f : Addr} {fd : FuncData} (T : Txt K mg) (F : Fun K "__init__" "Teller.__init__" s_Teller___init__ f fd) (K_Teller : Kl K mg "Teller" CT ["home", "seen", "hold", "greeting", "wants", "bill", "lacks", "pack", "ended"]) : FnOk P w K mg base CX0 1 f fd ["self", "house"] (spTellInit CT) := by
  have cl := K_Teller.cl
  have n1 := K_Teller.na "home" (by simp)
  have n2 := K_Teller.na "seen" (by simp)
  have n3 := K_Teller.na "hold" (by simp)
  have n4 := K_Teller.na "greeting" (by simp)
  have n5 := K_Teller.na "wants" (by simp)
  have n6 := K_Teller.na "bill" (by simp)
  have n7 := K_Teller.na "lacks" (by simp)
  have n8 := K_Teller.na "pack" (by simp)
  have n9 := K_Teller.na "ended" (by simp)
  refine F.ok sc_Teller___init__ (fun vs H Q E h => ?_) (fun cdv A outer s H vs Q E hr h => ?_)
  · obtain ⟨te, dt, s, rfl, _⟩ := h
    rfl
  · obtain ⟨te, dt, s, rfl, e0, q⟩ := h
    refine ⟨_,
      (pss_cons
        (ps_fld (pv 0) (pv 1) rfl)
      (pss_cons
        (ps_fld (pv 0) pe_non rfl)
      (pss_cons
        (ps_fld (pv 0) pe_non rfl)
      (pss_cons
        (ps_fld (pv 0) (pe_tup pa_nil) rfl)
      (pss_cons
        (ps_fld (pv 0) (pe_tup pa_nil) rfl)
      (pss_cons
        (ps_fld (pv 0) (pe_tup pa_nil) rfl)
      (pss_cons
        (ps_fld (pv 0) (pe_tup pa_nil) rfl)
      (pss_cons
        (ps_fld (pv 0) (pe_lst pa_nil) rfl)
      (pss_one
        (ps_fld (pv 0) pe_bl rfl))))))))))
      , ?_⟩
    rw [show L2.start N_Teller___init__ [V.ref te, V.ref s] = [some (.ref te), some (.ref s)] from rfl]
    walk_at "x"
    refine w_fldS' e0 cl n1 (by decide) fun H1 o1 f1 => ?_
    walk_at "g"
    refine w_fldS' o1 cl n2 (show (1 : Nat) < 1000 by decide) fun H2 o2 f2 => ?_
    walk_at "g"
    refine w_fldS' o2 cl n3 (show (2 : Nat) < 1000 by decide) fun H3 o3 f3 => ?_
    walk_at "g"
    refine w_new fun t4 H4 ht4 e4 k4 => ?_
    have o4 := k4 _ _ o3
    walk_at "g"
    refine w_fldS' o4 cl n4 (show (3 : Nat) < 1000 by decide) fun H5 o5 f5 => ?_
    walk_at "g"
    refine w_new fun t6 H6 ht6 e6 k6 => ?_
    have o6 := k6 _ _ o5
    walk_at "g"
    refine w_fldS' o6 cl n5 (show (4 : Nat) < 1000 by decide) fun H7 o7 f7 => ?_
    walk_at "g"
    refine w_new fun t8 H8 ht8 e8 k8 => ?_
    have o8 := k8 _ _ o7
    walk_at "g"
    refine w_fldS' o8 cl n6 (show (5 : Nat) < 1000 by decide) fun H9 o9 f9 => ?_
    walk_at "g"
    refine w_new fun t10 H10 ht10 e10 k10 => ?_
    have o10 := k10 _ _ o9
    walk_at "g"
    refine w_fldS' o10 cl n7 (show (6 : Nat) < 1000 by decide) fun H11 o11 f11 => ?_
    walk_at "g"
    refine w_new fun t12 H12 ht12 e12 k12 => ?_
    have o12 := k12 _ _ o11
    walk_at "g"
    refine w_fldS' o12 cl n8 (show (7 : Nat) < 1000 by decide) fun H13 o13 f13 => ?_
    walk_at "g"
    refine w_fldS' o13 cl n9 (show (8 : Nat) < 1000 by decide) fun H14 o14 f14 => ?_
    refine q t4 H14 ⟨_, _, _, _, o14⟩ fun b o hb e => ?_
    have hb' : b ≠ te := by simpa using hb
    exact f14.get hb' (f13.get hb' (k12 _ _ (f11.get hb' (k10 _ _ (f9.get hb' (k8 _ _ (f7.get hb' (k6 _ _ (f5.get hb' (k4 _ _ (f3.get hb' (f2.get hb' (f1.get hb' e)))))))))))))
theorem ok_told {f fR fA fRi fH fN fI C_BadRow : Addr} {fd fdR fdA fdRi fdH fdN fdI : FuncData} (T : Txt K mg) (F : Fun K "told" "Teller.told" s_Teller_told f fd) (K_Book : Kl K mg "Book" C ["contents", "depths", "given"]) (K_Holding : Kl K mg "Holding" CH ["book", "row", "here"]) (K_Teller : Kl K mg "Teller" CT ["home", "seen", "hold", "greeting", "wants", "bill", "lacks", "pack", "ended"]) (D_rising_ints : Df K mg "rising_ints" s_rising_ints ["thing"] fR fdR) (D_are_ints : Df K mg "are_ints" s_are_ints ["thing"] fA fdA) (D_rise : Df K mg "rise" s_rise ["row"] fRi fdRi) (D_Holding_holds : DfM K CH "holds" "Holding.holds" s_Holding_holds ["self", "name"] fH fdH) (D_is_name : Df K mg "is_name" s_is_name ["book", "thing"] fN fdN) (D_is_int : DfD K mg "is_int" s_is_int ["thing", "least"] [.int 0] fI fdI) (X_BadRow : Exn K mg "BadRow" C_BadRow) : FnOk P w K mg base (L2.CX P w) 4 f fd ["self", "names"] (spTold P w C CH CT C_BadRow) := by
  have G_rising_ints : FnOk P w K mg base CX0 3 fR fdR ["thing"] spRisingInts := ok_risingints T D_rising_ints.fn D_are_ints D_rise D_is_int
  have G_Holding_holds : FnOk P w K mg base CX0 3 fH fdH ["self", "name"] (spHolds P w C CH) := ok_holds T D_Holding_holds.fn K_Book K_Holding D_is_name D_is_int
  have cl := K_Teller.cl
  have clH := K_Holding.cl
  have n2 := K_Teller.na "seen" (by simp)
  have g_BadRow := X_BadRow.g
  refine F.okX sc_Teller_told (fun vs H Q E h => ?_) (fun cdv A outer s H vs Q E hr h => ?_)
  · obtain ⟨te, dt, s, v, dv, p, dx, lc, ld, lg, rw', hd, hv, gv, cs, ds, hs, x, B, rfl, _⟩ := h
    rfl
  · obtain ⟨te, dt, s, v, dv, p, dx, lc, ld, lg, rw', hd, hv, gv, cs, ds, hs, x, B, rfl, ⟨wv, bv, lv, pkv, ete⟩, W, hd0, hB, q1, q2⟩ := h
    refine ⟨_,
      (pss_cons
        (ps_if (PW.pt (pw_or (pt_not (pt_val (pe_call G_rising_ints (hr.mono (by omega)) (by rfl) D_rising_ints.g D_rising_ints.fn.kp D_rising_ints.b .nil pass0 (pa_cons (pv 1) pa_nil)))) (pw_or1 (pt_not (pt_chain op_le op_le pe_int (pe_callB (r := rLen K) c_len (by rfl) T.n_len (by decide +kernel) (pa_cons (pv 1) pa_nil)) pe_int)))))
          (pss_one
            (ps_raise rfl (takes_of rfl rfl rfl rfl) (pmk_own PySem.F.excBase_ValueError X_BadRow.x X_BadRow.g X_BadRow.k (raises_own X_BadRow.b X_BadRow.t) rfl)))
          pss_nil)
      (pss_one
        (ps_ret (pe_tup (pa_cons pe_str (pa_cons (pe_callTy (r := rTupOf K) c_tupOf (by rfl) T.n_tuple (by decide +kernel) (pa_cons (pe_lc (own := [("name", 2)]) (g := (gName 2)) rfl sc_Teller_told.nd (pi_tup (pv 1)) (blkOk_by (own := [("name", 2)]) (N := N_Teller_told) (sc := defScope s_Teller_told) (by decide +kernel)) (fun _ _ _ _ _ => (pg_name (i := 2) sc_Teller_told.nd rfl (.inl rfl))) (fun _ _ _ _ _ => pts_nil) (fun _ _ _ _ _ => (pe_meth (pe_fldK (K := K) rfl (pv 0) rfl) K_Holding.cl D_Holding_holds.m G_Holding_holds (hr.mono (by omega)) D_Holding_holds.b .nil pass0 (pa_cons (pv 2) pa_nil)))) pa_nil)) pa_nil))))))
      , ?_⟩
    rw [show L2.start N_Teller_told [V.ref te, x] = [some (.ref te), some x, none] from rfl]
    refine w_seq ?_
    walk_at "x"
    refine ⟨x, B, rfl, hd0, hB, fun ns hN hup H1 k1 => ?_, fun hno H1 k1 => ?_⟩
    rotate_left
    · walk_at "g"
      exact q2 (fun ns hN h => hno ns hN h.1) H1 k1
    obtain ⟨t, rfl, et⟩ := hN
    have et1 := k1 _ _ et
    walk_at "g"
    by_cases h1 : 1 ≤ ns.length
    rotate_left
    · refine w_no (by rw [List.length_map]; omega) ?_
      walk_at "g"
      refine q2 (fun ms ⟨t', e, et'⟩ h => ?_) H1 k1
      cases e
      rw [et] at et'
      have := congrArg List.length (HO.tup.inj (Option.some.inj et'))
      rw [List.length_map, List.length_map] at this
      omega
    refine w_yes (by rw [List.length_map]; omega) ?_
    walk_at "g"
    by_cases h2 : ns.length ≤ 20
    rotate_left
    · refine w_nno (by rw [List.length_map]; omega) ?_
      walk_at "g"
      refine q2 (fun ms ⟨t', e, et'⟩ h => ?_) H1 k1
      cases e
      rw [et] at et'
      have := congrArg List.length (HO.tup.inj (Option.some.inj et'))
      rw [List.length_map, List.length_map] at this
      omega
    refine w_nyes (by rw [List.length_map]; omega) ?_
    walk_at "g"
    have W1 := W.same k1
    have ete1 := k1 _ _ ete
    refine lcp_map (walk_tup (K := K) (a := t) (xs := ns.map nV)) [] (ns.map fun n => V.bl (decide (n ∈ hs))) (by simp) (by rw [List.length_map]; omega) (fun H' k => .of (k _ _ (by simp) et1)) ?_ (by simp) ?_
    · rintro i x Ha Hb R hi ka ⟨rfl, hx⟩ hR
      obtain ⟨n, hn, rfl⟩ := map_at hx
      have Wa := W1.same ka.same
      have oba := Wa.ob
      have etea := ka.same _ _ ete1
      refine w_name ⟨rfl, ?_⟩
      walk_at "g"
      refine ⟨v, dv, p, dx, lc, ld, lg, rw', hd, cs, ds, hs, nV n, "int", rfl, Wa, .int _, fun m e hm => ?_, fun hno => ?_⟩
      · have em : n = m := by have := V.int.inj e; omega
        subst em
        exact hR _ _ (by rw [List.getElem?_map, hn]; show some (V.bl (decide _)) = _; rw [decide_eq_true hm]) Kp.refl
      · exact hR _ _ (by rw [List.getElem?_map, hn]; show some (V.bl (decide _)) = _; rw [decide_eq_false (hno n rfl)]) Kp.refl
    intro L H2 hL k2 eL
    walk_at "g"
    refine w_tupL (.of eL) fun b H3 hb e3 k3 => ?_
    walk_at "g"
    refine w_new fun a H4 ha e4 k4 => ?_
    exact q1 ns ⟨t, rfl, et⟩ hup h1 h2 H4 a b (Same.trans k1 (Same.trans k2.same (Same.trans k3 k4))) e4 (k4 _ _ e3)
theorem ok_greet {f fVw fPn fNm fEd fMk fCh : Addr} {fd fdVw fdPn fdNm fdEd fdMk fdCh : FuncData} (T : Txt K mg) (F : Fun K "greeted" "Teller.greeted" s_Teller_greeted f fd) (K_House : Kl K mg "House" CU ["book", "here", "turns", "stands", "lately", "others", "pinned"]) (K_Holding : Kl K mg "Holding" CH ["book", "row", "here"]) (K_Teller : Kl K mg "Teller" CT ["home", "seen", "hold", "greeting", "wants", "bill", "lacks", "pack", "ended"])
    (D_Store_view : DfM K CS "view" "Store.view" s_Store_view ["self"] fVw fdVw) (I_House_view : Meth K CU "view" fVw) (G_House_view : FnOk P w K mg base CX0 5 fVw fdVw ["self"] (spView P w C CH CU))
    (D_House_pin : DfM K CU "pin" "House.pin" s_House_pin ["self", "names"] fPn fdPn) (G_House_pin : FnOk P w K mg base CX0 5 fPn fdPn ["self", "names"] (spPin P w C CU CP))
    (D_Holding_names : DfM K CH "names" "Holding.names" s_Holding_names ["self"] fNm fdNm) (G_Holding_names : FnOk P w K mg base CX0 1 fNm fdNm ["self"] (spNames P w C CH))
    (D_Holding_edges : DfM K CH "edges" "Holding.edges" s_Holding_edges ["self"] fEd fdEd) (G_Holding_edges : FnOk P w K mg base CX0 6 fEd fdEd ["self"] (spEdges P w C CH))
    (D_House_marks : DfM K CU "marks" "House.marks" s_House_marks ["self"] fMk fdMk) (G_House_marks : FnOk P w K mg base CX0 1 fMk fdMk ["self"] (spMarks CU))
    (D_Store_changes : DfM K CS "changes" "Store.changes" s_Store_changes ["self"] fCh fdCh) (I_House_changes : Meth K CU "changes" fCh) (G_House_changes : FnOk P w K mg base CX0 1 fCh fdCh ["self"] (spHChanges CU)) : FnOk P w K mg base CX0 7 f fd ["self"] (spGreet P w C CH CU CT) := by
  have cl := K_Teller.cl
  have clU := K_House.cl
  have clH := K_Holding.cl
  have n1 := K_Teller.na "home" (by simp)
  have n2 := K_Teller.na "seen" (by simp)
  have n3 := K_Teller.na "hold" (by simp)
  have n4 := K_Teller.na "greeting" (by simp)
  refine F.ok sc_Teller_greeted (fun vs H Q E h => ?_) (fun cdv A outer s H vs Q E hr h => ?_)
  · obtain ⟨te, dt, s, dy, p, dx, lc, ld, lg, hd, a1, a2, a3, a4, cs, ds, k, F, xs, rfl, _⟩ := h
    rfl
  · obtain ⟨te, dt, s, dy, p, dx, lc, ld, lg, hd, a1, a2, a3, a4, cs, ds, k, F, xs, rfl, G, q⟩ := h
    obtain ⟨g0, wv, bv, lv, pkv, ete⟩ := G.te'
    have S0 := G.st
    have B0 := G.bk
    have obS := S0.ob
    obtain ⟨fk, efk⟩ := S0.here.obj
    obtain ⟨ts, tp⟩ := G.n1
    have few := B0.few
    have thd : te ≠ hd := ne_of ete efk (fun z => nomatch z)
    have tlc : te ≠ lc := ne_of ete B0.co (fun z => nomatch z)
    have tld : te ≠ ld := ne_of ete B0.de (fun z => nomatch z)
    have tlg : te ≠ lg := ne_of ete B0.gi.at' (fun z => nomatch z)
    have t1 : te ≠ a1 := ne_of ete G.m1 (fun z => nomatch z)
    have t4 : te ≠ a4 := ne_of ete G.m4 (fun z => nomatch z)
    refine ⟨_,
      (pss_cons
        (ps_if (pt_cmpR o_isN (pe_fldK (K := K) rfl (pv 0) rfl) pe_non (nomark _))
          (pss_cons
            (ps_fld (pv 0) (pe_meth0 (pe_fldK (K := K) rfl (pv 0) rfl) K_House.cl I_House_view G_House_view (hr.mono (by omega)) D_Store_view.b .nil pass0) rfl)
          (pss_cons
            (ps_fld (pv 0) (pe_meth (pe_fldK (K := K) rfl (pv 0) rfl) K_House.cl D_House_pin.m G_House_pin (hr.mono (by omega)) D_House_pin.b .nil pass0 (pa_cons (pe_callTy (r := rTupOf K) c_tupOf (by rfl) T.n_tuple (by decide +kernel) (pa_cons (pe_meth0 (pe_fldK (K := K) rfl (pv 0) rfl) K_Holding.cl D_Holding_names.m G_Holding_names (hr.mono (by omega)) D_Holding_names.b .nil pass0) pa_nil)) pa_nil)) rfl)
          (pss_cons
            (ps_set (i := 1) sc_Teller_greeted.nd rfl (.inl rfl) (pe_callTy (r := rTupOf K) c_tupOf (by rfl) T.n_tuple (by decide +kernel) (pa_cons (pe_meth0 (pe_fldK (K := K) rfl (pv 0) rfl) K_Holding.cl D_Holding_edges.m G_Holding_edges (hr.mono (by omega)) D_Holding_edges.b .nil pass0) pa_nil)))
          (pss_one
            (ps_fld (pv 0) (pe_tup (pa_cons pe_str (pa_cons (pe_callTy (r := rTupOf K) c_tupOf (by rfl) T.n_tuple (by decide +kernel) (pa_cons (pe_meth0 (pe_fldK (K := K) rfl (pv 0) rfl) K_House.cl D_House_marks.m G_House_marks (hr.mono (by omega)) D_House_marks.b .nil pass0) pa_nil)) (pa_cons (pv 1) (pa_cons (pe_meth0 (pe_fldK (K := K) rfl (pv 0) rfl) K_House.cl I_House_changes G_House_changes (hr.mono (by omega)) D_Store_changes.b .nil pass0) pa_nil))))) rfl)))))
          pss_nil)
      (pss_one
        (ps_ret (pe_fldK (K := K) rfl (pv 0) rfl))))
      , ?_⟩
    rw [show L2.start N_Teller_greeted [V.ref te] = [some (.ref te), none] from rfl]
    refine w_seq ?_
    walk_at "x"
    try rw [show decide (V.non = V.non) = true from rfl]
    walk_at "g"
    refine ⟨s, dy, p, dx, lc, ld, lg, hd, cs, ds, hrs a1 a2 a3 a4, k, F, rfl, rfl, S0, B0, G.lt, fun v dv rw1 hv1 hs1 H1 hv0 hrw0 hhv0 W1 hm1 k1 => ?_⟩
    have ete1 := k1 _ _ ete
    have tv : te ≠ v := ne_of_none ete hv0
    have trw : te ≠ rw1 := ne_of_none ete hrw0
    have thv : te ≠ hv1 := ne_of_none ete hhv0
    walk_at "g"
    refine w_fldS' ete1 cl n2 (show (9 : Nat) < 1000 by decide) fun H2 o2 f2 => ?_
    have o2' : H2 te = some (.ins CT dt [("home", .ref s), ("seen", .ref v), ("hold", .non), ("greeting", .ref g0), ("wants", wv), ("bill", bv), ("lacks", lv), ("pack", pkv), ("ended", .bl false)]) := o2
    clear o2
    have kt2 : KT H1 H2 := KT.offI f2 ete1
    have W2 : ViewAt P w C CH H2 v dv p dx lc ld lg rw1 hv1 cs ds hs1 := W1.kp (M := [te]) (f2.kp (by simp)) kt2 (by simpa using tv.symm) (by simpa using trw.symm) (by simpa using thv.symm) (by simpa using tp.symm) (by simpa using tlc.symm) (by simpa using tld.symm) (by simpa using tlg.symm)
    have S2 := (S0.same k1).kp (M := [te]) (f2.kp (by simp)) (by simpa using ts.symm) (by simpa using thd.symm)
    have m12 := f2.get t1.symm (k1 _ _ G.m1)
    have m42 := f2.get t4.symm (k1 _ _ G.m4)
    have ob2 := W2.ob
    have obS2 := S2.ob
    walk_at "g"
    refine ⟨v, dv, p, dx, lc, ld, lg, rw1, hv1, cs, ds, hs1, rfl, W2, fun nl H3 hnl e3 k3 => ?_⟩
    walk_at "g"
    refine w_tupL (.of e3) fun tn H4 htn e4 k4 => ?_
    have k24 := Same.trans k3 k4
    have W4 := W2.same k24
    have S4 := S2.same k24
    have hsl : hs1.length ≤ 400 := by
      have := rise_len hs1 0 cs.length W4.up (fun _ _ => Nat.zero_le _) W4.in' (Nat.zero_le _)
      omega
    have obS4 := S4.ob
    walk_at "g"
    refine ⟨s, dy, p, dx, lc, ld, lg, hd, a1, a2, a3, a4, tn, cs, ds, k, F, hs1, xs, rfl, S4, W4.bk, e4, fun n hn => ⟨W4.in' n hn, (hm1 n).mp hn⟩, by omega, k24 _ _ m42, Nat.le_trans G.ml (by decide), fun z dz od H5 hz hod P5 e5 k5 kt5 => ?_⟩
    have te4 : te ∉ [a4] := by simpa using t4
    have ete5 := k5 _ _ te4 (k24 _ _ o2')
    have va4 : v ≠ a4 := ne_of W4.ob (k24 _ _ m42) (fun z => nomatch z)
    have hz0 : H z = none := by
      have h1 : H2 z = none := k24.free hz
      cases e : H z with
      | none => rfl
      | some o =>
        by_cases hzt : z = te
        · rw [hzt, o2'] at h1
          cases h1
        · rw [f2.get hzt (k1 _ _ e)] at h1
          cases h1
    walk_at "g"
    refine w_fldS' ete5 cl n3 (show (9 : Nat) < 1000 by decide) fun H6 o6 f6 => ?_
    have o6' : H6 te = some (.ins CT dt [("home", .ref s), ("seen", .ref v), ("hold", .ref z), ("greeting", .ref g0), ("wants", wv), ("bill", bv), ("lacks", lv), ("pack", pkv), ("ended", .bl false)]) := o6
    clear o6
    have tz : te ≠ z := ne_of_none ete hz0
    have k46 : Kp [te, a4] H4 H6 := fun b o hb e => by
      simp only [List.mem_cons, List.not_mem_nil, or_false, not_or] at hb
      exact f6.get hb.1 (k5 _ _ (by simpa using hb.2) e)
    have kt46 : KT H4 H6 := kt5.trans (KT.offI f6 ete5)
    have nn : ∀ {a : Addr}, te ≠ a → a4 ≠ a → a ∉ [te, a4] := fun {a} h1 h2 => by
      simp only [List.mem_cons, List.not_mem_nil, or_false, not_or]
      exact ⟨h1.symm, h2.symm⟩
    have m44 := k24 _ _ m42
    have W6 : ViewAt P w C CH H6 v dv p dx lc ld lg rw1 hv1 cs ds hs1 := by
      obtain ⟨kvs, gh, _⟩ := W4.here
      exact W4.kp k46 kt46 (nn tv va4.symm) (nn trw (fun z => by
        rw [← z] at hrw0
        rw [G.m4] at hrw0
        cases hrw0)) (nn thv (ne_of m44 gh (fun z => nomatch z))) (nn tp (ne_of m44 W4.bk.ob (fun z => nomatch z))) (nn tlc G.n2.1.symm) (nn tld G.n2.2.symm) (nn tlg (ne_of m44 W4.bk.gi.at' (fun z => nomatch z)))
    have S6 := S4.kp k46 (nn ts (ne_of m44 S4.ob (fun z => nomatch z))) (nn thd (by
      obtain ⟨fk4, efk4⟩ := S4.here.obj
      exact ne_of m44 efk4 (fun z => nomatch z)))
    have m16 := k46 _ _ (nn t1 (ne_of m44 (k24 _ _ m12) (fun z => nomatch z))) (k24 _ _ m12)
    have m46 := f6.get t4.symm e5
    have ob6 := W6.ob
    have obS6 := S6.ob
    walk_at "g"
    refine ⟨v, dv, p, dx, lc, ld, lg, rw1, hv1, cs, ds, hs1, rfl, W6, G.ok, fun el H7 hel e7 k7 => ?_⟩
    walk_at "g"
    refine w_tupL (.of e7) fun te8 H8 hte8 e8 k8 => ?_
    have k68 := Same.trans k7 k8
    have ete8 := k68 _ _ o6'
    have S8 := S6.same k68
    have obS8 := S8.ob
    walk_at "g"
    refine ⟨s, dy, p, hd, a1, a2, a3, a4, k, F, [], rfl, S8, k68 _ _ m16, by simp, fun H9 ml ts9 k9 hml e9 _ _ _ => ?_⟩
    walk_at "g"
    refine w_tupL (.of e9) fun mt H10 hmt e10 k10 => ?_
    have k610 := Same.trans k68 (Same.trans k9 k10)
    have ete10 := k610 _ _ o6'
    have S10 := S6.same k610
    have obS10 := S10.ob
    walk_at "g"
    refine ⟨s, dy, p, hd, hrs a1 a2 a3 a4, k, F, rfl, S10, ?_⟩
    walk_at "g"
    refine w_new fun gr H11 hgr e11 k11 => ?_
    have k611 := Same.trans k610 k11
    have ete11 := k611 _ _ o6'
    walk_at "g"
    refine w_fldS' ete11 cl n4 (show (9 : Nat) < 1000 by decide) fun H12 o12 f12 => ?_
    have o12' : H12 te = some (.ins CT dt [("home", .ref s), ("seen", .ref v), ("hold", .ref z), ("greeting", .ref gr), ("wants", wv), ("bill", bv), ("lacks", lv), ("pack", pkv), ("ended", .bl false)]) := o12
    clear o12
    walk_at "g"
    have k612 : Kp [te, a4] H6 H12 := fun b o hb e => by
      simp only [List.mem_cons, List.not_mem_nil, or_false, not_or] at hb
      exact f12.get hb.1 (k611 _ _ e)
    have kt612 : KT H6 H12 := (KT.of k611).trans (KT.offI f12 ete11)
    have W12 : ViewAt P w C CH H12 v dv p dx lc ld lg rw1 hv1 cs ds hs1 := (W6.same k611).kp (M := [te]) (f12.kp (by simp)) (KT.offI f12 ete11) (by simpa using tv.symm) (by simpa using trw.symm) (by simpa using thv.symm) (by simpa using tp.symm) (by simpa using tlc.symm) (by simpa using tld.symm) (by simpa using tlg.symm)
    have S12 := (S6.same k611).kp (M := [te]) (f12.kp (by simp)) (by simpa using ts.symm) (by simpa using thd.symm)
    refine q v dv rw1 hv1 z gr hs1 H12 hv0 hrw0 hhv0 hz0 ⟨_, _, _, _, o12'⟩ W12 hm1 S12 (f12.get t4.symm (k611 _ _ m46)) (fun b o hb e => ?_) ?_
    · have hb2 := hb
      simp only [List.mem_cons, List.not_mem_nil, or_false, not_or] at hb2
      exact k612 _ _ hb (k46 _ _ hb (k24 _ _ (f2.get hb2.1 (k1 _ _ e))))
    · exact ((KT.of k1).trans kt2).trans ((KT.of k24).trans (kt46.trans kt612))
theorem ok_answer {f fGr fTd C_BadRow : Addr} {fd fdGr fdTd : FuncData} (T : Txt K mg) (F : Fun K "answer" "Teller.answer" s_Teller_answer f fd) (K_Teller : Kl K mg "Teller" CT ["home", "seen", "hold", "greeting", "wants", "bill", "lacks", "pack", "ended"])
    (D_Teller_greeted : DfM K CT "greeted" "Teller.greeted" s_Teller_greeted ["self"] fGr fdGr) (G_Teller_greeted : FnOk P w K mg base CX0 7 fGr fdGr ["self"] (spGreet P w C CH CU CT))
    (D_Teller_told : DfM K CT "told" "Teller.told" s_Teller_told ["self", "names"] fTd fdTd) (G_Teller_told : FnOk P w K mg base (L2.CX P w) 4 fTd fdTd ["self", "names"] (spTold P w C CH CT C_BadRow)) (X_BadRow : Exn K mg "BadRow" C_BadRow) : FnOk P w K mg base (L2.CX P w) 8 f fd ["self", "row"] (spAnswer P w K C CH CU CT C_BadRow) := by
  have cl := K_Teller.cl
  have n1 := K_Teller.na "home" (by simp)
  have n2 := K_Teller.na "seen" (by simp)
  have n9 := K_Teller.na "ended" (by simp)
  have g_BadRow := X_BadRow.g
  refine F.okX sc_Teller_answer (fun vs H Q E h => ?_) (fun cdv A outer s H vs Q E hr h => ?_)
  · obtain ⟨te, r, rfl, _⟩ := h
    rfl
  · obtain ⟨te, r, rfl, h⟩ := h
    refine ⟨_,
      (pss_cons
        (ps_if (PW.pt (pw_or (pt_not (pt_val (pe_callB (r := rIsi K) call_isi (by rfl) T.n_isinstance (by decide +kernel) (pa_cons (pv 1) (pa_cons (pe_bltn (v := .ty "tuple") (u := .type "tuple") (by rfl) T.n_tuple (by decide +kernel) rfl) pa_nil))))) (pw_or (pt_cmpR op_eq (pe_callB (r := rLen K) c_len (by rfl) T.n_len (by decide +kernel) (pa_cons (pv 1) pa_nil)) pe_int (nomark _)) (pw_or1 (pt_not (pt_val (pe_callB (r := rIsi K) call_isi (by rfl) T.n_isinstance (by decide +kernel) (pa_cons (pe_ix (r := rIxT K) ix_tup (pv 1) pe_int (fun _ _ => rfl)) (pa_cons (pe_bltn (v := .ty "str") (u := .type "str") (by rfl) T.n_str (by decide +kernel) rfl) pa_nil)))))))))
          (pss_one
            (ps_raise rfl (takes_of rfl rfl rfl rfl) (pmk_own PySem.F.excBase_ValueError X_BadRow.x X_BadRow.g X_BadRow.k (raises_own X_BadRow.b X_BadRow.t) rfl)))
          pss_nil)
      (pss_cons
        (ps_if (PW.pt (pw_and (pt_cmpR (r := rEqD K) (op_eqD hr.units) (pv 1) (pe_tup (pa_cons pe_str pa_nil)) (nomark _)) (pw_and1 (pt_cmpR o_notN (pe_fldK (K := K) rfl (pv 0) rfl) pe_non (nomark _)))))
          pss_never
          pss_nil)
      (pss_cons
        (ps_if (PW.pt (pw_or (pt_val (pe_fldK (K := K) rfl (pv 0) rfl)) (pw_or1 (PW.pt (pw_and (pt_cmpR o_isN (pe_fldK (K := K) rfl (pv 0) rfl) pe_non (nomark _)) (pw_and1 (pt_cmpR (r := rNeD K) (op_neD hr.units) (pv 1) (pe_tup (pa_cons pe_str pa_nil)) (nomark _))))))))
          (pss_one
            (ps_raise rfl (takes_of rfl rfl rfl rfl) (pmk_own PySem.F.excBase_ValueError X_BadRow.x X_BadRow.g X_BadRow.k (raises_own X_BadRow.b X_BadRow.t) rfl)))
          pss_nil)
      (pss_cons
        (ps_if (pt_cmpR (r := rEqD K) (op_eqD hr.units) (pv 1) (pe_tup (pa_cons pe_str pa_nil)) (nomark _))
          (pss_one
            (ps_ret (pe_meth0 (pv 0) K_Teller.cl D_Teller_greeted.m G_Teller_greeted (hr.mono (by omega)) D_Teller_greeted.b .nil pass0)))
          pss_nil)
      (pss_cons
        (ps_if (PW.pt (pw_and (pt_cmpR op_eq (pe_ix (r := rIxT K) ix_tup (pv 1) pe_int (fun _ _ => rfl)) pe_str (nomark _)) (pw_and1 (pt_cmpR op_eq (pe_callB (r := rLen K) c_len (by rfl) T.n_len (by decide +kernel) (pa_cons (pv 1) pa_nil)) pe_int (nomark _)))))
          (pss_one
            (ps_ret (pe_meth (pv 0) K_Teller.cl D_Teller_told.m G_Teller_told (hr.mono (by omega)) D_Teller_told.b .nil (passes_call (takes_of rfl rfl rfl rfl) (fun _ _ _ _ h => h)) (pa_cons (pe_ix (r := rIxT K) ix_tup (pv 1) pe_int (fun _ _ => rfl)) pa_nil))))
          pss_nil)
      pss_never)))))
      , ?_⟩
    rw [show L2.start N_Teller_answer [V.ref te, V.ref r] = [some (.ref te), some (.ref r)] from rfl]
    have dh : ∀ {H : Hp} {z : Addr} {t : Str}, H z = some (.tup [.str t]) → Dp K H (.ref z) (.tuple [.str t]) := fun e => .tup (.of e) (.cons (.str _) .nil)
    rcases h with ⟨dt, s, dy, p, dx, lc, ld, lg, hd, a1, a2, a3, a4, cs, ds, k, F, xs, er, G, q⟩ | ⟨dt, s, x, d, er, dpx, sh, h⟩
    · obtain ⟨g0, wv, bv, lv, pkv, ete⟩ := G.te'
      have at0 : atI [V.str "hello"] 0 = some (.str "hello") := rfl
      refine w_seq ?_
      walk_at "x"
      refine w_no (by simp) ?_
      walk_at "g"
      refine w_seq ?_
      walk_at "g"
      refine w_new fun z1 H1 hz1 e1 k1 => ?_
      have er1 := k1 _ _ er
      have ete1 := k1 _ _ ete
      refine ⟨_, _, dh er1, dh e1, one_sh _ (by decide +kernel), one_sh _ (by decide +kernel), ?_⟩
      rw [show PyData.eqv (.tuple [.str (Str.ofString "hello")]) (.tuple [.str (Str.ofString "done")]) = false by decide +kernel]
      walk_at "g"
      refine w_seq ?_
      walk_at "g"
      try rw [show decide (V.non = V.non) = true from rfl]
      walk_at "g"
      refine w_new fun z2 H2 hz2 e2 k2 => ?_
      have er2 := k2 _ _ er1
      have ete2 := k2 _ _ ete1
      refine ⟨_, _, dh er2, dh e2, one_sh _ (by decide +kernel), one_sh _ (by decide +kernel), ?_⟩
      rw [show PyData.eqv (.tuple [.str (Str.ofString "hello")]) (.tuple [.str (Str.ofString "hello")]) = true by decide +kernel]
      walk_at "g"
      refine w_seq ?_
      walk_at "g"
      refine w_new fun z3 H3 hz3 e3 k3 => ?_
      have er3 := k3 _ _ er2
      have ete3 := k3 _ _ ete2
      refine ⟨_, _, dh er3, dh e3, one_sh _ (by decide +kernel), one_sh _ (by decide +kernel), ?_⟩
      rw [show PyData.eqv (.tuple [.str (Str.ofString "hello")]) (.tuple [.str (Str.ofString "hello")]) = true by decide +kernel]
      walk_at "g"
      have k03 := Same.trans k1 (Same.trans k2 k3)
      exact ⟨te, dt, s, dy, p, dx, lc, ld, lg, hd, a1, a2, a3, a4, cs, ds, k, F, xs, rfl, G.same k03, q H3 k03⟩
    · obtain ⟨sv, hv, gv, ete⟩ : ∃ sv hv gv, TeAt CT H te dt s sv hv gv := by
        rcases h with ⟨⟨gv, e⟩, _⟩ | ⟨v, _, _, _, _, _, _, _, _, hv, gv, _, _, _, _, e, _⟩
        · exact ⟨_, _, _, e⟩
        · exact ⟨_, _, _, e⟩
      obtain ⟨wv, bv, lv, pkv, ete⟩ := ete
      have at0 : atI [V.str "have", x] 0 = some (.str "have") := rfl
      have at1 : atI [V.str "have", x] 1 = some x := rfl
      have dr : ∀ {H' : Hp}, Same H H' → Dp K H' (.ref r) (.tuple [.str "have", d]) := fun {H'} k => .tup (.of (k _ _ er)) (.cons (.str _) (.cons (dp_same k dpx) .nil))
      refine w_seq ?_
      walk_at "x"
      refine w_no (by simp) ?_
      walk_at "g"
      refine w_seq ?_
      walk_at "g"
      refine w_new fun z1 H1 hz1 e1 k1 => ?_
      have er1 := k1 _ _ er
      have ete1 := k1 _ _ ete
      refine ⟨_, _, dr k1, dh e1, sh, one_sh _ (by decide +kernel), ?_⟩
      have ne1 : ∀ t : Str, t ≠ Str.ofString "have" → PyData.eqv (.tuple [.str (Str.ofString "have"), d]) (.tuple [.str t]) = false := fun t ht => by
        rw [PyData.eqv, PyData.eqvAll, show PyData.eqvAll [d] [] = false by rw [PyData.eqvAll], Bool.and_false]
      rw [ne1 _ (by decide +kernel)]
      walk_at "g"
      refine w_seq ?_
      walk_at "g"
      rcases h with ⟨⟨gv', ete'⟩, hE⟩ | ⟨v, dv, p, dx, lc, ld, lg, rw', hd, hv', gv', cs, ds, hs, B, ete', W, hdt, hB, hq⟩
      · obtain ⟨_, _, _, _, ete'⟩ := ete'
        rw [ete] at ete'
        injection (Option.some.inj ete') with _ _ efs
        injection efs with _ efs
        injection efs with esv _
        have esv' : sv = .non := (Prod.mk.inj esv).2
        subst esv'
        try rw [show decide (V.non = V.non) = true from rfl]
        walk_at "g"
        refine w_new fun z2 H2 hz2 e2 k2 => ?_
        have k02 := Same.trans k1 k2
        refine ⟨_, _, dr k02, dh e2, sh, one_sh _ (by decide +kernel), ?_⟩
        rw [ne1 _ (by decide +kernel)]
        walk_at "g"
        exact hE H2 k02
      · obtain ⟨_, _, _, _, ete'⟩ := ete'
        rw [ete] at ete'
        injection (Option.some.inj ete') with _ _ efs
        injection efs with _ efs
        injection efs with esv _
        have esv' : sv = .ref v := (Prod.mk.inj esv).2
        subst esv'
        try rw [decide_eq_false (fun z : V.ref v = V.non => nomatch z)]
        walk_at "g"
        refine w_seq ?_
        walk_at "g"
        refine w_new fun z2 H2 hz2 e2 k2 => ?_
        have k02 := Same.trans k1 k2
        have er2 := k02 _ _ er
        have ete2 := k02 _ _ ete
        refine ⟨_, _, dr k02, dh e2, sh, one_sh _ (by decide +kernel), ?_⟩
        rw [ne1 _ (by decide +kernel)]
        walk_at "g"
        refine w_seq ?_
        walk_at "g"
        refine w_yes rfl ?_
        walk_at "g"
        refine w_yes rfl ?_
        walk_at "g"
        refine ⟨te, dt, s, v, dv, p, dx, lc, ld, lg, rw', hd, hv, gv, cs, ds, hs, x, B, rfl, ⟨wv, bv, lv, pkv, ete2⟩, W.same k02, hdt.kd (KD.of k02), hB, ?_⟩
        exact hq H2 k02
end
local macro_rules | `(tactic| walk_at "s") => `(tactic| first
  | with_reducible refine w_lstRgF ?_
  | with_reducible refine w_tupRg ?_
  | with_reducible refine w_rg1F ?_
  | with_reducible refine w_rg1F' ?_
  )
/-! ### draws of any bound; rows that are asked, bent ones -/
def spDrawW : Sp := fun vs H Q _ => ∃ (d c : Addr) (n : Nat) (m : Int), vs = [.ref d, .int m] ∧ Deck H d c n ∧ n < MOSTD ∧ 0 < m ∧ m < 2 ^ 128 ∧
  ∀ (i : Nat) H', (i : Int) < m → Deck H' d c (n + 1) → Off d H H' → Q (.int i) H'
theorem w_drawW {H : Hp} {Q : VK} {E : XK} {d c : Addr} {n : Nat} {m : Int} (D : Deck H d c n) (hn : n < MOSTD) (h0 : 0 < m) (h1 : m < 2 ^ 128) (h : ∀ (i : Nat) H', (i : Int) < m → Deck H' d c (n + 1) → Off d H H' → Q (.int i) H') : spDrawW ([V.ref d, V.int m] ++ []) H Q E := ⟨d, c, n, m, rfl, D, hn, h0, h1, h⟩
theorem NatsV.back {B : Nat} {H H1 : Hp} {x : V} {ns : List Nat} (h : NatsV H1 x ns) (k : Same H H1) (d : DatT B H x) : NatsV H x ns := by
  obtain ⟨a, rfl, e⟩ := h
  exact ⟨a, rfl, d.back k e⟩
def spLBad (P : Program) (w : World) (K : PySem.W.Frag) (C CH CT : Addr) : Sp := fun vs H Q _ => ∃ (te r dt s : Addr) (x : V) (d : PyData), vs = [.ref te, .ref r] ∧ H r = some (.tup [.str "have", x]) ∧ Dp K H x d ∧ SeqAt.shaped (.tuple [.str "have", d]) = true ∧ ((∃ gv, TeAt CT H te dt s .non .non gv) ∨
    ∃ (v dv p dx lc ld lg rw' hd : Addr) (hv gv : V) (cs : List (Addr × Ct)) (ds hs : List Nat) (B : Nat), TeAt CT H te dt s (.ref v) hv gv ∧ ViewAt P w C CH H v dv p dx lc ld lg rw' hd cs ds hs ∧ DatT B H x ∧ B ≤ 1000 ∧ ∀ ns, NatsV H x ns → ¬ (ns.Pairwise (· < ·) ∧ 1 ≤ ns.length ∧ ns.length ≤ 20)) ∧ ∀ H', Same H H' → Q (.bl true) H'
def spLAsks : Sp := fun vs H Q _ => ∃ (d c : Addr) (n m : Nat), vs = [.ref d, nV m] ∧ Deck H d c n ∧ n + 30 ≤ MOSTD ∧
  ∀ (H' : Hp) (t : Addr) (ns : List Nat), Deck H' d c (n + 30) → KX d H H' → H' t = some (.tup (ns.map nV)) → ns.Pairwise (· < ·) → 1 ≤ ns.length → ns.length ≤ 20 → Q (.ref t) H'
theorem atI_m1T {xs : List V} {y : V} (h : 0 < xs.length) (e : xs[xs.length - 1]? = some y) : atI xs (-1) = some y := by
  unfold atI ixN
  rw [if_neg (by omega), if_pos (by omega), show (-1 + (xs.length : Int)).toNat = xs.length - 1 by omega]
  exact e
theorem ixN_natB {n j : Nat} (h : j < n) : ixN n (j : Int) = some j := by
  unfold ixN
  rw [if_pos (by omega), if_pos (by omega)]
  simp
theorem ixN_m1 {n : Nat} (h : 0 < n) : ixN n (-1) = some (n - 1) := by
  unfold ixN
  rw [if_neg (by omega), if_pos (by omega)]
  congr 1
  omega
/-- what is no row of names -/
def BentV (K : PySem.W.Frag) (H : Hp) (x : V) : Prop := (∃ d, Dp K H x d ∧ SeqAt.shaped (.tuple [.str "have", d]) = true) ∧ DatT 1000 H x ∧ ∀ ns, NatsV H x ns → ¬ (ns.Pairwise (· < ·) ∧ 1 ≤ ns.length ∧ ns.length ≤ 20)
theorem have_sh {d : PyData} (h1 : PyData.canLay0 d = true) (h2 : PyData.depth d ≤ 3) : SeqAt.shaped (.tuple [.str "have", d]) = true := by
  unfold SeqAt.shaped
  rw [Bool.and_eq_true_iff]
  refine ⟨?_, decide_eq_true ?_⟩
  · simp only [PyData.canLay0, PyData.canLayAll0, h1]
    have : PyData.strOk (Str.ofString "have") = true := by decide +kernel
    rw [this]
    rfl
  · simp only [PyData.depth, PyData.depthAll]
    omega
theorem dpAll_set {K : PySem.W.Frag} {H : Hp} {y : V} {d : PyData} (hy : Dp K H y d) : ∀ (ns : List Nat) (at' : Nat), DpAll K H ((ns.map nV).set at' y) ((ns.map fun n : Nat => PyData.int (n : Int)).set at' d)
  | [], _ => .nil
  | n :: r, 0 => .cons hy (dp_nats r)
  | n :: r, k + 1 => .cons (.int _) (dpAll_set hy r k)
theorem lay_set {d : PyData} (h1 : PyData.canLay0 d = true) (h2 : PyData.depth d ≤ 2) : ∀ (ns : List Nat) (at' : Nat), PyData.canLayAll0 ((ns.map fun n : Nat => PyData.int (n : Int)).set at' d) = true ∧ PyData.depthAll ((ns.map fun n : Nat => PyData.int (n : Int)).set at' d) ≤ 2
  | [], _ => ⟨rfl, show PyData.depthAll [] ≤ 2 by decide⟩
  | n :: r, 0 => by
    obtain ⟨g1, g2⟩ := nats_lay r
    refine ⟨?_, ?_⟩
    · rw [List.map_cons, List.set_cons_zero, PyData.canLayAll0, h1, g1]
      rfl
    · rw [List.map_cons, List.set_cons_zero, PyData.depthAll]
      omega
  | n :: r, k + 1 => by
    obtain ⟨g1, g2⟩ := lay_set h1 h2 r k
    refine ⟨?_, ?_⟩
    · rw [List.map_cons, List.set_cons_succ, PyData.canLayAll0, g1, PyData.canLay0]
      rfl
    · rw [List.map_cons, List.set_cons_succ, PyData.depthAll, PyData.depth]
      omega
/-- a tuple with a thing that is no name -/
theorem bent_set {K : PySem.W.Frag} {H : Hp} {t : Addr} {ns : List Nat} {at' : Nat} {y : V} {d : PyData} (e : H t = some (.tup ((ns.map nV).set at' y))) (hat : at' < ns.length) (hl : ns.length ≤ 20) (hy : Dp K H y d) (h1 : PyData.canLay0 d = true) (h2 : PyData.depth d ≤ 1) (dt : DatT 1000 H y) (hno : ∀ n : Nat, y ≠ nV n) : BentV K H (.ref t) := by
  obtain ⟨g1, g2⟩ := lay_set h1 (by omega) ns at'
  refine ⟨⟨.tuple _, .tup (.of e) (dpAll_set hy ns at'), have_sh (by rw [PyData.canLay0]; exact g1) (by rw [PyData.depth]; omega)⟩, .tup e (by rw [List.length_set, List.length_map]; omega) fun z hz => ?_, ?_⟩
  · rcases List.mem_or_eq_of_mem_set hz with h | h
    · obtain ⟨n, _, rfl⟩ := List.mem_map.mp h
      exact .leaf (.int _) (by decide) (fun z h => nomatch h)
    · rw [h]
      exact dt
  · rintro ms ⟨t', e', et'⟩ _
    cases e'
    rw [e] at et'
    have h3 := HO.tup.inj (Option.some.inj et')
    have h4 : ((ns.map nV).set at' y)[at']? = some y := List.getElem?_set_self (by rw [List.length_map]; exact hat)
    rw [h3, List.getElem?_map] at h4
    obtain ⟨n, _, hn⟩ := Option.map_eq_some_iff.mp h4
    exact hno n hn.symm
theorem bent_leaf {K : PySem.W.Frag} {H : Hp} {y : V} {d : PyData} {a : String} (hy : Dp K H y d) (h1 : PyData.canLay0 d = true) (h2 : PyData.depth d ≤ 3) (ty : Ty H y a) (ha : a ≠ "tuple") (hs : ∀ z, y = .str z → z.length ≤ 1000) : BentV K H y :=
  ⟨⟨d, hy, have_sh h1 h2⟩, .leaf ty ha hs, by
    rintro ns ⟨t, rfl, et⟩ _
    cases ty with
    | lst e => rw [e] at et; cases et
    | tup e => exact ha rfl
    | dK e => rw [e] at et; cases et⟩
theorem bent_nats {K : PySem.W.Frag} {H : Hp} {t : Addr} {ns : List Nat} (e : H t = some (.tup (ns.map nV))) (hl : ns.length ≤ 1000) (h : ¬ (ns.Pairwise (· < ·) ∧ 1 ≤ ns.length ∧ ns.length ≤ 20)) : BentV K H (.ref t) := by
  obtain ⟨g1, g2⟩ := nats_lay ns
  refine ⟨⟨.tuple _, .tup (.of e) (dp_nats ns), have_sh (by rw [PyData.canLay0]; exact g1) (by rw [PyData.depth]; omega)⟩, .tup e (by rw [List.length_map]; omega) fun z hz => ?_, ?_⟩
  · obtain ⟨n, _, rfl⟩ := List.mem_map.mp hz
    exact .leaf (.int _) (by decide) (fun z h => nomatch h)
  · rintro ms ⟨t', e', et'⟩ h2
    cases e'
    rw [e] at et'
    have h3 := HO.tup.inj (Option.some.inj et')
    have : ns = ms := by
      have := congrArg (List.map fun v : V => match v with | .int i => i.toNat | _ => 0) h3
      rw [List.map_map, List.map_map] at this
      simpa [Function.comp_def] using this
    rw [← this] at h2
    exact h h2
theorem cut_last1 (n0 : List Nat) (ne : Nat) : cutV ((n0 ++ [ne]).map nV) (some (-1)) none = [nV ne] := by
  have hl : ((n0 ++ [ne]).map nV).length = n0.length + 1 := by simp
  show (((n0 ++ [ne]).map nV).drop (if (-1 : Int) < 0 then ((-1 : Int) + (((n0 ++ [ne]).map nV).length : Int)).toNat else min (-1 : Int).toNat ((n0 ++ [ne]).map nV).length)).take (((n0 ++ [ne]).map nV).length - (if (-1 : Int) < 0 then ((-1 : Int) + (((n0 ++ [ne]).map nV).length : Int)).toNat else min (-1 : Int).toNat ((n0 ++ [ne]).map nV).length)) = _
  rw [if_pos (by decide), hl, show ((-1 : Int) + ((n0.length + 1 : Nat) : Int)).toNat = n0.length by omega, List.map_append, List.drop_append_of_le_length (by simp), show n0.length + 1 - n0.length = 1 by omega, List.drop_eq_nil_of_le (by simp)]
  rfl
def spLBent (K : PySem.W.Frag) : Sp := fun vs H Q _ => ∃ (d c t : Addr) (n : Nat) (ns : List Nat), vs = [.ref d, .ref t] ∧ Deck H d c n ∧ n + 10 ≤ MOSTD ∧ H t = some (.tup (ns.map nV)) ∧ ns.Pairwise (· < ·) ∧ 1 ≤ ns.length ∧ ns.length ≤ 20 ∧
  ∀ (H' : Hp) (x : V), Deck H' d c (n + 10) → KX d H H' → BentV K H' x → Q x H'
section
variable {P : Program} {w : World} {K : PySem.W.Frag} {mg : Str → Option Value} {base : Heap} {C CH CS CU CP CT : Addr}
theorem ok_drawW {f fM : Addr} {fd fdM : FuncData} (T : Txt K mg) (F : Fun K "_law_draw" "_law_draw" s_law_draw f fd) (D_law_mixed : Df K mg "_law_mixed" s_law_mixed ["_law_cell", "_law_turn"] fM fdM) : FnOk P w K mg base CX0 2 f fd ["_law_deck_here", "_law_many"] spDrawW := by
  have G_law_mixed : FnOk P w K mg base CX0 1 fM fdM ["_law_cell", "_law_turn"] spMixed := ok_mixed T D_law_mixed.fn
  refine F.ok sc_law_draw (fun vs H Q E h => ?_) (fun cdv A outer s H vs Q E hr h => ?_)
  · obtain ⟨d, c, n, m, rfl, _⟩ := h
    rfl
  · obtain ⟨d, c, n, m, rfl, ⟨⟨cs, a, b, t, e1, e2, e3⟩, ne⟩, hn, hm, hm2, q⟩ := h
    have hn' : t < 1099511627776 := Nat.lt_of_le_of_lt e3 hn
    refine ⟨_,
      (pss_cons
        (ps_set (i := 2) sc_law_draw.nd rfl (.inl rfl) (pe_ix (r := rIxL K) ix_list (pv 0) pe_int (fun _ _ => rfl)))
      (pss_cons
        (ps_asg (pe_op op_add (pe_ix (r := rIxL K) ix_list (pv 0) pe_int (fun _ _ => rfl)) pe_int) (pg_sub (pv 0) pe_int set_list))
      (pss_cons
        (ps_if (PW.pt (pw_and (pt_cmpR op_eq (pe_ix (r := rIxL K) ix_list (pv 0) pe_int (fun _ _ => rfl)) pe_int (nomark _)) (pw_and1 (pt_cmpR op_lt (pe_ix (r := rIxL K) ix_list (pv 0) pe_int (fun _ _ => rfl)) (pe_callB (r := rLen K) c_len (by rfl) T.n_len (by decide +kernel) (pa_cons (pv 2) pa_nil)) (nomark _)))))
          (pss_cons
            (ps_asg (pe_op op_add (pe_ix (r := rIxL K) ix_list (pv 0) pe_int (fun _ _ => rfl)) pe_int) (pg_sub (pv 0) pe_int set_list))
          (pss_cons
            (ps_if (pt_cmpR op_lt (pe_ix (r := rIxL K) ix_list (pv 2) (pe_op op_sub (pe_ix (r := rIxL K) ix_list (pv 0) pe_int (fun _ _ => rfl)) pe_int) (fun _ _ => rfl)) (pe_op op_pow pe_int pe_int) (nomark _))
              (pss_one
                (ps_ret (pe_op op_mod (pe_call G_law_mixed (hr.mono (by omega)) (by rfl) D_law_mixed.g D_law_mixed.fn.kp D_law_mixed.b .nil pass0 (pa_cons (pe_ix (r := rIxL K) ix_list (pv 2) (pe_op op_sub (pe_ix (r := rIxL K) ix_list (pv 0) pe_int (fun _ _ => rfl)) pe_int) (fun _ _ => rfl)) (pa_cons (pe_ix (r := rIxL K) ix_list (pv 0) pe_int (fun _ _ => rfl)) pa_nil))) (pv 1))))
              pss_nil)
          (pss_one
            (ps_asg (pe_ix (r := rIxL K) ix_list (pv 2) (pe_op op_sub (pe_ix (r := rIxL K) ix_list (pv 0) pe_int (fun _ _ => rfl)) pe_int) (fun _ _ => rfl)) (pg_sub (pv 0) pe_int set_list)))))
          pss_nil)
      (pss_cons
        (ps_if (pt_cmpR op_gt (pe_ix (r := rIxL K) ix_list (pv 0) pe_int (fun _ _ => rfl)) pe_int (nomark _))
          (pss_cons
            (ps_set (i := 3) sc_law_draw.nd rfl (.inl rfl) (pe_op op_mod (pe_ix (r := rIxL K) ix_list (pv 0) pe_int (fun _ _ => rfl)) (pv 1)))
          (pss_cons
            (ps_asg (pe_op op_fdivW (pe_ix (r := rIxL K) ix_list (pv 0) pe_int (fun _ _ => rfl)) (pv 1)) (pg_sub (pv 0) pe_int set_list))
          (pss_one
            (ps_ret (pv 3)))))
          pss_nil)
      (pss_cons
        (ps_set (i := 4) sc_law_draw.nd rfl (.inl rfl) (pe_op op_mul (pe_ix (r := rIxL K) ix_list (pv 0) pe_int (fun _ _ => rfl)) pe_int))
      (pss_cons
        (ps_if (pt_cmpR op_gt (pe_callB (r := rLen K) c_len (by rfl) T.n_len (by decide +kernel) (pa_cons (pv 2) pa_nil)) pe_int (nomark _))
          (pss_one
            (ps_set (i := 4) sc_law_draw.nd rfl (.inl rfl) (pe_op op_add (pv 4) (pe_op op_mod (pe_ix (r := rIxL K) ix_list (pv 2) (pe_op op_mod (pe_op op_mul (pe_ix (r := rIxL K) ix_list (pv 0) pe_int (fun _ _ => rfl)) pe_int) (pe_callB (r := rLen K) c_len (by rfl) T.n_len (by decide +kernel) (pa_cons (pv 2) pa_nil))) (fun _ _ => rfl)) pe_int))))
          pss_nil)
      (pss_one
        (ps_ret (pe_op op_mod (pe_call G_law_mixed (hr.mono (by omega)) (by rfl) D_law_mixed.g D_law_mixed.fn.kp D_law_mixed.b .nil pass0 (pa_cons (pv 4) (pa_cons (pe_ix (r := rIxL K) ix_list (pv 0) pe_int (fun _ _ => rfl)) pa_nil))) (pv 1))))))))))
      , ?_⟩
    rw [show L2.start N_law_draw [V.ref d, V.int m] = [some (.ref d), some (.int m), none, none, none] from rfl]
    -- cells = deck[0]; deck[3] = deck[3] + 1
    walk_at "x"
    refine w_setL e1 rfl rfl fun H1 g0 o0 => ?_
    have fin : ∀ (H' : Hp) (a' : Nat) (b' i : Int), 0 ≤ i → i < m → H' d = some (.lst [.ref c, .int a', .int b', .int (t + 1)]) → Off d H H' → Q (.int i) H' := fun H' a' b' i i0 i1 g1 g2 => by
      have z := q i.toNat H' (by omega) ⟨⟨cs, a', b', t + 1, g1, (g2 c ne).trans e2, by omega⟩, ne⟩ g2
      rw [Int.toNat_of_nonneg i0] at z
      exact z
    have md : ∀ x : Int, 0 ≤ x % m ∧ x % m < m := fun x => ⟨Int.emod_nonneg x (by omega), Int.emod_lt_of_pos x hm⟩
    have g0 : H1 d = some (.lst [.ref c, .int a, .int b, .int ((t : Int) + 1)]) := g0
    have c1 : H1 c = some (.lst (cs.map V.int)) := (o0 c ne).trans e2
    -- if deck[2] == 0 and deck[1] < len(cells): ..
    refine w_seqJ (fun σ' H2 => σ' = [some (.ref d), some (.int m), some (.ref c), none, none] ∧ ∃ (a' : Nat) (b' : Int), H2 d = some (.lst [.ref c, .int a', .int b', .int ((t : Int) + 1)]) ∧ Off d H H2) ?_ ?_
    · rintro σ' H2 ⟨rfl, a', b', g2, o2⟩
      have c2 : H2 c = some (.lst (cs.map V.int)) := (o2 c ne).trans e2
      refine w_seqJ (fun σ' H3 => σ' = [some (.ref d), some (.int m), some (.ref c), none, none] ∧ H3 = H2) ?_ ?_
      · rintro σ' H3 ⟨rfl, rfl⟩
        -- number = deck[3] * 48271; if len(cells) > 0: ..
        walk_at "g"
        refine w_seqJ (fun σ' H4 => (∃ z : Int, σ' = [some (.ref d), some (.int m), some (.ref c), none, some (.int z)]) ∧ H4 = H3) ?_ ?_
        · rintro σ' H4 ⟨⟨z, rfl⟩, rfl⟩
          walk_at "g"
          refine ⟨_, _, rfl, by omega, by omega, fun y => ?_⟩
          walk_at "g"
          exact fin _ a' b' _ (md y).1 (md y).2 g2 o2
        · intro U hU
          walk_at "g"
          refine w_ite (fun hl => ?_) (fun hl => ?_)
          · obtain ⟨v, hv1, hv2⟩ := at_lt (xs := cs.map V.int) (i := ((t : Int) + 1) * 7 % ((cs.map V.int).length : Int)) (Int.emod_nonneg _ (by omega)) (Int.emod_lt_of_pos _ hl)
            rw [List.getElem?_map] at hv1
            obtain ⟨y, _, rfl⟩ := Option.map_eq_some_iff.mp hv1
            walk_at "g"
            exact hU _ _ ⟨⟨_, rfl⟩, rfl⟩
          · exact hU _ _ ⟨⟨_, rfl⟩, rfl⟩
      · intro U hU
        walk_at "g"
        refine w_ite (fun hl => ?_) (fun hl => ?_)
        · walk_at "g"
          refine ⟨b', m, rfl, rfl, wide_div (b := 128) hm (by omega) (by decide) (by decide), ?_⟩
          walk_at "g"
          refine w_setL g2 rfl rfl fun H9 g9 o9 => ?_
          walk_at "g"
          exact fin _ a' (b' / m) _ (md b').1 (md b').2 g9 (o2.trans o9)
        · exact hU _ _ ⟨rfl, rfl⟩
    · intro U hU
      have no : U [some (.ref d), some (.int m), some (.ref c), none, none] H1 := hU _ _ ⟨rfl, a, b, g0, o0⟩
      walk_at "g"
      refine w_ite (fun hl => ?_) (fun _ => no)
      walk_at "g"
      refine w_ite (fun hl2 => ?_) (fun _ => no)
      obtain ⟨v, hv1, hv2⟩ := at_lt (xs := cs.map V.int) (i := ((a + 1 : Nat) : Int) - 1) (by omega) (by omega)
      rw [List.getElem?_map] at hv1
      obtain ⟨y, _, rfl⟩ := Option.map_eq_some_iff.mp hv1
      walk_at "g"
      refine w_setL g0 rfl rfl fun H2 g2 o2 => ?_
      have g2 : H2 d = some (.lst [.ref c, .int ((a + 1 : Nat) : Int), .int b, .int ((t : Int) + 1)]) := g2
      have o2 : Off d H H2 := o0.trans o2
      have c2 : H2 c = some (.lst (cs.map V.int)) := (o2 c ne).trans e2
      refine w_seq ?_
      walk_at "g"
      refine w_ite (fun hl => ?_) (fun hl => ?_)
      · walk_at "g"
        refine ⟨_, _, rfl, by omega, by omega, fun y => ?_⟩
        walk_at "g"
        exact fin _ (a + 1) b _ (md y).1 (md y).2 g2 o2
      · walk_at "g"
        refine w_setL g2 rfl rfl fun H9 g9 o9 => ?_
        exact hU _ _ ⟨rfl, a + 1, y, g9, o2.trans o9⟩
theorem ok_lbad {f fA C_BadRow C_HouseError C_NoName C_NoMark C_Contrary CU : Addr} {fd fdA : FuncData} (T : Txt K mg) (F : Fun K "_law_bad" "_law_bad" s_law_bad f fd) (K_Teller : Kl K mg "Teller" CT ["home", "seen", "hold", "greeting", "wants", "bill", "lacks", "pack", "ended"]) (D_Teller_answer : DfM K CT "answer" "Teller.answer" s_Teller_answer ["self", "row"] fA fdA) (G_Teller_answer : FnOk P w K mg base (L2.CX P w) 8 fA fdA ["self", "row"] (spAnswer P w K C CH CU CT C_BadRow)) (EC_BadRow : ExcC K C_BadRow) (g_BadRow : mg "BadRow" = some (.ref C_BadRow)) (g_HouseError : mg "HouseError" = some (.ref C_HouseError)) (g_NoName : mg "NoName" = some (.ref C_NoName)) (g_NoMark : mg "NoMark" = some (.ref C_NoMark)) (g_Contrary : mg "Contrary" = some (.ref C_Contrary)) (xm_BadRow_HouseError : PySem.W.exmOne K (.ref C_BadRow) (.ref C_HouseError) = some true)
    (kq_BadRow_BadRow : PySem.W.kitOne K (.ref C_BadRow) (.ref C_BadRow) = some true) (kq_BadRow_NoName : PySem.W.kitOne K (.ref C_BadRow) (.ref C_NoName) = some false) (kq_BadRow_NoMark : PySem.W.kitOne K (.ref C_BadRow) (.ref C_NoMark) = some false) (kq_BadRow_Contrary : PySem.W.kitOne K (.ref C_BadRow) (.ref C_Contrary) = some false) (kq_BadRow_ValueError : PySem.W.kitOne K (.ref C_BadRow) (.type "ValueError") = some true) : FnOk P w K mg base CX0 9 f fd ["_law_end", "_law_row"] (spLBad P w K C CH CT) := by
  have cl := K_Teller.cl
  refine F.ok sc_law_bad (fun vs H Q E h => ?_) (fun cdv A outer s H vs Q E hr h => ?_)
  · obtain ⟨te, r, dt, s, x, d, rfl, _⟩ := h
    rfl
  · obtain ⟨te, r, dt, s, x, d, rfl, er, dpx, sh, hc, q⟩ := h
    have ete : ∃ fs, H te = some (.ins CT dt fs) ∧ fs.lookup (Str.ofString "answer") = none := by
      rcases hc with ⟨gv, a, b, c, e, h⟩ | ⟨_, _, _, _, _, _, _, _, _, _, _, _, _, _, _, ⟨a, b, c, e, h⟩, _⟩ <;> exact ⟨_, h, rfl⟩
    obtain ⟨fs, ete, hfs⟩ := ete
    refine ⟨_,
      (pss_cons
        (ps_set (i := 2) sc_law_bad.nd rfl (.inl rfl) pe_str)
      (pss_cons
        (p_tryAs (i := 3) rfl rfl sc_law_bad.nd rfl rfl ⟨rfl, by decide, .inl g_HouseError⟩ (fun W pn xe tk po =>
          (pss_one
            (ps_expr (pe_methTS (pv 0) K_Teller.cl D_Teller_answer.m G_Teller_answer (hr.mono (by omega)) D_Teller_answer.b (fun σ => passAt tk σ) (pa_cons (pv 1) pa_nil)))))
        (fun a oe cls d pn hz hf => pss_guard (P := cls = .ref C_BadRow ∧ d = none) (fun hg =>
          (pss_cons
            (ps_set (i := 4) sc_law_bad.nd rfl (.inl rfl) (pe_lst (pa_cons (pe_callB (r := rIsE K C_BadRow a) (call_isE EC_BadRow (zc_of hg hz) hf) (by rfl) T.n_isinstance (by decide +kernel) (pa_cons (pv 3) (pa_cons (pe_glob (v := .ref C_BadRow) rfl g_BadRow rfl) pa_nil))) (pa_cons (pe_callB (r := rIsE K C_BadRow a) (call_isE EC_BadRow (zc_of hg hz) hf) (by rfl) T.n_isinstance (by decide +kernel) (pa_cons (pv 3) (pa_cons (pe_glob (v := .ref C_NoName) rfl g_NoName rfl) pa_nil))) (pa_cons (pe_callB (r := rIsE K C_BadRow a) (call_isE EC_BadRow (zc_of hg hz) hf) (by rfl) T.n_isinstance (by decide +kernel) (pa_cons (pv 3) (pa_cons (pe_glob (v := .ref C_NoMark) rfl g_NoMark rfl) pa_nil))) (pa_cons (pe_callB (r := rIsE K C_BadRow a) (call_isE EC_BadRow (zc_of hg hz) hf) (by rfl) T.n_isinstance (by decide +kernel) (pa_cons (pv 3) (pa_cons (pe_glob (v := .ref C_Contrary) rfl g_Contrary rfl) pa_nil))) pa_nil))))))
          (pss_cons
            (ps_set (i := 2) sc_law_bad.nd rfl (.inl rfl) pe_str)
          (pss_one
            (ps_if (PW.pt (pw_and (pt_val (pe_callB (r := rIsE K C_BadRow a) (call_isE EC_BadRow (zc_of hg hz) hf) (by rfl) T.n_isinstance (by decide +kernel) (pa_cons (pv 3) (pa_cons (pe_bltn (v := .ty "ValueError") (u := .type "ValueError") (by rfl) T.n_ValueError (by decide +kernel) rfl) pa_nil)))) (pw_and1 (pt_cmpR (r := rEqD K) (op_eqD hr.units) (pv 4) (pe_lst (pa_cons pe_bl (pa_cons pe_bl (pa_cons pe_bl (pa_cons pe_bl pa_nil))))) (nomark _)))))
              (pss_one
                (ps_set (i := 2) sc_law_bad.nd rfl (.inl rfl) pe_str))
              pss_nil)))))))
      (pss_one
        (ps_ret (pe_cmpR op_eq (pv 2) pe_str (nomark _))))))
      , ?_⟩
    rw [show L2.start N_law_bad [V.ref te, V.ref r] = [some (.ref te), some (.ref r), none, none, none] from rfl]
    walk_at "x"
    refine w_seq ?_
    refine w_tryA ?_
    walk_at "g"
    refine w_methS (K := K) ?_
    walk_at "g"
    refine ⟨te, dt, fs, rfl, ete, hfs, ?_⟩
    walk_at "g"
    refine ⟨te, r, rfl, .inr ⟨dt, s, x, d, er, dpx, sh, ?_⟩⟩
    rcases hc with ⟨gv, e1⟩ | ⟨v, dv, p, dx, lc, ld, lg, rw', hd, hv, gv, cs, ds, hs, B, e1, W, hdt, hB, hno⟩
    · refine .inl ⟨⟨gv, e1⟩, fun H1 k1 => ?_⟩
      refine ⟨true, xm_BadRow_HouseError, fun _ ea hea => ?_, fun z => nomatch z⟩
      refine w_guard ⟨rfl, rfl⟩ ?_
      walk_at "g"
      refine w_isE kq_BadRow_BadRow ?_
      walk_at "g"
      refine w_isE kq_BadRow_NoName ?_
      walk_at "g"
      refine w_isE kq_BadRow_NoMark ?_
      walk_at "g"
      refine w_isE kq_BadRow_Contrary ?_
      walk_at "g"
      refine w_new fun kl H3 hkl e3 k3 => ?_
      walk_at "g"
      refine w_isEt kq_BadRow_ValueError ?_
      walk_at "g"
      refine w_new fun k2 H4 hk2 e4 k4 => ?_
      walk_at "g"
      have ba : ∀ {H' : Hp} {a : Addr}, H' a = some (.lst [.bl true, .bl false, .bl false, .bl false]) → Dp K H' (.ref a) (.list [.bool true, .bool false, .bool false, .bool false]) := fun e => .lst (.of e) (.cons (.bl _) (.cons (.bl _) (.cons (.bl _) (.cons (.bl _) .nil))))
      refine ⟨_, _, ba (k4 _ _ e3), ba e4, rfl, rfl, ?_⟩
      walk_at "g"
      refine ⟨_, rfl, ?_⟩
      walk_at "g"
      exact q H4 (Same.trans k1 (Same.trans k3 k4))
    · refine .inr ⟨v, dv, p, dx, lc, ld, lg, rw', hd, hv, gv, cs, ds, hs, B, e1, W, hdt, hB, fun H0 k0 => ⟨fun ns hN h1 h2 h3 => absurd ⟨h1, h2, h3⟩ (hno ns (hN.back k0 hdt)), fun _ H1 k01 => ?_⟩⟩
      have k1 := Same.trans k0 k01
      refine ⟨true, xm_BadRow_HouseError, fun _ ea hea => ?_, fun z => nomatch z⟩
      refine w_guard ⟨rfl, rfl⟩ ?_
      walk_at "g"
      refine w_isE kq_BadRow_BadRow ?_
      walk_at "g"
      refine w_isE kq_BadRow_NoName ?_
      walk_at "g"
      refine w_isE kq_BadRow_NoMark ?_
      walk_at "g"
      refine w_isE kq_BadRow_Contrary ?_
      walk_at "g"
      refine w_new fun kl H3 hkl e3 k3 => ?_
      walk_at "g"
      refine w_isEt kq_BadRow_ValueError ?_
      walk_at "g"
      refine w_new fun k2 H4 hk2 e4 k4 => ?_
      walk_at "g"
      have ba : ∀ {H' : Hp} {a : Addr}, H' a = some (.lst [.bl true, .bl false, .bl false, .bl false]) → Dp K H' (.ref a) (.list [.bool true, .bool false, .bool false, .bool false]) := fun e => .lst (.of e) (.cons (.bl _) (.cons (.bl _) (.cons (.bl _) (.cons (.bl _) .nil))))
      refine ⟨_, _, ba (k4 _ _ e3), ba e4, rfl, rfl, ?_⟩
      walk_at "g"
      refine ⟨_, rfl, ?_⟩
      walk_at "g"
      exact q H4 (Same.trans k1 (Same.trans k3 k4))
theorem ok_lasks {f fM fD : Addr} {fd fdM fdD : FuncData} (T : Txt K mg) (F : Fun K "_law_asks" "_law_asks" s_law_asks f fd) (D_law_mixed : Df K mg "_law_mixed" s_law_mixed ["_law_cell", "_law_turn"] fM fdM) (D_law_draw : Df K mg "_law_draw" s_law_draw ["_law_deck_here", "_law_many"] fD fdD) : FnOk P w K mg base CX0 3 f fd ["_law_deck_here", "_law_many"] spLAsks := by
  have G_law_draw : FnOk P w K mg base CX0 2 fD fdD ["_law_deck_here", "_law_many"] spDrawW := ok_drawW T D_law_draw.fn D_law_mixed
  refine F.ok sc_law_asks (fun vs H Q E h => ?_) (fun cdv A outer s H vs Q E hr h => ?_)
  · obtain ⟨d, c, n, m, rfl, _⟩ := h
    rfl
  · obtain ⟨d, c, n, m, rfl, D0, hn, q⟩ := h
    refine ⟨_,
      (pss_cons
        (ps_set (i := 2) sc_law_asks.nd rfl (.inl rfl) (pe_lst pa_nil))
      (pss_cons
        (ps_set (i := 3) sc_law_asks.nd rfl (.inl rfl) (pe_un un_neg pe_int))
      (pss_cons
        (ps_for PassesOwn.never rfl (pi_range1 (by rfl) T.n_range (pa_cons (pe_op op_add pe_int (pe_call G_law_draw (hr.mono (by omega)) (by rfl) D_law_draw.g D_law_draw.fn.kp D_law_draw.b .nil pass0 (pa_cons (pv 0) (pa_cons pe_int pa_nil)))) pa_nil)) (pg_name (i := 4) sc_law_asks.nd rfl (.inl rfl))
          (pss_cons
            (ps_set (i := 3) sc_law_asks.nd rfl (.inl rfl) (pe_op op_add (pe_op op_add (pv 3) pe_int) (pe_call G_law_draw (hr.mono (by omega)) (by rfl) D_law_draw.g D_law_draw.fn.kp D_law_draw.b .nil pass0 (pa_cons (pv 0) (pa_cons pe_int pa_nil)))))
          (pss_one
            (ps_expr (pe_bm PySem.F.plainAttrs_list PySem.F.slot_list_append PySem.F.type_list_append mt_append (pv 2) (pa_cons (pv 3) pa_nil))))))
      (pss_cons
        (ps_if (pt_cmpR op_eq (pe_call G_law_draw (hr.mono (by omega)) (by rfl) D_law_draw.g D_law_draw.fn.kp D_law_draw.b .nil pass0 (pa_cons (pv 0) (pa_cons pe_int pa_nil))) pe_int (nomark _))
          (pss_one
            (ps_asg (pe_op op_add (pe_op op_add (pe_ix (r := rIxL K) ix_list (pv 2) (pe_un un_neg pe_int) (fun _ _ => rfl)) (pv 1)) (pe_call G_law_draw (hr.mono (by omega)) (by rfl) D_law_draw.g D_law_draw.fn.kp D_law_draw.b .nil pass0 (pa_cons (pv 0) (pa_cons (pe_op op_pow pe_int pe_int) pa_nil)))) (pg_sub (pv 2) (pe_un un_neg pe_int) set_list)))
          pss_nil)
      (pss_one
        (ps_ret (pe_callTy (r := rTupOf K) c_tupOf (by rfl) T.n_tuple (by decide +kernel) (pa_cons (pv 2) pa_nil))))))))
      , ?_⟩
    rw [show L2.start N_law_asks [V.ref d, nV m] = [some (.ref d), some (.int (m : Int)), none, none, none] from rfl]
    walk_at "x"
    refine w_new fun l H1 hl e1 k1 => ?_
    have D1 : Deck H1 d c n := D0.kp (M := []) (Kp.of k1) (by simp) (by simp)
    obtain ⟨nld, nlc⟩ := D0.ne1 hl
    walk_at "g"
    refine w_drawW D1 (by omega) (by decide) (by decide) fun r H2 hr2 D2 o2 => ?_
    have e2 := o2.get nld e1
    have x2 : KX d H H2 := (KX.of k1).trans (D1.kx D2 o2)
    walk_at "g"
    try refine w_rng1' (by omega) (by omega) ?_
    refine lp_range (n := (1 + (r : Int)).toNat) (fun i σ H' => ∃ (ns : List Nat) (la : Int) (y4 : Option V), σ = [some (.ref d), some (.int (m : Int)), some (.ref l), some (.int la), y4] ∧ Deck H' d c (n + 1 + i) ∧ KX d H H' ∧ H' l = some (.lst (ns.map nV)) ∧ ns.length = i ∧ ns.Pairwise (· < ·) ∧ (∀ x ∈ ns, (x : Int) ≤ la) ∧ -1 ≤ la) ⟨[], -1, _, rfl, D2, x2, e2, rfl, .nil, by simp, by omega⟩ ?_ ?_
    · rintro i σ H3 hi ⟨ns, la, y4, rfl, D3, x3, e3, hnl, hup, hla, hl1⟩
      walk_at "g"
      refine w_drawW D3 (by omega) (by decide) (by decide) fun z H4 hz4 D4 o4 => ?_
      have e4 := o4.get nld e3
      obtain ⟨nx, hnx⟩ : ∃ nx : Nat, la + 1 + (z : Int) = (nx : Int) := ⟨(la + 1 + (z : Int)).toNat, by omega⟩
      walk_at "g"
      rw [hnx]
      refine w_app e4 (small2000 (by rw [List.length_map]; omega)) fun H5 e5 o5 => ?_
      walk_at "g"
      refine ⟨ns ++ [nx], _, _, rfl, (D4.kp (M := [l]) (o5.kp (by simp)) (by simpa using nld.symm) (by simpa using nlc.symm)).mono (by omega), (x3.trans (D3.kx D4 o4)).offN o5 hl, by rw [e5, List.map_append]; rfl, by rw [List.length_append, hnl]; rfl, ?_, fun x hx => ?_, by omega⟩
      · rw [List.pairwise_append]
        refine ⟨hup, by simp, fun a ha b hb => ?_⟩
        have := hla a ha
        have : b = nx := by simpa using hb
        omega
      · rcases List.mem_append.mp hx with h | h
        · have := hla x h
          omega
        · have : x = nx := by simpa using h
          omega
    rintro σ H3 ⟨ns, la, y4, rfl, D3, x3, e3, hnl, hup, hla, hl1⟩
    have hn1 : 1 ≤ ns.length := by omega
    have hn20 : ns.length ≤ 20 := by omega
    obtain ⟨n0, ne, hne⟩ : ∃ n0 ne, ns = n0 ++ [ne] := by
      rcases List.eq_nil_or_concat ns with e | ⟨a, b, e⟩
      · rw [e] at hn1
        simp at hn1
      · exact ⟨a, b, by rw [e, List.concat_eq_append]⟩
    have atl : atI (ns.map nV) (-1) = some (nV ne) := atI_m1T (by rw [List.length_map]; omega) (by rw [hne]; simp)
    walk_at "g"
    refine w_seqJ (fun σ' H' => ∃ (ms : List Nat), σ' = [some (.ref d), some (.int (m : Int)), some (.ref l), some (.int la), y4] ∧ Deck H' d c (n + 30) ∧ KX d H H' ∧ H' l = some (.lst (ms.map nV)) ∧ ms.Pairwise (· < ·) ∧ 1 ≤ ms.length ∧ ms.length ≤ 20) ?_ ?_
    rotate_left
    · intro U hU
      walk_at "g"
      refine w_drawW D3 (by omega) (by decide) (by decide) fun z H4 hz4 D4 o4 => ?_
      have e4 := o4.get nld e3
      have x4 := x3.trans (D3.kx D4 o4)
      walk_at "g"
      refine w_ite (fun h0 => ?_) (fun h0 => ?_)
      rotate_left
      · walk_at "g"
        exact hU _ _ ⟨ns, rfl, D4.mono (by omega), x4, e4, hup, hn1, hn20⟩
      walk_at "g"
      refine w_drawW D4 (by omega) (by decide) (by decide) fun z2 H5 hz5 D5 o5 => ?_
      have e5 := o5.get nld e4
      have x5 := x4.trans (D4.kx D5 o5)
      walk_at "g"
      refine w_setL (j := ns.length - 1) e5 (by rw [List.length_map]; exact ixN_m1 (by omega)) rfl fun H6 e6 o6 => ?_
      have e6' : H6 l = some (.lst ((n0 ++ [ne + m + z2]).map nV)) := by
        rw [e6, hne]
        simp
      walk_at "g"
      refine hU _ _ ⟨n0 ++ [ne + m + z2], rfl, (D5.kp (M := [l]) (o6.kp (by simp)) (by simpa using nld.symm) (by simpa using nlc.symm)).mono (by omega), x5.offN o6 hl, e6', ?_, by simp, by rw [hne] at hn20; simpa using hn20⟩
      rw [hne, List.pairwise_append] at hup
      rw [List.pairwise_append]
      refine ⟨hup.1, by simp, fun a ha b hb => ?_⟩
      have h1 := hup.2.2 a ha ne (by simp)
      have : b = ne + m + z2 := by simpa using hb
      omega
    rintro σ' H7 ⟨ms, rfl, D7, x7, e7, mup, hm1, hm20⟩
    walk_at "g"
    refine w_tupL (.of e7) fun t H8 ht e8 k8 => ?_
    exact q H8 t ms (D7.kp (M := []) (Kp.of k8) (by simp) (by simp)) (x7.trans (KX.of k8)) e8 mup hm1 hm20
theorem ok_lbent {f fM fD : Addr} {fd fdM fdD : FuncData} (T : Txt K mg) (F : Fun K "_law_bent" "_law_bent" s_law_bent f fd) (D_law_mixed : Df K mg "_law_mixed" s_law_mixed ["_law_cell", "_law_turn"] fM fdM) (D_law_draw : Df K mg "_law_draw" s_law_draw ["_law_deck_here", "_law_many"] fD fdD) : FnOk P w K mg base CX0 3 f fd ["_law_deck_here", "_law_row"] (spLBent K) := by
  have G_law_draw : FnOk P w K mg base CX0 2 fD fdD ["_law_deck_here", "_law_many"] spDraw := ok_draw T D_law_draw.fn D_law_mixed
  refine F.ok sc_law_bent (fun vs H Q E h => ?_) (fun cdv A outer s H vs Q E hr h => ?_)
  · obtain ⟨d, c, t, n, ns, rfl, _⟩ := h
    rfl
  · obtain ⟨d, c, t, n, ns, rfl, D0, hn, et, hup, hn1, hn20, q⟩ := h
    obtain ⟨n0, ne, hne⟩ : ∃ n0 ne, ns = n0 ++ [ne] := by
      rcases List.eq_nil_or_concat ns with e | ⟨a, b, e⟩
      · rw [e] at hn1
        simp at hn1
      · exact ⟨a, b, by rw [e, List.concat_eq_append]⟩
    refine ⟨_,
      (pss_cons
        (ps_set (i := 2) sc_law_bent.nd rfl (.inl rfl) (pe_call G_law_draw (hr.mono (by omega)) (by rfl) D_law_draw.g D_law_draw.fn.kp D_law_draw.b .nil pass0 (pa_cons (pv 0) (pa_cons (pe_callB (r := rLen K) c_len (by rfl) T.n_len (by decide +kernel) (pa_cons (pv 1) pa_nil)) pa_nil))))
      (pss_cons
        (ps_set (i := 3) sc_law_bent.nd rfl (.inl rfl) (pe_callTy (r := rListOf K) c_listOf (by rfl) T.n_list (by decide +kernel) (pa_cons (pv 1) pa_nil)))
      (pss_cons
        (ps_set (i := 4) sc_law_bent.nd rfl (.inl rfl) (pe_call G_law_draw (hr.mono (by omega)) (by rfl) D_law_draw.g D_law_draw.fn.kp D_law_draw.b .nil pass0 (pa_cons (pv 0) (pa_cons pe_int pa_nil))))
      (pss_cons
        (ps_if (pt_cmpR op_lt (pv 4) pe_int (nomark _))
          (pss_cons
            (ps_asg (pe_ix (r := rIxL K) ix_list (pe_lst (pa_cons (pe_un un_neg pe_int) (pa_cons pe_bl (pa_cons pe_non (pa_cons pe_str (pa_cons (pe_tup (pa_cons pe_int pa_nil)) pa_nil)))))) (pv 4) (fun _ _ => rfl)) (pg_sub (pv 3) (pv 2) set_list))
          (pss_one
            (ps_ret (pe_callTy (r := rTupOf K) c_tupOf (by rfl) T.n_tuple (by decide +kernel) (pa_cons (pv 3) pa_nil)))))
          pss_nil)
      (pss_cons
        (ps_if (pt_cmpR op_eq (pv 4) pe_int (nomark _))
          (pss_one
            (ps_ret (pv 3)))
          pss_nil)
      (pss_cons
        (ps_if (pt_cmpR op_eq (pv 4) pe_int (nomark _))
          (pss_one
            (ps_ret (pe_callTy (r := rTupOf K) c_tupOf (by rfl) T.n_tuple (by decide +kernel) (pa_cons (pe_op op_cat (pv 3) (pe_slice sl_list (pv 3) (po_some (pe_un un_neg pe_int)) po_none)) pa_nil))))
          pss_nil)
      (pss_one
        (ps_ret (pe_ix (r := rIxL K) ix_list (pe_lst (pa_cons (pe_tup pa_nil) (pa_cons (pe_tupRg rfl (by rfl) T.n_tuple (prg_1 (by rfl) T.n_range pe_int)) (pa_cons (pe_tupRg rfl (by rfl) T.n_tuple (prg_1 (by rfl) T.n_range pe_int)) (pa_cons pe_non (pa_cons pe_int (pa_cons pe_str pa_nil))))))) (pe_call G_law_draw (hr.mono (by omega)) (by rfl) D_law_draw.g D_law_draw.fn.kp D_law_draw.b .nil pass0 (pa_cons (pv 0) (pa_cons pe_int pa_nil))) (fun _ _ => rfl))))))))))
      , ?_⟩
    rw [show L2.start N_law_bent [V.ref d, V.ref t] = [some (.ref d), some (.ref t), none, none, none] from rfl]
    walk_at "x"
    refine w_draw D0 (by omega) (by rw [List.length_map]; omega) (by rw [List.length_map]; omega) fun at1 H1 hat D1 o1 => ?_
    rw [List.length_map] at hat
    have hat' : at1 < ns.length := by omega
    have x1 := D0.kx D1 o1
    have et1 := x1.t _ _ et
    walk_at "g"
    refine w_listT (.of et1) fun b H2 hb e2 k2 => ?_
    have D2 : Deck H2 d c (n + 1) := D1.kp (M := []) (Kp.of k2) (by simp) (by simp)
    obtain ⟨nbd, nbc⟩ := D1.ne1 hb
    walk_at "g"
    refine w_draw D2 (by omega) (by decide) (by decide) fun pick H3 hp8 D3 o3 => ?_
    have x3 : KX d H H3 := (x1.trans (KX.of k2)).trans (D2.kx D3 o3)
    have e3 := o3.get nbd e2
    walk_at "g"
    refine w_seq ?_
    walk_at "g"
    refine w_ite (fun h5 => ?_) (fun h5 => ?_)
    · walk_at "g"
      refine w_new fun p0 H4 hp0 e4 k4 => ?_
      walk_at "g"
      refine w_new fun l5 H5 hl5 e5 k5 => ?_
      obtain ⟨y, dy, aty, hdy, hl1, hd1, hdt, hno⟩ : ∃ (y : V) (dy : PyData), atI [V.int (-1), .bl true, .non, .str "0", .ref p0] (pick : Int) = some y ∧ (∀ H' : Hp, H' p0 = some (.tup [.int 0]) → Dp K H' y dy) ∧ PyData.canLay0 dy = true ∧ PyData.depth dy ≤ 1 ∧ (∀ H' : Hp, H' p0 = some (.tup [.int 0]) → DatT 1000 H' y) ∧ ∀ n : Nat, y ≠ nV n := by
        have hp5 : pick < 5 := by omega
        match pick, hp5 with
        | 0, _ => exact ⟨.int (-1), .int (-1), rfl, fun _ _ => .int _, rfl, by decide, fun _ _ => .leaf (.int _) (by decide) (fun z h => nomatch h), fun n h => by have := V.int.inj h; omega⟩
        | 1, _ => exact ⟨.bl true, .bool true, rfl, fun _ _ => .bl _, rfl, by decide, fun _ _ => .leaf (.bl _) (by decide) (fun z h => nomatch h), fun n h => nomatch h⟩
        | 2, _ => exact ⟨.non, .none, rfl, fun _ _ => .non, rfl, by decide, fun _ _ => .leaf .non (by decide) (fun z h => nomatch h), fun n h => nomatch h⟩
        | 3, _ => exact ⟨.str "0", .str "0", rfl, fun _ _ => .str _, by decide +kernel, by decide, fun _ _ => .leaf (.str _) (by decide) (fun z h => by cases h; decide), fun n h => nomatch h⟩
        | 4, _ => exact ⟨.ref p0, .tuple [.int 0], rfl, fun _ e => .tup (.of e) (.cons (.int _) .nil), rfl, by decide, fun _ e => .tup e (by decide) (fun z hz => by rw [List.mem_singleton.mp hz]; exact .leaf (.int _) (by decide) (fun z h => nomatch h)), fun n h => nomatch h⟩
      have e35 := k5 _ _ (k4 _ _ e3)
      walk_at "g"
      refine w_setL (j := at1) e35 (by rw [List.length_map]; exact ixN_natB hat') rfl fun H6 e6 o6 => ?_
      have e46 := o6.get (ne_of_none e3 hp0).symm (k5 _ _ e4)
      walk_at "g"
      refine w_tupL (.of e6) fun tt H7 htt e7 k7 => ?_
      have D7 : Deck H7 d c (n + 10) := ((((D3.kp (M := []) (Kp.of (Same.trans k4 k5)) (by simp) (by simp))).kp (M := [b]) (o6.kp (by simp)) (by simpa using nbd.symm) (by simpa using nbc.symm)).kp (M := []) (Kp.of k7) (by simp) (by simp)).mono (by omega)
      have hb0 : H1 b = none := hb
      refine q H7 (.ref tt) D7 ((x1.trans (((KX.of (d := d) k2).trans ((D2.kx D3 o3).trans (KX.of (Same.trans k4 k5)))).offN o6 hb0)).trans (KX.of k7)) (bent_set e7 hat' hn20 (hdy H7 (k7 _ _ e46)) hl1 hd1 (hdt H7 (k7 _ _ e46)) hno)
    walk_at "g"
    refine w_seq ?_
    walk_at "g"
    refine w_ite (fun h6 => ?_) (fun h6 => ?_)
    · walk_at "g"
      obtain ⟨g1, g2⟩ := nats_lay ns
      exact q H3 (.ref b) (D3.mono (by omega)) x3 (bent_leaf (.lst (.of e3) (dp_nats ns)) (by rw [PyData.canLay0]; exact g1) (by rw [PyData.depth]; omega) (.lst e3) (by decide) (fun z h => nomatch h))
    walk_at "g"
    refine w_seq ?_
    walk_at "g"
    refine w_ite (fun h7 => ?_) (fun h7 => ?_)
    · walk_at "g"
      refine w_slL (.of e3) fun sl H4 hsl e4 k4 => ?_
      rw [hne, cut_last1] at e4
      walk_at "g"
      refine w_cat (k4 _ _ e3) e4 (small2000 (by rw [List.length_map]; simp only [List.length_cons, List.length_nil]; omega)) fun l5 H5 hl5 e5 k5 => ?_
      walk_at "g"
      refine w_tupL (.of e5) fun tt H6 htt e6 k6 => ?_
      have k36 := Same.trans k4 (Same.trans k5 k6)
      have e6' : H6 tt = some (.tup ((ns ++ [ne]).map nV)) := by rw [e6, List.map_append]; rfl
      refine q H6 (.ref tt) ((D3.kp (M := []) (Kp.of k36) (by simp) (by simp)).mono (by omega)) (x3.trans (KX.of k36)) (bent_nats e6' (by rw [List.length_append]; simp only [List.length_cons, List.length_nil]; omega) fun h => ?_)
      have := (List.pairwise_append.mp h.1).2.2 ne (by rw [hne]; simp) ne (by simp)
      omega
    walk_at "g"
    refine w_new fun p0 H4 hp0 e4 k4 => ?_
    walk_at "g"
    refine ⟨⟨by decide, by decide, by decide, by decide, by decide⟩, ?_⟩
    refine w_new fun p1 H5 hp1 e5 k5 => ?_
    rw [rgV_allF (j := 21) 21 rfl] at e5
    walk_at "g"
    refine ⟨⟨by decide, by decide, by decide, by decide, by decide⟩, ?_⟩
    refine w_new fun p2 H6 hp2 e6 k6 => ?_
    rw [rgV_allF (j := 400) 400 rfl] at e6
    walk_at "g"
    refine w_new fun l7 H7 hl7 e7 k7 => ?_
    have k37 := Same.trans k4 (Same.trans k5 (Same.trans k6 k7))
    have D7 : Deck H7 d c (n + 2) := D3.kp (M := []) (Kp.of k37) (by simp) (by simp)
    have nl7 := (D3.kp (M := []) (Kp.of (Same.trans k4 (Same.trans k5 k6))) (by simp) (by simp) |>.ne1 hl7).1
    walk_at "g"
    refine w_draw D7 (by omega) (by decide) (by decide) fun z H8 hz8 D8 o8 => ?_
    have x8 : KX d H H8 := (x3.trans (KX.of k37)).trans (D7.kx D8 o8)
    have e78 := o8.get nl7 e7
    have kt8 := (D7.kx D8 o8).t
    have e48 := kt8 _ _ ((Same.trans k5 (Same.trans k6 k7)) _ _ e4)
    have e58 := kt8 _ _ ((Same.trans k6 k7) _ _ e5)
    have e68 := kt8 _ _ (k7 _ _ e6)
    obtain ⟨y, aty, hy⟩ : ∃ y : V, atI [V.ref p0, .ref p1, .ref p2, .non, .int 5, .str "05"] (z : Int) = some y ∧ BentV K H8 y := by
      have hz6 : z < 6 := by omega
      match z, hz6 with
      | 0, _ => exact ⟨.ref p0, rfl, bent_nats (ns := []) e48 (by decide) fun h => by have := h.2.1; simp at this⟩
      | 1, _ => exact ⟨.ref p1, rfl, bent_nats e58 (by rw [List.length_range]; decide) fun h => by have := h.2.2; rw [List.length_range] at this; omega⟩
      | 2, _ => exact ⟨.ref p2, rfl, bent_nats e68 (by rw [List.length_range]; decide) fun h => by have := h.2.2; rw [List.length_range] at this; omega⟩
      | 3, _ => exact ⟨.non, rfl, bent_leaf .non rfl (by decide) .non (by decide) (fun z h => nomatch h)⟩
      | 4, _ => exact ⟨.int 5, rfl, bent_leaf (.int _) rfl (by decide) (.int _) (by decide) (fun z h => nomatch h)⟩
      | 5, _ => exact ⟨.str "05", rfl, bent_leaf (.str _) (by decide +kernel) (by decide) (.str _) (by decide) (fun z h => by cases h; decide)⟩
    walk_at "g"
    exact q H8 y (D8.mono (by omega)) x8 hy
end
local macro_rules | `(tactic| walk_at "s") => `(tactic| first
  | with_reducible refine w_lstRgF ?_
  | with_reducible refine w_tupRg ?_
  | with_reducible refine w_rg1F ?_
  | with_reducible refine w_rg1F' ?_
  )
theorem rise_extR : ∀ {xs ys : List Nat}, xs.Pairwise (· < ·) → ys.Pairwise (· < ·) → (∀ n, n ∈ xs ↔ n ∈ ys) → xs = ys
  | [], [], _, _, _ => rfl
  | [], y :: ys, _, _, h => absurd ((h y).mpr (by simp)) (by simp)
  | x :: xs, [], _, _, h => absurd ((h x).mp (by simp)) (by simp)
  | x :: xs, y :: ys, hx, hy, h => by
    rw [List.pairwise_cons] at hx hy
    have e : x = y := by
      rcases List.mem_cons.mp ((h x).mp (by simp)) with e | h1
      · exact e
      · rcases List.mem_cons.mp ((h y).mpr (by simp)) with e | h2
        · exact e.symm
        · have := hx.1 y h2
          have := hy.1 x h1
          omega
    subst e
    rw [rise_extR hx.2 hy.2 fun n => ?_]
    constructor
    · intro hn
      rcases List.mem_cons.mp ((h n).mp (by simp [hn])) with e | h1
      · have := hx.1 n hn
        omega
      · exact h1
    · intro hn
      rcases List.mem_cons.mp ((h n).mpr (by simp [hn])) with e | h1
      · have := hy.1 n hn
        omega
      · exact h1
def HvAt (H : Hp) (a : Addr) (bs : List Bool) : Prop := ∃ b, H a = some (.tup [.str "have", .ref b]) ∧ H b = some (.tup (bs.map V.bl))
theorem HvAt.kt {H H' : Hp} {a : Addr} {bs : List Bool} (h : HvAt H a bs) (k : KT H H') : HvAt H' a bs := by
  obtain ⟨b, h1, h2⟩ := h
  exact ⟨b, k _ _ h1, k _ _ h2⟩
theorem HvAt.sd {H : Hp} {a z : Addr} {bs : List Bool} (h1 : HvAt H a bs) (h2 : HvAt H z bs) (hl : bs.length ≤ 1000) : SD 2 H (.ref a) (.ref z) := by
  obtain ⟨b, e1, e2⟩ := h1
  obtain ⟨c, f1, f2⟩ := h2
  refine .inr ⟨a, z, _, _, rfl, rfl, .inl ⟨e1, f1⟩, rfl, by simp, fun i x y hx hy => ?_⟩
  match i with
  | 0 =>
    cases hx
    cases hy
    exact .inl ⟨rfl, trivial⟩
  | 1 =>
    cases hx
    cases hy
    refine .inr ⟨b, c, _, _, rfl, rfl, .inl ⟨e2, f2⟩, rfl, by rw [List.length_map]; omega, fun j u v hu hv => ?_⟩
    rw [hu] at hv
    cases hv
    obtain ⟨t, _, rfl⟩ := map_at hu
    exact ⟨rfl, trivial⟩
  | j + 2 => simp at hx
theorem BentV.same {K : PySem.W.Frag} {H H' : Hp} {x : V} (h : BentV K H x) (k : Same H H') : BentV K H' x := by
  obtain ⟨⟨d, h1, h2⟩, h3, h4⟩ := h
  exact ⟨⟨d, dp_same k h1, h2⟩, h3.kd (KD.of k), fun ns hN => h4 ns (hN.back k h3)⟩
theorem have_nats {K : PySem.W.Frag} {H : Hp} {t : Addr} {ns : List Nat} (e : H t = some (.tup (ns.map nV))) : Dp K H (.ref t) (.tuple (ns.map fun n : Nat => PyData.int (n : Int))) ∧ SeqAt.shaped (.tuple [.str "have", .tuple (ns.map fun n : Nat => PyData.int (n : Int))]) = true := by
  obtain ⟨g1, g2⟩ := nats_lay ns
  exact ⟨.tup (.of e) (dp_nats ns), have_sh (by rw [PyData.canLay0]; exact g1) (by rw [PyData.depth]; omega)⟩
theorem dat_nats {H : Hp} {t : Addr} {ns : List Nat} (e : H t = some (.tup (ns.map nV))) (hl : ns.length ≤ 1000) : DatT 1000 H (.ref t) := .tup e (by rw [List.length_map]; omega) fun z hz => by
  obtain ⟨n, _, rfl⟩ := List.mem_map.mp hz
  exact .leaf (.int _) (by decide) (fun z h => nomatch h)
theorem put_any {P : Program} {w : World} {C CS : Addr} {H : Hp} {Q : VK} {E : XK} {s dy p dx lc ld lg hd : Addr} {cs : List (Addr × Ct)} {ds : List Nat} {rs : List (Str × V)} {k n : Nat} {F : Nat → Prop} (S : StAt CS H s dy p hd rs k F) (B : BookAt P w C H p dx lc ld lg cs ds) (hr : rs.length ≤ 900) (hn : n < cs.length)
    (h : ∀ (b : Bool) (H' : Hp) (k' : Nat) (F' : Nat → Prop), StAt CS H' s dy p hd rs k' F' → Kp [s, hd] H H' → KT H H' → Q (.bl b) H') : spPut P w C CS [.ref s, nV n] H Q E :=
  ⟨s, dy, p, dx, lc, ld, lg, hd, cs, ds, rs, k, n, F, rfl, hr, S, B, hn, fun _ => h false H k F S Kp.refl KT.refl, fun _ H' S' k' t' => h true H' _ _ S' k' t'⟩
def spLaw (K : PySem.W.Frag) : Sp := fun vs H Q _ => ∃ (a : Addr) (ns : List Int), vs = [.ref a] ∧ SqL K H a (ns.map V.int) ∧ ns.length ≤ 63 ∧ ∀ H', Q (.bl true) H'
section
variable {P : Program} {w : World} {K : PySem.W.Frag} {mg : Str → Option Value} {base : Heap}
theorem ok_law {f_is_int f_is_text f_is_label f_rise f_are_ints f_rising_ints f_is_pair f_are_rows f_Book___init__ f_Book_named f_Book_thing f_Book_kind f_Book_parts f_is_name f_is_kind f_is_entry f_is_tree f_depth_of f_is_version f_is_content f_Holding___init__ f_Holding_holds f_Holding_names f_Holding_versions f_Holding_edges f_Store___init__ f_Store_put f_Store_held f_Store_view f_Store_holds f_Store_changes f_House___init__ f_House_marks f_House_pin f_must_hold f_Pin___init__ f_Teller___init__ f_Teller_answer f_Teller_greeted f_Teller_told f_law_deck f_law_mixed f_law_draw f_law_text f_law_label f_law_give f_law_rows f_law_entries f_law_some f_law_family f_law_parts f_law_under f_law_held f_law_book f_law_house f_law_alike f_law_bad f_law_asks f_law_bent f C_Book C_Holding C_Store C_House C_Pin C_Teller C_BadRow C_HouseError C_NoName C_NoMark C_Contrary : Addr} {fd_is_int fd_is_text fd_is_label fd_rise fd_are_ints fd_rising_ints fd_is_pair fd_are_rows fd_Book___init__ fd_Book_named fd_Book_thing fd_Book_kind fd_Book_parts fd_is_name fd_is_kind fd_is_entry fd_is_tree fd_depth_of fd_is_version fd_is_content fd_Holding___init__ fd_Holding_holds fd_Holding_names fd_Holding_versions fd_Holding_edges fd_Store___init__ fd_Store_put fd_Store_held fd_Store_view fd_Store_holds fd_Store_changes fd_House___init__ fd_House_marks fd_House_pin fd_must_hold fd_Pin___init__ fd_Teller___init__ fd_Teller_answer fd_Teller_greeted fd_Teller_told fd_law_deck fd_law_mixed fd_law_draw fd_law_text fd_law_label fd_law_give fd_law_rows fd_law_entries fd_law_some fd_law_family fd_law_parts fd_law_under fd_law_held fd_law_book fd_law_house fd_law_alike fd_law_bad fd_law_asks fd_law_bent fd : FuncData} (T : Txt K mg)
    (D_is_int : DfD K mg "is_int" s_is_int ["thing", "least"] [.int 0] f_is_int fd_is_int)
    (D_is_text : DfD K mg "is_text" s_is_text ["thing", "most"] [.int 40] f_is_text fd_is_text)
    (D_is_label : Df K mg "is_label" s_is_label ["thing"] f_is_label fd_is_label)
    (D_rise : Df K mg "rise" s_rise ["row"] f_rise fd_rise)
    (D_are_ints : Df K mg "are_ints" s_are_ints ["thing"] f_are_ints fd_are_ints)
    (D_rising_ints : Df K mg "rising_ints" s_rising_ints ["thing"] f_rising_ints fd_rising_ints)
    (D_is_pair : Df K mg "is_pair" s_is_pair ["thing"] f_is_pair fd_is_pair)
    (D_are_rows : Df K mg "are_rows" s_are_rows ["thing"] f_are_rows fd_are_rows)
    (D_Book___init__ : DfM K C_Book "__init__" "Book.__init__" s_Book___init__ ["self"] f_Book___init__ fd_Book___init__)
    (D_Book_named : DfM K C_Book "named" "Book.named" s_Book_named ["self", "content"] f_Book_named fd_Book_named)
    (D_Book_thing : DfM K C_Book "thing" "Book.thing" s_Book_thing ["self", "name"] f_Book_thing fd_Book_thing)
    (D_Book_kind : DfM K C_Book "kind" "Book.kind" s_Book_kind ["self", "name"] f_Book_kind fd_Book_kind)
    (D_Book_parts : DfM K C_Book "parts" "Book.parts" s_Book_parts ["self", "name"] f_Book_parts fd_Book_parts)
    (D_is_name : Df K mg "is_name" s_is_name ["book", "thing"] f_is_name fd_is_name)
    (D_is_kind : Df K mg "is_kind" s_is_kind ["book", "thing", "kind"] f_is_kind fd_is_kind)
    (D_is_entry : Df K mg "is_entry" s_is_entry ["book", "thing"] f_is_entry fd_is_entry)
    (D_is_tree : Df K mg "is_tree" s_is_tree ["book", "entries"] f_is_tree fd_is_tree)
    (D_depth_of : Df K mg "depth_of" s_depth_of ["book", "content"] f_depth_of fd_depth_of)
    (D_is_version : Df K mg "is_version" s_is_version ["book", "content"] f_is_version fd_is_version)
    (D_is_content : Df K mg "is_content" s_is_content ["book", "thing"] f_is_content fd_is_content)
    (D_Holding___init__ : DfM K C_Holding "__init__" "Holding.__init__" s_Holding___init__ ["self", "book", "names"] f_Holding___init__ fd_Holding___init__)
    (D_Holding_holds : DfM K C_Holding "holds" "Holding.holds" s_Holding_holds ["self", "name"] f_Holding_holds fd_Holding_holds)
    (D_Holding_names : DfM K C_Holding "names" "Holding.names" s_Holding_names ["self"] f_Holding_names fd_Holding_names)
    (D_Holding_versions : DfM K C_Holding "versions" "Holding.versions" s_Holding_versions ["self"] f_Holding_versions fd_Holding_versions)
    (D_Holding_edges : DfM K C_Holding "edges" "Holding.edges" s_Holding_edges ["self"] f_Holding_edges fd_Holding_edges)
    (D_Store___init__ : DfM K C_Store "__init__" "Store.__init__" s_Store___init__ ["self", "book"] f_Store___init__ fd_Store___init__)
    (D_Store_put : DfM K C_Store "put" "Store.put" s_Store_put ["self", "name"] f_Store_put fd_Store_put)
    (D_Store_held : DfM K C_Store "held" "Store.held" s_Store_held ["self"] f_Store_held fd_Store_held)
    (D_Store_view : DfM K C_Store "view" "Store.view" s_Store_view ["self"] f_Store_view fd_Store_view)
    (D_Store_holds : DfM K C_Store "holds" "Store.holds" s_Store_holds ["self", "name"] f_Store_holds fd_Store_holds)
    (D_Store_changes : DfM K C_Store "changes" "Store.changes" s_Store_changes ["self"] f_Store_changes fd_Store_changes)
    (D_House___init__ : DfM K C_House "__init__" "House.__init__" s_House___init__ ["self", "book"] f_House___init__ fd_House___init__)
    (D_House_marks : DfM K C_House "marks" "House.marks" s_House_marks ["self"] f_House_marks fd_House_marks)
    (D_House_pin : DfM K C_House "pin" "House.pin" s_House_pin ["self", "names"] f_House_pin fd_House_pin)
    (D_must_hold : Df K mg "must_hold" s_must_hold ["store", "names"] f_must_hold fd_must_hold)
    (D_Pin___init__ : DfM K C_Pin "__init__" "Pin.__init__" s_Pin___init__ ["self", "store", "names"] f_Pin___init__ fd_Pin___init__)
    (D_Teller___init__ : DfM K C_Teller "__init__" "Teller.__init__" s_Teller___init__ ["self", "house"] f_Teller___init__ fd_Teller___init__)
    (D_Teller_answer : DfM K C_Teller "answer" "Teller.answer" s_Teller_answer ["self", "row"] f_Teller_answer fd_Teller_answer)
    (D_Teller_greeted : DfM K C_Teller "greeted" "Teller.greeted" s_Teller_greeted ["self"] f_Teller_greeted fd_Teller_greeted)
    (D_Teller_told : DfM K C_Teller "told" "Teller.told" s_Teller_told ["self", "names"] f_Teller_told fd_Teller_told)
    (D_law_deck : Df K mg "_law_deck" s_law_deck ["_law_script"] f_law_deck fd_law_deck)
    (D_law_mixed : Df K mg "_law_mixed" s_law_mixed ["_law_cell", "_law_turn"] f_law_mixed fd_law_mixed)
    (D_law_draw : Df K mg "_law_draw" s_law_draw ["_law_deck_here", "_law_many"] f_law_draw fd_law_draw)
    (D_law_text : Df K mg "_law_text" s_law_text ["_law_deck_here", "_law_most"] f_law_text fd_law_text)
    (D_law_label : Df K mg "_law_label" s_law_label ["_law_deck_here"] f_law_label fd_law_label)
    (D_law_give : Df K mg "_law_give" s_law_give ["_law_things", "_law_content"] f_law_give fd_law_give)
    (D_law_rows : Df K mg "_law_rows" s_law_rows ["_law_deck_here", "_law_elder"] f_law_rows fd_law_rows)
    (D_law_entries : Df K mg "_law_entries" s_law_entries ["_law_deck_here", "_law_lows"] f_law_entries fd_law_entries)
    (D_law_some : Df K mg "_law_some" s_law_some ["_law_deck_here", "_law_names", "_law_most"] f_law_some fd_law_some)
    (D_law_family : Df K mg "_law_family" s_law_family ["_law_deck_here", "_law_leaves", "_law_trees", "_law_versions"] f_law_family fd_law_family)
    (D_law_parts : Df K mg "_law_parts" s_law_parts ["_law_content"] f_law_parts fd_law_parts)
    (D_law_under : Df K mg "_law_under" s_law_under ["_law_things", "_law_starts"] f_law_under fd_law_under)
    (D_law_held : Df K mg "_law_held" s_law_held ["_law_deck_here", "_law_things"] f_law_held fd_law_held)
    (D_law_book : Df K mg "_law_book" s_law_book ["_law_things"] f_law_book fd_law_book)
    (D_law_house : Df K mg "_law_house" s_law_house ["_law_book_here", "_law_held_here"] f_law_house fd_law_house)
    (D_law_alike : Df K mg "_law_alike" s_law_alike ["_law_found", "_law_due"] f_law_alike fd_law_alike)
    (D_law_bad : Df K mg "_law_bad" s_law_bad ["_law_end", "_law_row"] f_law_bad fd_law_bad)
    (D_law_asks : Df K mg "_law_asks" s_law_asks ["_law_deck_here", "_law_many"] f_law_asks fd_law_asks)
    (D_law_bent : Df K mg "_law_bent" s_law_bent ["_law_deck_here", "_law_row"] f_law_bent fd_law_bent)
    (D_law : Df K mg "law" s_law ["_law_script"] f fd)
    (K_Book : Kl K mg "Book" C_Book ["contents", "depths", "given"]) (M_Book : Mk K C_Book f_Book___init__)
    (K_Holding : Kl K mg "Holding" C_Holding ["book", "row", "here"]) (M_Holding : Mk K C_Holding f_Holding___init__)
    (K_Store : Kl K mg "Store" C_Store ["book", "here", "turns"]) (M_Store : Mk K C_Store f_Store___init__)
    (K_House : Kl K mg "House" C_House ["book", "here", "turns", "stands", "lately", "others", "pinned"]) (M_House : Mk K C_House f_House___init__)
    (K_Pin : Kl K mg "Pin" C_Pin ["store", "on", "loose"]) (M_Pin : Mk K C_Pin f_Pin___init__)
    (K_Teller : Kl K mg "Teller" C_Teller ["home", "seen", "hold", "greeting", "wants", "bill", "lacks", "pack", "ended"]) (M_Teller : Mk K C_Teller f_Teller___init__)
    (X_BadRow : Exn K mg "BadRow" C_BadRow)
    (g_HouseError : mg "HouseError" = some (.ref C_HouseError))
    (g_NoName : mg "NoName" = some (.ref C_NoName))
    (g_NoMark : mg "NoMark" = some (.ref C_NoMark))
    (g_Contrary : mg "Contrary" = some (.ref C_Contrary))
    (xm_BadRow_HouseError : PySem.W.exmOne K (.ref C_BadRow) (.ref C_HouseError) = some true)
    (kq_BadRow_BadRow : PySem.W.kitOne K (.ref C_BadRow) (.ref C_BadRow) = some true)
    (kq_BadRow_NoName : PySem.W.kitOne K (.ref C_BadRow) (.ref C_NoName) = some false)
    (kq_BadRow_NoMark : PySem.W.kitOne K (.ref C_BadRow) (.ref C_NoMark) = some false)
    (kq_BadRow_Contrary : PySem.W.kitOne K (.ref C_BadRow) (.ref C_Contrary) = some false)
    (kq_BadRow_ValueError : PySem.W.kitOne K (.ref C_BadRow) (.type "ValueError") = some true)
    (I_House_put : Meth K C_House "put" f_Store_put)
    (I_House_held : Meth K C_House "held" f_Store_held)
    (I_House_view : Meth K C_House "view" f_Store_view)
    (I_House_holds : Meth K C_House "holds" f_Store_holds)
    (I_House_changes : Meth K C_House "changes" f_Store_changes)
    (R_Store : ClX.CRead K C_Store (.type "type"))
    (V_Store___init__ : ClX.CVal K C_Store (.type "type") "__init__" (.ref f_Store___init__) (.ref f_Store___init__))
    (EC_BadRow : ExcC K C_BadRow)
    : FnOk P w K mg base CX0 12 f fd ["_law_script"] (spLaw K) := by
  obtain ⟨ds_is_int, V_is_int, B_is_int⟩ := D_is_int.b
  obtain ⟨ds_is_text, V_is_text, B_is_text⟩ := D_is_text.b
  obtain ⟨tk_SIGNS, g_SIGNS⟩ := T.g_SIGNS
  obtain ⟨tk_LETTERS, g_LETTERS⟩ := T.g_LETTERS
  obtain ⟨tk_MOST, g_MOST⟩ := T.g_MOST
  obtain ⟨tk_DEEP, g_DEEP⟩ := T.g_DEEP
  have g_BadRow := X_BadRow.g
  have G_law_deck : FnOk P w K mg base CX0 1 f_law_deck fd_law_deck ["_law_script"] (spDeck K) := ok_deck T D_law_deck.fn
  have G_law_draw : FnOk P w K mg base CX0 2 f_law_draw fd_law_draw ["_law_deck_here", "_law_many"] spDraw := ok_draw T D_law_draw.fn D_law_mixed
  have G_law_family : FnOk P w K mg base CX0 5 f_law_family fd_law_family ["_law_deck_here", "_law_leaves", "_law_trees", "_law_versions"] spFamily := ok_family T D_law_family.fn D_law_mixed D_law_draw D_law_text D_law_label D_law_rows D_law_entries D_law_some D_law_give
  have G_law_held : FnOk P w K mg base CX0 3 f_law_held fd_law_held ["_law_deck_here", "_law_things"] spLHeld := ok_lheld T D_law_held.fn D_law_mixed D_law_draw D_law_parts D_law_under
  have G_is_content : FnOk P w K mg base CX0 5 f_is_content fd_is_content ["book", "thing"] (spIsContent P w C_Book) := ok_iscontent T D_is_content.fn K_Book D_is_tree D_is_version D_depth_of D_are_rows D_is_entry D_rise D_is_pair D_is_label D_rising_ints D_are_ints D_is_kind D_is_name D_is_int D_is_text
  have G_Book_named : FnOk P w K mg base CX0 6 f_Book_named fd_Book_named ["self", "content"] (spNamed P w C_Book) := ok_named T D_Book_named.fn K_Book D_is_content D_depth_of G_is_content
  have G_law_book : FnOk P w K mg base CX0 7 f_law_book fd_law_book ["_law_things"] (spLBook P w C_Book) := ok_lbook T D_law_book.fn K_Book M_Book D_Book___init__ D_Book_named G_Book_named
  have G_law_house : FnOk P w K mg base CX0 5 f_law_house fd_law_house ["_law_book_here", "_law_held_here"] (spLHouse P w C_Book C_House) := ok_lhouse T D_law_house.fn K_Book K_Store K_House M_House D_Store___init__ D_House___init__ D_Store_put I_House_put D_is_name D_is_int R_Store V_Store___init__
  have G_House_put : FnOk P w K mg base CX0 3 f_Store_put fd_Store_put ["self", "name"] (spPut P w C_Book C_House) := ok_put T D_Store_put.fn K_Book (house_kf K_House) D_is_name D_is_int
  have G_House_view : FnOk P w K mg base CX0 5 f_Store_view fd_Store_view ["self"] (spView P w C_Book C_Holding C_House) := ok_view T D_Store_view.fn K_Book K_Holding M_Holding (house_kf K_House) ⟨D_Store_held.fn, D_Store_held.b, I_House_held⟩ D_Holding___init__ D_is_name D_is_int
  have G_Holding_names : FnOk P w K mg base CX0 1 f_Holding_names fd_Holding_names ["self"] (spNames P w C_Book C_Holding) := ok_names T D_Holding_names.fn K_Holding
  have G_Holding_edges : FnOk P w K mg base CX0 6 f_Holding_edges fd_Holding_edges ["self"] (spEdges P w C_Book C_Holding) := ok_edges T D_Holding_edges.fn K_Book K_Holding D_Holding_versions D_Book_parts D_Book_kind D_Book_thing D_is_name D_is_int
  have G_House_pin : FnOk P w K mg base CX0 5 f_House_pin fd_House_pin ["self", "names"] (spPin P w C_Book C_House C_Pin) := ok_pin T D_House_pin.fn K_Book K_House K_Pin M_Pin D_Pin___init__ D_must_hold D_Store_holds I_House_holds D_is_name D_is_int
  have G_House_marks : FnOk P w K mg base CX0 1 f_House_marks fd_House_marks ["self"] (spMarks C_House) := ok_marks T D_House_marks.fn K_House
  have G_House_changes : FnOk P w K mg base CX0 1 f_Store_changes fd_Store_changes ["self"] (spHChanges C_House) := ok_hchanges T D_Store_changes.fn (house_kf K_House)
  have G_Teller___init__ : FnOk P w K mg base CX0 1 f_Teller___init__ fd_Teller___init__ ["self", "house"] (spTellInit C_Teller) := ok_tellinit T D_Teller___init__.fn K_Teller
  have G_Teller_greeted : FnOk P w K mg base CX0 7 f_Teller_greeted fd_Teller_greeted ["self"] (spGreet P w C_Book C_Holding C_House C_Teller) := ok_greet T D_Teller_greeted.fn K_House K_Holding K_Teller D_Store_view I_House_view G_House_view D_House_pin G_House_pin D_Holding_names G_Holding_names D_Holding_edges G_Holding_edges D_House_marks G_House_marks D_Store_changes I_House_changes G_House_changes
  have G_Teller_told : FnOk P w K mg base (L2.CX P w) 4 f_Teller_told fd_Teller_told ["self", "names"] (spTold P w C_Book C_Holding C_Teller C_BadRow) := ok_told T D_Teller_told.fn K_Book K_Holding K_Teller D_rising_ints D_are_ints D_rise D_Holding_holds D_is_name D_is_int X_BadRow
  have G_Teller_answer : FnOk P w K mg base (L2.CX P w) 8 f_Teller_answer fd_Teller_answer ["self", "row"] (spAnswer P w K C_Book C_Holding C_House C_Teller C_BadRow) := ok_answer T D_Teller_answer.fn K_Teller D_Teller_greeted G_Teller_greeted D_Teller_told G_Teller_told X_BadRow
  have G_law_bad := ok_lbad T D_law_bad.fn K_Teller D_Teller_answer G_Teller_answer EC_BadRow X_BadRow.g g_HouseError g_NoName g_NoMark g_Contrary xm_BadRow_HouseError kq_BadRow_BadRow kq_BadRow_NoName kq_BadRow_NoMark kq_BadRow_Contrary kq_BadRow_ValueError
  have G_law_asks : FnOk P w K mg base CX0 3 f_law_asks fd_law_asks ["_law_deck_here", "_law_many"] spLAsks := ok_lasks T D_law_asks.fn D_law_mixed D_law_draw
  have G_law_bent : FnOk P w K mg base CX0 3 f_law_bent fd_law_bent ["_law_deck_here", "_law_row"] (spLBent K) := ok_lbent T D_law_bent.fn D_law_mixed D_law_draw
  have G_law_alike : FnOk P w K mg base CX0 3 f_law_alike fd_law_alike ["_law_found", "_law_due"] (spAlike 2) := ok_alike T D_law_alike 2
  refine D_law.fn.ok sc_law (fun vs H Q E h => ?_) (fun cdv A outer s H vs Q E hr h => ?_)
  · obtain ⟨a, ns, rfl, _⟩ := h
    rfl
  · obtain ⟨a0, ns0, rfl, hS0, hl0, q⟩ := h
    have hu := hu_of hr
    refine ⟨_,
      (pss_cons
        (ps_set (i := 1) sc_law.nd rfl (.inl rfl) (pe_call G_law_deck (hr.mono (by omega)) (by rfl) D_law_deck.g D_law_deck.fn.kp D_law_deck.b .nil pass0 (pa_cons (pv 0) pa_nil)))
      (pss_cons
        (ps_set (i := 2) sc_law.nd rfl (.inl rfl) (pe_call G_law_family (hr.mono (by omega)) (by rfl) D_law_family.g D_law_family.fn.kp D_law_family.b .nil pass0 (pa_cons (pv 1) (pa_cons (pe_op op_add pe_int (pe_call G_law_draw (hr.mono (by omega)) (by rfl) D_law_draw.g D_law_draw.fn.kp D_law_draw.b .nil pass0 (pa_cons (pv 1) (pa_cons pe_int pa_nil)))) (pa_cons (pe_op op_add pe_int (pe_call G_law_draw (hr.mono (by omega)) (by rfl) D_law_draw.g D_law_draw.fn.kp D_law_draw.b .nil pass0 (pa_cons (pv 1) (pa_cons pe_int pa_nil)))) (pa_cons (pe_op op_add pe_int (pe_call G_law_draw (hr.mono (by omega)) (by rfl) D_law_draw.g D_law_draw.fn.kp D_law_draw.b .nil pass0 (pa_cons (pv 1) (pa_cons pe_int pa_nil)))) pa_nil))))))
      (pss_cons
        (ps_set (i := 3) sc_law.nd rfl (.inr rfl) (pe_call G_law_held (hr.mono (by omega)) (by rfl) D_law_held.g D_law_held.fn.kp D_law_held.b .nil pass0 (pa_cons (pv 1) (pa_cons (pv 2) pa_nil))))
      (pss_cons
        (ps_set (i := 4) sc_law.nd rfl (.inl rfl) (pe_call G_law_house (hr.mono (by omega)) (by rfl) D_law_house.g D_law_house.fn.kp D_law_house.b .nil pass0 (pa_cons (pe_call G_law_book (hr.mono (by omega)) (by rfl) D_law_book.g D_law_book.fn.kp D_law_book.b .nil pass0 (pa_cons (pv 2) pa_nil)) (pa_cons (pv 3) pa_nil))))
      (pss_cons
        (ps_set (i := 5) sc_law.nd rfl (.inl rfl) (pe_make M_Teller G_Teller___init__ (hr.mono (by omega)) (by rfl) K_Teller.g D_Teller___init__.b .nil pass0 (pa_cons (pv 4) pa_nil)))
      (pss_cons
        (ps_set (i := 6) sc_law.nd rfl (.inl rfl) (pe_call G_law_asks (hr.mono (by omega)) (by rfl) D_law_asks.g D_law_asks.fn.kp D_law_asks.b .nil pass0 (pa_cons (pv 1) (pa_cons (pe_callB (r := rLen K) c_len (by rfl) T.n_len (by decide +kernel) (pa_cons (pv 2) pa_nil)) pa_nil))))
      (pss_cons
        (ps_if (pt_not (pt_val (pe_call G_law_bad (hr.mono (by omega)) (by rfl) D_law_bad.g D_law_bad.fn.kp D_law_bad.b .nil pass0 (pa_cons (pv 5) (pa_cons (pe_tup (pa_cons pe_str (pa_cons (pv 6) pa_nil))) pa_nil)))))
          (pss_one
            (ps_ret pe_bl))
          pss_nil)
      (pss_cons
        (ps_expr (pe_meth (pv 5) K_Teller.cl D_Teller_answer.m G_Teller_answer (hr.mono (by omega)) D_Teller_answer.b .nil passL (pa_cons (pe_tup (pa_cons pe_str pa_nil)) pa_nil)))
      (pss_cons
        (ps_set (i := 7) sc_law.nd rfl (.inl rfl) (pe_tup (pa_cons pe_str (pa_cons (pe_callTy (r := rTupOf K) c_tupOf (by rfl) T.n_tuple (by decide +kernel) (pa_cons (pe_lc (own := [("_law_name", 11)]) (g := (gName 11)) rfl sc_law.nd (pi_tup (pv 6)) (blkOk_by (own := [("_law_name", 11)]) (N := N_law) (sc := defScope s_law) (by decide +kernel)) (fun _ _ _ _ _ => (pg_name (i := 11) sc_law.nd rfl (.inl rfl))) (fun _ _ _ _ _ => pts_nil) (fun _ _ _ _ _ => (pe_cmpR (r := rIn K false) op_in_seq (pv 11) (pv 3) rfl))) pa_nil)) pa_nil))))
      (pss_cons
        (ps_if (pt_not (pt_val (pe_call G_law_alike (hr.mono (by omega)) (by rfl) D_law_alike.g D_law_alike.fn.kp D_law_alike.b .nil pass0 (pa_cons (pe_meth (pv 5) K_Teller.cl D_Teller_answer.m G_Teller_answer (hr.mono (by omega)) D_Teller_answer.b .nil passL (pa_cons (pe_tup (pa_cons pe_str (pa_cons (pv 6) pa_nil))) pa_nil)) (pa_cons (pv 7) pa_nil)))))
          (pss_one
            (ps_ret pe_bl))
          pss_nil)
      (pss_cons
        (ps_for PassesOwn.never rfl (pi_range1 (by rfl) T.n_range (pa_cons pe_int pa_nil)) (pg_name (i := 8) sc_law.nd rfl (.inl rfl))
          (pss_cons
            (ps_expr (pe_meth (pv 4) K_House.cl I_House_put G_House_put (hr.mono (by omega)) D_Store_put.b .nil pass0 (pa_cons (pe_call G_law_draw (hr.mono (by omega)) (by rfl) D_law_draw.g D_law_draw.fn.kp D_law_draw.b .nil pass0 (pa_cons (pv 1) (pa_cons (pe_callB (r := rLen K) c_len (by rfl) T.n_len (by decide +kernel) (pa_cons (pv 2) pa_nil)) pa_nil))) pa_nil)))
          (pss_cons
            (ps_set (i := 9) sc_law.nd rfl (.inl rfl) (pe_call G_law_asks (hr.mono (by omega)) (by rfl) D_law_asks.g D_law_asks.fn.kp D_law_asks.b .nil pass0 (pa_cons (pv 1) (pa_cons (pe_callB (r := rLen K) c_len (by rfl) T.n_len (by decide +kernel) (pa_cons (pv 2) pa_nil)) pa_nil))))
          (pss_cons
            (ps_if (pt_not (pt_val (pe_call G_law_bad (hr.mono (by omega)) (by rfl) D_law_bad.g D_law_bad.fn.kp D_law_bad.b .nil pass0 (pa_cons (pv 5) (pa_cons (pe_tup (pa_cons pe_str (pa_cons (pe_call G_law_bent (hr.mono (by omega)) (by rfl) D_law_bent.g D_law_bent.fn.kp D_law_bent.b .nil pass0 (pa_cons (pv 1) (pa_cons (pv 9) pa_nil))) pa_nil))) pa_nil)))))
              (pss_one
                (ps_ret pe_bl))
              pss_nil)
          (pss_one
            (ps_if (pt_not (pt_val (pe_call G_law_alike (hr.mono (by omega)) (by rfl) D_law_alike.g D_law_alike.fn.kp D_law_alike.b .nil pass0 (pa_cons (pe_meth (pv 5) K_Teller.cl D_Teller_answer.m G_Teller_answer (hr.mono (by omega)) D_Teller_answer.b .nil passL (pa_cons (pe_tup (pa_cons pe_str (pa_cons (pv 9) pa_nil))) pa_nil)) (pa_cons (pe_tup (pa_cons pe_str (pa_cons (pe_callTy (r := rTupOf K) c_tupOf (by rfl) T.n_tuple (by decide +kernel) (pa_cons (pe_lc (own := [("_law_name", 11)]) (g := (gName 11)) rfl sc_law.nd (pi_tup (pv 9)) (blkOk_by (own := [("_law_name", 11)]) (N := N_law) (sc := defScope s_law) (by decide +kernel)) (fun _ _ _ _ _ => (pg_name (i := 11) sc_law.nd rfl (.inl rfl))) (fun _ _ _ _ _ => pts_nil) (fun _ _ _ _ _ => (pe_cmpR (r := rIn K false) op_in_seq (pv 11) (pv 3) rfl))) pa_nil)) pa_nil))) pa_nil)))))
              (pss_one
                (ps_ret pe_bl))
              pss_nil))))))
      (pss_cons
        (ps_set (i := 10) sc_law.nd rfl (.inl rfl) (pe_meth (pv 5) K_Teller.cl D_Teller_answer.m G_Teller_answer (hr.mono (by omega)) D_Teller_answer.b .nil passL (pa_cons (pe_tup (pa_cons pe_str (pa_cons (pe_tupRg rfl (by rfl) T.n_tuple (prg_1 (by rfl) T.n_range pe_int)) pa_nil))) pa_nil)))
      (pss_cons
        (ps_if (pt_not (pt_val (pe_call G_law_alike (hr.mono (by omega)) (by rfl) D_law_alike.g D_law_alike.fn.kp D_law_alike.b .nil pass0 (pa_cons (pv 10) (pa_cons (pe_tup (pa_cons pe_str (pa_cons (pe_callTy (r := rTupOf K) c_tupOf (by rfl) T.n_tuple (by decide +kernel) (pa_cons (pe_lc (own := [("_law_name", 11)]) (g := (gName 11)) rfl sc_law.nd (pi_range1 (by rfl) T.n_range (pa_cons pe_int pa_nil)) (blkOk_by (own := [("_law_name", 11)]) (N := N_law) (sc := defScope s_law) (by decide +kernel)) (fun _ _ _ _ _ => (pg_name (i := 11) sc_law.nd rfl (.inl rfl))) (fun _ _ _ _ _ => pts_nil) (fun _ _ _ _ _ => (pe_cmpR (r := rIn K false) op_in_seq (pv 11) (pv 3) rfl))) pa_nil)) pa_nil))) pa_nil)))))
          (pss_one
            (ps_ret pe_bl))
          pss_nil)
      (pss_one
        (ps_ret (pe_call G_law_alike (hr.mono (by omega)) (by rfl) D_law_alike.g D_law_alike.fn.kp D_law_alike.b .nil pass0 (pa_cons (pe_meth (pv 5) K_Teller.cl D_Teller_answer.m G_Teller_answer (hr.mono (by omega)) D_Teller_answer.b .nil passL (pa_cons (pe_tup (pa_cons pe_str (pa_cons (pv 6) pa_nil))) pa_nil)) (pa_cons (pv 7) pa_nil))))))))))))))))))
      , ?_⟩
    rw [show L2.start N_law [V.ref a0] = [some (.ref a0), none, none, none, none, none, none, none, none, none, none, none] from rfl]
    walk_at "x"
    refine w_deck hS0 fun H1 d c k1 hd0 hc0 D1 => ?_
    walk_at "g"
    refine w_draw D1 (by decide) (by decide) (by decide) fun x1 H2 hx1 D2 o2 => ?_
    walk_at "g"
    refine w_draw D2 (by decide) (by decide) (by decide) fun x2 H3 hx2 D3 o3 => ?_
    walk_at "g"
    refine w_draw D3 (by decide) (by decide) (by decide) fun x3 H4 hx3 D4 o4 => ?_
    walk_at "g"
    have g1 : (2 + (x1 : Int)) = ((2 + x1 : Nat) : Int) := by omega
    have g2 : (1 + (x2 : Int)) = ((1 + x2 : Nat) : Int) := by omega
    have g3 : (1 + (x3 : Int)) = ((1 + x3 : Nat) : Int) := by omega
    refine ⟨d, c, _, 2 + x1, 1 + x2, 1 + x3, by rw [g1, g2, g3]; rfl, D4, by omega, by omega, by omega, by omega, by unfold MOSTD; omega, fun H5 th cs D5 x5 hth T5 F5 hc5 hc1 hvv => ?_⟩
    have hcl : cs.length ≤ 16 := by omega
    have D5' := D5.mono (show _ ≤ 3000 by omega)
    have nthd : th ≠ d := (D4.ne1 hth).1
    clear D1 D2 D3 D4 D5
    walk_at "g"
    refine ⟨d, c, th, 3000, cs, _, rfl, D5', by decide, T5, nthd, F5, by omega, fun hl H6 hs hhl ehl hup hin D6 x6 => ?_⟩
    have nhld : hl ≠ d := (D5'.ne1 hhl).1
    have T6 := T5.kp x6.p x6.t (by simpa using nthd)
    have hsl : hs.length ≤ 16 := by
      have := rise_len hs 0 cs.length hup (fun _ _ => Nat.zero_le _) hin (Nat.zero_le _)
      omega
    walk_at "g"
    refine ⟨th, cs, rfl, T6, F5.ok, F5.nd, by omega, fun H7 p dx lc ld lg ds hp hlc hld hlg B7 k7 => ?_⟩
    have D7 : Deck H7 d c 3500 := D6.kp (M := []) (Kp.of k7) (by simp) (by simp)
    have npd := (D6.ne1 hp).1
    have nlcd := (D6.ne1 hlc).1
    have nldd := (D6.ne1 hld).1
    have nlgd := (D6.ne1 hlg).1
    have T7 := T6.same k7
    have ehl7 := k7 _ _ ehl
    walk_at "g"
    refine ⟨p, dx, lc, ld, lg, hl, cs, ds, hs, rfl, B7, ehl7, hin, by omega, fun s dy hd a1 a2 a3 a4 kk H8 hs0 hhd0 ha1 ha2 ha3 ha4 S8 nh ns k8 => ?_⟩
    have B8 := B7.same k8
    have D8 : Deck H8 d c 3500 := D7.kp (M := []) (Kp.of k8) (by simp) (by simp)
    have nsd : s ≠ d := (D7.ne1 hs0).1
    have nhdd : hd ≠ d := (D7.ne1 hhd0).1
    have na4d : a4 ≠ d := (D7.ne1 ha4).1
    have na1d : a1 ≠ d := (D7.ne1 ha1).1
    have T8 := T7.same k8
    have ob8 := S8.st.ob
    obtain ⟨fk8, efk8⟩ := S8.st.here.obj
    walk_at "g"
    refine w_make' fun te dt H9 hte hdt hne e9 k9 => ?_
    refine ⟨te, dt, s, rfl, e9, fun g H10 TE10 k10 => ⟨rfl, ?_⟩⟩
    have k810 : Same H8 H10 := fun b o e => k10 _ _ (by simpa using ne_of_none e hte) (k9 _ _ e)
    have nted : te ≠ d := (D8.ne1 hte).1
    have D10 : Deck H10 d c 3500 := D8.kp (M := []) (Kp.of k810) (by simp) (by simp)
    have T10 := T8.same k810
    have hth10 := T10.at'
    walk_at "g"
    refine ⟨d, c, _, cs.length, by rw [List.length_map]; rfl, D10, by decide, fun H11 t0 an D11 x11 e11 aup an1 an20 => ?_⟩
    have TE11 := TE10.kp x11.p (by simpa using nted)
    have S11 := (S8.st.same k810).kp x11.p (by simpa using nsd) (by simpa using nhdd)
    have B11 := (B8.same k810).kp x11.p x11.t (by simpa using npd) (by simpa using nlcd) (by simpa using nldd) (by simpa using nlgd)
    have T11 := T10.kp x11.p x11.t (by simpa using nthd)
    have ehl11 := x11.p _ _ (by simpa using nhld) (k810 _ _ (k8 _ _ ehl7))
    have m111 := x11.p _ _ (by simpa using na1d) (k810 _ _ S8.h1)
    have m411 := x11.p _ _ (by simpa using na4d) (k810 _ _ S8.h4)
    have T7' := T7
    have D7' := D7
    have D8' := D8
    clear D5' D6 T5 T6 T8 T10
    walk_at "g"
    refine w_seq ?_
    walk_at "g"
    refine w_new fun r12 H12 hr12 e12 k12 => ?_
    have et12 := k12 _ _ e11
    have TE12 := TE11.kp (M := []) (Kp.of k12) (by simp)
    obtain ⟨dp12, sh12⟩ := have_nats (K := K) et12
    walk_at "g"
    refine ⟨te, r12, dt, s, .ref t0, _, rfl, e12, dp12, sh12, .inl ⟨_, TE12⟩, fun H13 k13 => ?_⟩
    have k1113 := Same.trans k12 k13
    have TE13 := TE11.kp (M := []) (Kp.of k1113) (by simp)
    obtain ⟨wv, bv, lv, pkv, ete13⟩ := TE13
    walk_at "g"
    refine w_new fun r14 H14 hr14 e14 k14 => ?_
    have k1114 := Same.trans k1113 k14
    have TE14 := TE11.kp (M := []) (Kp.of k1114) (by simp)
    have nts : te ≠ s := (ne_of_none ob8 hte).symm
    have ntp : te ≠ p := (ne_of_none B8.ob hte).symm
    have G14 : GrW P w C_Book C_House C_Teller H14 te dt s dy p dx lc ld lg hd a1 a2 a3 a4 cs ds kk (fun n => n ∈ hs) [] := ⟨⟨_, TE14⟩, S11.same k1114, B11.same k1114, F5.bk, hin, k1114 _ _ m111, k1114 _ _ m411, by simp, ⟨nts, ntp⟩, ⟨ne_of_none B7.co ha4, ne_of_none B7.de ha4⟩⟩
    walk_at "g"
    refine ⟨te, r14, rfl, .inl ⟨dt, s, dy, p, dx, lc, ld, lg, hd, a1, a2, a3, a4, cs, ds, kk, fun n => n ∈ hs, [], e14, G14, fun H0 k0 v dv rw1 hv1 z g' hs1 H15 hv0 hrw0 hhv0 hz0 TE15 W15 hm15 S15 e415 kp15 kt15 => ?_⟩⟩
    obtain rfl : hs1 = hs := rise_extR W15.up hup hm15
    have k110 := Same.trans k1114 k0
    have nl4 : hl ∉ [te, a4] := by
      simp only [List.mem_cons, List.not_mem_nil, or_false, not_or]
      exact ⟨ne_of_none (k8 _ _ ehl7) hte, ne_of_none ehl7 ha4⟩
    have nd4 : d ∉ [te, a4] := by
      simp only [List.mem_cons, List.not_mem_nil, or_false, not_or]
      exact ⟨nted.symm, na4d.symm⟩
    have nth4 : th ∉ [te, a4] := by
      simp only [List.mem_cons, List.not_mem_nil, or_false, not_or]
      exact ⟨ne_of_none (k8 _ _ T7'.at') hte, ne_of_none T7'.at' ha4⟩
    have ehl15 := kp15 _ _ nl4 (k110 _ _ ehl11)
    have D0 : Deck H0 d c (3500 + 30) := D11.kp (M := []) (Kp.of k110) (by simp) (by simp)
    have nc4 : c ∉ [te, a4] := by
      simp only [List.mem_cons, List.not_mem_nil, or_false, not_or]
      exact ⟨fun z => (D8'.ne1 hte).2 z.symm, fun z => (D7'.ne1 ha4).2 z.symm⟩
    have D15 : Deck H15 d c (3500 + 30) := D0.kp kp15 nd4 nc4
    have et15 : H15 t0 = some (.tup (an.map nV)) := kt15 _ _ (k110 _ _ e11)
    have T15 : ThAt H15 th cs := (T11.same k110).kp kp15 kt15 nth4
    have hth15 := T15.at'
    obtain ⟨xs0, exs0⟩ := D0.at.1
    have nvd : v ≠ d := (ne_of_none exs0 hv0).symm
    have nrwd : rw1 ≠ d := (ne_of_none exs0 hrw0).symm
    have nhvd : hv1 ≠ d := (ne_of_none exs0 hhv0).symm
    -- the answer to names that rise
    have hvb : ∀ ns : List Nat, (ns.map fun n => V.bl (decide (n ∈ hs1))) = (ns.map fun n => decide (n ∈ hs1)).map V.bl := fun ns => by rw [List.map_map]; rfl
    have tell : ∀ (Hx : Hp) (r t : Addr) (ns : List Nat) (Q' : VK) (E' : XK), TeAt C_Teller Hx te dt s (.ref v) (.ref z) (.ref g') → ViewAt P w C_Book C_Holding Hx v dv p dx lc ld lg rw1 hv1 cs ds hs1 → Hx r = some (.tup [.str "have", .ref t]) → Hx t = some (.tup (ns.map nV)) → ns.Pairwise (· < ·) → 1 ≤ ns.length → ns.length ≤ 20 → (∀ (H' : Hp) (a : Addr), Same Hx H' → HvAt H' a (ns.map fun n => decide (n ∈ hs1)) → Q' (.ref a) H') → spAnswer P w K C_Book C_Holding C_House C_Teller C_BadRow [.ref te, .ref r] Hx Q' E' := by
      intro Hx r t ns Q' E' TEx Wx er et up h1 h20 hq
      obtain ⟨dpx, shx⟩ := have_nats (K := K) et
      refine ⟨te, r, rfl, .inr ⟨dt, s, .ref t, _, er, dpx, shx, .inr ⟨v, dv, p, dx, lc, ld, lg, rw1, hv1, .ref z, .ref g', cs, ds, hs1, 1000, TEx, Wx, dat_nats et (by omega), Nat.le_refl _, fun H0 k0 => ⟨fun ns' hN _ _ _ H' a b k e1 e2 => ?_, fun hno => absurd ⟨up, h1, h20⟩ (hno ns ⟨t, rfl, k0 _ _ et⟩)⟩⟩⟩⟩
      obtain ⟨t', e', et'⟩ := hN
      cases e'
      have e3 := k0 _ _ et
      rw [e3] at et'
      have h3 := HO.tup.inj (Option.some.inj et')
      have h4 : ns = ns' := by
        have := congrArg (List.map fun v : V => match v with | .int i => i.toNat | _ => 0) h3
        rw [List.map_map, List.map_map] at this
        simpa [Function.comp_def] using this
      refine hq H' a (Same.trans k0 k) ⟨b, e1, ?_⟩
      rw [e2, ← h4, hvb]
    walk_at "g"
    refine lcp_map (walk_tup (K := K) (a := t0) (xs := an.map nV)) [] (an.map fun n => V.bl (decide (n ∈ hs1))) (by simp) (by rw [List.length_map]; omega) (fun H' k => .of (k _ _ (by simp) et15)) ?_ (by simp) ?_
    · rintro i x Ha Hb R hi ka ⟨rfl, hx⟩ hR
      obtain ⟨n, hn, rfl⟩ := map_at hx
      refine w_name ⟨rfl, ?_⟩
      walk_at "g"
      refine w_inNL (ka.same _ _ ehl15) ?_
      exact hR _ _ (by rw [List.getElem?_map, hn]; rfl) Kp.refl
    intro l16 H16 hl16 k16 e16
    walk_at "g"
    refine w_tupL (.of e16) fun b17 H17 hb17 e17 k17 => ?_
    walk_at "g"
    refine w_new fun ea H18 hea e18 k18 => ?_
    have k1518 := Same.trans k16.same (Same.trans k17 k18)
    have E18 : HvAt H18 ea (an.map fun n => decide (n ∈ hs1)) := ⟨b17, e18, by rw [k18 _ _ e17, hvb]⟩
    have hal : (an.map fun n => decide (n ∈ hs1)).length ≤ 1000 := by rw [List.length_map]; omega
    have TE18 := TE15.kp (M := []) (Kp.of k1518) (by simp)
    obtain ⟨wv2, bv2, lv2, pkv2, ete18⟩ := TE18
    have et18 := k1518 _ _ et15
    walk_at "g"
    refine w_seq ?_
    walk_at "g"
    refine w_new fun r19 H19 hr19 e19 k19 => ?_
    have k1519 := Same.trans k1518 k19
    walk_at "g"
    refine tell H19 r19 t0 an _ _ (TE15.kp (M := []) (Kp.of k1519) (by simp)) (W15.same k1519) e19 (k19 _ _ et18) aup an1 an20 fun H20 a20 k20 A20 => ?_
    walk_at "g"
    refine ⟨_, _, rfl, A20.sd (E18.kt (KT.of (Same.trans k19 k20))) hal, fun H21 k21 => ?_⟩
    have k1521 := Same.trans k1519 (Same.trans k20 k21)
    have E21 := E18.kt (KT.of (Same.trans k19 (Same.trans k20 k21)))
    have S21 := S15.same k1521
    have W21 := W15.same k1521
    have TE21 := TE15.kp (M := []) (Kp.of k1521) (by simp)
    have D21 : Deck H21 d c 4000 := (D15.kp (M := []) (Kp.of k1521) (by simp) (by simp)).mono (by decide)
    have ehl21 := k1521 _ _ ehl15
    have hth21 := k1521 _ _ hth15
    have et21 := k1521 _ _ et15
    have S0 := S11.same k110
    obtain ⟨fk0, efk0⟩ := S0.here.obj
    have to7 : ∀ {a : Addr} {o : HO}, a ≠ d → H7 a = some o → a ∉ [d, s, hd] := fun {a o} nd e => by
      simp only [List.mem_cons, List.not_mem_nil, or_false, not_or]
      exact ⟨nd, ne_of_none e hs0, ne_of_none e hhd0⟩
    have fr0 : ∀ {a : Addr}, a ≠ d → H0 a = none → a ∉ [d, s, hd] := fun {a} nd e => by
      simp only [List.mem_cons, List.not_mem_nil, or_false, not_or]
      exact ⟨nd, (ne_of_none S0.ob e).symm, (ne_of_none efk0 e).symm⟩
    have nte3 : te ∉ [d, s, hd] := by
      simp only [List.mem_cons, List.not_mem_nil, or_false, not_or]
      exact ⟨nted, nts, (ne_of_none efk8 hte).symm⟩
    have nth3 := to7 nthd T7'.at'
    have nhl3 := to7 nhld ehl7
    have TEk : ∀ {H'}, Kp [d, s, hd] H21 H' → TeAt C_Teller H' te dt s (.ref v) (.ref z) (.ref g') := fun {H'} k => TE21.kp k nte3
    have Wk : ∀ {H'}, Kp [d, s, hd] H21 H' → KT H21 H' → ViewAt P w C_Book C_Holding H' v dv p dx lc ld lg rw1 hv1 cs ds hs1 := fun {H'} k t => W21.kp k t (fr0 nvd hv0) (fr0 nrwd hrw0) (fr0 nhvd hhv0) (to7 npd B7.ob) (to7 nlcd B7.co) (to7 nldd B7.de) (to7 nlgd B7.gi.at')
    have kpd : ∀ {H1 H2 : Hp} {n m : Nat}, Deck H1 d c n → Deck H2 d c m → KX d H1 H2 → Kp [d, s, hd] H1 H2 := fun {H1 H2 n m} _ _ x => x.p.mono (by simp)
    walk_at "g"
    try refine w_rng1' (by omega) (by omega) ?_
    refine lp_range (n := 3) (fun i σ H' => ∃ (y8 y9 : Option V) (k : Nat) (F : Nat → Prop), σ = [some (.ref a0), some (.ref d), some (.ref th), some (.ref hl), some (.ref s), some (.ref te), some (.ref t0), some (.ref ea), y8, y9, none, none] ∧ Deck H' d c (4000 + 200 * i) ∧ Kp [d, s, hd] H21 H' ∧ KT H21 H' ∧ StAt C_House H' s dy p hd (hrs a1 a2 a3 a4) k F) ⟨_, _, kk, _, rfl, D21, Kp.refl, KT.refl, S21⟩ ?_ ?_
    · rintro i σ H22 hi ⟨y8, y9, k, F, rfl, D22, k22, t22, S22⟩
      have obS22 := S22.ob
      have hth22 := k22 _ _ nth3 hth21
      walk_at "g"
      refine w_draw D22 (by unfold MOSTD; omega) (by rw [List.length_map]; omega) (by rw [List.length_map]; omega) fun zi H23 hzi D23 o23 => ?_
      rw [List.length_map] at hzi
      have x23 := D22.kx D23 o23
      have S23 := S22.kp x23.p (by simpa using nsd) (by simpa using nhdd)
      have k23 := k22.trans (kpd D22 D23 x23)
      have t23 := t22.trans x23.t
      walk_at "g"
      refine put_any S23 (Wk k23 t23).bk (show (4 : Nat) ≤ 900 by decide) (show zi < cs.length by omega) fun _ H24 k' F' S24 kp24 kt24 => ?_
      have nd2 : d ∉ [s, hd] := by
        simp only [List.mem_cons, List.not_mem_nil, or_false, not_or]
        exact ⟨nsd.symm, nhdd.symm⟩
      have nc2 : c ∉ [s, hd] := by
        simp only [List.mem_cons, List.not_mem_nil, or_false, not_or]
        exact ⟨fun z => (D7'.ne1 hs0).2 z.symm, fun z => (D7'.ne1 hhd0).2 z.symm⟩
      have D24 : Deck H24 d c (4000 + 200 * i + 1) := D23.kp kp24 nd2 nc2
      have k24 := k23.trans (kp24.mono (by simp))
      have t24 := t23.trans kt24
      have hth24 := k24 _ _ nth3 hth21
      walk_at "g"
      refine ⟨d, c, _, cs.length, by rw [List.length_map]; rfl, D24, by unfold MOSTD; omega, fun H25 tr rn D25 x25 e25 rup rn1 rn20 => ?_⟩
      have k25 := k24.trans (kpd D24 D25 x25)
      have t25 := t24.trans x25.t
      have S25 := S24.kp x25.p (by simpa using nsd) (by simpa using nhdd)
      walk_at "g"
      refine w_seq ?_
      walk_at "g"
      refine ⟨d, c, tr, _, rn, rfl, D25, by unfold MOSTD; omega, e25, rup, rn1, rn20, fun H26 x D26 x26 B26 => ?_⟩
      have k26 := k25.trans (kpd D25 D26 x26)
      have t26 := t25.trans x26.t
      have S26 := S25.kp x26.p (by simpa using nsd) (by simpa using nhdd)
      have e26 := x26.t _ _ e25
      walk_at "g"
      refine w_new fun r27 H27 hr27 e27 kn27 => ?_
      have k27 := k26.trans (Kp.of kn27)
      have t27 := t26.trans (KT.of kn27)
      obtain ⟨⟨dd, dp27, sh27⟩, hdt27, hno27⟩ := B26.same kn27
      walk_at "g"
      refine ⟨te, r27, dt, s, x, dd, rfl, e27, dp27, sh27, .inr ⟨v, dv, p, dx, lc, ld, lg, rw1, hv1, .ref z, .ref g', cs, ds, hs1, 1000, TEk k27, Wk k27 t27, hdt27, Nat.le_refl _, hno27⟩, fun H28 kn28 => ?_⟩
      have k28 := k27.trans (Kp.of kn28)
      have t28 := t27.trans (KT.of kn28)
      have n2628 := Same.trans kn27 kn28
      obtain ⟨wv3, bv3, lv3, pkv3, ete28⟩ := TEk k28
      have e28 := n2628 _ _ e26
      walk_at "g"
      refine w_new fun r29 H29 hr29 e29 kn29 => ?_
      have n2629 := Same.trans n2628 kn29
      walk_at "g"
      refine tell H29 r29 tr rn _ _ (TEk (k28.trans (Kp.of kn29))) (Wk (k28.trans (Kp.of kn29)) (t28.trans (KT.of kn29))) e29 (kn29 _ _ e28) rup rn1 rn20 fun H30 a30 kn30 A30 => ?_
      have n2630 := Same.trans n2629 kn30
      have ehl30 := n2630 _ _ (k26 _ _ nhl3 ehl21)
      have e30 := n2630 _ _ e26
      walk_at "g"
      refine lcp_map (walk_tup (K := K) (a := tr) (xs := rn.map nV)) [] (rn.map fun n => V.bl (decide (n ∈ hs1))) (by simp) (by rw [List.length_map]; omega) (fun H' k => .of (k _ _ (by simp) e30)) ?_ (by simp) ?_
      · rintro j x Ha Hb R hj ka ⟨rfl, hx⟩ hR
        obtain ⟨n, hn, rfl⟩ := map_at hx
        refine w_name ⟨rfl, ?_⟩
        walk_at "g"
        refine w_inNL (ka.same _ _ ehl30) ?_
        exact hR _ _ (by rw [List.getElem?_map, hn]; rfl) Kp.refl
      intro l31 H31 hl31 kn31 e31
      walk_at "g"
      refine w_tupL (.of e31) fun b32 H32 hb32 e32 kn32 => ?_
      walk_at "g"
      refine w_new fun a33 H33 ha33 e33 kn33 => ?_
      have n3033 := Same.trans kn31.same (Same.trans kn32 kn33)
      have E33 : HvAt H33 a33 (rn.map fun n => decide (n ∈ hs1)) := ⟨b32, e33, by rw [kn33 _ _ e32, hvb]⟩
      walk_at "g"
      refine ⟨_, _, rfl, (A30.kt (KT.of n3033)).sd E33 (by rw [List.length_map]; omega), fun H34 kn34 => ?_⟩
      have n2634 := Same.trans n2630 (Same.trans n3033 kn34)
      walk_at "g"
      exact ⟨_, _, _, _, rfl, (D26.kp (M := []) (Kp.of n2634) (by simp) (by simp)).mono (by omega), k26.trans (Kp.of n2634), t26.trans (KT.of n2634), S26.same n2634⟩
    rintro σ H22 ⟨y8, y9, k, F, rfl, D22, k22, t22, S22⟩
    obtain ⟨wv4, bv4, lv4, pkv4, ete22⟩ := TEk k22
    walk_at "g"
    refine ⟨⟨by decide, by decide, by decide, by decide, by decide⟩, ?_⟩
    refine w_new fun p23 H23 hp23 e23 kn23 => ?_
    rw [rgV_allF (j := 20) 20 rfl] at e23
    walk_at "g"
    refine w_new fun r24 H24 hr24 e24 kn24 => ?_
    have n2224 := Same.trans kn23 kn24
    walk_at "g"
    refine tell H24 r24 p23 (List.range 20) _ _ (TEk (k22.trans (Kp.of n2224))) (Wk (k22.trans (Kp.of n2224)) (t22.trans (KT.of n2224))) e24 (kn24 _ _ e23) List.pairwise_lt_range (by rw [List.length_range]; decide) (by rw [List.length_range]; decide) fun H25 a25 kn25 A25 => ?_
    have n2225 := Same.trans n2224 kn25
    have ehl25 := n2225 _ _ (k22 _ _ nhl3 ehl21)
    walk_at "g"
    refine w_seq ?_
    walk_at "g"
    try refine w_rng1' (by omega) (by omega) ?_
    refine lcp_map (walk_range (lo := 0) (n := 20)) [] ((List.range 20).map fun n => V.bl (decide (n ∈ hs1))) (by simp) (by decide) (fun H' k => trivial) ?_ (by simp) ?_
    · rintro j x Ha Hb R hj ka ⟨rfl, rfl⟩ hR
      refine w_name ⟨rfl, ?_⟩
      walk_at "g"
      rw [show (0 : Int) + (j : Int) = (j : Int) by omega]
      refine w_inNL (ka.same _ _ ehl25) ?_
      exact hR _ _ (by rw [List.getElem?_map, List.getElem?_range hj]; rfl) Kp.refl
    intro l26 H26 hl26 kn26 e26
    walk_at "g"
    refine w_tupL (.of e26) fun b27 H27 hb27 e27 kn27 => ?_
    walk_at "g"
    refine w_new fun a28 H28 ha28 e28 kn28 => ?_
    have n2528 := Same.trans kn26.same (Same.trans kn27 kn28)
    have E28 : HvAt H28 a28 ((List.range 20).map fun n => decide (n ∈ hs1)) := ⟨b27, e28, by rw [kn28 _ _ e27, hvb]⟩
    walk_at "g"
    refine ⟨_, _, rfl, (A25.kt (KT.of n2528)).sd E28 (by rw [List.length_map, List.length_range]; decide), fun H29 kn29 => ?_⟩
    have n2229 := Same.trans n2225 (Same.trans n2528 kn29)
    have k29 := k22.trans (Kp.of n2229)
    have t29 := t22.trans (KT.of n2229)
    obtain ⟨wv5, bv5, lv5, pkv5, ete29⟩ := TEk k29
    have et29 := t29 _ _ et21
    walk_at "g"
    refine w_new fun r30 H30 hr30 e30 kn30 => ?_
    walk_at "g"
    refine tell H30 r30 t0 an _ _ (TEk (k29.trans (Kp.of kn30))) (Wk (k29.trans (Kp.of kn30)) (t29.trans (KT.of kn30))) e30 (kn30 _ _ et29) aup an1 an20 fun H31 a31 kn31 A31 => ?_
    walk_at "g"
    refine ⟨_, _, rfl, A31.sd ((E21.kt t29).kt (KT.of (Same.trans kn30 kn31))) hal, fun H32 kn32 => ?_⟩
    exact q _
end
theorem all_mk {l : PySem.W.OpenLaw} {w : World} {K : PySem.W.Frag} {h : Heap} {mg : Str → Option Value} {fa f_is_int f_is_text f_is_label f_rise f_are_ints f_rising_ints f_is_pair f_are_rows f_Book___init__ f_Book_named f_Book_thing f_Book_kind f_Book_parts f_is_name f_is_kind f_is_entry f_is_tree f_depth_of f_is_version f_is_content f_Holding___init__ f_Holding_holds f_Holding_names f_Holding_versions f_Holding_edges f_Store___init__ f_Store_put f_Store_held f_Store_view f_Store_holds f_Store_changes f_House___init__ f_House_marks f_House_pin f_must_hold f_Pin___init__ f_Teller___init__ f_Teller_answer f_Teller_greeted f_Teller_told f_law_deck f_law_mixed f_law_draw f_law_text f_law_label f_law_give f_law_rows f_law_entries f_law_some f_law_family f_law_parts f_law_under f_law_held f_law_book f_law_house f_law_alike f_law_bad f_law_asks f_law_bent f_law C_Book C_Holding C_Store C_House C_Pin C_Teller : Addr} (X : K.In h) (G : h.Ns mainGlobals mg) (hfa : mg "law" = some (.ref fa))
    {od_is_int an_is_int : Option Addr} {sl_is_int : Array (Option Value)} {oc_is_int kV_is_int dc_is_int pm_is_int cd_is_int ct_is_int : Value}
    (a_is_int : PySem.W.nsIn K mainGlobals "is_int" = some (some (.ref f_is_int)))
    {dt_is_int : Addr} {do_is_int : Value} {dd_is_int : Option Addr} {dn_is_int : Nat} {ds_is_int : Array (Option Value)} {dk_is_int_least : Tok}
    (l_is_int : K.lookup f_is_int = some ⟨oc_is_int, od_is_int, .func (PySem.W.fnOf "is_int" "is_int" (defArgs s_is_int) (defBody s_is_int) (defScope s_is_int) (.ref dt_is_int) kV_is_int dc_is_int pm_is_int an_is_int cd_is_int ct_is_int), sl_is_int⟩) (c_is_int : PySem.W.codeIn K cd_is_int "is_int" = true) (k_is_int : PySem.W.keepIn K (.ref f_is_int) = true)
    (dl_is_int : K.lookup dt_is_int = some ⟨do_is_int, dd_is_int, .seq #[.int 0 dk_is_int_least] dn_is_int, ds_is_int⟩)
    {od_is_text an_is_text : Option Addr} {sl_is_text : Array (Option Value)} {oc_is_text kV_is_text dc_is_text pm_is_text cd_is_text ct_is_text : Value}
    (a_is_text : PySem.W.nsIn K mainGlobals "is_text" = some (some (.ref f_is_text)))
    {dt_is_text : Addr} {do_is_text : Value} {dd_is_text : Option Addr} {dn_is_text : Nat} {ds_is_text : Array (Option Value)} {dk_is_text_most : Tok}
    (l_is_text : K.lookup f_is_text = some ⟨oc_is_text, od_is_text, .func (PySem.W.fnOf "is_text" "is_text" (defArgs s_is_text) (defBody s_is_text) (defScope s_is_text) (.ref dt_is_text) kV_is_text dc_is_text pm_is_text an_is_text cd_is_text ct_is_text), sl_is_text⟩) (c_is_text : PySem.W.codeIn K cd_is_text "is_text" = true) (k_is_text : PySem.W.keepIn K (.ref f_is_text) = true)
    (dl_is_text : K.lookup dt_is_text = some ⟨do_is_text, dd_is_text, .seq #[.int 40 dk_is_text_most] dn_is_text, ds_is_text⟩)
    {od_is_label an_is_label : Option Addr} {sl_is_label : Array (Option Value)} {oc_is_label kV_is_label dc_is_label pm_is_label cd_is_label ct_is_label : Value}
    (a_is_label : PySem.W.nsIn K mainGlobals "is_label" = some (some (.ref f_is_label)))
    (l_is_label : K.lookup f_is_label = some ⟨oc_is_label, od_is_label, .func (PySem.W.fnOf "is_label" "is_label" (defArgs s_is_label) (defBody s_is_label) (defScope s_is_label) .none kV_is_label dc_is_label pm_is_label an_is_label cd_is_label ct_is_label), sl_is_label⟩) (c_is_label : PySem.W.codeIn K cd_is_label "is_label" = true) (k_is_label : PySem.W.keepIn K (.ref f_is_label) = true)
    {od_rise an_rise : Option Addr} {sl_rise : Array (Option Value)} {oc_rise kV_rise dc_rise pm_rise cd_rise ct_rise : Value}
    (a_rise : PySem.W.nsIn K mainGlobals "rise" = some (some (.ref f_rise)))
    (l_rise : K.lookup f_rise = some ⟨oc_rise, od_rise, .func (PySem.W.fnOf "rise" "rise" (defArgs s_rise) (defBody s_rise) (defScope s_rise) .none kV_rise dc_rise pm_rise an_rise cd_rise ct_rise), sl_rise⟩) (c_rise : PySem.W.codeIn K cd_rise "rise" = true) (k_rise : PySem.W.keepIn K (.ref f_rise) = true)
    {od_are_ints an_are_ints : Option Addr} {sl_are_ints : Array (Option Value)} {oc_are_ints kV_are_ints dc_are_ints pm_are_ints cd_are_ints ct_are_ints : Value}
    (a_are_ints : PySem.W.nsIn K mainGlobals "are_ints" = some (some (.ref f_are_ints)))
    (l_are_ints : K.lookup f_are_ints = some ⟨oc_are_ints, od_are_ints, .func (PySem.W.fnOf "are_ints" "are_ints" (defArgs s_are_ints) (defBody s_are_ints) (defScope s_are_ints) .none kV_are_ints dc_are_ints pm_are_ints an_are_ints cd_are_ints ct_are_ints), sl_are_ints⟩) (c_are_ints : PySem.W.codeIn K cd_are_ints "are_ints" = true) (k_are_ints : PySem.W.keepIn K (.ref f_are_ints) = true)
    {od_rising_ints an_rising_ints : Option Addr} {sl_rising_ints : Array (Option Value)} {oc_rising_ints kV_rising_ints dc_rising_ints pm_rising_ints cd_rising_ints ct_rising_ints : Value}
    (a_rising_ints : PySem.W.nsIn K mainGlobals "rising_ints" = some (some (.ref f_rising_ints)))
    (l_rising_ints : K.lookup f_rising_ints = some ⟨oc_rising_ints, od_rising_ints, .func (PySem.W.fnOf "rising_ints" "rising_ints" (defArgs s_rising_ints) (defBody s_rising_ints) (defScope s_rising_ints) .none kV_rising_ints dc_rising_ints pm_rising_ints an_rising_ints cd_rising_ints ct_rising_ints), sl_rising_ints⟩) (c_rising_ints : PySem.W.codeIn K cd_rising_ints "rising_ints" = true) (k_rising_ints : PySem.W.keepIn K (.ref f_rising_ints) = true)
    {od_is_pair an_is_pair : Option Addr} {sl_is_pair : Array (Option Value)} {oc_is_pair kV_is_pair dc_is_pair pm_is_pair cd_is_pair ct_is_pair : Value}
    (a_is_pair : PySem.W.nsIn K mainGlobals "is_pair" = some (some (.ref f_is_pair)))
    (l_is_pair : K.lookup f_is_pair = some ⟨oc_is_pair, od_is_pair, .func (PySem.W.fnOf "is_pair" "is_pair" (defArgs s_is_pair) (defBody s_is_pair) (defScope s_is_pair) .none kV_is_pair dc_is_pair pm_is_pair an_is_pair cd_is_pair ct_is_pair), sl_is_pair⟩) (c_is_pair : PySem.W.codeIn K cd_is_pair "is_pair" = true) (k_is_pair : PySem.W.keepIn K (.ref f_is_pair) = true)
    {od_are_rows an_are_rows : Option Addr} {sl_are_rows : Array (Option Value)} {oc_are_rows kV_are_rows dc_are_rows pm_are_rows cd_are_rows ct_are_rows : Value}
    (a_are_rows : PySem.W.nsIn K mainGlobals "are_rows" = some (some (.ref f_are_rows)))
    (l_are_rows : K.lookup f_are_rows = some ⟨oc_are_rows, od_are_rows, .func (PySem.W.fnOf "are_rows" "are_rows" (defArgs s_are_rows) (defBody s_are_rows) (defScope s_are_rows) .none kV_are_rows dc_are_rows pm_are_rows an_are_rows cd_are_rows ct_are_rows), sl_are_rows⟩) (c_are_rows : PySem.W.codeIn K cd_are_rows "are_rows" = true) (k_are_rows : PySem.W.keepIn K (.ref f_are_rows) = true)
    {od_Book___init__ an_Book___init__ : Option Addr} {sl_Book___init__ : Array (Option Value)} {oc_Book___init__ kV_Book___init__ dc_Book___init__ pm_Book___init__ cd_Book___init__ ct_Book___init__ : Value}
    (a_Book___init__ : PySem.W.findIn K (.ref C_Book) "__init__" = some (some (.ref f_Book___init__))) (i_Book___init__ : PySem.W.isFn K (.ref f_Book___init__) = true)
    (l_Book___init__ : K.lookup f_Book___init__ = some ⟨oc_Book___init__, od_Book___init__, .func (PySem.W.fnOf "__init__" "Book.__init__" (defArgs s_Book___init__) (defBody s_Book___init__) (defScope s_Book___init__) .none kV_Book___init__ dc_Book___init__ pm_Book___init__ an_Book___init__ cd_Book___init__ ct_Book___init__), sl_Book___init__⟩) (c_Book___init__ : PySem.W.codeIn K cd_Book___init__ "Book.__init__" = true) (k_Book___init__ : PySem.W.keepIn K (.ref f_Book___init__) = true)
    {od_Book_named an_Book_named : Option Addr} {sl_Book_named : Array (Option Value)} {oc_Book_named kV_Book_named dc_Book_named pm_Book_named cd_Book_named ct_Book_named : Value}
    (a_Book_named : PySem.W.findIn K (.ref C_Book) "named" = some (some (.ref f_Book_named))) (i_Book_named : PySem.W.isFn K (.ref f_Book_named) = true)
    (l_Book_named : K.lookup f_Book_named = some ⟨oc_Book_named, od_Book_named, .func (PySem.W.fnOf "named" "Book.named" (defArgs s_Book_named) (defBody s_Book_named) (defScope s_Book_named) .none kV_Book_named dc_Book_named pm_Book_named an_Book_named cd_Book_named ct_Book_named), sl_Book_named⟩) (c_Book_named : PySem.W.codeIn K cd_Book_named "Book.named" = true) (k_Book_named : PySem.W.keepIn K (.ref f_Book_named) = true)
    {od_Book_thing an_Book_thing : Option Addr} {sl_Book_thing : Array (Option Value)} {oc_Book_thing kV_Book_thing dc_Book_thing pm_Book_thing cd_Book_thing ct_Book_thing : Value}
    (a_Book_thing : PySem.W.findIn K (.ref C_Book) "thing" = some (some (.ref f_Book_thing))) (i_Book_thing : PySem.W.isFn K (.ref f_Book_thing) = true)
    (l_Book_thing : K.lookup f_Book_thing = some ⟨oc_Book_thing, od_Book_thing, .func (PySem.W.fnOf "thing" "Book.thing" (defArgs s_Book_thing) (defBody s_Book_thing) (defScope s_Book_thing) .none kV_Book_thing dc_Book_thing pm_Book_thing an_Book_thing cd_Book_thing ct_Book_thing), sl_Book_thing⟩) (c_Book_thing : PySem.W.codeIn K cd_Book_thing "Book.thing" = true) (k_Book_thing : PySem.W.keepIn K (.ref f_Book_thing) = true)
    {od_Book_kind an_Book_kind : Option Addr} {sl_Book_kind : Array (Option Value)} {oc_Book_kind kV_Book_kind dc_Book_kind pm_Book_kind cd_Book_kind ct_Book_kind : Value}
    (a_Book_kind : PySem.W.findIn K (.ref C_Book) "kind" = some (some (.ref f_Book_kind))) (i_Book_kind : PySem.W.isFn K (.ref f_Book_kind) = true)
    (l_Book_kind : K.lookup f_Book_kind = some ⟨oc_Book_kind, od_Book_kind, .func (PySem.W.fnOf "kind" "Book.kind" (defArgs s_Book_kind) (defBody s_Book_kind) (defScope s_Book_kind) .none kV_Book_kind dc_Book_kind pm_Book_kind an_Book_kind cd_Book_kind ct_Book_kind), sl_Book_kind⟩) (c_Book_kind : PySem.W.codeIn K cd_Book_kind "Book.kind" = true) (k_Book_kind : PySem.W.keepIn K (.ref f_Book_kind) = true)
    {od_Book_parts an_Book_parts : Option Addr} {sl_Book_parts : Array (Option Value)} {oc_Book_parts kV_Book_parts dc_Book_parts pm_Book_parts cd_Book_parts ct_Book_parts : Value}
    (a_Book_parts : PySem.W.findIn K (.ref C_Book) "parts" = some (some (.ref f_Book_parts))) (i_Book_parts : PySem.W.isFn K (.ref f_Book_parts) = true)
    (l_Book_parts : K.lookup f_Book_parts = some ⟨oc_Book_parts, od_Book_parts, .func (PySem.W.fnOf "parts" "Book.parts" (defArgs s_Book_parts) (defBody s_Book_parts) (defScope s_Book_parts) .none kV_Book_parts dc_Book_parts pm_Book_parts an_Book_parts cd_Book_parts ct_Book_parts), sl_Book_parts⟩) (c_Book_parts : PySem.W.codeIn K cd_Book_parts "Book.parts" = true) (k_Book_parts : PySem.W.keepIn K (.ref f_Book_parts) = true)
    {od_is_name an_is_name : Option Addr} {sl_is_name : Array (Option Value)} {oc_is_name kV_is_name dc_is_name pm_is_name cd_is_name ct_is_name : Value}
    (a_is_name : PySem.W.nsIn K mainGlobals "is_name" = some (some (.ref f_is_name)))
    (l_is_name : K.lookup f_is_name = some ⟨oc_is_name, od_is_name, .func (PySem.W.fnOf "is_name" "is_name" (defArgs s_is_name) (defBody s_is_name) (defScope s_is_name) .none kV_is_name dc_is_name pm_is_name an_is_name cd_is_name ct_is_name), sl_is_name⟩) (c_is_name : PySem.W.codeIn K cd_is_name "is_name" = true) (k_is_name : PySem.W.keepIn K (.ref f_is_name) = true)
    {od_is_kind an_is_kind : Option Addr} {sl_is_kind : Array (Option Value)} {oc_is_kind kV_is_kind dc_is_kind pm_is_kind cd_is_kind ct_is_kind : Value}
    (a_is_kind : PySem.W.nsIn K mainGlobals "is_kind" = some (some (.ref f_is_kind)))
    (l_is_kind : K.lookup f_is_kind = some ⟨oc_is_kind, od_is_kind, .func (PySem.W.fnOf "is_kind" "is_kind" (defArgs s_is_kind) (defBody s_is_kind) (defScope s_is_kind) .none kV_is_kind dc_is_kind pm_is_kind an_is_kind cd_is_kind ct_is_kind), sl_is_kind⟩) (c_is_kind : PySem.W.codeIn K cd_is_kind "is_kind" = true) (k_is_kind : PySem.W.keepIn K (.ref f_is_kind) = true)
    {od_is_entry an_is_entry : Option Addr} {sl_is_entry : Array (Option Value)} {oc_is_entry kV_is_entry dc_is_entry pm_is_entry cd_is_entry ct_is_entry : Value}
    (a_is_entry : PySem.W.nsIn K mainGlobals "is_entry" = some (some (.ref f_is_entry)))
    (l_is_entry : K.lookup f_is_entry = some ⟨oc_is_entry, od_is_entry, .func (PySem.W.fnOf "is_entry" "is_entry" (defArgs s_is_entry) (defBody s_is_entry) (defScope s_is_entry) .none kV_is_entry dc_is_entry pm_is_entry an_is_entry cd_is_entry ct_is_entry), sl_is_entry⟩) (c_is_entry : PySem.W.codeIn K cd_is_entry "is_entry" = true) (k_is_entry : PySem.W.keepIn K (.ref f_is_entry) = true)
    {od_is_tree an_is_tree : Option Addr} {sl_is_tree : Array (Option Value)} {oc_is_tree kV_is_tree dc_is_tree pm_is_tree cd_is_tree ct_is_tree : Value}
    (a_is_tree : PySem.W.nsIn K mainGlobals "is_tree" = some (some (.ref f_is_tree)))
    (l_is_tree : K.lookup f_is_tree = some ⟨oc_is_tree, od_is_tree, .func (PySem.W.fnOf "is_tree" "is_tree" (defArgs s_is_tree) (defBody s_is_tree) (defScope s_is_tree) .none kV_is_tree dc_is_tree pm_is_tree an_is_tree cd_is_tree ct_is_tree), sl_is_tree⟩) (c_is_tree : PySem.W.codeIn K cd_is_tree "is_tree" = true) (k_is_tree : PySem.W.keepIn K (.ref f_is_tree) = true)
    {od_depth_of an_depth_of : Option Addr} {sl_depth_of : Array (Option Value)} {oc_depth_of kV_depth_of dc_depth_of pm_depth_of cd_depth_of ct_depth_of : Value}
    (a_depth_of : PySem.W.nsIn K mainGlobals "depth_of" = some (some (.ref f_depth_of)))
    (l_depth_of : K.lookup f_depth_of = some ⟨oc_depth_of, od_depth_of, .func (PySem.W.fnOf "depth_of" "depth_of" (defArgs s_depth_of) (defBody s_depth_of) (defScope s_depth_of) .none kV_depth_of dc_depth_of pm_depth_of an_depth_of cd_depth_of ct_depth_of), sl_depth_of⟩) (c_depth_of : PySem.W.codeIn K cd_depth_of "depth_of" = true) (k_depth_of : PySem.W.keepIn K (.ref f_depth_of) = true)
    {od_is_version an_is_version : Option Addr} {sl_is_version : Array (Option Value)} {oc_is_version kV_is_version dc_is_version pm_is_version cd_is_version ct_is_version : Value}
    (a_is_version : PySem.W.nsIn K mainGlobals "is_version" = some (some (.ref f_is_version)))
    (l_is_version : K.lookup f_is_version = some ⟨oc_is_version, od_is_version, .func (PySem.W.fnOf "is_version" "is_version" (defArgs s_is_version) (defBody s_is_version) (defScope s_is_version) .none kV_is_version dc_is_version pm_is_version an_is_version cd_is_version ct_is_version), sl_is_version⟩) (c_is_version : PySem.W.codeIn K cd_is_version "is_version" = true) (k_is_version : PySem.W.keepIn K (.ref f_is_version) = true)
    {od_is_content an_is_content : Option Addr} {sl_is_content : Array (Option Value)} {oc_is_content kV_is_content dc_is_content pm_is_content cd_is_content ct_is_content : Value}
    (a_is_content : PySem.W.nsIn K mainGlobals "is_content" = some (some (.ref f_is_content)))
    (l_is_content : K.lookup f_is_content = some ⟨oc_is_content, od_is_content, .func (PySem.W.fnOf "is_content" "is_content" (defArgs s_is_content) (defBody s_is_content) (defScope s_is_content) .none kV_is_content dc_is_content pm_is_content an_is_content cd_is_content ct_is_content), sl_is_content⟩) (c_is_content : PySem.W.codeIn K cd_is_content "is_content" = true) (k_is_content : PySem.W.keepIn K (.ref f_is_content) = true)
    {od_Holding___init__ an_Holding___init__ : Option Addr} {sl_Holding___init__ : Array (Option Value)} {oc_Holding___init__ kV_Holding___init__ dc_Holding___init__ pm_Holding___init__ cd_Holding___init__ ct_Holding___init__ : Value}
    (a_Holding___init__ : PySem.W.findIn K (.ref C_Holding) "__init__" = some (some (.ref f_Holding___init__))) (i_Holding___init__ : PySem.W.isFn K (.ref f_Holding___init__) = true)
    (l_Holding___init__ : K.lookup f_Holding___init__ = some ⟨oc_Holding___init__, od_Holding___init__, .func (PySem.W.fnOf "__init__" "Holding.__init__" (defArgs s_Holding___init__) (defBody s_Holding___init__) (defScope s_Holding___init__) .none kV_Holding___init__ dc_Holding___init__ pm_Holding___init__ an_Holding___init__ cd_Holding___init__ ct_Holding___init__), sl_Holding___init__⟩) (c_Holding___init__ : PySem.W.codeIn K cd_Holding___init__ "Holding.__init__" = true) (k_Holding___init__ : PySem.W.keepIn K (.ref f_Holding___init__) = true)
    {od_Holding_holds an_Holding_holds : Option Addr} {sl_Holding_holds : Array (Option Value)} {oc_Holding_holds kV_Holding_holds dc_Holding_holds pm_Holding_holds cd_Holding_holds ct_Holding_holds : Value}
    (a_Holding_holds : PySem.W.findIn K (.ref C_Holding) "holds" = some (some (.ref f_Holding_holds))) (i_Holding_holds : PySem.W.isFn K (.ref f_Holding_holds) = true)
    (l_Holding_holds : K.lookup f_Holding_holds = some ⟨oc_Holding_holds, od_Holding_holds, .func (PySem.W.fnOf "holds" "Holding.holds" (defArgs s_Holding_holds) (defBody s_Holding_holds) (defScope s_Holding_holds) .none kV_Holding_holds dc_Holding_holds pm_Holding_holds an_Holding_holds cd_Holding_holds ct_Holding_holds), sl_Holding_holds⟩) (c_Holding_holds : PySem.W.codeIn K cd_Holding_holds "Holding.holds" = true) (k_Holding_holds : PySem.W.keepIn K (.ref f_Holding_holds) = true)
    {od_Holding_names an_Holding_names : Option Addr} {sl_Holding_names : Array (Option Value)} {oc_Holding_names kV_Holding_names dc_Holding_names pm_Holding_names cd_Holding_names ct_Holding_names : Value}
    (a_Holding_names : PySem.W.findIn K (.ref C_Holding) "names" = some (some (.ref f_Holding_names))) (i_Holding_names : PySem.W.isFn K (.ref f_Holding_names) = true)
    (l_Holding_names : K.lookup f_Holding_names = some ⟨oc_Holding_names, od_Holding_names, .func (PySem.W.fnOf "names" "Holding.names" (defArgs s_Holding_names) (defBody s_Holding_names) (defScope s_Holding_names) .none kV_Holding_names dc_Holding_names pm_Holding_names an_Holding_names cd_Holding_names ct_Holding_names), sl_Holding_names⟩) (c_Holding_names : PySem.W.codeIn K cd_Holding_names "Holding.names" = true) (k_Holding_names : PySem.W.keepIn K (.ref f_Holding_names) = true)
    {od_Holding_versions an_Holding_versions : Option Addr} {sl_Holding_versions : Array (Option Value)} {oc_Holding_versions kV_Holding_versions dc_Holding_versions pm_Holding_versions cd_Holding_versions ct_Holding_versions : Value}
    (a_Holding_versions : PySem.W.findIn K (.ref C_Holding) "versions" = some (some (.ref f_Holding_versions))) (i_Holding_versions : PySem.W.isFn K (.ref f_Holding_versions) = true)
    (l_Holding_versions : K.lookup f_Holding_versions = some ⟨oc_Holding_versions, od_Holding_versions, .func (PySem.W.fnOf "versions" "Holding.versions" (defArgs s_Holding_versions) (defBody s_Holding_versions) (defScope s_Holding_versions) .none kV_Holding_versions dc_Holding_versions pm_Holding_versions an_Holding_versions cd_Holding_versions ct_Holding_versions), sl_Holding_versions⟩) (c_Holding_versions : PySem.W.codeIn K cd_Holding_versions "Holding.versions" = true) (k_Holding_versions : PySem.W.keepIn K (.ref f_Holding_versions) = true)
    {od_Holding_edges an_Holding_edges : Option Addr} {sl_Holding_edges : Array (Option Value)} {oc_Holding_edges kV_Holding_edges dc_Holding_edges pm_Holding_edges cd_Holding_edges ct_Holding_edges : Value}
    (a_Holding_edges : PySem.W.findIn K (.ref C_Holding) "edges" = some (some (.ref f_Holding_edges))) (i_Holding_edges : PySem.W.isFn K (.ref f_Holding_edges) = true)
    (l_Holding_edges : K.lookup f_Holding_edges = some ⟨oc_Holding_edges, od_Holding_edges, .func (PySem.W.fnOf "edges" "Holding.edges" (defArgs s_Holding_edges) (defBody s_Holding_edges) (defScope s_Holding_edges) .none kV_Holding_edges dc_Holding_edges pm_Holding_edges an_Holding_edges cd_Holding_edges ct_Holding_edges), sl_Holding_edges⟩) (c_Holding_edges : PySem.W.codeIn K cd_Holding_edges "Holding.edges" = true) (k_Holding_edges : PySem.W.keepIn K (.ref f_Holding_edges) = true)
    {od_Store___init__ an_Store___init__ : Option Addr} {sl_Store___init__ : Array (Option Value)} {oc_Store___init__ kV_Store___init__ dc_Store___init__ pm_Store___init__ cd_Store___init__ ct_Store___init__ : Value}
    (a_Store___init__ : PySem.W.findIn K (.ref C_Store) "__init__" = some (some (.ref f_Store___init__))) (i_Store___init__ : PySem.W.isFn K (.ref f_Store___init__) = true)
    (l_Store___init__ : K.lookup f_Store___init__ = some ⟨oc_Store___init__, od_Store___init__, .func (PySem.W.fnOf "__init__" "Store.__init__" (defArgs s_Store___init__) (defBody s_Store___init__) (defScope s_Store___init__) .none kV_Store___init__ dc_Store___init__ pm_Store___init__ an_Store___init__ cd_Store___init__ ct_Store___init__), sl_Store___init__⟩) (c_Store___init__ : PySem.W.codeIn K cd_Store___init__ "Store.__init__" = true) (k_Store___init__ : PySem.W.keepIn K (.ref f_Store___init__) = true)
    {od_Store_put an_Store_put : Option Addr} {sl_Store_put : Array (Option Value)} {oc_Store_put kV_Store_put dc_Store_put pm_Store_put cd_Store_put ct_Store_put : Value}
    (a_Store_put : PySem.W.findIn K (.ref C_Store) "put" = some (some (.ref f_Store_put))) (i_Store_put : PySem.W.isFn K (.ref f_Store_put) = true)
    (l_Store_put : K.lookup f_Store_put = some ⟨oc_Store_put, od_Store_put, .func (PySem.W.fnOf "put" "Store.put" (defArgs s_Store_put) (defBody s_Store_put) (defScope s_Store_put) .none kV_Store_put dc_Store_put pm_Store_put an_Store_put cd_Store_put ct_Store_put), sl_Store_put⟩) (c_Store_put : PySem.W.codeIn K cd_Store_put "Store.put" = true) (k_Store_put : PySem.W.keepIn K (.ref f_Store_put) = true)
    {od_Store_held an_Store_held : Option Addr} {sl_Store_held : Array (Option Value)} {oc_Store_held kV_Store_held dc_Store_held pm_Store_held cd_Store_held ct_Store_held : Value}
    (a_Store_held : PySem.W.findIn K (.ref C_Store) "held" = some (some (.ref f_Store_held))) (i_Store_held : PySem.W.isFn K (.ref f_Store_held) = true)
    (l_Store_held : K.lookup f_Store_held = some ⟨oc_Store_held, od_Store_held, .func (PySem.W.fnOf "held" "Store.held" (defArgs s_Store_held) (defBody s_Store_held) (defScope s_Store_held) .none kV_Store_held dc_Store_held pm_Store_held an_Store_held cd_Store_held ct_Store_held), sl_Store_held⟩) (c_Store_held : PySem.W.codeIn K cd_Store_held "Store.held" = true) (k_Store_held : PySem.W.keepIn K (.ref f_Store_held) = true)
    {od_Store_view an_Store_view : Option Addr} {sl_Store_view : Array (Option Value)} {oc_Store_view kV_Store_view dc_Store_view pm_Store_view cd_Store_view ct_Store_view : Value}
    (a_Store_view : PySem.W.findIn K (.ref C_Store) "view" = some (some (.ref f_Store_view))) (i_Store_view : PySem.W.isFn K (.ref f_Store_view) = true)
    (l_Store_view : K.lookup f_Store_view = some ⟨oc_Store_view, od_Store_view, .func (PySem.W.fnOf "view" "Store.view" (defArgs s_Store_view) (defBody s_Store_view) (defScope s_Store_view) .none kV_Store_view dc_Store_view pm_Store_view an_Store_view cd_Store_view ct_Store_view), sl_Store_view⟩) (c_Store_view : PySem.W.codeIn K cd_Store_view "Store.view" = true) (k_Store_view : PySem.W.keepIn K (.ref f_Store_view) = true)
    {od_Store_holds an_Store_holds : Option Addr} {sl_Store_holds : Array (Option Value)} {oc_Store_holds kV_Store_holds dc_Store_holds pm_Store_holds cd_Store_holds ct_Store_holds : Value}
    (a_Store_holds : PySem.W.findIn K (.ref C_Store) "holds" = some (some (.ref f_Store_holds))) (i_Store_holds : PySem.W.isFn K (.ref f_Store_holds) = true)
    (l_Store_holds : K.lookup f_Store_holds = some ⟨oc_Store_holds, od_Store_holds, .func (PySem.W.fnOf "holds" "Store.holds" (defArgs s_Store_holds) (defBody s_Store_holds) (defScope s_Store_holds) .none kV_Store_holds dc_Store_holds pm_Store_holds an_Store_holds cd_Store_holds ct_Store_holds), sl_Store_holds⟩) (c_Store_holds : PySem.W.codeIn K cd_Store_holds "Store.holds" = true) (k_Store_holds : PySem.W.keepIn K (.ref f_Store_holds) = true)
    {od_Store_changes an_Store_changes : Option Addr} {sl_Store_changes : Array (Option Value)} {oc_Store_changes kV_Store_changes dc_Store_changes pm_Store_changes cd_Store_changes ct_Store_changes : Value}
    (a_Store_changes : PySem.W.findIn K (.ref C_Store) "changes" = some (some (.ref f_Store_changes))) (i_Store_changes : PySem.W.isFn K (.ref f_Store_changes) = true)
    (l_Store_changes : K.lookup f_Store_changes = some ⟨oc_Store_changes, od_Store_changes, .func (PySem.W.fnOf "changes" "Store.changes" (defArgs s_Store_changes) (defBody s_Store_changes) (defScope s_Store_changes) .none kV_Store_changes dc_Store_changes pm_Store_changes an_Store_changes cd_Store_changes ct_Store_changes), sl_Store_changes⟩) (c_Store_changes : PySem.W.codeIn K cd_Store_changes "Store.changes" = true) (k_Store_changes : PySem.W.keepIn K (.ref f_Store_changes) = true)
    {od_House___init__ an_House___init__ : Option Addr} {sl_House___init__ : Array (Option Value)} {oc_House___init__ kV_House___init__ dc_House___init__ pm_House___init__ cd_House___init__ ct_House___init__ : Value}
    (a_House___init__ : PySem.W.findIn K (.ref C_House) "__init__" = some (some (.ref f_House___init__))) (i_House___init__ : PySem.W.isFn K (.ref f_House___init__) = true)
    (l_House___init__ : K.lookup f_House___init__ = some ⟨oc_House___init__, od_House___init__, .func (PySem.W.fnOf "__init__" "House.__init__" (defArgs s_House___init__) (defBody s_House___init__) (defScope s_House___init__) .none kV_House___init__ dc_House___init__ pm_House___init__ an_House___init__ cd_House___init__ ct_House___init__), sl_House___init__⟩) (c_House___init__ : PySem.W.codeIn K cd_House___init__ "House.__init__" = true) (k_House___init__ : PySem.W.keepIn K (.ref f_House___init__) = true)
    {od_House_marks an_House_marks : Option Addr} {sl_House_marks : Array (Option Value)} {oc_House_marks kV_House_marks dc_House_marks pm_House_marks cd_House_marks ct_House_marks : Value}
    (a_House_marks : PySem.W.findIn K (.ref C_House) "marks" = some (some (.ref f_House_marks))) (i_House_marks : PySem.W.isFn K (.ref f_House_marks) = true)
    (l_House_marks : K.lookup f_House_marks = some ⟨oc_House_marks, od_House_marks, .func (PySem.W.fnOf "marks" "House.marks" (defArgs s_House_marks) (defBody s_House_marks) (defScope s_House_marks) .none kV_House_marks dc_House_marks pm_House_marks an_House_marks cd_House_marks ct_House_marks), sl_House_marks⟩) (c_House_marks : PySem.W.codeIn K cd_House_marks "House.marks" = true) (k_House_marks : PySem.W.keepIn K (.ref f_House_marks) = true)
    {od_House_pin an_House_pin : Option Addr} {sl_House_pin : Array (Option Value)} {oc_House_pin kV_House_pin dc_House_pin pm_House_pin cd_House_pin ct_House_pin : Value}
    (a_House_pin : PySem.W.findIn K (.ref C_House) "pin" = some (some (.ref f_House_pin))) (i_House_pin : PySem.W.isFn K (.ref f_House_pin) = true)
    (l_House_pin : K.lookup f_House_pin = some ⟨oc_House_pin, od_House_pin, .func (PySem.W.fnOf "pin" "House.pin" (defArgs s_House_pin) (defBody s_House_pin) (defScope s_House_pin) .none kV_House_pin dc_House_pin pm_House_pin an_House_pin cd_House_pin ct_House_pin), sl_House_pin⟩) (c_House_pin : PySem.W.codeIn K cd_House_pin "House.pin" = true) (k_House_pin : PySem.W.keepIn K (.ref f_House_pin) = true)
    {od_must_hold an_must_hold : Option Addr} {sl_must_hold : Array (Option Value)} {oc_must_hold kV_must_hold dc_must_hold pm_must_hold cd_must_hold ct_must_hold : Value}
    (a_must_hold : PySem.W.nsIn K mainGlobals "must_hold" = some (some (.ref f_must_hold)))
    (l_must_hold : K.lookup f_must_hold = some ⟨oc_must_hold, od_must_hold, .func (PySem.W.fnOf "must_hold" "must_hold" (defArgs s_must_hold) (defBody s_must_hold) (defScope s_must_hold) .none kV_must_hold dc_must_hold pm_must_hold an_must_hold cd_must_hold ct_must_hold), sl_must_hold⟩) (c_must_hold : PySem.W.codeIn K cd_must_hold "must_hold" = true) (k_must_hold : PySem.W.keepIn K (.ref f_must_hold) = true)
    {od_Pin___init__ an_Pin___init__ : Option Addr} {sl_Pin___init__ : Array (Option Value)} {oc_Pin___init__ kV_Pin___init__ dc_Pin___init__ pm_Pin___init__ cd_Pin___init__ ct_Pin___init__ : Value}
    (a_Pin___init__ : PySem.W.findIn K (.ref C_Pin) "__init__" = some (some (.ref f_Pin___init__))) (i_Pin___init__ : PySem.W.isFn K (.ref f_Pin___init__) = true)
    (l_Pin___init__ : K.lookup f_Pin___init__ = some ⟨oc_Pin___init__, od_Pin___init__, .func (PySem.W.fnOf "__init__" "Pin.__init__" (defArgs s_Pin___init__) (defBody s_Pin___init__) (defScope s_Pin___init__) .none kV_Pin___init__ dc_Pin___init__ pm_Pin___init__ an_Pin___init__ cd_Pin___init__ ct_Pin___init__), sl_Pin___init__⟩) (c_Pin___init__ : PySem.W.codeIn K cd_Pin___init__ "Pin.__init__" = true) (k_Pin___init__ : PySem.W.keepIn K (.ref f_Pin___init__) = true)
    {od_Teller___init__ an_Teller___init__ : Option Addr} {sl_Teller___init__ : Array (Option Value)} {oc_Teller___init__ kV_Teller___init__ dc_Teller___init__ pm_Teller___init__ cd_Teller___init__ ct_Teller___init__ : Value}
    (a_Teller___init__ : PySem.W.findIn K (.ref C_Teller) "__init__" = some (some (.ref f_Teller___init__))) (i_Teller___init__ : PySem.W.isFn K (.ref f_Teller___init__) = true)
    (l_Teller___init__ : K.lookup f_Teller___init__ = some ⟨oc_Teller___init__, od_Teller___init__, .func (PySem.W.fnOf "__init__" "Teller.__init__" (defArgs s_Teller___init__) (defBody s_Teller___init__) (defScope s_Teller___init__) .none kV_Teller___init__ dc_Teller___init__ pm_Teller___init__ an_Teller___init__ cd_Teller___init__ ct_Teller___init__), sl_Teller___init__⟩) (c_Teller___init__ : PySem.W.codeIn K cd_Teller___init__ "Teller.__init__" = true) (k_Teller___init__ : PySem.W.keepIn K (.ref f_Teller___init__) = true)
    {od_Teller_answer an_Teller_answer : Option Addr} {sl_Teller_answer : Array (Option Value)} {oc_Teller_answer kV_Teller_answer dc_Teller_answer pm_Teller_answer cd_Teller_answer ct_Teller_answer : Value}
    (a_Teller_answer : PySem.W.findIn K (.ref C_Teller) "answer" = some (some (.ref f_Teller_answer))) (i_Teller_answer : PySem.W.isFn K (.ref f_Teller_answer) = true)
    (l_Teller_answer : K.lookup f_Teller_answer = some ⟨oc_Teller_answer, od_Teller_answer, .func (PySem.W.fnOf "answer" "Teller.answer" (defArgs s_Teller_answer) (defBody s_Teller_answer) (defScope s_Teller_answer) .none kV_Teller_answer dc_Teller_answer pm_Teller_answer an_Teller_answer cd_Teller_answer ct_Teller_answer), sl_Teller_answer⟩) (c_Teller_answer : PySem.W.codeIn K cd_Teller_answer "Teller.answer" = true) (k_Teller_answer : PySem.W.keepIn K (.ref f_Teller_answer) = true)
    {od_Teller_greeted an_Teller_greeted : Option Addr} {sl_Teller_greeted : Array (Option Value)} {oc_Teller_greeted kV_Teller_greeted dc_Teller_greeted pm_Teller_greeted cd_Teller_greeted ct_Teller_greeted : Value}
    (a_Teller_greeted : PySem.W.findIn K (.ref C_Teller) "greeted" = some (some (.ref f_Teller_greeted))) (i_Teller_greeted : PySem.W.isFn K (.ref f_Teller_greeted) = true)
    (l_Teller_greeted : K.lookup f_Teller_greeted = some ⟨oc_Teller_greeted, od_Teller_greeted, .func (PySem.W.fnOf "greeted" "Teller.greeted" (defArgs s_Teller_greeted) (defBody s_Teller_greeted) (defScope s_Teller_greeted) .none kV_Teller_greeted dc_Teller_greeted pm_Teller_greeted an_Teller_greeted cd_Teller_greeted ct_Teller_greeted), sl_Teller_greeted⟩) (c_Teller_greeted : PySem.W.codeIn K cd_Teller_greeted "Teller.greeted" = true) (k_Teller_greeted : PySem.W.keepIn K (.ref f_Teller_greeted) = true)
    {od_Teller_told an_Teller_told : Option Addr} {sl_Teller_told : Array (Option Value)} {oc_Teller_told kV_Teller_told dc_Teller_told pm_Teller_told cd_Teller_told ct_Teller_told : Value}
    (a_Teller_told : PySem.W.findIn K (.ref C_Teller) "told" = some (some (.ref f_Teller_told))) (i_Teller_told : PySem.W.isFn K (.ref f_Teller_told) = true)
    (l_Teller_told : K.lookup f_Teller_told = some ⟨oc_Teller_told, od_Teller_told, .func (PySem.W.fnOf "told" "Teller.told" (defArgs s_Teller_told) (defBody s_Teller_told) (defScope s_Teller_told) .none kV_Teller_told dc_Teller_told pm_Teller_told an_Teller_told cd_Teller_told ct_Teller_told), sl_Teller_told⟩) (c_Teller_told : PySem.W.codeIn K cd_Teller_told "Teller.told" = true) (k_Teller_told : PySem.W.keepIn K (.ref f_Teller_told) = true)
    {od_law_deck an_law_deck : Option Addr} {sl_law_deck : Array (Option Value)} {oc_law_deck kV_law_deck dc_law_deck pm_law_deck cd_law_deck ct_law_deck : Value}
    (a_law_deck : PySem.W.nsIn K mainGlobals "_law_deck" = some (some (.ref f_law_deck)))
    (l_law_deck : K.lookup f_law_deck = some ⟨oc_law_deck, od_law_deck, .func (PySem.W.fnOf "_law_deck" "_law_deck" (defArgs s_law_deck) (defBody s_law_deck) (defScope s_law_deck) .none kV_law_deck dc_law_deck pm_law_deck an_law_deck cd_law_deck ct_law_deck), sl_law_deck⟩) (c_law_deck : PySem.W.codeIn K cd_law_deck "_law_deck" = true) (k_law_deck : PySem.W.keepIn K (.ref f_law_deck) = true)
    {od_law_mixed an_law_mixed : Option Addr} {sl_law_mixed : Array (Option Value)} {oc_law_mixed kV_law_mixed dc_law_mixed pm_law_mixed cd_law_mixed ct_law_mixed : Value}
    (a_law_mixed : PySem.W.nsIn K mainGlobals "_law_mixed" = some (some (.ref f_law_mixed)))
    (l_law_mixed : K.lookup f_law_mixed = some ⟨oc_law_mixed, od_law_mixed, .func (PySem.W.fnOf "_law_mixed" "_law_mixed" (defArgs s_law_mixed) (defBody s_law_mixed) (defScope s_law_mixed) .none kV_law_mixed dc_law_mixed pm_law_mixed an_law_mixed cd_law_mixed ct_law_mixed), sl_law_mixed⟩) (c_law_mixed : PySem.W.codeIn K cd_law_mixed "_law_mixed" = true) (k_law_mixed : PySem.W.keepIn K (.ref f_law_mixed) = true)
    {od_law_draw an_law_draw : Option Addr} {sl_law_draw : Array (Option Value)} {oc_law_draw kV_law_draw dc_law_draw pm_law_draw cd_law_draw ct_law_draw : Value}
    (a_law_draw : PySem.W.nsIn K mainGlobals "_law_draw" = some (some (.ref f_law_draw)))
    (l_law_draw : K.lookup f_law_draw = some ⟨oc_law_draw, od_law_draw, .func (PySem.W.fnOf "_law_draw" "_law_draw" (defArgs s_law_draw) (defBody s_law_draw) (defScope s_law_draw) .none kV_law_draw dc_law_draw pm_law_draw an_law_draw cd_law_draw ct_law_draw), sl_law_draw⟩) (c_law_draw : PySem.W.codeIn K cd_law_draw "_law_draw" = true) (k_law_draw : PySem.W.keepIn K (.ref f_law_draw) = true)
    {od_law_text an_law_text : Option Addr} {sl_law_text : Array (Option Value)} {oc_law_text kV_law_text dc_law_text pm_law_text cd_law_text ct_law_text : Value}
    (a_law_text : PySem.W.nsIn K mainGlobals "_law_text" = some (some (.ref f_law_text)))
    (l_law_text : K.lookup f_law_text = some ⟨oc_law_text, od_law_text, .func (PySem.W.fnOf "_law_text" "_law_text" (defArgs s_law_text) (defBody s_law_text) (defScope s_law_text) .none kV_law_text dc_law_text pm_law_text an_law_text cd_law_text ct_law_text), sl_law_text⟩) (c_law_text : PySem.W.codeIn K cd_law_text "_law_text" = true) (k_law_text : PySem.W.keepIn K (.ref f_law_text) = true)
    {od_law_label an_law_label : Option Addr} {sl_law_label : Array (Option Value)} {oc_law_label kV_law_label dc_law_label pm_law_label cd_law_label ct_law_label : Value}
    (a_law_label : PySem.W.nsIn K mainGlobals "_law_label" = some (some (.ref f_law_label)))
    (l_law_label : K.lookup f_law_label = some ⟨oc_law_label, od_law_label, .func (PySem.W.fnOf "_law_label" "_law_label" (defArgs s_law_label) (defBody s_law_label) (defScope s_law_label) .none kV_law_label dc_law_label pm_law_label an_law_label cd_law_label ct_law_label), sl_law_label⟩) (c_law_label : PySem.W.codeIn K cd_law_label "_law_label" = true) (k_law_label : PySem.W.keepIn K (.ref f_law_label) = true)
    {od_law_give an_law_give : Option Addr} {sl_law_give : Array (Option Value)} {oc_law_give kV_law_give dc_law_give pm_law_give cd_law_give ct_law_give : Value}
    (a_law_give : PySem.W.nsIn K mainGlobals "_law_give" = some (some (.ref f_law_give)))
    (l_law_give : K.lookup f_law_give = some ⟨oc_law_give, od_law_give, .func (PySem.W.fnOf "_law_give" "_law_give" (defArgs s_law_give) (defBody s_law_give) (defScope s_law_give) .none kV_law_give dc_law_give pm_law_give an_law_give cd_law_give ct_law_give), sl_law_give⟩) (c_law_give : PySem.W.codeIn K cd_law_give "_law_give" = true) (k_law_give : PySem.W.keepIn K (.ref f_law_give) = true)
    {od_law_rows an_law_rows : Option Addr} {sl_law_rows : Array (Option Value)} {oc_law_rows kV_law_rows dc_law_rows pm_law_rows cd_law_rows ct_law_rows : Value}
    (a_law_rows : PySem.W.nsIn K mainGlobals "_law_rows" = some (some (.ref f_law_rows)))
    (l_law_rows : K.lookup f_law_rows = some ⟨oc_law_rows, od_law_rows, .func (PySem.W.fnOf "_law_rows" "_law_rows" (defArgs s_law_rows) (defBody s_law_rows) (defScope s_law_rows) .none kV_law_rows dc_law_rows pm_law_rows an_law_rows cd_law_rows ct_law_rows), sl_law_rows⟩) (c_law_rows : PySem.W.codeIn K cd_law_rows "_law_rows" = true) (k_law_rows : PySem.W.keepIn K (.ref f_law_rows) = true)
    {od_law_entries an_law_entries : Option Addr} {sl_law_entries : Array (Option Value)} {oc_law_entries kV_law_entries dc_law_entries pm_law_entries cd_law_entries ct_law_entries : Value}
    (a_law_entries : PySem.W.nsIn K mainGlobals "_law_entries" = some (some (.ref f_law_entries)))
    (l_law_entries : K.lookup f_law_entries = some ⟨oc_law_entries, od_law_entries, .func (PySem.W.fnOf "_law_entries" "_law_entries" (defArgs s_law_entries) (defBody s_law_entries) (defScope s_law_entries) .none kV_law_entries dc_law_entries pm_law_entries an_law_entries cd_law_entries ct_law_entries), sl_law_entries⟩) (c_law_entries : PySem.W.codeIn K cd_law_entries "_law_entries" = true) (k_law_entries : PySem.W.keepIn K (.ref f_law_entries) = true)
    {od_law_some an_law_some : Option Addr} {sl_law_some : Array (Option Value)} {oc_law_some kV_law_some dc_law_some pm_law_some cd_law_some ct_law_some : Value}
    (a_law_some : PySem.W.nsIn K mainGlobals "_law_some" = some (some (.ref f_law_some)))
    (l_law_some : K.lookup f_law_some = some ⟨oc_law_some, od_law_some, .func (PySem.W.fnOf "_law_some" "_law_some" (defArgs s_law_some) (defBody s_law_some) (defScope s_law_some) .none kV_law_some dc_law_some pm_law_some an_law_some cd_law_some ct_law_some), sl_law_some⟩) (c_law_some : PySem.W.codeIn K cd_law_some "_law_some" = true) (k_law_some : PySem.W.keepIn K (.ref f_law_some) = true)
    {od_law_family an_law_family : Option Addr} {sl_law_family : Array (Option Value)} {oc_law_family kV_law_family dc_law_family pm_law_family cd_law_family ct_law_family : Value}
    (a_law_family : PySem.W.nsIn K mainGlobals "_law_family" = some (some (.ref f_law_family)))
    (l_law_family : K.lookup f_law_family = some ⟨oc_law_family, od_law_family, .func (PySem.W.fnOf "_law_family" "_law_family" (defArgs s_law_family) (defBody s_law_family) (defScope s_law_family) .none kV_law_family dc_law_family pm_law_family an_law_family cd_law_family ct_law_family), sl_law_family⟩) (c_law_family : PySem.W.codeIn K cd_law_family "_law_family" = true) (k_law_family : PySem.W.keepIn K (.ref f_law_family) = true)
    {od_law_parts an_law_parts : Option Addr} {sl_law_parts : Array (Option Value)} {oc_law_parts kV_law_parts dc_law_parts pm_law_parts cd_law_parts ct_law_parts : Value}
    (a_law_parts : PySem.W.nsIn K mainGlobals "_law_parts" = some (some (.ref f_law_parts)))
    (l_law_parts : K.lookup f_law_parts = some ⟨oc_law_parts, od_law_parts, .func (PySem.W.fnOf "_law_parts" "_law_parts" (defArgs s_law_parts) (defBody s_law_parts) (defScope s_law_parts) .none kV_law_parts dc_law_parts pm_law_parts an_law_parts cd_law_parts ct_law_parts), sl_law_parts⟩) (c_law_parts : PySem.W.codeIn K cd_law_parts "_law_parts" = true) (k_law_parts : PySem.W.keepIn K (.ref f_law_parts) = true)
    {od_law_under an_law_under : Option Addr} {sl_law_under : Array (Option Value)} {oc_law_under kV_law_under dc_law_under pm_law_under cd_law_under ct_law_under : Value}
    (a_law_under : PySem.W.nsIn K mainGlobals "_law_under" = some (some (.ref f_law_under)))
    (l_law_under : K.lookup f_law_under = some ⟨oc_law_under, od_law_under, .func (PySem.W.fnOf "_law_under" "_law_under" (defArgs s_law_under) (defBody s_law_under) (defScope s_law_under) .none kV_law_under dc_law_under pm_law_under an_law_under cd_law_under ct_law_under), sl_law_under⟩) (c_law_under : PySem.W.codeIn K cd_law_under "_law_under" = true) (k_law_under : PySem.W.keepIn K (.ref f_law_under) = true)
    {od_law_held an_law_held : Option Addr} {sl_law_held : Array (Option Value)} {oc_law_held kV_law_held dc_law_held pm_law_held cd_law_held ct_law_held : Value}
    (a_law_held : PySem.W.nsIn K mainGlobals "_law_held" = some (some (.ref f_law_held)))
    (l_law_held : K.lookup f_law_held = some ⟨oc_law_held, od_law_held, .func (PySem.W.fnOf "_law_held" "_law_held" (defArgs s_law_held) (defBody s_law_held) (defScope s_law_held) .none kV_law_held dc_law_held pm_law_held an_law_held cd_law_held ct_law_held), sl_law_held⟩) (c_law_held : PySem.W.codeIn K cd_law_held "_law_held" = true) (k_law_held : PySem.W.keepIn K (.ref f_law_held) = true)
    {od_law_book an_law_book : Option Addr} {sl_law_book : Array (Option Value)} {oc_law_book kV_law_book dc_law_book pm_law_book cd_law_book ct_law_book : Value}
    (a_law_book : PySem.W.nsIn K mainGlobals "_law_book" = some (some (.ref f_law_book)))
    (l_law_book : K.lookup f_law_book = some ⟨oc_law_book, od_law_book, .func (PySem.W.fnOf "_law_book" "_law_book" (defArgs s_law_book) (defBody s_law_book) (defScope s_law_book) .none kV_law_book dc_law_book pm_law_book an_law_book cd_law_book ct_law_book), sl_law_book⟩) (c_law_book : PySem.W.codeIn K cd_law_book "_law_book" = true) (k_law_book : PySem.W.keepIn K (.ref f_law_book) = true)
    {od_law_house an_law_house : Option Addr} {sl_law_house : Array (Option Value)} {oc_law_house kV_law_house dc_law_house pm_law_house cd_law_house ct_law_house : Value}
    (a_law_house : PySem.W.nsIn K mainGlobals "_law_house" = some (some (.ref f_law_house)))
    (l_law_house : K.lookup f_law_house = some ⟨oc_law_house, od_law_house, .func (PySem.W.fnOf "_law_house" "_law_house" (defArgs s_law_house) (defBody s_law_house) (defScope s_law_house) .none kV_law_house dc_law_house pm_law_house an_law_house cd_law_house ct_law_house), sl_law_house⟩) (c_law_house : PySem.W.codeIn K cd_law_house "_law_house" = true) (k_law_house : PySem.W.keepIn K (.ref f_law_house) = true)
    {od_law_alike an_law_alike : Option Addr} {sl_law_alike : Array (Option Value)} {oc_law_alike kV_law_alike dc_law_alike pm_law_alike cd_law_alike ct_law_alike : Value}
    (a_law_alike : PySem.W.nsIn K mainGlobals "_law_alike" = some (some (.ref f_law_alike)))
    (l_law_alike : K.lookup f_law_alike = some ⟨oc_law_alike, od_law_alike, .func (PySem.W.fnOf "_law_alike" "_law_alike" (defArgs s_law_alike) (defBody s_law_alike) (defScope s_law_alike) .none kV_law_alike dc_law_alike pm_law_alike an_law_alike cd_law_alike ct_law_alike), sl_law_alike⟩) (c_law_alike : PySem.W.codeIn K cd_law_alike "_law_alike" = true) (k_law_alike : PySem.W.keepIn K (.ref f_law_alike) = true)
    {od_law_bad an_law_bad : Option Addr} {sl_law_bad : Array (Option Value)} {oc_law_bad kV_law_bad dc_law_bad pm_law_bad cd_law_bad ct_law_bad : Value}
    (a_law_bad : PySem.W.nsIn K mainGlobals "_law_bad" = some (some (.ref f_law_bad)))
    (l_law_bad : K.lookup f_law_bad = some ⟨oc_law_bad, od_law_bad, .func (PySem.W.fnOf "_law_bad" "_law_bad" (defArgs s_law_bad) (defBody s_law_bad) (defScope s_law_bad) .none kV_law_bad dc_law_bad pm_law_bad an_law_bad cd_law_bad ct_law_bad), sl_law_bad⟩) (c_law_bad : PySem.W.codeIn K cd_law_bad "_law_bad" = true) (k_law_bad : PySem.W.keepIn K (.ref f_law_bad) = true)
    {od_law_asks an_law_asks : Option Addr} {sl_law_asks : Array (Option Value)} {oc_law_asks kV_law_asks dc_law_asks pm_law_asks cd_law_asks ct_law_asks : Value}
    (a_law_asks : PySem.W.nsIn K mainGlobals "_law_asks" = some (some (.ref f_law_asks)))
    (l_law_asks : K.lookup f_law_asks = some ⟨oc_law_asks, od_law_asks, .func (PySem.W.fnOf "_law_asks" "_law_asks" (defArgs s_law_asks) (defBody s_law_asks) (defScope s_law_asks) .none kV_law_asks dc_law_asks pm_law_asks an_law_asks cd_law_asks ct_law_asks), sl_law_asks⟩) (c_law_asks : PySem.W.codeIn K cd_law_asks "_law_asks" = true) (k_law_asks : PySem.W.keepIn K (.ref f_law_asks) = true)
    {od_law_bent an_law_bent : Option Addr} {sl_law_bent : Array (Option Value)} {oc_law_bent kV_law_bent dc_law_bent pm_law_bent cd_law_bent ct_law_bent : Value}
    (a_law_bent : PySem.W.nsIn K mainGlobals "_law_bent" = some (some (.ref f_law_bent)))
    (l_law_bent : K.lookup f_law_bent = some ⟨oc_law_bent, od_law_bent, .func (PySem.W.fnOf "_law_bent" "_law_bent" (defArgs s_law_bent) (defBody s_law_bent) (defScope s_law_bent) .none kV_law_bent dc_law_bent pm_law_bent an_law_bent cd_law_bent ct_law_bent), sl_law_bent⟩) (c_law_bent : PySem.W.codeIn K cd_law_bent "_law_bent" = true) (k_law_bent : PySem.W.keepIn K (.ref f_law_bent) = true)
    {od_law an_law : Option Addr} {sl_law : Array (Option Value)} {oc_law kV_law dc_law pm_law cd_law ct_law : Value}
    (a_law : PySem.W.nsIn K mainGlobals "law" = some (some (.ref f_law)))
    (l_law : K.lookup f_law = some ⟨oc_law, od_law, .func (PySem.W.fnOf "law" "law" (defArgs s_law) (defBody s_law) (defScope s_law) .none kV_law dc_law pm_law an_law cd_law ct_law), sl_law⟩) (c_law : PySem.W.codeIn K cd_law "law" = true) (k_law : PySem.W.keepIn K (.ref f_law) = true)
    (kga_Book : PySem.W.nsIn K mainGlobals "Book" = some (some (.ref C_Book))) (kpg_Book : PySem.W.plainGet K C_Book Str.empty = true) (khd_Book : PySem.W.hasDictIn K C_Book = true) (kpo_Book : PySem.W.plainOver K C_Book = true) (ksa_Book : PySem.W.findIn K (.ref C_Book) "__setattr__" = some (some (.builtin "object.__setattr__"))) (kmk_Book : PySem.W.makesIn K C_Book = true) (kkc_Book : PySem.W.keepIn K (.ref C_Book) = true)
    (kna_Book_contents : PySem.W.findIn K (.ref C_Book) "contents" = some none)
    (kna_Book_depths : PySem.W.findIn K (.ref C_Book) "depths" = some none)
    (kna_Book_given : PySem.W.findIn K (.ref C_Book) "given" = some none)
    (kga_Holding : PySem.W.nsIn K mainGlobals "Holding" = some (some (.ref C_Holding))) (kpg_Holding : PySem.W.plainGet K C_Holding Str.empty = true) (khd_Holding : PySem.W.hasDictIn K C_Holding = true) (kpo_Holding : PySem.W.plainOver K C_Holding = true) (ksa_Holding : PySem.W.findIn K (.ref C_Holding) "__setattr__" = some (some (.builtin "object.__setattr__"))) (kmk_Holding : PySem.W.makesIn K C_Holding = true) (kkc_Holding : PySem.W.keepIn K (.ref C_Holding) = true)
    (kna_Holding_book : PySem.W.findIn K (.ref C_Holding) "book" = some none)
    (kna_Holding_row : PySem.W.findIn K (.ref C_Holding) "row" = some none)
    (kna_Holding_here : PySem.W.findIn K (.ref C_Holding) "here" = some none)
    (kga_Store : PySem.W.nsIn K mainGlobals "Store" = some (some (.ref C_Store))) (kpg_Store : PySem.W.plainGet K C_Store Str.empty = true) (khd_Store : PySem.W.hasDictIn K C_Store = true) (kpo_Store : PySem.W.plainOver K C_Store = true) (ksa_Store : PySem.W.findIn K (.ref C_Store) "__setattr__" = some (some (.builtin "object.__setattr__"))) (kmk_Store : PySem.W.makesIn K C_Store = true) (kkc_Store : PySem.W.keepIn K (.ref C_Store) = true)
    (kna_Store_book : PySem.W.findIn K (.ref C_Store) "book" = some none)
    (kna_Store_here : PySem.W.findIn K (.ref C_Store) "here" = some none)
    (kna_Store_turns : PySem.W.findIn K (.ref C_Store) "turns" = some none)
    (kga_House : PySem.W.nsIn K mainGlobals "House" = some (some (.ref C_House))) (kpg_House : PySem.W.plainGet K C_House Str.empty = true) (khd_House : PySem.W.hasDictIn K C_House = true) (kpo_House : PySem.W.plainOver K C_House = true) (ksa_House : PySem.W.findIn K (.ref C_House) "__setattr__" = some (some (.builtin "object.__setattr__"))) (kmk_House : PySem.W.makesIn K C_House = true) (kkc_House : PySem.W.keepIn K (.ref C_House) = true)
    (kna_House_book : PySem.W.findIn K (.ref C_House) "book" = some none)
    (kna_House_here : PySem.W.findIn K (.ref C_House) "here" = some none)
    (kna_House_turns : PySem.W.findIn K (.ref C_House) "turns" = some none)
    (kna_House_stands : PySem.W.findIn K (.ref C_House) "stands" = some none)
    (kna_House_lately : PySem.W.findIn K (.ref C_House) "lately" = some none)
    (kna_House_others : PySem.W.findIn K (.ref C_House) "others" = some none)
    (kna_House_pinned : PySem.W.findIn K (.ref C_House) "pinned" = some none)
    (kga_Pin : PySem.W.nsIn K mainGlobals "Pin" = some (some (.ref C_Pin))) (kpg_Pin : PySem.W.plainGet K C_Pin Str.empty = true) (khd_Pin : PySem.W.hasDictIn K C_Pin = true) (kpo_Pin : PySem.W.plainOver K C_Pin = true) (ksa_Pin : PySem.W.findIn K (.ref C_Pin) "__setattr__" = some (some (.builtin "object.__setattr__"))) (kmk_Pin : PySem.W.makesIn K C_Pin = true) (kkc_Pin : PySem.W.keepIn K (.ref C_Pin) = true)
    (kna_Pin_store : PySem.W.findIn K (.ref C_Pin) "store" = some none)
    (kna_Pin_on : PySem.W.findIn K (.ref C_Pin) "on" = some none)
    (kna_Pin_loose : PySem.W.findIn K (.ref C_Pin) "loose" = some none)
    (kga_Teller : PySem.W.nsIn K mainGlobals "Teller" = some (some (.ref C_Teller))) (kpg_Teller : PySem.W.plainGet K C_Teller Str.empty = true) (khd_Teller : PySem.W.hasDictIn K C_Teller = true) (kpo_Teller : PySem.W.plainOver K C_Teller = true) (ksa_Teller : PySem.W.findIn K (.ref C_Teller) "__setattr__" = some (some (.builtin "object.__setattr__"))) (kmk_Teller : PySem.W.makesIn K C_Teller = true) (kkc_Teller : PySem.W.keepIn K (.ref C_Teller) = true)
    (kna_Teller_home : PySem.W.findIn K (.ref C_Teller) "home" = some none)
    (kna_Teller_seen : PySem.W.findIn K (.ref C_Teller) "seen" = some none)
    (kna_Teller_hold : PySem.W.findIn K (.ref C_Teller) "hold" = some none)
    (kna_Teller_greeting : PySem.W.findIn K (.ref C_Teller) "greeting" = some none)
    (kna_Teller_wants : PySem.W.findIn K (.ref C_Teller) "wants" = some none)
    (kna_Teller_bill : PySem.W.findIn K (.ref C_Teller) "bill" = some none)
    (kna_Teller_lacks : PySem.W.findIn K (.ref C_Teller) "lacks" = some none)
    (kna_Teller_pack : PySem.W.findIn K (.ref C_Teller) "pack" = some none)
    (kna_Teller_ended : PySem.W.findIn K (.ref C_Teller) "ended" = some none)
    (z_len : PySem.W.nsIn K mainGlobals "len" = some none)
    (z_list : PySem.W.nsIn K mainGlobals "list" = some none)
    (z_isinstance : PySem.W.nsIn K mainGlobals "isinstance" = some none)
    (z_int : PySem.W.nsIn K mainGlobals "int" = some none)
    (z_bool : PySem.W.nsIn K mainGlobals "bool" = some none)
    (z_str : PySem.W.nsIn K mainGlobals "str" = some none)
    (z_tuple : PySem.W.nsIn K mainGlobals "tuple" = some none)
    (z_dict : PySem.W.nsIn K mainGlobals "dict" = some none)
    (z_range : PySem.W.nsIn K mainGlobals "range" = some none)
    (z_all : PySem.W.nsIn K mainGlobals "all" = some none)
    (z_any : PySem.W.nsIn K mainGlobals "any" = some none)
    (z_min : PySem.W.nsIn K mainGlobals "min" = some none)
    (z_max : PySem.W.nsIn K mainGlobals "max" = some none)
    (z_set : PySem.W.nsIn K mainGlobals "set" = some none)
    (z_sorted : PySem.W.nsIn K mainGlobals "sorted" = some none)
    (z_zip : PySem.W.nsIn K mainGlobals "zip" = some none)
    (z_ValueError : PySem.W.nsIn K mainGlobals "ValueError" = some none)
    {t_SIGNS : Tok} (y_SIGNS : PySem.W.nsIn K mainGlobals "SIGNS" = some (some (.str " !\"#$&'()*+,-./0123456789:;<=>?@ABCDEFGHIJKLMNOPQRSTUVWXYZ[\\]^_`abcdefghijklmnopqrstuvwxyz{|}~" t_SIGNS)))
    {t_LETTERS : Tok} (y_LETTERS : PySem.W.nsIn K mainGlobals "LETTERS" = some (some (.str "abcdefghijklmnopqrstuvwxyz" t_LETTERS)))
    {t_MOST : Tok} (y_MOST : PySem.W.nsIn K mainGlobals "MOST" = some (some (.int 400 t_MOST)))
    {t_DEEP : Tok} (y_DEEP : PySem.W.nsIn K mainGlobals "DEEP" = some (some (.int 8 t_DEEP)))
    {C_BadRow : Addr} (xa_BadRow : PySem.W.nsIn K mainGlobals "BadRow" = some (some (.ref C_BadRow))) (xx_BadRow : PySem.W.excIn K C_BadRow [.type "ValueError", .type "Exception", .type "BaseException", .type "object"] "ValueError.__new__" = true) (xk_BadRow : PySem.W.keepIn K (.ref C_BadRow) = true) (xb_BadRow : PySem.W.subIn K (.ref C_BadRow) (.type "BaseException") = some true) (xt_BadRow : PySem.W.typeIn K (.ref C_BadRow) = some (.type "type")) (xi_BadRow : PySem.W.isClsIn K C_BadRow = true) (xs_BadRow : PySem.W.subIn K (.ref C_BadRow) (.ref C_BadRow) = some true)
    {C_HouseError : Addr} (ga_HouseError : PySem.W.nsIn K mainGlobals "HouseError" = some (some (.ref C_HouseError))) (hb_HouseError : PySem.W.subIn K (.ref C_HouseError) (.type "BaseException") = some true) (hi_HouseError : PySem.W.isClsIn K C_HouseError = true) (ht_HouseError : PySem.W.typeIn K (.ref C_HouseError) = some (.type "type"))
    {C_NoName : Addr} (ga_NoName : PySem.W.nsIn K mainGlobals "NoName" = some (some (.ref C_NoName))) (hb_NoName : PySem.W.subIn K (.ref C_NoName) (.type "BaseException") = some true) (hi_NoName : PySem.W.isClsIn K C_NoName = true) (ht_NoName : PySem.W.typeIn K (.ref C_NoName) = some (.type "type"))
    {C_NoMark : Addr} (ga_NoMark : PySem.W.nsIn K mainGlobals "NoMark" = some (some (.ref C_NoMark))) (hb_NoMark : PySem.W.subIn K (.ref C_NoMark) (.type "BaseException") = some true) (hi_NoMark : PySem.W.isClsIn K C_NoMark = true) (ht_NoMark : PySem.W.typeIn K (.ref C_NoMark) = some (.type "type"))
    {C_Contrary : Addr} (ga_Contrary : PySem.W.nsIn K mainGlobals "Contrary" = some (some (.ref C_Contrary))) (hb_Contrary : PySem.W.subIn K (.ref C_Contrary) (.type "BaseException") = some true) (hi_Contrary : PySem.W.isClsIn K C_Contrary = true) (ht_Contrary : PySem.W.typeIn K (.ref C_Contrary) = some (.type "type"))
    (es_BadRow_HouseError : PySem.W.subIn K (.ref C_BadRow) (.ref C_HouseError) = some true)
    (kq_BadRow_BadRow : PySem.W.kitOne K (.ref C_BadRow) (.ref C_BadRow) = some true)
    (kq_BadRow_NoName : PySem.W.kitOne K (.ref C_BadRow) (.ref C_NoName) = some false)
    (kq_BadRow_NoMark : PySem.W.kitOne K (.ref C_BadRow) (.ref C_NoMark) = some false)
    (kq_BadRow_Contrary : PySem.W.kitOne K (.ref C_BadRow) (.ref C_Contrary) = some false)
    (kq_BadRow_ValueError : PySem.W.kitOne K (.ref C_BadRow) (.type "ValueError") = some true)
     (ia_House_put : PySem.W.findIn K (.ref C_House) "put" = some (some (.ref f_Store_put)))
     (ia_House_held : PySem.W.findIn K (.ref C_House) "held" = some (some (.ref f_Store_held)))
     (ia_House_view : PySem.W.findIn K (.ref C_House) "view" = some (some (.ref f_Store_view)))
     (ia_House_holds : PySem.W.findIn K (.ref C_House) "holds" = some (some (.ref f_Store_holds)))
     (ia_House_changes : PySem.W.findIn K (.ref C_House) "changes" = some (some (.ref f_Store_changes)))
     (cr1_Store : PySem.W.readsIn K C_Store (.type "type") = true)
     (cr2_Store : PySem.W.specialIn K (.ref C_Store) "__getattribute__" = some (some (.builtin "type.__getattribute__")))
     (cv_Store___init__ : PySem.W.findCls K (.ref C_Store) (.type "type") "__init__" = some (.val (.ref f_Store___init__)))
     (e_hg_BadRow : PySem.W.findIn K (.ref C_BadRow) "__getattribute__" = some (some (.builtin "BaseException.__getattribute__")))
     (e_hk_BadRow : PySem.W.findIn K (.ref C_BadRow) "__getattr__" = some none)
     (e_hd_BadRow : PySem.W.hasDictIn K C_BadRow = true)
     (e_ha_BadRow : PySem.W.findIn K (.ref C_BadRow) "__class__" = some (some (.builtin "object.__class__")))
     (e_hn_BadRow : PySem.W.specialIn K (.builtin "object.__class__") "__get__" = some (some (.builtin "getset_descriptor.__get__")))
     (e_ht_BadRow : PySem.W.takesIn K (.builtin "object.__class__") = some true)
     (e_hm_BadRow : PySem.W.mroIn K C_BadRow (.type "object") = some true)
    : ∃ fd : FuncData, (∀ (s : Shared) (v : Value), BindsTo s fd ⟨[v], []⟩ [("_law_script", v)]) ∧ ∀ base : Heap, K.In base → base.Ns mainGlobals mg → FnOk l.prog w K mg base CX0 12 fa fd ["_law_script"] (spLaw K) := by
  have e := hfa.symm.trans (PySem.W.mg_of X G a_law)
  cases e
  have F_is_int : FunD K "is_int" "is_int" (defArgs s_is_int) (defBody s_is_int) (defScope s_is_int) [V.int 0] [] f_is_int _ := ⟨⟨_, _, _, _, _, _, _, _, _, _, rfl, l_is_int, c_is_int, .inr ⟨by simp, _, _, [.int 0 dk_is_int_least], _, rfl, dl_is_int, rfl, .cons ⟨_, rfl⟩ (.nil)⟩, .inl rfl⟩, k_is_int⟩
  have D_is_int : DfD K mg "is_int" s_is_int ["thing", "least"] [V.int 0] _ _ := ⟨F_is_int, PySem.W.mg_of X G a_is_int, k_is_int, F_is_int.binds1 (ps := ["thing", "least"]) 1 0 (by simp) rfl fun _ _ _ _ _ _ _ us its hu hi => match us, its, hu, hi with | [_], [_], _, _ => ⟨_, rfl, rfl⟩⟩
  have F_is_text : FunD K "is_text" "is_text" (defArgs s_is_text) (defBody s_is_text) (defScope s_is_text) [V.int 40] [] f_is_text _ := ⟨⟨_, _, _, _, _, _, _, _, _, _, rfl, l_is_text, c_is_text, .inr ⟨by simp, _, _, [.int 40 dk_is_text_most], _, rfl, dl_is_text, rfl, .cons ⟨_, rfl⟩ (.nil)⟩, .inl rfl⟩, k_is_text⟩
  have D_is_text : DfD K mg "is_text" s_is_text ["thing", "most"] [V.int 40] _ _ := ⟨F_is_text, PySem.W.mg_of X G a_is_text, k_is_text, F_is_text.binds1 (ps := ["thing", "most"]) 1 0 (by simp) rfl fun _ _ _ _ _ _ _ us its hu hi => match us, its, hu, hi with | [_], [_], _, _ => ⟨_, rfl, rfl⟩⟩
  have F_is_label := fun_mk (st := s_is_label) l_is_label c_is_label k_is_label
  have D_is_label : Df K mg "is_label" s_is_label ["thing"] _ _ := ⟨F_is_label, F_is_label.binds (ps := ["thing"]) fun _ _ _ _ _ _ us hl => match us, hl with | [_], _ => rfl, PySem.W.mg_of X G a_is_label⟩
  have F_rise := fun_mk (st := s_rise) l_rise c_rise k_rise
  have D_rise : Df K mg "rise" s_rise ["row"] _ _ := ⟨F_rise, F_rise.binds (ps := ["row"]) fun _ _ _ _ _ _ us hl => match us, hl with | [_], _ => rfl, PySem.W.mg_of X G a_rise⟩
  have F_are_ints := fun_mk (st := s_are_ints) l_are_ints c_are_ints k_are_ints
  have D_are_ints : Df K mg "are_ints" s_are_ints ["thing"] _ _ := ⟨F_are_ints, F_are_ints.binds (ps := ["thing"]) fun _ _ _ _ _ _ us hl => match us, hl with | [_], _ => rfl, PySem.W.mg_of X G a_are_ints⟩
  have F_rising_ints := fun_mk (st := s_rising_ints) l_rising_ints c_rising_ints k_rising_ints
  have D_rising_ints : Df K mg "rising_ints" s_rising_ints ["thing"] _ _ := ⟨F_rising_ints, F_rising_ints.binds (ps := ["thing"]) fun _ _ _ _ _ _ us hl => match us, hl with | [_], _ => rfl, PySem.W.mg_of X G a_rising_ints⟩
  have F_is_pair := fun_mk (st := s_is_pair) l_is_pair c_is_pair k_is_pair
  have D_is_pair : Df K mg "is_pair" s_is_pair ["thing"] _ _ := ⟨F_is_pair, F_is_pair.binds (ps := ["thing"]) fun _ _ _ _ _ _ us hl => match us, hl with | [_], _ => rfl, PySem.W.mg_of X G a_is_pair⟩
  have F_are_rows := fun_mk (st := s_are_rows) l_are_rows c_are_rows k_are_rows
  have D_are_rows : Df K mg "are_rows" s_are_rows ["thing"] _ _ := ⟨F_are_rows, F_are_rows.binds (ps := ["thing"]) fun _ _ _ _ _ _ us hl => match us, hl with | [_], _ => rfl, PySem.W.mg_of X G a_are_rows⟩
  have F_Book___init__ := fun_mk (st := s_Book___init__) l_Book___init__ c_Book___init__ k_Book___init__
  have D_Book___init__ : DfM K C_Book "__init__" "Book.__init__" s_Book___init__ ["self"] _ _ := ⟨F_Book___init__, F_Book___init__.binds (ps := ["self"]) fun _ _ _ _ _ _ us hl => match us, hl with | [_], _ => rfl, ⟨a_Book___init__, i_Book___init__, k_Book___init__⟩⟩
  have F_Book_named := fun_mk (st := s_Book_named) l_Book_named c_Book_named k_Book_named
  have D_Book_named : DfM K C_Book "named" "Book.named" s_Book_named ["self", "content"] _ _ := ⟨F_Book_named, F_Book_named.binds (ps := ["self", "content"]) fun _ _ _ _ _ _ us hl => match us, hl with | [_, _], _ => rfl, ⟨a_Book_named, i_Book_named, k_Book_named⟩⟩
  have F_Book_thing := fun_mk (st := s_Book_thing) l_Book_thing c_Book_thing k_Book_thing
  have D_Book_thing : DfM K C_Book "thing" "Book.thing" s_Book_thing ["self", "name"] _ _ := ⟨F_Book_thing, F_Book_thing.binds (ps := ["self", "name"]) fun _ _ _ _ _ _ us hl => match us, hl with | [_, _], _ => rfl, ⟨a_Book_thing, i_Book_thing, k_Book_thing⟩⟩
  have F_Book_kind := fun_mk (st := s_Book_kind) l_Book_kind c_Book_kind k_Book_kind
  have D_Book_kind : DfM K C_Book "kind" "Book.kind" s_Book_kind ["self", "name"] _ _ := ⟨F_Book_kind, F_Book_kind.binds (ps := ["self", "name"]) fun _ _ _ _ _ _ us hl => match us, hl with | [_, _], _ => rfl, ⟨a_Book_kind, i_Book_kind, k_Book_kind⟩⟩
  have F_Book_parts := fun_mk (st := s_Book_parts) l_Book_parts c_Book_parts k_Book_parts
  have D_Book_parts : DfM K C_Book "parts" "Book.parts" s_Book_parts ["self", "name"] _ _ := ⟨F_Book_parts, F_Book_parts.binds (ps := ["self", "name"]) fun _ _ _ _ _ _ us hl => match us, hl with | [_, _], _ => rfl, ⟨a_Book_parts, i_Book_parts, k_Book_parts⟩⟩
  have F_is_name := fun_mk (st := s_is_name) l_is_name c_is_name k_is_name
  have D_is_name : Df K mg "is_name" s_is_name ["book", "thing"] _ _ := ⟨F_is_name, F_is_name.binds (ps := ["book", "thing"]) fun _ _ _ _ _ _ us hl => match us, hl with | [_, _], _ => rfl, PySem.W.mg_of X G a_is_name⟩
  have F_is_kind := fun_mk (st := s_is_kind) l_is_kind c_is_kind k_is_kind
  have D_is_kind : Df K mg "is_kind" s_is_kind ["book", "thing", "kind"] _ _ := ⟨F_is_kind, F_is_kind.binds (ps := ["book", "thing", "kind"]) fun _ _ _ _ _ _ us hl => match us, hl with | [_, _, _], _ => rfl, PySem.W.mg_of X G a_is_kind⟩
  have F_is_entry := fun_mk (st := s_is_entry) l_is_entry c_is_entry k_is_entry
  have D_is_entry : Df K mg "is_entry" s_is_entry ["book", "thing"] _ _ := ⟨F_is_entry, F_is_entry.binds (ps := ["book", "thing"]) fun _ _ _ _ _ _ us hl => match us, hl with | [_, _], _ => rfl, PySem.W.mg_of X G a_is_entry⟩
  have F_is_tree := fun_mk (st := s_is_tree) l_is_tree c_is_tree k_is_tree
  have D_is_tree : Df K mg "is_tree" s_is_tree ["book", "entries"] _ _ := ⟨F_is_tree, F_is_tree.binds (ps := ["book", "entries"]) fun _ _ _ _ _ _ us hl => match us, hl with | [_, _], _ => rfl, PySem.W.mg_of X G a_is_tree⟩
  have F_depth_of := fun_mk (st := s_depth_of) l_depth_of c_depth_of k_depth_of
  have D_depth_of : Df K mg "depth_of" s_depth_of ["book", "content"] _ _ := ⟨F_depth_of, F_depth_of.binds (ps := ["book", "content"]) fun _ _ _ _ _ _ us hl => match us, hl with | [_, _], _ => rfl, PySem.W.mg_of X G a_depth_of⟩
  have F_is_version := fun_mk (st := s_is_version) l_is_version c_is_version k_is_version
  have D_is_version : Df K mg "is_version" s_is_version ["book", "content"] _ _ := ⟨F_is_version, F_is_version.binds (ps := ["book", "content"]) fun _ _ _ _ _ _ us hl => match us, hl with | [_, _], _ => rfl, PySem.W.mg_of X G a_is_version⟩
  have F_is_content := fun_mk (st := s_is_content) l_is_content c_is_content k_is_content
  have D_is_content : Df K mg "is_content" s_is_content ["book", "thing"] _ _ := ⟨F_is_content, F_is_content.binds (ps := ["book", "thing"]) fun _ _ _ _ _ _ us hl => match us, hl with | [_, _], _ => rfl, PySem.W.mg_of X G a_is_content⟩
  have F_Holding___init__ := fun_mk (st := s_Holding___init__) l_Holding___init__ c_Holding___init__ k_Holding___init__
  have D_Holding___init__ : DfM K C_Holding "__init__" "Holding.__init__" s_Holding___init__ ["self", "book", "names"] _ _ := ⟨F_Holding___init__, F_Holding___init__.binds (ps := ["self", "book", "names"]) fun _ _ _ _ _ _ us hl => match us, hl with | [_, _, _], _ => rfl, ⟨a_Holding___init__, i_Holding___init__, k_Holding___init__⟩⟩
  have F_Holding_holds := fun_mk (st := s_Holding_holds) l_Holding_holds c_Holding_holds k_Holding_holds
  have D_Holding_holds : DfM K C_Holding "holds" "Holding.holds" s_Holding_holds ["self", "name"] _ _ := ⟨F_Holding_holds, F_Holding_holds.binds (ps := ["self", "name"]) fun _ _ _ _ _ _ us hl => match us, hl with | [_, _], _ => rfl, ⟨a_Holding_holds, i_Holding_holds, k_Holding_holds⟩⟩
  have F_Holding_names := fun_mk (st := s_Holding_names) l_Holding_names c_Holding_names k_Holding_names
  have D_Holding_names : DfM K C_Holding "names" "Holding.names" s_Holding_names ["self"] _ _ := ⟨F_Holding_names, F_Holding_names.binds (ps := ["self"]) fun _ _ _ _ _ _ us hl => match us, hl with | [_], _ => rfl, ⟨a_Holding_names, i_Holding_names, k_Holding_names⟩⟩
  have F_Holding_versions := fun_mk (st := s_Holding_versions) l_Holding_versions c_Holding_versions k_Holding_versions
  have D_Holding_versions : DfM K C_Holding "versions" "Holding.versions" s_Holding_versions ["self"] _ _ := ⟨F_Holding_versions, F_Holding_versions.binds (ps := ["self"]) fun _ _ _ _ _ _ us hl => match us, hl with | [_], _ => rfl, ⟨a_Holding_versions, i_Holding_versions, k_Holding_versions⟩⟩
  have F_Holding_edges := fun_mk (st := s_Holding_edges) l_Holding_edges c_Holding_edges k_Holding_edges
  have D_Holding_edges : DfM K C_Holding "edges" "Holding.edges" s_Holding_edges ["self"] _ _ := ⟨F_Holding_edges, F_Holding_edges.binds (ps := ["self"]) fun _ _ _ _ _ _ us hl => match us, hl with | [_], _ => rfl, ⟨a_Holding_edges, i_Holding_edges, k_Holding_edges⟩⟩
  have F_Store___init__ := fun_mk (st := s_Store___init__) l_Store___init__ c_Store___init__ k_Store___init__
  have D_Store___init__ : DfM K C_Store "__init__" "Store.__init__" s_Store___init__ ["self", "book"] _ _ := ⟨F_Store___init__, F_Store___init__.binds (ps := ["self", "book"]) fun _ _ _ _ _ _ us hl => match us, hl with | [_, _], _ => rfl, ⟨a_Store___init__, i_Store___init__, k_Store___init__⟩⟩
  have F_Store_put := fun_mk (st := s_Store_put) l_Store_put c_Store_put k_Store_put
  have D_Store_put : DfM K C_Store "put" "Store.put" s_Store_put ["self", "name"] _ _ := ⟨F_Store_put, F_Store_put.binds (ps := ["self", "name"]) fun _ _ _ _ _ _ us hl => match us, hl with | [_, _], _ => rfl, ⟨a_Store_put, i_Store_put, k_Store_put⟩⟩
  have F_Store_held := fun_mk (st := s_Store_held) l_Store_held c_Store_held k_Store_held
  have D_Store_held : DfM K C_Store "held" "Store.held" s_Store_held ["self"] _ _ := ⟨F_Store_held, F_Store_held.binds (ps := ["self"]) fun _ _ _ _ _ _ us hl => match us, hl with | [_], _ => rfl, ⟨a_Store_held, i_Store_held, k_Store_held⟩⟩
  have F_Store_view := fun_mk (st := s_Store_view) l_Store_view c_Store_view k_Store_view
  have D_Store_view : DfM K C_Store "view" "Store.view" s_Store_view ["self"] _ _ := ⟨F_Store_view, F_Store_view.binds (ps := ["self"]) fun _ _ _ _ _ _ us hl => match us, hl with | [_], _ => rfl, ⟨a_Store_view, i_Store_view, k_Store_view⟩⟩
  have F_Store_holds := fun_mk (st := s_Store_holds) l_Store_holds c_Store_holds k_Store_holds
  have D_Store_holds : DfM K C_Store "holds" "Store.holds" s_Store_holds ["self", "name"] _ _ := ⟨F_Store_holds, F_Store_holds.binds (ps := ["self", "name"]) fun _ _ _ _ _ _ us hl => match us, hl with | [_, _], _ => rfl, ⟨a_Store_holds, i_Store_holds, k_Store_holds⟩⟩
  have F_Store_changes := fun_mk (st := s_Store_changes) l_Store_changes c_Store_changes k_Store_changes
  have D_Store_changes : DfM K C_Store "changes" "Store.changes" s_Store_changes ["self"] _ _ := ⟨F_Store_changes, F_Store_changes.binds (ps := ["self"]) fun _ _ _ _ _ _ us hl => match us, hl with | [_], _ => rfl, ⟨a_Store_changes, i_Store_changes, k_Store_changes⟩⟩
  have F_House___init__ := fun_mk (st := s_House___init__) l_House___init__ c_House___init__ k_House___init__
  have D_House___init__ : DfM K C_House "__init__" "House.__init__" s_House___init__ ["self", "book"] _ _ := ⟨F_House___init__, F_House___init__.binds (ps := ["self", "book"]) fun _ _ _ _ _ _ us hl => match us, hl with | [_, _], _ => rfl, ⟨a_House___init__, i_House___init__, k_House___init__⟩⟩
  have F_House_marks := fun_mk (st := s_House_marks) l_House_marks c_House_marks k_House_marks
  have D_House_marks : DfM K C_House "marks" "House.marks" s_House_marks ["self"] _ _ := ⟨F_House_marks, F_House_marks.binds (ps := ["self"]) fun _ _ _ _ _ _ us hl => match us, hl with | [_], _ => rfl, ⟨a_House_marks, i_House_marks, k_House_marks⟩⟩
  have F_House_pin := fun_mk (st := s_House_pin) l_House_pin c_House_pin k_House_pin
  have D_House_pin : DfM K C_House "pin" "House.pin" s_House_pin ["self", "names"] _ _ := ⟨F_House_pin, F_House_pin.binds (ps := ["self", "names"]) fun _ _ _ _ _ _ us hl => match us, hl with | [_, _], _ => rfl, ⟨a_House_pin, i_House_pin, k_House_pin⟩⟩
  have F_must_hold := fun_mk (st := s_must_hold) l_must_hold c_must_hold k_must_hold
  have D_must_hold : Df K mg "must_hold" s_must_hold ["store", "names"] _ _ := ⟨F_must_hold, F_must_hold.binds (ps := ["store", "names"]) fun _ _ _ _ _ _ us hl => match us, hl with | [_, _], _ => rfl, PySem.W.mg_of X G a_must_hold⟩
  have F_Pin___init__ := fun_mk (st := s_Pin___init__) l_Pin___init__ c_Pin___init__ k_Pin___init__
  have D_Pin___init__ : DfM K C_Pin "__init__" "Pin.__init__" s_Pin___init__ ["self", "store", "names"] _ _ := ⟨F_Pin___init__, F_Pin___init__.binds (ps := ["self", "store", "names"]) fun _ _ _ _ _ _ us hl => match us, hl with | [_, _, _], _ => rfl, ⟨a_Pin___init__, i_Pin___init__, k_Pin___init__⟩⟩
  have F_Teller___init__ := fun_mk (st := s_Teller___init__) l_Teller___init__ c_Teller___init__ k_Teller___init__
  have D_Teller___init__ : DfM K C_Teller "__init__" "Teller.__init__" s_Teller___init__ ["self", "house"] _ _ := ⟨F_Teller___init__, F_Teller___init__.binds (ps := ["self", "house"]) fun _ _ _ _ _ _ us hl => match us, hl with | [_, _], _ => rfl, ⟨a_Teller___init__, i_Teller___init__, k_Teller___init__⟩⟩
  have F_Teller_answer := fun_mk (st := s_Teller_answer) l_Teller_answer c_Teller_answer k_Teller_answer
  have D_Teller_answer : DfM K C_Teller "answer" "Teller.answer" s_Teller_answer ["self", "row"] _ _ := ⟨F_Teller_answer, F_Teller_answer.binds (ps := ["self", "row"]) fun _ _ _ _ _ _ us hl => match us, hl with | [_, _], _ => rfl, ⟨a_Teller_answer, i_Teller_answer, k_Teller_answer⟩⟩
  have F_Teller_greeted := fun_mk (st := s_Teller_greeted) l_Teller_greeted c_Teller_greeted k_Teller_greeted
  have D_Teller_greeted : DfM K C_Teller "greeted" "Teller.greeted" s_Teller_greeted ["self"] _ _ := ⟨F_Teller_greeted, F_Teller_greeted.binds (ps := ["self"]) fun _ _ _ _ _ _ us hl => match us, hl with | [_], _ => rfl, ⟨a_Teller_greeted, i_Teller_greeted, k_Teller_greeted⟩⟩
  have F_Teller_told := fun_mk (st := s_Teller_told) l_Teller_told c_Teller_told k_Teller_told
  have D_Teller_told : DfM K C_Teller "told" "Teller.told" s_Teller_told ["self", "names"] _ _ := ⟨F_Teller_told, F_Teller_told.binds (ps := ["self", "names"]) fun _ _ _ _ _ _ us hl => match us, hl with | [_, _], _ => rfl, ⟨a_Teller_told, i_Teller_told, k_Teller_told⟩⟩
  have F_law_deck := fun_mk (st := s_law_deck) l_law_deck c_law_deck k_law_deck
  have D_law_deck : Df K mg "_law_deck" s_law_deck ["_law_script"] _ _ := ⟨F_law_deck, F_law_deck.binds (ps := ["_law_script"]) fun _ _ _ _ _ _ us hl => match us, hl with | [_], _ => rfl, PySem.W.mg_of X G a_law_deck⟩
  have F_law_mixed := fun_mk (st := s_law_mixed) l_law_mixed c_law_mixed k_law_mixed
  have D_law_mixed : Df K mg "_law_mixed" s_law_mixed ["_law_cell", "_law_turn"] _ _ := ⟨F_law_mixed, F_law_mixed.binds (ps := ["_law_cell", "_law_turn"]) fun _ _ _ _ _ _ us hl => match us, hl with | [_, _], _ => rfl, PySem.W.mg_of X G a_law_mixed⟩
  have F_law_draw := fun_mk (st := s_law_draw) l_law_draw c_law_draw k_law_draw
  have D_law_draw : Df K mg "_law_draw" s_law_draw ["_law_deck_here", "_law_many"] _ _ := ⟨F_law_draw, F_law_draw.binds (ps := ["_law_deck_here", "_law_many"]) fun _ _ _ _ _ _ us hl => match us, hl with | [_, _], _ => rfl, PySem.W.mg_of X G a_law_draw⟩
  have F_law_text := fun_mk (st := s_law_text) l_law_text c_law_text k_law_text
  have D_law_text : Df K mg "_law_text" s_law_text ["_law_deck_here", "_law_most"] _ _ := ⟨F_law_text, F_law_text.binds (ps := ["_law_deck_here", "_law_most"]) fun _ _ _ _ _ _ us hl => match us, hl with | [_, _], _ => rfl, PySem.W.mg_of X G a_law_text⟩
  have F_law_label := fun_mk (st := s_law_label) l_law_label c_law_label k_law_label
  have D_law_label : Df K mg "_law_label" s_law_label ["_law_deck_here"] _ _ := ⟨F_law_label, F_law_label.binds (ps := ["_law_deck_here"]) fun _ _ _ _ _ _ us hl => match us, hl with | [_], _ => rfl, PySem.W.mg_of X G a_law_label⟩
  have F_law_give := fun_mk (st := s_law_give) l_law_give c_law_give k_law_give
  have D_law_give : Df K mg "_law_give" s_law_give ["_law_things", "_law_content"] _ _ := ⟨F_law_give, F_law_give.binds (ps := ["_law_things", "_law_content"]) fun _ _ _ _ _ _ us hl => match us, hl with | [_, _], _ => rfl, PySem.W.mg_of X G a_law_give⟩
  have F_law_rows := fun_mk (st := s_law_rows) l_law_rows c_law_rows k_law_rows
  have D_law_rows : Df K mg "_law_rows" s_law_rows ["_law_deck_here", "_law_elder"] _ _ := ⟨F_law_rows, F_law_rows.binds (ps := ["_law_deck_here", "_law_elder"]) fun _ _ _ _ _ _ us hl => match us, hl with | [_, _], _ => rfl, PySem.W.mg_of X G a_law_rows⟩
  have F_law_entries := fun_mk (st := s_law_entries) l_law_entries c_law_entries k_law_entries
  have D_law_entries : Df K mg "_law_entries" s_law_entries ["_law_deck_here", "_law_lows"] _ _ := ⟨F_law_entries, F_law_entries.binds (ps := ["_law_deck_here", "_law_lows"]) fun _ _ _ _ _ _ us hl => match us, hl with | [_, _], _ => rfl, PySem.W.mg_of X G a_law_entries⟩
  have F_law_some := fun_mk (st := s_law_some) l_law_some c_law_some k_law_some
  have D_law_some : Df K mg "_law_some" s_law_some ["_law_deck_here", "_law_names", "_law_most"] _ _ := ⟨F_law_some, F_law_some.binds (ps := ["_law_deck_here", "_law_names", "_law_most"]) fun _ _ _ _ _ _ us hl => match us, hl with | [_, _, _], _ => rfl, PySem.W.mg_of X G a_law_some⟩
  have F_law_family := fun_mk (st := s_law_family) l_law_family c_law_family k_law_family
  have D_law_family : Df K mg "_law_family" s_law_family ["_law_deck_here", "_law_leaves", "_law_trees", "_law_versions"] _ _ := ⟨F_law_family, F_law_family.binds (ps := ["_law_deck_here", "_law_leaves", "_law_trees", "_law_versions"]) fun _ _ _ _ _ _ us hl => match us, hl with | [_, _, _, _], _ => rfl, PySem.W.mg_of X G a_law_family⟩
  have F_law_parts := fun_mk (st := s_law_parts) l_law_parts c_law_parts k_law_parts
  have D_law_parts : Df K mg "_law_parts" s_law_parts ["_law_content"] _ _ := ⟨F_law_parts, F_law_parts.binds (ps := ["_law_content"]) fun _ _ _ _ _ _ us hl => match us, hl with | [_], _ => rfl, PySem.W.mg_of X G a_law_parts⟩
  have F_law_under := fun_mk (st := s_law_under) l_law_under c_law_under k_law_under
  have D_law_under : Df K mg "_law_under" s_law_under ["_law_things", "_law_starts"] _ _ := ⟨F_law_under, F_law_under.binds (ps := ["_law_things", "_law_starts"]) fun _ _ _ _ _ _ us hl => match us, hl with | [_, _], _ => rfl, PySem.W.mg_of X G a_law_under⟩
  have F_law_held := fun_mk (st := s_law_held) l_law_held c_law_held k_law_held
  have D_law_held : Df K mg "_law_held" s_law_held ["_law_deck_here", "_law_things"] _ _ := ⟨F_law_held, F_law_held.binds (ps := ["_law_deck_here", "_law_things"]) fun _ _ _ _ _ _ us hl => match us, hl with | [_, _], _ => rfl, PySem.W.mg_of X G a_law_held⟩
  have F_law_book := fun_mk (st := s_law_book) l_law_book c_law_book k_law_book
  have D_law_book : Df K mg "_law_book" s_law_book ["_law_things"] _ _ := ⟨F_law_book, F_law_book.binds (ps := ["_law_things"]) fun _ _ _ _ _ _ us hl => match us, hl with | [_], _ => rfl, PySem.W.mg_of X G a_law_book⟩
  have F_law_house := fun_mk (st := s_law_house) l_law_house c_law_house k_law_house
  have D_law_house : Df K mg "_law_house" s_law_house ["_law_book_here", "_law_held_here"] _ _ := ⟨F_law_house, F_law_house.binds (ps := ["_law_book_here", "_law_held_here"]) fun _ _ _ _ _ _ us hl => match us, hl with | [_, _], _ => rfl, PySem.W.mg_of X G a_law_house⟩
  have F_law_alike := fun_mk (st := s_law_alike) l_law_alike c_law_alike k_law_alike
  have D_law_alike : Df K mg "_law_alike" s_law_alike ["_law_found", "_law_due"] _ _ := ⟨F_law_alike, F_law_alike.binds (ps := ["_law_found", "_law_due"]) fun _ _ _ _ _ _ us hl => match us, hl with | [_, _], _ => rfl, PySem.W.mg_of X G a_law_alike⟩
  have F_law_bad := fun_mk (st := s_law_bad) l_law_bad c_law_bad k_law_bad
  have D_law_bad : Df K mg "_law_bad" s_law_bad ["_law_end", "_law_row"] _ _ := ⟨F_law_bad, F_law_bad.binds (ps := ["_law_end", "_law_row"]) fun _ _ _ _ _ _ us hl => match us, hl with | [_, _], _ => rfl, PySem.W.mg_of X G a_law_bad⟩
  have F_law_asks := fun_mk (st := s_law_asks) l_law_asks c_law_asks k_law_asks
  have D_law_asks : Df K mg "_law_asks" s_law_asks ["_law_deck_here", "_law_many"] _ _ := ⟨F_law_asks, F_law_asks.binds (ps := ["_law_deck_here", "_law_many"]) fun _ _ _ _ _ _ us hl => match us, hl with | [_, _], _ => rfl, PySem.W.mg_of X G a_law_asks⟩
  have F_law_bent := fun_mk (st := s_law_bent) l_law_bent c_law_bent k_law_bent
  have D_law_bent : Df K mg "_law_bent" s_law_bent ["_law_deck_here", "_law_row"] _ _ := ⟨F_law_bent, F_law_bent.binds (ps := ["_law_deck_here", "_law_row"]) fun _ _ _ _ _ _ us hl => match us, hl with | [_, _], _ => rfl, PySem.W.mg_of X G a_law_bent⟩
  have F_law := fun_mk (st := s_law) l_law c_law k_law
  have D_law : Df K mg "law" s_law ["_law_script"] _ _ := ⟨F_law, F_law.binds (ps := ["_law_script"]) fun _ _ _ _ _ _ us hl => match us, hl with | [_], _ => rfl, PySem.W.mg_of X G a_law⟩
  have K_Book : Kl K mg "Book" C_Book ["contents", "depths", "given"] := ⟨PySem.W.mg_of X G kga_Book, ⟨kpg_Book, khd_Book, kpo_Book, ksa_Book⟩, fun y hy => by
    rcases (by simpa using hy : y = "contents" ∨ y = "depths" ∨ y = "given") with rfl | rfl | rfl
    · exact kna_Book_contents
    · exact kna_Book_depths
    · exact kna_Book_given⟩
  have M_Book : Mk K C_Book f_Book___init__ := ⟨kmk_Book, a_Book___init__, i_Book___init__, kkc_Book⟩
  have K_Holding : Kl K mg "Holding" C_Holding ["book", "row", "here"] := ⟨PySem.W.mg_of X G kga_Holding, ⟨kpg_Holding, khd_Holding, kpo_Holding, ksa_Holding⟩, fun y hy => by
    rcases (by simpa using hy : y = "book" ∨ y = "row" ∨ y = "here") with rfl | rfl | rfl
    · exact kna_Holding_book
    · exact kna_Holding_row
    · exact kna_Holding_here⟩
  have M_Holding : Mk K C_Holding f_Holding___init__ := ⟨kmk_Holding, a_Holding___init__, i_Holding___init__, kkc_Holding⟩
  have K_Store : Kl K mg "Store" C_Store ["book", "here", "turns"] := ⟨PySem.W.mg_of X G kga_Store, ⟨kpg_Store, khd_Store, kpo_Store, ksa_Store⟩, fun y hy => by
    rcases (by simpa using hy : y = "book" ∨ y = "here" ∨ y = "turns") with rfl | rfl | rfl
    · exact kna_Store_book
    · exact kna_Store_here
    · exact kna_Store_turns⟩
  have M_Store : Mk K C_Store f_Store___init__ := ⟨kmk_Store, a_Store___init__, i_Store___init__, kkc_Store⟩
  have K_House : Kl K mg "House" C_House ["book", "here", "turns", "stands", "lately", "others", "pinned"] := ⟨PySem.W.mg_of X G kga_House, ⟨kpg_House, khd_House, kpo_House, ksa_House⟩, fun y hy => by
    rcases (by simpa using hy : y = "book" ∨ y = "here" ∨ y = "turns" ∨ y = "stands" ∨ y = "lately" ∨ y = "others" ∨ y = "pinned") with rfl | rfl | rfl | rfl | rfl | rfl | rfl
    · exact kna_House_book
    · exact kna_House_here
    · exact kna_House_turns
    · exact kna_House_stands
    · exact kna_House_lately
    · exact kna_House_others
    · exact kna_House_pinned⟩
  have M_House : Mk K C_House f_House___init__ := ⟨kmk_House, a_House___init__, i_House___init__, kkc_House⟩
  have K_Pin : Kl K mg "Pin" C_Pin ["store", "on", "loose"] := ⟨PySem.W.mg_of X G kga_Pin, ⟨kpg_Pin, khd_Pin, kpo_Pin, ksa_Pin⟩, fun y hy => by
    rcases (by simpa using hy : y = "store" ∨ y = "on" ∨ y = "loose") with rfl | rfl | rfl
    · exact kna_Pin_store
    · exact kna_Pin_on
    · exact kna_Pin_loose⟩
  have M_Pin : Mk K C_Pin f_Pin___init__ := ⟨kmk_Pin, a_Pin___init__, i_Pin___init__, kkc_Pin⟩
  have K_Teller : Kl K mg "Teller" C_Teller ["home", "seen", "hold", "greeting", "wants", "bill", "lacks", "pack", "ended"] := ⟨PySem.W.mg_of X G kga_Teller, ⟨kpg_Teller, khd_Teller, kpo_Teller, ksa_Teller⟩, fun y hy => by
    rcases (by simpa using hy : y = "home" ∨ y = "seen" ∨ y = "hold" ∨ y = "greeting" ∨ y = "wants" ∨ y = "bill" ∨ y = "lacks" ∨ y = "pack" ∨ y = "ended") with rfl | rfl | rfl | rfl | rfl | rfl | rfl | rfl | rfl
    · exact kna_Teller_home
    · exact kna_Teller_seen
    · exact kna_Teller_hold
    · exact kna_Teller_greeting
    · exact kna_Teller_wants
    · exact kna_Teller_bill
    · exact kna_Teller_lacks
    · exact kna_Teller_pack
    · exact kna_Teller_ended⟩
  have M_Teller : Mk K C_Teller f_Teller___init__ := ⟨kmk_Teller, a_Teller___init__, i_Teller___init__, kkc_Teller⟩
  have T : Txt K mg := ⟨PySem.W.mg_none_of X G z_len, PySem.W.mg_none_of X G z_list, PySem.W.mg_none_of X G z_isinstance, PySem.W.mg_none_of X G z_int, PySem.W.mg_none_of X G z_bool, PySem.W.mg_none_of X G z_str, PySem.W.mg_none_of X G z_tuple, PySem.W.mg_none_of X G z_dict, PySem.W.mg_none_of X G z_range, PySem.W.mg_none_of X G z_all, PySem.W.mg_none_of X G z_any, PySem.W.mg_none_of X G z_min, PySem.W.mg_none_of X G z_max, PySem.W.mg_none_of X G z_set, PySem.W.mg_none_of X G z_sorted, PySem.W.mg_none_of X G z_zip, PySem.W.mg_none_of X G z_ValueError, ⟨_, PySem.W.mg_of X G y_SIGNS⟩, ⟨_, PySem.W.mg_of X G y_LETTERS⟩, ⟨_, PySem.W.mg_of X G y_MOST⟩, ⟨_, PySem.W.mg_of X G y_DEEP⟩⟩
  have X_BadRow : Exn K mg "BadRow" C_BadRow := ⟨PySem.W.mg_of X G xa_BadRow, xx_BadRow, xk_BadRow, xb_BadRow, xt_BadRow, exm_is xb_BadRow xi_BadRow xt_BadRow xs_BadRow⟩
  exact ⟨PySem.W.fnOf "law" "law" (defArgs s_law) (defBody s_law) (defScope s_law) .none kV_law dc_law pm_law an_law cd_law ct_law, fun s v => .of_eq rfl, fun base _ _ => ok_law T D_is_int D_is_text D_is_label D_rise D_are_ints D_rising_ints D_is_pair D_are_rows D_Book___init__ D_Book_named D_Book_thing D_Book_kind D_Book_parts D_is_name D_is_kind D_is_entry D_is_tree D_depth_of D_is_version D_is_content D_Holding___init__ D_Holding_holds D_Holding_names D_Holding_versions D_Holding_edges D_Store___init__ D_Store_put D_Store_held D_Store_view D_Store_holds D_Store_changes D_House___init__ D_House_marks D_House_pin D_must_hold D_Pin___init__ D_Teller___init__ D_Teller_answer D_Teller_greeted D_Teller_told D_law_deck D_law_mixed D_law_draw D_law_text D_law_label D_law_give D_law_rows D_law_entries D_law_some D_law_family D_law_parts D_law_under D_law_held D_law_book D_law_house D_law_alike D_law_bad D_law_asks D_law_bent D_law K_Book M_Book K_Holding M_Holding K_Store M_Store K_House M_House K_Pin M_Pin K_Teller M_Teller X_BadRow (PySem.W.mg_of X G ga_HouseError) (PySem.W.mg_of X G ga_NoName) (PySem.W.mg_of X G ga_NoMark) (PySem.W.mg_of X G ga_Contrary) (exm_is hb_HouseError hi_HouseError ht_HouseError es_BadRow_HouseError) kq_BadRow_BadRow kq_BadRow_NoName kq_BadRow_NoMark kq_BadRow_Contrary kq_BadRow_ValueError ⟨ia_House_put, i_Store_put, k_Store_put⟩ ⟨ia_House_held, i_Store_held, k_Store_held⟩ ⟨ia_House_view, i_Store_view, k_Store_view⟩ ⟨ia_House_holds, i_Store_holds, k_Store_holds⟩ ⟨ia_House_changes, i_Store_changes, k_Store_changes⟩ ⟨cr1_Store, cr2_Store⟩ ⟨cv_Store___init__, rfl⟩ ⟨e_hg_BadRow, e_hk_BadRow, xb_BadRow, e_hd_BadRow, e_ha_BadRow, e_hn_BadRow, e_ht_BadRow, e_hm_BadRow⟩⟩
end FW
open PySem PySem.W PyProof.Rows
set_option maxRecDepth 100000 in
set_option maxHeartbeats 0 in
theorem PySem.Challenge.cw_fewasks_k65_which_are_held_holds : PySem.Challenge.rw_fewasks_k65_which_are_held.Holds := by
  refine FW.headT ?_
  k_fill
  refine L2.walk_of (l := PySem.Challenge.rw_fewasks_k65_which_are_held) (n := 63) (k := 12) (x := "_law_script") (CX := fun _ => L2.CX0) (sp := fun w => FW.spLaw _) rfl (by decide) rfl ⟨rfl, by decide, by decide⟩ (fun w h Y => PySem.W.kIn_of Y) ?F (fun _ _ a ns hl _ hS => ⟨a, ns, rfl, hS, hl, fun _ => rfl⟩) (fun _ _ _ _ _ h => h)
  case F =>
    intro w mg fa h KX G hmg
    refine' FW.all_mk KX G hmg ?a_is_int ?l_is_int ?c_is_int ?k_is_int ?dl_is_int ?a_is_text ?l_is_text ?c_is_text ?k_is_text ?dl_is_text ?a_is_label ?l_is_label ?c_is_label ?k_is_label ?a_rise ?l_rise ?c_rise ?k_rise ?a_are_ints ?l_are_ints ?c_are_ints ?k_are_ints ?a_rising_ints ?l_rising_ints ?c_rising_ints ?k_rising_ints ?a_is_pair ?l_is_pair ?c_is_pair ?k_is_pair ?a_are_rows ?l_are_rows ?c_are_rows ?k_are_rows ?a_Book___init__ ?i_Book___init__ ?l_Book___init__ ?c_Book___init__ ?k_Book___init__ ?a_Book_named ?i_Book_named ?l_Book_named ?c_Book_named ?k_Book_named ?a_Book_thing ?i_Book_thing ?l_Book_thing ?c_Book_thing ?k_Book_thing ?a_Book_kind ?i_Book_kind ?l_Book_kind ?c_Book_kind ?k_Book_kind ?a_Book_parts ?i_Book_parts ?l_Book_parts ?c_Book_parts ?k_Book_parts ?a_is_name ?l_is_name ?c_is_name ?k_is_name ?a_is_kind ?l_is_kind ?c_is_kind ?k_is_kind ?a_is_entry ?l_is_entry ?c_is_entry ?k_is_entry ?a_is_tree ?l_is_tree ?c_is_tree ?k_is_tree ?a_depth_of ?l_depth_of ?c_depth_of ?k_depth_of ?a_is_version ?l_is_version ?c_is_version ?k_is_version ?a_is_content ?l_is_content ?c_is_content ?k_is_content ?a_Holding___init__ ?i_Holding___init__ ?l_Holding___init__ ?c_Holding___init__ ?k_Holding___init__ ?a_Holding_holds ?i_Holding_holds ?l_Holding_holds ?c_Holding_holds ?k_Holding_holds ?a_Holding_names ?i_Holding_names ?l_Holding_names ?c_Holding_names ?k_Holding_names ?a_Holding_versions ?i_Holding_versions ?l_Holding_versions ?c_Holding_versions ?k_Holding_versions ?a_Holding_edges ?i_Holding_edges ?l_Holding_edges ?c_Holding_edges ?k_Holding_edges ?a_Store___init__ ?i_Store___init__ ?l_Store___init__ ?c_Store___init__ ?k_Store___init__ ?a_Store_put ?i_Store_put ?l_Store_put ?c_Store_put ?k_Store_put ?a_Store_held ?i_Store_held ?l_Store_held ?c_Store_held ?k_Store_held ?a_Store_view ?i_Store_view ?l_Store_view ?c_Store_view ?k_Store_view ?a_Store_holds ?i_Store_holds ?l_Store_holds ?c_Store_holds ?k_Store_holds ?a_Store_changes ?i_Store_changes ?l_Store_changes ?c_Store_changes ?k_Store_changes ?a_House___init__ ?i_House___init__ ?l_House___init__ ?c_House___init__ ?k_House___init__ ?a_House_marks ?i_House_marks ?l_House_marks ?c_House_marks ?k_House_marks ?a_House_pin ?i_House_pin ?l_House_pin ?c_House_pin ?k_House_pin ?a_must_hold ?l_must_hold ?c_must_hold ?k_must_hold ?a_Pin___init__ ?i_Pin___init__ ?l_Pin___init__ ?c_Pin___init__ ?k_Pin___init__ ?a_Teller___init__ ?i_Teller___init__ ?l_Teller___init__ ?c_Teller___init__ ?k_Teller___init__ ?a_Teller_answer ?i_Teller_answer ?l_Teller_answer ?c_Teller_answer ?k_Teller_answer ?a_Teller_greeted ?i_Teller_greeted ?l_Teller_greeted ?c_Teller_greeted ?k_Teller_greeted ?a_Teller_told ?i_Teller_told ?l_Teller_told ?c_Teller_told ?k_Teller_told ?a_law_deck ?l_law_deck ?c_law_deck ?k_law_deck ?a_law_mixed ?l_law_mixed ?c_law_mixed ?k_law_mixed ?a_law_draw ?l_law_draw ?c_law_draw ?k_law_draw ?a_law_text ?l_law_text ?c_law_text ?k_law_text ?a_law_label ?l_law_label ?c_law_label ?k_law_label ?a_law_give ?l_law_give ?c_law_give ?k_law_give ?a_law_rows ?l_law_rows ?c_law_rows ?k_law_rows ?a_law_entries ?l_law_entries ?c_law_entries ?k_law_entries ?a_law_some ?l_law_some ?c_law_some ?k_law_some ?a_law_family ?l_law_family ?c_law_family ?k_law_family ?a_law_parts ?l_law_parts ?c_law_parts ?k_law_parts ?a_law_under ?l_law_under ?c_law_under ?k_law_under ?a_law_held ?l_law_held ?c_law_held ?k_law_held ?a_law_book ?l_law_book ?c_law_book ?k_law_book ?a_law_house ?l_law_house ?c_law_house ?k_law_house ?a_law_alike ?l_law_alike ?c_law_alike ?k_law_alike ?a_law_bad ?l_law_bad ?c_law_bad ?k_law_bad ?a_law_asks ?l_law_asks ?c_law_asks ?k_law_asks ?a_law_bent ?l_law_bent ?c_law_bent ?k_law_bent ?a_law ?l_law ?c_law ?k_law ?kga_Book ?kpg_Book ?khd_Book ?kpo_Book ?ksa_Book ?kmk_Book ?kkc_Book ?kna_Book_contents ?kna_Book_depths ?kna_Book_given ?kga_Holding ?kpg_Holding ?khd_Holding ?kpo_Holding ?ksa_Holding ?kmk_Holding ?kkc_Holding ?kna_Holding_book ?kna_Holding_row ?kna_Holding_here ?kga_Store ?kpg_Store ?khd_Store ?kpo_Store ?ksa_Store ?kmk_Store ?kkc_Store ?kna_Store_book ?kna_Store_here ?kna_Store_turns ?kga_House ?kpg_House ?khd_House ?kpo_House ?ksa_House ?kmk_House ?kkc_House ?kna_House_book ?kna_House_here ?kna_House_turns ?kna_House_stands ?kna_House_lately ?kna_House_others ?kna_House_pinned ?kga_Pin ?kpg_Pin ?khd_Pin ?kpo_Pin ?ksa_Pin ?kmk_Pin ?kkc_Pin ?kna_Pin_store ?kna_Pin_on ?kna_Pin_loose ?kga_Teller ?kpg_Teller ?khd_Teller ?kpo_Teller ?ksa_Teller ?kmk_Teller ?kkc_Teller ?kna_Teller_home ?kna_Teller_seen ?kna_Teller_hold ?kna_Teller_greeting ?kna_Teller_wants ?kna_Teller_bill ?kna_Teller_lacks ?kna_Teller_pack ?kna_Teller_ended ?z_len ?z_list ?z_isinstance ?z_int ?z_bool ?z_str ?z_tuple ?z_dict ?z_range ?z_all ?z_any ?z_min ?z_max ?z_set ?z_sorted ?z_zip ?z_ValueError ?y_SIGNS ?y_LETTERS ?y_MOST ?y_DEEP ?xa_BadRow ?xx_BadRow ?xk_BadRow ?xb_BadRow ?xt_BadRow ?xi_BadRow ?xs_BadRow ?ga_HouseError ?hb_HouseError ?hi_HouseError ?ht_HouseError ?ga_NoName ?hb_NoName ?hi_NoName ?ht_NoName ?ga_NoMark ?hb_NoMark ?hi_NoMark ?ht_NoMark ?ga_Contrary ?hb_Contrary ?hi_Contrary ?ht_Contrary ?es_BadRow_HouseError ?kq_BadRow_BadRow ?kq_BadRow_NoName ?kq_BadRow_NoMark ?kq_BadRow_Contrary ?kq_BadRow_ValueError ?ia_House_put ?ia_House_held ?ia_House_view ?ia_House_holds ?ia_House_changes ?cr1_Store ?cr2_Store ?cv_Store___init__ ?e_hg_BadRow ?e_hk_BadRow ?e_hd_BadRow ?e_ha_BadRow ?e_hn_BadRow ?e_ht_BadRow ?e_hm_BadRow
    (case kga_Book => k_is); (case kga_Holding => k_is); (case kga_Store => k_is); (case kga_House => k_is); (case kga_Pin => k_is); (case kga_Teller => k_is); (case a_Book___init__ => k_is); (case a_Book_named => k_is); (case a_Book_thing => k_is); (case a_Book_kind => k_is); (case a_Book_parts => k_is); (case a_Holding___init__ => k_is); (case a_Holding_holds => k_is); (case a_Holding_names => k_is); (case a_Holding_versions => k_is); (case a_Holding_edges => k_is); (case a_Store___init__ => k_is); (case a_Store_put => k_is); (case a_Store_held => k_is); (case a_Store_view => k_is); (case a_Store_holds => k_is); (case a_Store_changes => k_is); (case a_House___init__ => k_is); (case a_House_marks => k_is); (case a_House_pin => k_is); (case a_Pin___init__ => k_is); (case a_Teller___init__ => k_is); (case a_Teller_answer => k_is); (case a_Teller_greeted => k_is); (case a_Teller_told => k_is); (case a_is_int => k_is); (case l_is_int => k_is); (case c_is_int => k_is); (case k_is_int => k_is); (case dl_is_int => k_is); (case a_is_text => k_is); (case l_is_text => k_is); (case c_is_text => k_is); (case k_is_text => k_is); (case dl_is_text => k_is); (case a_is_label => k_is); (case l_is_label => k_is); (case c_is_label => k_is); (case k_is_label => k_is); (case a_rise => k_is); (case l_rise => k_is); (case c_rise => k_is); (case k_rise => k_is); (case a_are_ints => k_is); (case l_are_ints => k_is); (case c_are_ints => k_is); (case k_are_ints => k_is); (case a_rising_ints => k_is); (case l_rising_ints => k_is); (case c_rising_ints => k_is); (case k_rising_ints => k_is); (case a_is_pair => k_is); (case l_is_pair => k_is); (case c_is_pair => k_is); (case k_is_pair => k_is); (case a_are_rows => k_is); (case l_are_rows => k_is); (case c_are_rows => k_is); (case k_are_rows => k_is); (case i_Book___init__ => k_is); (case l_Book___init__ => k_is); (case c_Book___init__ => k_is); (case k_Book___init__ => k_is); (case i_Book_named => k_is); (case l_Book_named => k_is); (case c_Book_named => k_is); (case k_Book_named => k_is); (case i_Book_thing => k_is); (case l_Book_thing => k_is); (case c_Book_thing => k_is); (case k_Book_thing => k_is); (case i_Book_kind => k_is); (case l_Book_kind => k_is); (case c_Book_kind => k_is); (case k_Book_kind => k_is); (case i_Book_parts => k_is); (case l_Book_parts => k_is); (case c_Book_parts => k_is); (case k_Book_parts => k_is); (case a_is_name => k_is); (case l_is_name => k_is); (case c_is_name => k_is); (case k_is_name => k_is); (case a_is_kind => k_is); (case l_is_kind => k_is); (case c_is_kind => k_is); (case k_is_kind => k_is); (case a_is_entry => k_is); (case l_is_entry => k_is); (case c_is_entry => k_is); (case k_is_entry => k_is); (case a_is_tree => k_is); (case l_is_tree => k_is); (case c_is_tree => k_is); (case k_is_tree => k_is); (case a_depth_of => k_is); (case l_depth_of => k_is); (case c_depth_of => k_is); (case k_depth_of => k_is); (case a_is_version => k_is); (case l_is_version => k_is); (case c_is_version => k_is); (case k_is_version => k_is); (case a_is_content => k_is); (case l_is_content => k_is); (case c_is_content => k_is); (case k_is_content => k_is); (case i_Holding___init__ => k_is); (case l_Holding___init__ => k_is); (case c_Holding___init__ => k_is); (case k_Holding___init__ => k_is); (case i_Holding_holds => k_is); (case l_Holding_holds => k_is); (case c_Holding_holds => k_is); (case k_Holding_holds => k_is); (case i_Holding_names => k_is); (case l_Holding_names => k_is); (case c_Holding_names => k_is); (case k_Holding_names => k_is); (case i_Holding_versions => k_is); (case l_Holding_versions => k_is); (case c_Holding_versions => k_is); (case k_Holding_versions => k_is); (case i_Holding_edges => k_is); (case l_Holding_edges => k_is); (case c_Holding_edges => k_is); (case k_Holding_edges => k_is); (case i_Store___init__ => k_is); (case l_Store___init__ => k_is); (case c_Store___init__ => k_is); (case k_Store___init__ => k_is); (case i_Store_put => k_is); (case l_Store_put => k_is); (case c_Store_put => k_is); (case k_Store_put => k_is); (case i_Store_held => k_is); (case l_Store_held => k_is); (case c_Store_held => k_is); (case k_Store_held => k_is); (case i_Store_view => k_is); (case l_Store_view => k_is); (case c_Store_view => k_is); (case k_Store_view => k_is); (case i_Store_holds => k_is); (case l_Store_holds => k_is); (case c_Store_holds => k_is); (case k_Store_holds => k_is); (case i_Store_changes => k_is); (case l_Store_changes => k_is); (case c_Store_changes => k_is); (case k_Store_changes => k_is); (case i_House___init__ => k_is); (case l_House___init__ => k_is); (case c_House___init__ => k_is); (case k_House___init__ => k_is); (case i_House_marks => k_is); (case l_House_marks => k_is); (case c_House_marks => k_is); (case k_House_marks => k_is); (case i_House_pin => k_is); (case l_House_pin => k_is); (case c_House_pin => k_is); (case k_House_pin => k_is); (case a_must_hold => k_is); (case l_must_hold => k_is); (case c_must_hold => k_is); (case k_must_hold => k_is); (case i_Pin___init__ => k_is); (case l_Pin___init__ => k_is); (case c_Pin___init__ => k_is); (case k_Pin___init__ => k_is); (case i_Teller___init__ => k_is); (case l_Teller___init__ => k_is); (case c_Teller___init__ => k_is); (case k_Teller___init__ => k_is); (case i_Teller_answer => k_is); (case l_Teller_answer => k_is); (case c_Teller_answer => k_is); (case k_Teller_answer => k_is); (case i_Teller_greeted => k_is); (case l_Teller_greeted => k_is); (case c_Teller_greeted => k_is); (case k_Teller_greeted => k_is); (case i_Teller_told => k_is); (case l_Teller_told => k_is); (case c_Teller_told => k_is); (case k_Teller_told => k_is); (case a_law_deck => k_is); (case l_law_deck => k_is); (case c_law_deck => k_is); (case k_law_deck => k_is); (case a_law_mixed => k_is); (case l_law_mixed => k_is); (case c_law_mixed => k_is); (case k_law_mixed => k_is); (case a_law_draw => k_is); (case l_law_draw => k_is); (case c_law_draw => k_is); (case k_law_draw => k_is); (case a_law_text => k_is); (case l_law_text => k_is); (case c_law_text => k_is); (case k_law_text => k_is); (case a_law_label => k_is); (case l_law_label => k_is); (case c_law_label => k_is); (case k_law_label => k_is); (case a_law_give => k_is); (case l_law_give => k_is); (case c_law_give => k_is); (case k_law_give => k_is); (case a_law_rows => k_is); (case l_law_rows => k_is); (case c_law_rows => k_is); (case k_law_rows => k_is); (case a_law_entries => k_is); (case l_law_entries => k_is); (case c_law_entries => k_is); (case k_law_entries => k_is); (case a_law_some => k_is); (case l_law_some => k_is); (case c_law_some => k_is); (case k_law_some => k_is); (case a_law_family => k_is); (case l_law_family => k_is); (case c_law_family => k_is); (case k_law_family => k_is); (case a_law_parts => k_is); (case l_law_parts => k_is); (case c_law_parts => k_is); (case k_law_parts => k_is); (case a_law_under => k_is); (case l_law_under => k_is); (case c_law_under => k_is); (case k_law_under => k_is); (case a_law_held => k_is); (case l_law_held => k_is); (case c_law_held => k_is); (case k_law_held => k_is); (case a_law_book => k_is); (case l_law_book => k_is); (case c_law_book => k_is); (case k_law_book => k_is); (case a_law_house => k_is); (case l_law_house => k_is); (case c_law_house => k_is); (case k_law_house => k_is); (case a_law_alike => k_is); (case l_law_alike => k_is); (case c_law_alike => k_is); (case k_law_alike => k_is); (case a_law_bad => k_is); (case l_law_bad => k_is); (case c_law_bad => k_is); (case k_law_bad => k_is); (case a_law_asks => k_is); (case l_law_asks => k_is); (case c_law_asks => k_is); (case k_law_asks => k_is); (case a_law_bent => k_is); (case l_law_bent => k_is); (case c_law_bent => k_is); (case k_law_bent => k_is); (case a_law => k_is); (case l_law => k_is); (case c_law => k_is); (case k_law => k_is); (case kpg_Book => k_is); (case khd_Book => k_is); (case kpo_Book => k_is); (case ksa_Book => k_is); (case kmk_Book => k_is); (case kkc_Book => k_is); (case kna_Book_contents => k_is); (case kna_Book_depths => k_is); (case kna_Book_given => k_is); (case kpg_Holding => k_is); (case khd_Holding => k_is); (case kpo_Holding => k_is); (case ksa_Holding => k_is); (case kmk_Holding => k_is); (case kkc_Holding => k_is); (case kna_Holding_book => k_is); (case kna_Holding_row => k_is); (case kna_Holding_here => k_is); (case kpg_Store => k_is); (case khd_Store => k_is); (case kpo_Store => k_is); (case ksa_Store => k_is); (case kmk_Store => k_is); (case kkc_Store => k_is); (case kna_Store_book => k_is); (case kna_Store_here => k_is); (case kna_Store_turns => k_is); (case kpg_House => k_is); (case khd_House => k_is); (case kpo_House => k_is); (case ksa_House => k_is); (case kmk_House => k_is); (case kkc_House => k_is); (case kna_House_book => k_is); (case kna_House_here => k_is); (case kna_House_turns => k_is); (case kna_House_stands => k_is); (case kna_House_lately => k_is); (case kna_House_others => k_is); (case kna_House_pinned => k_is); (case kpg_Pin => k_is); (case khd_Pin => k_is); (case kpo_Pin => k_is); (case ksa_Pin => k_is); (case kmk_Pin => k_is); (case kkc_Pin => k_is); (case kna_Pin_store => k_is); (case kna_Pin_on => k_is); (case kna_Pin_loose => k_is); (case kpg_Teller => k_is); (case khd_Teller => k_is); (case kpo_Teller => k_is); (case ksa_Teller => k_is); (case kmk_Teller => k_is); (case kkc_Teller => k_is); (case kna_Teller_home => k_is); (case kna_Teller_seen => k_is); (case kna_Teller_hold => k_is); (case kna_Teller_greeting => k_is); (case kna_Teller_wants => k_is); (case kna_Teller_bill => k_is); (case kna_Teller_lacks => k_is); (case kna_Teller_pack => k_is); (case kna_Teller_ended => k_is); (case z_len => k_is); (case z_list => k_is); (case z_isinstance => k_is); (case z_int => k_is); (case z_bool => k_is); (case z_str => k_is); (case z_tuple => k_is); (case z_dict => k_is); (case z_range => k_is); (case z_all => k_is); (case z_any => k_is); (case z_min => k_is); (case z_max => k_is); (case z_set => k_is); (case z_sorted => k_is); (case z_zip => k_is); (case z_ValueError => k_is); (case y_SIGNS => k_is); (case y_LETTERS => k_is); (case y_MOST => k_is); (case y_DEEP => k_is); (case xa_BadRow => k_is); (case xx_BadRow => k_exc); (case xk_BadRow => k_is); (case xb_BadRow => k_is); (case xt_BadRow => k_is); (case xi_BadRow => k_is); (case xs_BadRow => k_is); (case ga_HouseError => k_is); (case hb_HouseError => k_is); (case hi_HouseError => k_is); (case ht_HouseError => k_is); (case ga_NoName => k_is); (case hb_NoName => k_is); (case hi_NoName => k_is); (case ht_NoName => k_is); (case ga_NoMark => k_is); (case hb_NoMark => k_is); (case hi_NoMark => k_is); (case ht_NoMark => k_is); (case ga_Contrary => k_is); (case hb_Contrary => k_is); (case hi_Contrary => k_is); (case ht_Contrary => k_is); (case es_BadRow_HouseError => k_is); (case kq_BadRow_BadRow => kit_is); (case kq_BadRow_NoName => kit_is); (case kq_BadRow_NoMark => kit_is); (case kq_BadRow_Contrary => kit_is); (case kq_BadRow_ValueError => kit_is); (case ia_House_put => k_is); (case ia_House_held => k_is); (case ia_House_view => k_is); (case ia_House_holds => k_is); (case ia_House_changes => k_is); (case cr1_Store => k_is); (case cr2_Store => k_is); (case cv_Store___init__ => k_is); (case e_hg_BadRow => k_is); (case e_hk_BadRow => k_is); (case e_hd_BadRow => k_is); (case e_ha_BadRow => k_is); (case e_hn_BadRow => k_is); (case e_ht_BadRow => k_is); (case e_hm_BadRow => k_is)

