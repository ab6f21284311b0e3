import PyProof.Rows.All
import Wide.All
import OpenK.AllK
import Wide.FinOn
import HandS.ForMost
import HandS.Wide
import HandS.WideBits
import HandS.Conv
import HandS.IsInst
import HandS.Walk
import HandS.TupLe
import HandS.TupAny
import HandS.DictComp
import HandS.SetKeys
import HandS.ForExc
import HandS.ExcIs
import HandS.ExcInit
import HandS.ExcField
import HandS.Defaults
import HandS.CallSlots
import HandS.MakeKwOnly
import KE.DatumOrd
import PyProof.Claim2Refuses
import KE.GoesEnum
import HandS.WordsDict
import HandS.SortInts
import HandS.Zip
import PyProof.CollectIter
import PyProof.WalksMore
import HandS.TryMany
import KE.KTryMore
import HandS.TryOnly
import HandS.TupMul
import KE.KxIndex
import KE.KeyNested
import HandS.SetFor
import HandS.Strs
import HandS.SortKw
import HandS.Deep
import HandS.DictTup
import HandS.ListItems
import KE.SortData
import HandS.ClsMeth
import HandS.More
import KE.KCallOwn
import HandS.Set
import KE.KDictWalk
import KE.KDictCopyH
import HandS.TupLen
import HandS.FromBytesMap
import KE.SortKeyHeap
import KE.KDictDisplayH
import PySem.Challenge.RW_fewasks_k28_whole_least_asks
set_option Elab.async false
set_option linter.all false
set_option maxRecDepth 100000
/-! My own small words over the layer: steps of readings as lemmas, heaps that keep. -/
namespace FW
open PySem L2
/-! ### heaps -/
/-- all that stood stands, but at the addresses M -/
def Kp (M : List Addr) (H H' : Hp) : Prop := ∀ b o, b ∉ M → H b = some o → H' b = some o
theorem Kp.refl {M : List Addr} {H : Hp} : Kp M H H := fun _ _ _ h => h
theorem Kp.trans {M : List Addr} {H H1 H2 : Hp} (a : Kp M H H1) (b : Kp M H1 H2) : Kp M H H2 := fun c o n h => b c o n (a c o n h)
theorem Kp.mono {M N : List Addr} {H H1 : Hp} (a : Kp M H H1) (s : ∀ x ∈ M, x ∈ N) : Kp N H H1 := fun c o n h => a c o (fun z => n (s c z)) h
theorem Kp.same {H H1 : Hp} (a : Kp [] H H1) : Same H H1 := fun c o h => a c o (by simp) h
theorem Kp.of {M : List Addr} {H H1 : Hp} (a : Same H H1) : Kp M H H1 := fun c o _ h => a c o h
theorem Kp.new {M : List Addr} {H : Hp} {p : Addr} {o : HO} (h : H p = none) : Kp M H (upd H p o) := fun b u _ e => by rw [upd_ne (ne_of_none e h)]; exact e
theorem Kp.mut {M : List Addr} {H : Hp} {p : Addr} {o : HO} (h : p ∈ M) : Kp M H (upd H p o) := fun b u n e => by
  rw [upd_ne (show b ≠ p from fun z => n (by rw [z]; exact h))]; exact e
/-- a new object that was mutated or laid since: it stood not at the start -/
theorem Kp.mutN {M : List Addr} {H H1 : Hp} {p : Addr} {o : HO} (k : Kp M H H1) (h : H p = none) : Kp M H (upd H1 p o) := fun b u n e => by
  rw [upd_ne (ne_of_none e h)]; exact k b u n e
theorem Same.new {H : Hp} {p : Addr} {o : HO} (h : H p = none) : Same H (upd H p o) := fun b u e => by rw [upd_ne (ne_of_none e h)]; exact e
theorem nofree {M : List Addr} {H H1 : Hp} {p : Addr} (k : Kp M H H1) (hM : p ∉ M) (h : H1 p = none) : H p = none := by
  cases e : H p with
  | none => rfl
  | some o => rw [k p o hM e] at h; cases h
theorem upd_get {H : Hp} {a b : Addr} {o u : HO} (h : b ≠ a) (e : H b = some u) : upd H a o b = some u := by rw [upd_ne h]; exact e
theorem upd_none {H : Hp} {a b : Addr} {o : HO} (e : upd H a o b = none) : H b = none ∧ b ≠ a := by
  by_cases h : b = a
  · subst h; rw [upd_same] at e; cases e
  · rw [upd_ne h] at e; exact ⟨e, h⟩
/-- all but p is as it was -/
def Off (p : Addr) (H H' : Hp) : Prop := ∀ b, b ≠ p → H' b = H b
theorem Off.get {p b : Addr} {H H' : Hp} {o : HO} (k : Off p H H') (n : b ≠ p) (e : H b = some o) : H' b = some o := (k b n).trans e
theorem Off.kp {p : Addr} {M : List Addr} {H H' : Hp} (k : Off p H H') (m : p ∈ M) : Kp M H H' := fun b o n e => (k b (fun z => n (by rw [z]; exact m))).trans e
theorem Off.trans {p : Addr} {H H1 H2 : Hp} (a : Off p H H1) (b : Off p H1 H2) : Off p H H2 := fun x n => (b x n).trans (a x n)
theorem Off.keep {p : Addr} {M : List Addr} {H H1 H2 : Hp} (a : Kp M H H1) (b : Off p H1 H2) (n : H p = none) : Kp M H H2 := fun x o m e => (b x (ne_of_none e n)).trans (a x o m e)
/-- a list's change keeps the tuples -/
theorem Off.tup {p b : Addr} {H H' : Hp} {xs ys : List V} (k : Off p H H') (hp : H p = some (.lst xs)) (e : H b = some (.tup ys)) : H' b = some (.tup ys) := k.get (ne_of e hp (fun z => nomatch z)) e
/-- what keeps the tuples -/
structure KT (H H' : Hp) : Prop where
  p : ∀ b xs, H b = some (.tup xs) → H' b = some (.tup xs)
  f : ∀ b o xs, H b = some (.frz o (.tup xs)) → H' b = some (.frz o (.tup xs))
instance {H H' : Hp} : CoeFun (KT H H') (fun _ => ∀ b xs, H b = some (.tup xs) → H' b = some (.tup xs)) := ⟨KT.p⟩
theorem KT.refl {H : Hp} : KT H H := ⟨fun _ _ e => e, fun _ _ _ e => e⟩
theorem KT.of {H H' : Hp} (k : Same H H') : KT H H' := ⟨fun b xs e => k _ _ e, fun b o xs e => k _ _ e⟩
theorem KT.off {p : Addr} {H H' : Hp} {xs : List V} (k : Off p H H') (e : H p = some (.lst xs)) : KT H H' := ⟨fun b ys e2 => k.tup e e2, fun b o ys e2 => k.get (ne_of e2 e (fun z => nomatch z)) e2⟩
theorem KT.trans {H H1 H2 : Hp} (a : KT H H1) (b : KT H1 H2) : KT H H2 := ⟨fun c xs e => b.p c xs (a.p c xs e), fun c o xs e => b.f c o xs (a.f c o xs e)⟩
theorem KT.kp {M : List Addr} {H H' : Hp} (k : Kp M H H') (h : ∀ b ∈ M, ∃ xs, H b = some (.lst xs)) : KT H H' := ⟨fun b ys e => k b _ (fun z => by
  obtain ⟨xs, e2⟩ := h b z
  rw [e] at e2; cases e2) e, fun b o ys e => k b _ (fun z => by
  obtain ⟨xs, e2⟩ := h b z
  rw [e] at e2; cases e2) e⟩
theorem KT.upd {H H1 : Hp} {D : Addr} {o : HO} (k : KT H H1) (h : H D = none) : KT H (upd H1 D o) := ⟨fun b xs e => by rw [upd_ne (ne_of_none e h)]; exact k.p b xs e, fun b u xs e => by rw [upd_ne (ne_of_none e h)]; exact k.f b u xs e⟩
theorem KT.updL {H : Hp} {D : Addr} {o : HO} {ys : List V} (h : H D = some (.lst ys)) : KT H (L2.upd H D o) := ⟨fun b xs e => upd_get (ne_of e h (fun z => nomatch z)) e, fun b u xs e => upd_get (ne_of e h (fun z => nomatch z)) e⟩
/-- a tuple whose object has no dict -/
def TupD (H : Hp) (r : Addr) (xs : List V) : Prop := ∃ o : Obj, H r = some (.frz o (.tup xs)) ∧ o.dict = none
theorem TupD.kt {H H' : Hp} {r : Addr} {xs : List V} (h : TupD H r xs) (k : KT H H') : TupD H' r xs := by
  obtain ⟨o, e, d⟩ := h
  exact ⟨o, k.f _ _ _ e, d⟩
theorem TupD.tx {K : PySem.W.Frag} {H : Hp} {r : Addr} {xs : List V} (h : TupD H r xs) : TyX K H (.ref r) (.type "tuple") := by
  obtain ⟨o, e, d⟩ := h
  exact .fTuple e
theorem TupD.sq {K : PySem.W.Frag} {H : Hp} {r : Addr} {xs : List V} (h : TupD H r xs) : SqT K H r xs := by
  obtain ⟨o, e, d⟩ := h
  exact .inl (.inr ⟨o, e⟩)
/-! ### rules by names -/
/-- a new object o -/
def Nw (o : HO) (H : Hp) (Q : VK) : Prop := ∀ p, H p = none → Q (.ref p) (upd H p o)
def rLen (K : PySem.W.Frag) : List V → Hp → VK → Prop := fun xs H Q => ∃ p ys, xs = [.ref p] ∧ (SqL K H p ys ∨ SqT K H p ys) ∧ Q (.int ys.length) H
def rMin2 : List V → Hp → VK → Prop := fun xs H Q => ∃ i j, xs = [.int i, .int j] ∧ Q (.int (if j < i then j else i)) H
def rMax2 : List V → Hp → VK → Prop := fun xs H Q => ∃ i j, xs = [.int i, .int j] ∧ Q (.int (if j > i then j else i)) H
def rListOf (K : PySem.W.Frag) : List V → Hp → VK → Prop := fun xs H Q => ∃ p ys, xs = [.ref p] ∧ (SqL K H p ys ∨ SqT K H p ys) ∧ ∀ l, H l = none → Q (.ref l) (upd H l (.lst ys))
def rTupOf (K : PySem.W.Frag) : List V → Hp → VK → Prop := fun xs H Q => ∃ p ys, xs = [.ref p] ∧ ((SqL K H p ys ∧ ∀ l, H l = none → Q (.ref l) (upd H l (.tup ys))) ∨ (SqT K H p ys ∧ Q (.ref p) H))
def rRg2 (x y : V) (H : Hp) (R : Int → Int → Hp → Prop) : Prop := ∃ i j, x = .int i ∧ y = .int j ∧ R i j H
def rBits (x : V) (H : Hp) (Q : VK) : Prop := ∃ i, x = .int i ∧ Q (.int (Builtin.Int.intBits i : Nat)) H
def rRng1 (vs : List V) (H : Hp) (R : It → Hp → Prop) : Prop := ∃ j : Int, vs = [.int j] ∧ -(2 ^ 62) ≤ j ∧ j < 2 ^ 62 ∧ R (Itr 0 j.toNat) H
def rRng2 (vs : List V) (H : Hp) (R : It → Hp → Prop) : Prop := ∃ i j : Int, vs = [.int i, .int j] ∧ (-(2 ^ 62) ≤ i ∧ i < 2 ^ 62 ∧ -(2 ^ 62) ≤ j ∧ j < 2 ^ 62) ∧ R (Itr i (j - i).toNat) H
def rItL (K : PySem.W.Frag) (x : V) (H : Hp) (R : It → Hp → Prop) : Prop := ∃ a, x = .ref a ∧ (∃ xs, SqL K H a xs) ∧ R (Itl K a) H
def rItT (K : PySem.W.Frag) (x : V) (H : Hp) (R : It → Hp → Prop) : Prop := ∃ a, x = .ref a ∧ (∃ xs, SqT K H a xs) ∧ R (Itt K a) H
def rDIn (x y : V) (H : Hp) (Q : VK) : Prop := ∃ a o, x = .ref a ∧ DGet H a y o ∧ Q (.bl o.isSome) H
def rDNotIn (x y : V) (H : Hp) (Q : VK) : Prop := ∃ a o, x = .ref a ∧ DGet H a y o ∧ Q (.bl (!o.isSome)) H
def rDGet (x y : V) (H : Hp) (Q : VK) : Prop := ∃ a v, x = .ref a ∧ DGet H a y (some v) ∧ Q v H
def rDGet2 (a : Addr) (y z : V) (H : Hp) (Q : VK) : Prop := ∃ o, DGet H a y o ∧ Q (o.getD z) H
def rDPut (x y v : V) (H : Hp) (R : Hp → Prop) : Prop := ∃ a H4, x = .ref a ∧ DPut H a y v H4 ∧ R H4
def rDSetd (a : Addr) (y z : V) (H : Hp) (Q : VK) : Prop := ∃ (kvs : List (Key × V)) (k : Key), H a = some (.dK kvs) ∧ y = kV k ∧ kvs.length < sizeLine ∧ (∀ v, valV kvs k = some v → Q v H) ∧ (valV kvs k = none → Q z (upd H a (.dK (putK kvs k z))))
def rIsD (x : V) (H : Hp) (R : Addr → Hp → Prop) : Prop := ∃ a, x = .ref a ∧ IsD H a ∧ R a H
def rIsBl : R2 := fun x y H Q => ∃ a b, x = .bl a ∧ y = .bl b ∧ Q (.bl (decide (a = b))) H
def rIsNon : R2 := fun x y H Q => y = .non ∧ Q (.bl (decide (x = .non))) H
def rNotNon : R2 := fun x y H Q => y = .non ∧ Q (.bl (!decide (x = .non))) H
def rTru (K : PySem.W.Frag) (x : V) (H : Hp) (R : Bool → Hp → Prop) : Prop := ∃ k, TruV K x H k ∧ R k H
def tTru (K : PySem.W.Frag) (ta : TE) : TT := fun σ H R => ta σ H fun x H' => ∃ k, TruV K x H' k ∧ R k H'
def rSortD (xs : List V) (H : Hp) (Q : VK) : Prop := ∃ (a : Addr) (kvs : List (Key × V)) (ks : List Int), xs = [.ref a] ∧ Rd H a (.dK kvs) ∧ kvs.map (·.1) = ks.map Sum.inl ∧ ks.length < 64 ∧
    ∀ (ys : List Int) (p : Addr), ys.Perm ks → ys.Pairwise (· ≤ ·) → H p = none → Q (.ref p) (upd H p (.lst (ys.map V.int)))
section
variable {X : Cx}
theorem o_isN : OpR X (compareOp .Is) rIsNon := op_isN
theorem o_notN : OpR X (compareOp .IsNot) rNotNon := op_notN
theorem p_truth {a : Expr} {ta : TE} (ha : PE X a ta) (he : ∀ whole, isTrue a X.env whole = (do let v ← whole; standAt a.pos; holding [v] (truthy v))) : PT X a (tTru X.K ta) := pt_truth ha he
theorem c_sortD (hc : X.calm = true) : CallR X (.builtin "sorted") rSortD := call_sortedDI hc
theorem c_len : CallR X (.builtin "len") (rLen X.K) := call_len_seq
theorem c_max2 (hc : X.calm = true) : CallR X (.builtin "max") rMax2 := call_max2 hc
theorem c_listOf : CallR X (.type "list") (rListOf X.K) := call_list_of
theorem c_tupOf : CallR X (.type "tuple") (rTupOf X.K) := call_tuple_of
end
theorem kb_int_int : kitB "int" "int" = some true := by decide +kernel
theorem kb_int_bool : kitB "int" "bool" = some false := by decide +kernel
theorem kb_int_str : kitB "int" "str" = some false := by decide +kernel
theorem kb_int_tuple : kitB "int" "tuple" = some false := by decide +kernel
theorem kb_int_list : kitB "int" "list" = some false := by decide +kernel
theorem kb_int_dict : kitB "int" "dict" = some false := by decide +kernel
theorem kb_bool_int : kitB "bool" "int" = some true := by decide +kernel
theorem kb_bool_bool : kitB "bool" "bool" = some true := by decide +kernel
theorem kb_bool_str : kitB "bool" "str" = some false := by decide +kernel
theorem kb_bool_tuple : kitB "bool" "tuple" = some false := by decide +kernel
theorem kb_bool_list : kitB "bool" "list" = some false := by decide +kernel
theorem kb_bool_dict : kitB "bool" "dict" = some false := by decide +kernel
theorem kb_str_int : kitB "str" "int" = some false := by decide +kernel
theorem kb_str_bool : kitB "str" "bool" = some false := by decide +kernel
theorem kb_str_str : kitB "str" "str" = some true := by decide +kernel
theorem kb_str_tuple : kitB "str" "tuple" = some false := by decide +kernel
theorem kb_str_list : kitB "str" "list" = some false := by decide +kernel
theorem kb_str_dict : kitB "str" "dict" = some false := by decide +kernel
theorem kb_tuple_int : kitB "tuple" "int" = some false := by decide +kernel
theorem kb_tuple_bool : kitB "tuple" "bool" = some false := by decide +kernel
theorem kb_tuple_str : kitB "tuple" "str" = some false := by decide +kernel
theorem kb_tuple_tuple : kitB "tuple" "tuple" = some true := by decide +kernel
theorem kb_tuple_list : kitB "tuple" "list" = some false := by decide +kernel
theorem kb_tuple_dict : kitB "tuple" "dict" = some false := by decide +kernel
theorem kb_list_int : kitB "list" "int" = some false := by decide +kernel
theorem kb_list_bool : kitB "list" "bool" = some false := by decide +kernel
theorem kb_list_str : kitB "list" "str" = some false := by decide +kernel
theorem kb_list_tuple : kitB "list" "tuple" = some false := by decide +kernel
theorem kb_list_list : kitB "list" "list" = some true := by decide +kernel
theorem kb_list_dict : kitB "list" "dict" = some false := by decide +kernel
theorem kb_dict_int : kitB "dict" "int" = some false := by decide +kernel
theorem kb_dict_bool : kitB "dict" "bool" = some false := by decide +kernel
theorem kb_dict_str : kitB "dict" "str" = some false := by decide +kernel
theorem kb_dict_tuple : kitB "dict" "tuple" = some false := by decide +kernel
theorem kb_dict_list : kitB "dict" "list" = some false := by decide +kernel
theorem kb_dict_dict : kitB "dict" "dict" = some true := by decide +kernel
theorem kb_NoneType_int : kitB "NoneType" "int" = some false := by decide +kernel
theorem kb_NoneType_bool : kitB "NoneType" "bool" = some false := by decide +kernel
theorem kb_NoneType_str : kitB "NoneType" "str" = some false := by decide +kernel
theorem kb_NoneType_tuple : kitB "NoneType" "tuple" = some false := by decide +kernel
theorem kb_NoneType_list : kitB "NoneType" "list" = some false := by decide +kernel
theorem kb_NoneType_dict : kitB "NoneType" "dict" = some false := by decide +kernel
/-! ### steps -/
section
variable {K : PySem.W.Frag} {σ : St} {H : Hp} {Q : VK} {nx bk ct : St → Hp → Prop} {rt : VK} {v : V}
theorem w_seq {t u : TS} (h : t ⟨u ⟨nx, rt, bk, ct⟩, rt, bk, ct⟩ σ H) : tSeq t u ⟨nx, rt, bk, ct⟩ σ H := h
theorem w_seqA {te : TE} {g : TG} {u : TS} (h : te σ H fun x H1 => g x σ H1 (u ⟨nx, rt, bk, ct⟩)) : tSeq (tAsg te g) u ⟨nx, rt, bk, ct⟩ σ H := h
theorem w_seqD {te : TE} {u : TS} (h : te σ H fun _ H1 => u ⟨nx, rt, bk, ct⟩ σ H1) : tSeq (tDrop te) u ⟨nx, rt, bk, ct⟩ σ H := h
theorem w_seqF {wi : TI} {g : TG} {tb u : TS} (h : tFor wi g tb ⟨u ⟨nx, rt, bk, ct⟩, rt, bk, ct⟩ σ H) : tSeq (tFor wi g tb) u ⟨nx, rt, bk, ct⟩ σ H := h
theorem w_seqW {c : TT} {tb u : TS} (h : tWhile c tb ⟨u ⟨nx, rt, bk, ct⟩, rt, bk, ct⟩ σ H) : tSeq (tWhile c tb) u ⟨nx, rt, bk, ct⟩ σ H := h
theorem w_seqG {i : Nat} {te : TE} {ti : TIp} {u : TS} (h : tAug i te ti ⟨u ⟨nx, rt, bk, ct⟩, rt, bk, ct⟩ σ H) : tSeq (tAug i te ti) u ⟨nx, rt, bk, ct⟩ σ H := h
/-- a statement whose ways meet: what follows is taken as U, of which R is enough -/
theorem w_seqJ {t u : TS} (R : St → Hp → Prop) (h2 : ∀ σ' H', R σ' H' → u ⟨nx, rt, bk, ct⟩ σ' H') (h1 : ∀ U : St → Hp → Prop, (∀ σ' H', R σ' H' → U σ' H') → t ⟨U, rt, bk, ct⟩ σ H) : tSeq t u ⟨nx, rt, bk, ct⟩ σ H := h1 _ h2
theorem w_var {i : Nat} (e : σ[i]? = some (some v)) (h : Q v H) : tVar i σ H Q := ⟨v, e, h⟩
theorem w_c (h : Q v H) : tC v σ H Q := h
theorem w_asg {te : TE} {g : TG} (h : te σ H fun x H1 => g x σ H1 nx) : tAsg te g ⟨nx, rt, bk, ct⟩ σ H := h
theorem w_name {i : Nat} {R : St → Hp → Prop} (h : R (σ.set i (some v)) H) : gName i v σ H R := h
theorem w_op {r : R2} {ta tb : TE} (h : ta σ H fun x H1 => tb σ H1 fun y H2 => r x y H2 Q) : tOp r ta tb σ H Q := h
theorem w_un {r : V → Hp → VK → Prop} {ta : TE} (h : ta σ H fun x H1 => r x H1 Q) : tUn r ta σ H Q := h
theorem w_neg {i : Int} (h : Q (.int (-i)) H) : rU (fun i => .int (-i)) (.int i) H Q := ⟨i, rfl, h⟩
theorem w_i {C : Int → Int → Prop} {g : Int → Int → V} {i j : Int} (c : C i j) (h : Q (g i j) H) : rI C g (.int i) (.int j) H Q := ⟨i, j, rfl, rfl, c, h⟩
theorem w_i0 {g : Int → Int → V} {i j : Int} (h : Q (g i j) H) : rI0 g (.int i) (.int j) H Q := ⟨i, j, rfl, rfl, h⟩
theorem w_eqI {i j : Int} (h : Q (.bl (decide (i = j))) H) : rEq (.int i) (.int j) H Q := ⟨rfl, by
  have e : decide (V.int i = V.int j) = decide (i = j) := by
    by_cases q : i = j
    · subst q; rw [decide_eq_true rfl, decide_eq_true rfl]
    · rw [decide_eq_false q, decide_eq_false (fun z => q (V.int.inj z))]
  rw [e]; exact h⟩
theorem w_neI {i j : Int} (h : Q (.bl (!decide (i = j))) H) : rNe (.int i) (.int j) H Q := ⟨rfl, by
  have e : decide (V.int i = V.int j) = decide (i = j) := by
    by_cases q : i = j
    · subst q; rw [decide_eq_true rfl, decide_eq_true rfl]
    · rw [decide_eq_false q, decide_eq_false (fun z => q (V.int.inj z))]
  rw [e]; exact h⟩
theorem w_ixL {p : Addr} {xs : List V} {i : Int} (h1 : SqL K H p xs) (h2 : atI xs i = some v) (h : Q v H) : rIxL K (.ref p) (.int i) H Q := ⟨p, xs, i, v, rfl, rfl, h1, h2, h⟩
theorem w_ixT {p : Addr} {xs : List V} {i : Int} (h1 : SqT K H p xs) (h2 : atI xs i = some v) (h : Q v H) : rIxT K (.ref p) (.int i) H Q := ⟨p, xs, i, v, rfl, rfl, h1, h2, h⟩
theorem w_ixSL {p : Addr} {xs : List V} {i : Int} (h1 : SqL K H p xs) (h2 : atI xs i = some v) (h : Q v H) : rIx K (.ref p) (.int i) H Q := .inl ⟨p, xs, i, v, rfl, rfl, h1, h2, h⟩
theorem w_ixST {p : Addr} {xs : List V} {i : Int} (h1 : SqT K H p xs) (h2 : atI xs i = some v) (h : Q v H) : rIx K (.ref p) (.int i) H Q := .inr (.inl ⟨p, xs, i, v, rfl, rfl, h1, h2, h⟩)
theorem w_neB {x y : Bool} (h : Q (.bl (!decide (x = y))) H) : rNe (.bl x) (.bl y) H Q := ⟨rfl, by
  have e : decide (V.bl x = V.bl y) = decide (x = y) := by
    by_cases q : x = y
    · subst q; rw [decide_eq_true rfl, decide_eq_true rfl]
    · rw [decide_eq_false q, decide_eq_false (fun z => q (V.bl.inj z))]
  rw [e]; exact h⟩
theorem w_eqN (h : Q (.bl true) H) : rEq .non .non H Q := ⟨rfl, h⟩
theorem w_sub {to ti : TE} {t : TSet} {R : St → Hp → Prop} (h : to σ H fun o H1 => ti σ H1 fun i H2 => t o i v H2 fun H3 => R σ H3) : gSub to ti t v σ H R := h
theorem w_setL {p : Addr} {xs ys : List V} {k : Int} {j : Nat} {R : Hp → Prop} (h1 : H p = some (.lst xs)) (h2 : ixN xs.length k = some j) (e : xs.set j v = ys) (h : ∀ H1, H1 p = some (.lst ys) → Off p H H1 → R H1) : rSetL (.ref p) (.int k) v H R :=
  ⟨p, xs, k, j, rfl, rfl, h1, h2, by rw [e]; exact h _ upd_same fun x hx => upd_ne hx⟩
theorem w_if {c : TT} {t u : TS} (h : c σ H fun b H1 => if b = true then t ⟨nx, rt, bk, ct⟩ σ H1 else u ⟨nx, rt, bk, ct⟩ σ H1) : tIfS c t u ⟨nx, rt, bk, ct⟩ σ H := h
theorem w_test {t : TE} {R : Bool → Hp → Prop} (h : t σ H fun x H' => ∃ k, x = .bl k ∧ R k H') : tTest t σ H R := h
theorem w_tb {t : TE} {R : Bool → Hp → Prop} (h : t σ H fun x H' => ∃ k, x = .bl k ∧ R k H') : tB t σ H R := h
theorem w_bl {b : Bool} {R : Bool → Prop} (h : R b) : ∃ k, V.bl b = .bl k ∧ R k := ⟨b, rfl, h⟩
theorem w_and {t u : TT} {R : Bool → Hp → Prop} (h : t σ H fun c H1 => if c = true then u σ H1 R else R false H1) : tAnd t u σ H R := h
theorem w_or {t u : TT} {R : Bool → Hp → Prop} (h : t σ H fun c H1 => if c = true then R true H1 else u σ H1 R) : tOr t u σ H R := h
theorem w_not {t : TT} {R : Bool → Hp → Prop} (h : t σ H fun c H1 => R (!c) H1) : tNot t σ H R := h
theorem w_andV {ta tb : TE} (h : ta σ H fun x H1 => ∃ c, x = .bl c ∧ if c = true then tb σ H1 Q else Q (.bl false) H1) : tAndV ta tb σ H Q := h
theorem w_orV {ta tb : TE} (h : ta σ H fun x H1 => ∃ c, x = .bl c ∧ if c = true then Q (.bl true) H1 else tb σ H1 Q) : tOrV ta tb σ H Q := h
theorem w_notV {ta : TE} (h : ta σ H fun x H1 => ∃ c, x = .bl c ∧ Q (.bl (!c)) H1) : tNotV ta σ H Q := h
theorem w_ite {p : Prop} {inst : Decidable p} {A B : Prop} (h1 : p → A) (h2 : ¬ p → B) : if decide p = true then A else B := by
  by_cases h : p
  · rw [if_pos (decide_eq_true h)]; exact h1 h
  · rw [if_neg (fun z => h (of_decide_eq_true z))]; exact h2 h
theorem w_itN {p : Prop} {inst : Decidable p} {A B : Prop} (h1 : ¬ p → A) (h2 : p → B) : if (!decide p) = true then A else B := by
  by_cases h : p
  · rw [decide_eq_true h]; exact h2 h
  · rw [decide_eq_false h]; exact h1 h
theorem w_yes {p : Prop} {inst : Decidable p} {A B : Prop} (h : p) (a : A) : if decide p = true then A else B := by rw [if_pos (decide_eq_true h)]; exact a
theorem w_no {p : Prop} {inst : Decidable p} {A B : Prop} (h : ¬ p) (b : B) : if decide p = true then A else B := by rw [if_neg (fun z => h (of_decide_eq_true z))]; exact b
theorem w_nyes {p : Prop} {inst : Decidable p} {A B : Prop} (h : p) (b : B) : if (!decide p) = true then A else B := by rw [decide_eq_true h]; exact b
theorem w_nno {p : Prop} {inst : Decidable p} {A B : Prop} (h : ¬ p) (a : A) : if (!decide p) = true then A else B := by rw [decide_eq_false h]; exact a
theorem w_itB {b : Bool} {A B : Prop} (h1 : b = true → A) (h2 : b = false → B) : if b = true then A else B := by
  cases b with
  | true => exact h1 rfl
  | false => exact h2 rfl
theorem w_itNB {b : Bool} {A B : Prop} (h1 : b = false → A) (h2 : b = true → B) : if (!b) = true then A else B := by
  cases b with
  | true => exact h2 rfl
  | false => exact h1 rfl
theorem w_nT {A B : Prop} (h : B) : if (!true) = true then A else B := h
theorem w_nF {A B : Prop} (h : A) : if (!false) = true then A else B := h
theorem w_ret {te : TE} (h : te σ H rt) : tRet te ⟨nx, rt, bk, ct⟩ σ H := h
theorem w_drop {te : TE} (h : te σ H fun _ H1 => nx σ H1) : tDrop te ⟨nx, rt, bk, ct⟩ σ H := h
theorem w_next (h : nx σ H) : tNext ⟨nx, rt, bk, ct⟩ σ H := h
theorem w_cb {r : List V → Hp → VK → Prop} {t : TA} (h : t σ H fun vs H1 => r vs H1 Q) : tCB r t σ H Q := h
theorem w_nil {R : List V → Hp → Prop} (h : R [] H) : tNil σ H R := h
theorem w_cons {ta : TE} {tr : TA} {R : List V → Hp → Prop} (h : ta σ H fun x H1 => tr σ H1 fun xs H2 => R (x :: xs) H2) : tCons ta tr σ H R := h
theorem w_call {sp : Sp} {E : XK} {t : TA} (h : t σ H fun vs H1 => sp (vs ++ []) H1 Q E) : tCall sp [] E t σ H Q := h
theorem w_lst {t : TA} (h : t σ H fun xs H1 => xs.length ≤ sizeLine ∧ Nw (.lst xs) H1 Q) : tLst t σ H Q := h
theorem w_tup {t : TA} (h : t σ H fun xs H1 => xs.length ≤ sizeLine ∧ Nw (.tup xs) H1 Q) : tTup t σ H Q := h
theorem w_new {o : HO} (h : ∀ p H2, H p = none → H2 p = some o → Same H H2 → Q (.ref p) H2) : Nw o H Q := fun p hp => h p _ hp upd_same (Same.new hp)
theorem w_sz {n : Nat} {o : HO} (h1 : n ≤ sizeLine) (h : Nw o H Q) : n ≤ sizeLine ∧ Nw o H Q := ⟨h1, h⟩
theorem w_app {p : Addr} {xs : List V} (h1 : H p = some (.lst xs)) (h2 : xs.length < sizeLine) (h : ∀ H1, H1 p = some (.lst (xs ++ [v])) → Off p H H1 → Q .non H1) : rAppend (.ref p) [v] H Q :=
  ⟨p, xs, v, rfl, rfl, h1, h2, h _ upd_same fun x hx => upd_ne hx⟩
theorem w_bm {r : V → List V → Hp → VK → Prop} {to : TE} {t : TA} (h : to σ H fun x H1 => tyV K "list" x H1 ∧ t σ H1 fun xs H2 => r x xs H2 Q) : tBM K "list" r to t σ H Q := h
theorem w_tyL {p : Addr} {xs : List V} {A : Prop} (h1 : H p = some (.lst xs)) (h : A) : tyV K "list" (.ref p) H ∧ A := ⟨.inl ⟨rfl, _, .inl (.inl h1)⟩, h⟩
theorem w_lenL {p : Addr} {ys : List V} (h1 : SqL K H p ys) (h : Q (.int ys.length) H) : rLen K [V.ref p] H Q := ⟨p, ys, rfl, .inl h1, h⟩
theorem w_lenT {p : Addr} {ys : List V} (h1 : SqT K H p ys) (h : Q (.int ys.length) H) : rLen K [V.ref p] H Q := ⟨p, ys, rfl, .inr h1, h⟩
theorem w_min2 {i j : Int} (h : Q (.int (if j < i then j else i)) H) : rMin2 [V.int i, V.int j] H Q := ⟨i, j, rfl, h⟩
theorem w_max2 {i j : Int} (h : Q (.int (if j > i then j else i)) H) : rMax2 [V.int i, V.int j] H Q := ⟨i, j, rfl, h⟩
theorem w_listL {p : Addr} {ys : List V} (h1 : SqL K H p ys) (h : ∀ l H2, H l = none → H2 l = some (.lst ys) → Same H H2 → Q (.ref l) H2) : rListOf K [V.ref p] H Q := ⟨p, ys, rfl, .inl h1, w_new h⟩
theorem w_listT {p : Addr} {ys : List V} (h1 : SqT K H p ys) (h : ∀ l H2, H l = none → H2 l = some (.lst ys) → Same H H2 → Q (.ref l) H2) : rListOf K [V.ref p] H Q := ⟨p, ys, rfl, .inr h1, w_new h⟩
theorem w_tupL {p : Addr} {ys : List V} (h1 : SqL K H p ys) (h : ∀ l H2, H l = none → H2 l = some (.tup ys) → Same H H2 → Q (.ref l) H2) : rTupOf K [V.ref p] H Q := ⟨p, ys, rfl, .inl ⟨h1, w_new h⟩⟩
theorem w_sum {p : Addr} {ns : List Int} (h1 : SqL K H p (ns.map V.int)) (h : Q (.int ns.sum) H) : rSum K [V.ref p] H Q := ⟨p, ns, rfl, h1, h⟩
theorem w_tupRg {te : St → Hp → (Int → Int → Hp → Prop) → Prop} (h : te σ H fun a b H1 => RgOk a b ∧ Nw (.tup (rgV a b)) H1 Q) : tTupRg te σ H Q := h
theorem w_rg2 {ta tb : TE} {R : Int → Int → Hp → Prop} (h : ta σ H fun x H1 => tb σ H1 fun y H2 => rRg2 x y H2 R) : tRg2 ta tb σ H R := h
theorem w_rg2' {i j : Int} {R : Int → Int → Hp → Prop} (h : R i j H) : rRg2 (.int i) (.int j) H R := ⟨i, j, rfl, rfl, h⟩
theorem w_bits {to : TE} (h : to σ H fun x H1 => rBits x H1 Q) : tBits to σ H Q := h
theorem w_bits' {i : Int} (h : Q (.int (Builtin.Int.intBits i : Nat)) H) : rBits (.int i) H Q := ⟨i, rfl, h⟩
theorem w_isi {x : V} {a n : String} {b : Bool} (ty : TyX K H x (.type a)) (hk : kitB a n = some b) (h : Q (.bl b) H) : rIsi K [x, .ty n] H Q := ⟨x, .ty n, _, _, b, rfl, .ty n, ty, kit_ty hk, h⟩
theorem w_eqS {x y : Str} (h : Q (.bl (decide (x = y))) H) : rEq (.str x) (.str y) H Q := ⟨rfl, by
  have e : decide (V.str x = V.str y) = decide (x = y) := by
    by_cases q : x = y
    · subst q; rw [decide_eq_true rfl, decide_eq_true rfl]
    · rw [decide_eq_false q, decide_eq_false (fun z => q (V.str.inj z))]
  rw [e]; exact h⟩
theorem w_eqB {x y : Bool} (h : Q (.bl (decide (x = y))) H) : rEq (.bl x) (.bl y) H Q := ⟨rfl, by
  have e : decide (V.bl x = V.bl y) = decide (x = y) := by
    by_cases q : x = y
    · subst q; rw [decide_eq_true rfl, decide_eq_true rfl]
    · rw [decide_eq_false q, decide_eq_false (fun z => q (V.bl.inj z))]
  rw [e]; exact h⟩
/-! targets, dicts -/
theorem w_gtup {a : Addr} {xs : List V} {n : Nat} {t : TGs} {R : St → Hp → Prop} (h1 : SqT K H a xs) (h2 : xs.length = n) (h : t xs σ H R) : gTup K n t (.ref a) σ H R := ⟨a, xs, rfl, h1, h2, h⟩
theorem w_gcons {t : TG} {u : TGs} {r : List V} {R : St → Hp → Prop} (h : t v σ H fun σ' H' => u r σ' H' R) : gCons t u (v :: r) σ H R := ⟨v, r, rfl, h⟩
theorem w_gnil {R : St → Hp → Prop} (h : R σ H) : gNil [] σ H R := ⟨rfl, h⟩
theorem w_din {ty td : TE} (h : ty σ H fun y H1 => td σ H1 fun x H2 => rDIn x y H2 Q) : tDIn ty td σ H Q := h
theorem w_dnotin {ty td : TE} (h : ty σ H fun y H1 => td σ H1 fun x H2 => rDNotIn x y H2 Q) : tDNotIn ty td σ H Q := h
theorem w_dget {ty td : TE} (h : td σ H fun x H1 => ty σ H1 fun y H2 => rDGet x y H2 Q) : tDGet td ty σ H Q := h
theorem w_dinI {a : Addr} {kvs : List (Key × V)} {n : Int} (e : H a = some (.dK kvs)) (h : Q (.bl (valV kvs (Sum.inl n)).isSome) H) : rDIn (.ref a) (.int n) H Q := ⟨a, _, rfl, DGet.k (k := Sum.inl n) e, h⟩
theorem w_dnotinI {a : Addr} {kvs : List (Key × V)} {n : Int} (e : H a = some (.dK kvs)) (h : Q (.bl (!(valV kvs (Sum.inl n)).isSome)) H) : rDNotIn (.ref a) (.int n) H Q := ⟨a, _, rfl, DGet.k (k := Sum.inl n) e, h⟩
theorem w_dgetI {a : Addr} {kvs : List (Key × V)} {n : Int} (e : H a = some (.dK kvs)) (e2 : valV kvs (Sum.inl n) = some v) (h : Q v H) : rDGet (.ref a) (.int n) H Q := ⟨a, v, rfl, e2 ▸ DGet.k (k := Sum.inl n) e, h⟩
theorem w_dnewK (h : Nw (.dK []) H Q) : tDNewK σ H Q := h
theorem w_dput {td ty tv : TE} (h : tv σ H fun v H1 => td σ H1 fun x H2 => ty σ H2 fun y H3 => rDPut x y v H3 fun H4 => nx σ H4) : sDPut td ty tv ⟨nx, rt, bk, ct⟩ σ H := h
theorem w_seqP {td ty tv : TE} {u : TS} (h : tv σ H fun v H1 => td σ H1 fun x H2 => ty σ H2 fun y H3 => rDPut x y v H3 fun H4 => u ⟨nx, rt, bk, ct⟩ σ H4) : tSeq (sDPut td ty tv) u ⟨nx, rt, bk, ct⟩ σ H := h
theorem w_dputI {a : Addr} {kvs : List (Key × V)} {n : Int} {R : Hp → Prop} (e : H a = some (.dK kvs)) (hl : kvs.length < sizeLine) (h : ∀ H1, H1 a = some (.dK (putK kvs (Sum.inl n) v)) → Off a H H1 → R H1) : rDPut (.ref a) (.int n) v H R :=
  ⟨a, _, rfl, DPut.k (k := Sum.inl n) e hl, h _ upd_same fun x hx => upd_ne hx⟩
theorem w_dget2 {td ty tx : TE} (h : td σ H fun x H1 => rIsD x H1 fun a H1 => ty σ H1 fun y H2 => tx σ H2 fun z H3 => rDGet2 a y z H3 Q) : tDGet2 td ty tx σ H Q := h
theorem w_isD {a : Addr} {kvs : List (Key × V)} {R : Addr → Hp → Prop} (e : H a = some (.dK kvs)) (h : R a H) : rIsD (.ref a) H R := ⟨a, rfl, .inl ⟨kvs, .inl e⟩, h⟩
theorem w_dget2I {a : Addr} {kvs : List (Key × V)} {n : Int} {z : V} (e : H a = some (.dK kvs)) (h : Q ((valV kvs (Sum.inl n)).getD z) H) : rDGet2 a (.int n) z H Q := ⟨_, DGet.k (k := Sum.inl n) e, h⟩
theorem w_dsetd {td ty tx : TE} (h : td σ H fun x H1 => rIsD x H1 fun a H1 => ty σ H1 fun y H2 => tx σ H2 fun z H3 => rDSetd a y z H3 Q) : tDSetd td ty tx σ H Q := h
theorem w_dsetdI {a : Addr} {kvs : List (Key × V)} {n : Int} {z : V} (e : H a = some (.dK kvs)) (hl : kvs.length < sizeLine) (h1 : ∀ u, valV kvs (Sum.inl n) = some u → Q u H) (h2 : valV kvs (Sum.inl n) = none → ∀ H1, H1 a = some (.dK (putK kvs (Sum.inl n) z)) → Off a H H1 → Q z H1) : rDSetd a (.int n) z H Q :=
  ⟨kvs, Sum.inl n, e, rfl, hl, h1, fun z => h2 z _ upd_same fun x hx => upd_ne hx⟩
theorem w_sortD {a : Addr} {kvs : List (Key × V)} {ks : List Int} (e : H a = some (.dK kvs)) (hk : kvs.map (·.1) = ks.map Sum.inl) (hl : ks.length < 64) (h : ∀ (ys : List Int) p H1, ys.Perm ks → ys.Pairwise (· ≤ ·) → H p = none → H1 p = some (.lst (ys.map V.int)) → Same H H1 → Q (.ref p) H1) : rSortD [.ref a] H Q :=
  ⟨a, kvs, ks, rfl, .inl e, hk, hl, fun ys p hp hs hn => h ys p _ hp hs hn upd_same (Same.new hn)⟩
theorem w_leT2 {p q : Addr} {a b c d : Int} (h1 : SqT K H p [.int a, .int b]) (h2 : SqT K H q [.int c, .int d]) (h : Q (.bl (decide (a < c ∨ a = c ∧ b ≤ d))) H) : rLeT K (.ref p) (.ref q) H Q := by
  refine ⟨p, q, [a, b], [c, d], rfl, rfl, h1, h2, ?_⟩
  have e : Ob.lexAt (fun j => decide (([a, b] : List Int).getD j 0 = ([c, d] : List Int).getD j 0)) (fun j => decide (([a, b] : List Int).getD j 0 ≤ ([c, d] : List Int).getD j 0)) (decide (([a, b] : List Int).length ≤ ([c, d] : List Int).length)) 0 (min ([a, b] : List Int).length ([c, d] : List Int).length) = decide (a < c ∨ a = c ∧ b ≤ d) := by
    show (if decide (a = c) = true then (if decide (b = d) = true then true else decide (b ≤ d)) else decide (a ≤ c)) = _
    by_cases h1 : a = c
    · rw [if_pos (decide_eq_true h1)]
      by_cases h2 : b = d
      · rw [if_pos (decide_eq_true h2)]
        exact (decide_eq_true (by omega)).symm
      · rw [if_neg (fun z => h2 (of_decide_eq_true z))]
        rw [Bool.eq_iff_iff]; simp; omega
    · rw [if_neg (fun z => h1 (of_decide_eq_true z))]
      rw [Bool.eq_iff_iff]; simp; omega
  rw [e]
  exact h
theorem inV_ints (n : Int) (vs : List Int) : inV (.int n) (vs.map V.int) = decide (n ∈ vs) := by
  unfold inV
  rw [Bool.eq_iff_iff, List.any_eq_true]
  constructor
  · rintro ⟨y, hy, e⟩
    obtain ⟨z, hz, rfl⟩ := List.mem_map.mp hy
    have e' : z = n := by simpa [eqV] using e
    subst e'
    exact decide_eq_true hz
  · intro h
    exact ⟨.int n, List.mem_map_of_mem (of_decide_eq_true h), by simp [eqV]⟩
theorem flat_ints (vs : List Int) : (vs.map V.int).all flatV = true := by
  rw [List.all_eq_true]
  intro y hy
  obtain ⟨z, _, rfl⟩ := List.mem_map.mp hy
  rfl
theorem w_inT {p : Addr} {vs : List Int} {n : Int} (h1 : SqT K H p (vs.map V.int)) (h : Q (.bl (decide (n ∈ vs))) H) : rIn K false (.int n) (.ref p) H Q := ⟨p, _, rfl, .inr h1, rfl, flat_ints vs, by rw [inV_ints]; exact h⟩
theorem w_ninT {p : Addr} {vs : List Int} {n : Int} (h1 : SqT K H p (vs.map V.int)) (h : Q (.bl (!decide (n ∈ vs))) H) : rIn K true (.int n) (.ref p) H Q := ⟨p, _, rfl, .inr h1, rfl, flat_ints vs, by rw [inV_ints]; exact h⟩
theorem w_inL {p : Addr} {vs : List Int} {n : Int} (h1 : SqL K H p (vs.map V.int)) (h : Q (.bl (decide (n ∈ vs))) H) : rIn K false (.int n) (.ref p) H Q := ⟨p, _, rfl, .inl h1, rfl, flat_ints vs, by rw [inV_ints]; exact h⟩
theorem w_ninL {p : Addr} {vs : List Int} {n : Int} (h1 : SqL K H p (vs.map V.int)) (h : Q (.bl (!decide (n ∈ vs))) H) : rIn K true (.int n) (.ref p) H Q := ⟨p, _, rfl, .inl h1, rfl, flat_ints vs, by rw [inV_ints]; exact h⟩
def rDisp (p : Addr) (ps : List (V × V)) (H2 : Hp) (Q : VK) : Prop := H2 p = some (.dK []) ∧ ∃ kvs : List (Key × V), ps = kvs.map (fun kv => (kV kv.1, kv.2)) ∧ kvs.length ≤ 15 ∧ Q (.ref p) (upd H2 p (.dK (mergeK [] kvs)))
theorem w_disp {trs : List (TE × TE)} (h : ∀ p H1, H p = none → H1 p = some (.dK []) → Same H H1 → tPairs trs σ H1 (fun ps H2 => rDisp p ps H2 Q)) : tDisp trs σ H Q := fun p hp => h p _ hp upd_same (Same.new hp)
theorem w_pair {tk tv : TE} {r : List (TE × TE)} {R : List (V × V) → Hp → Prop} (h : tk σ H fun x H1 => tv σ H1 fun y H2 => tPairs r σ H2 fun ps H3 => R ((x, y) :: ps) H3) : tPairs ((tk, tv) :: r) σ H R := h
theorem w_pnil {R : List (V × V) → Hp → Prop} (h : R [] H) : tPairs [] σ H R := h
theorem w_dispE {p : Addr} {ps : List (V × V)} (kvs : List (Key × V)) (h1 : H p = some (.dK [])) (h2 : ps = kvs.map (fun kv => (kV kv.1, kv.2))) (h3 : kvs.length ≤ 15) (h : ∀ H1, H1 p = some (.dK (mergeK [] kvs)) → Off p H H1 → Q (.ref p) H1) : rDisp p ps H Q :=
  ⟨h1, kvs, h2, h3, h _ upd_same fun x hx => upd_ne hx⟩
theorem w_callS {sp : Sp} {E : St → XK} {t : TA} (h : t σ H fun vs H1 => sp vs H1 Q (E σ)) : tCallS sp E t σ H Q := h
theorem w_isB {x y : Bool} (h : Q (.bl (decide (x = y))) H) : rIsBl (.bl x) (.bl y) H Q := ⟨x, y, rfl, rfl, h⟩
theorem w_isN (h : Q (.bl (decide (v = .non))) H) : rIsNon v .non H Q := ⟨rfl, h⟩
theorem w_notN (h : Q (.bl (!decide (v = .non))) H) : rNotNon v .non H Q := ⟨rfl, h⟩
theorem w_chain {r r' : R2} {ta tb tc : TE} (h : ta σ H fun x H1 => tb σ H1 fun y H2 => r x y H2 fun z H3 => ∃ k, z = .bl k ∧ (if k = true then tc σ H3 fun w' H4 => r' y w' H4 Q else Q (.bl false) H3)) : tChain r r' ta tb tc σ H Q := h
theorem w_trL {p : Addr} {xs : List V} {R : Bool → Hp → Prop} (h1 : SqL K H p xs) (h : R (!xs.isEmpty) H) : rTru K (.ref p) H R := ⟨_, .inl ⟨xs, h1, rfl⟩, h⟩
theorem w_trT {p : Addr} {xs : List V} {R : Bool → Hp → Prop} (h1 : SqT K H p xs) (h : R (!xs.isEmpty) H) : rTru K (.ref p) H R := ⟨_, .inr (.inl ⟨xs, h1, rfl⟩), h⟩
theorem w_tru {ta : TE} {R : Bool → Hp → Prop} (h : ta σ H fun x H1 => rTru K x H1 R) : tTru K ta σ H R := h
/-! loops -/
def Lp (J : It) (g : TG) (tb : TS) (D : Ends) (σ : St) (H1 : Hp) : Prop := ∃ W : Nat → Nat → St → Hp → Prop, (∃ m, W 0 m σ H1) ∧ ∀ i m σ H, W i m σ H →
  (J.stop i H ∧ D.nx σ H) ∨ (J.go i H ∧ ∃ N : St → Hp → Prop, (∀ σ' H', N σ' H' → ∃ m', m' < m ∧ W (i + 1) m' σ' H') ∧ ∀ x H', J.yld i H x H' → g x σ H' fun σ2 H2 => tb { D with nx := N, ct := N, bk := D.nx } σ2 H2)
theorem w_for {wi : TI} {g : TG} {tb : TS} (h : wi σ H fun J H1 => Lp J g tb ⟨nx, rt, bk, ct⟩ σ H1) : tFor wi g tb ⟨nx, rt, bk, ct⟩ σ H := h
theorem lp_it {J : It} {n : Nat} {G : Hp → Prop} {Y : Nat → Hp → V → Hp → Prop} (w : Walk J n G Y) {g : TG} {tb : TS} (Pv : Nat → St → Hp → Prop) (h0 : Pv 0 σ H) (hG : ∀ i σ H, i ≤ n → Pv i σ H → G H)
    (hs : ∀ i x σ H H', i < n → Pv i σ H → Y i H x H' → g x σ H' fun σ2 H2 => tb ⟨Pv (i + 1), rt, nx, Pv (i + 1)⟩ σ2 H2) (hd : ∀ σ H, Pv n σ H → nx σ H) : Lp J g tb ⟨nx, rt, bk, ct⟩ σ H :=
  for_it w (D := ⟨nx, rt, bk, ct⟩) Pv h0 hG hs hd
theorem lp_list {a : Addr} {xs : List V} {g : TG} {tb : TS} (Pv : Nat → St → Hp → Prop) (h0 : Pv 0 σ H) (hl : ∀ i σ H, i ≤ xs.length → Pv i σ H → SqL K H a xs)
    (hs : ∀ i x σ H, xs[i]? = some x → Pv i σ H → g x σ H fun σ2 H2 => tb ⟨Pv (i + 1), rt, nx, Pv (i + 1)⟩ σ2 H2) (hd : ∀ σ H, Pv xs.length σ H → nx σ H) : Lp (Itl K a) g tb ⟨nx, rt, bk, ct⟩ σ H :=
  for_list (D := ⟨nx, rt, bk, ct⟩) Pv h0 hl hs hd
theorem lp_tup {a : Addr} {xs : List V} {g : TG} {tb : TS} (Pv : Nat → St → Hp → Prop) (h0 : Pv 0 σ H) (hl : ∀ i σ H, i ≤ xs.length → Pv i σ H → SqT K H a xs)
    (hs : ∀ i x σ H, xs[i]? = some x → Pv i σ H → g x σ H fun σ2 H2 => tb ⟨Pv (i + 1), rt, nx, Pv (i + 1)⟩ σ2 H2) (hd : ∀ σ H, Pv xs.length σ H → nx σ H) : Lp (Itt K a) g tb ⟨nx, rt, bk, ct⟩ σ H :=
  for_tup (D := ⟨nx, rt, bk, ct⟩) Pv h0 hl hs hd
theorem lp_range {lo : Int} {n : Nat} {g : TG} {tb : TS} (Pv : Nat → St → Hp → Prop) (h0 : Pv 0 σ H)
    (hs : ∀ i σ H, i < n → Pv i σ H → g (.int (lo + i)) σ H fun σ2 H2 => tb ⟨Pv (i + 1), rt, nx, Pv (i + 1)⟩ σ2 H2) (hd : ∀ σ H, Pv n σ H → nx σ H) : Lp (Itr lo n) g tb ⟨nx, rt, bk, ct⟩ σ H :=
  for_range (D := ⟨nx, rt, bk, ct⟩) Pv h0 hs hd
theorem w_rng1 {t : TA} {R : It → Hp → Prop} (h : t σ H fun vs H1 => rRng1 vs H1 R) : iRng1 t σ H R := h
theorem w_rng1' {j : Int} {R : It → Hp → Prop} (h1 : -(2 ^ 62) ≤ j) (h2 : j < 2 ^ 62) (h : R (Itr 0 j.toNat) H) : rRng1 [.int j] H R := ⟨j, rfl, h1, h2, h⟩
theorem w_rng2 {t : TA} {R : It → Hp → Prop} (h : t σ H fun vs H1 => rRng2 vs H1 R) : iRng2 t σ H R := h
theorem w_rng2' {i j : Int} {R : It → Hp → Prop} (h1 : -(2 ^ 62) ≤ i ∧ i < 2 ^ 62 ∧ -(2 ^ 62) ≤ j ∧ j < 2 ^ 62) (h : R (Itr i (j - i).toNat) H) : rRng2 [.int i, .int j] H R := ⟨i, j, rfl, h1, h⟩
theorem w_itL {tl : TE} {R : It → Hp → Prop} (h : tl σ H fun x H1 => rItL K x H1 R) : iList K tl σ H R := h
theorem w_itL' {a : Addr} {xs : List V} {R : It → Hp → Prop} (h1 : SqL K H a xs) (h : R (Itl K a) H) : rItL K (.ref a) H R := ⟨a, rfl, ⟨xs, h1⟩, h⟩
theorem w_itT {tl : TE} {R : It → Hp → Prop} (h : tl σ H fun x H1 => rItT K x H1 R) : iTup K tl σ H R := h
theorem w_itT' {a : Addr} {xs : List V} {R : It → Hp → Prop} (h1 : SqT K H a xs) (h : R (Itt K a) H) : rItT K (.ref a) H R := ⟨a, rfl, ⟨xs, h1⟩, h⟩
/-- one turn of a while: W (by a falling number) is reached again -/
def WhT (W : Nat → St → Hp → Prop) (m : Nat) (tb : TS) (rt : VK) (nx : St → Hp → Prop) (σ : St) (H : Hp) : Prop := ∃ N : St → Hp → Prop, (∀ σ' H', N σ' H' → ∃ m', m' < m ∧ W m' σ' H') ∧ tb ⟨N, rt, nx, N⟩ σ H
theorem w_turn {W : Nat → St → Hp → Prop} {m : Nat} {tb : TS} (h : tb ⟨fun σ' H' => ∃ m', m' < m ∧ W m' σ' H', rt, nx, fun σ' H' => ∃ m', m' < m ∧ W m' σ' H'⟩ σ H) : WhT W m tb rt nx σ H := ⟨_, fun _ _ z => z, h⟩
theorem w_whileN {c : TT} {tb : TS} (W : Nat → St → Hp → Prop) (m0 : Nat) (h0 : W m0 σ H) (hs : ∀ m σ H, W m σ H → c σ H fun b H1 => if b = true then WhT W m tb rt nx σ H1 else nx σ H1) : tWhile c tb ⟨nx, rt, bk, ct⟩ σ H := ⟨W, ⟨m0, h0⟩, hs⟩
/-! comprehensions -/
def LcP (J : It) (g : TG) (tt : TT) (te : TE) (vs : List Nat) (Q : VK) (σ : St) (H1 : Hp) : Prop := ∀ D, H1 D = none → ∃ W : Nat → Nat → Hp → Prop, (∃ m, W 0 m (upd H1 D (.lst []))) ∧ ∀ i m H, W i m H →
  (J.stop i H ∧ Q (.ref D) H) ∨ (J.go i H ∧ ∃ Nx : Hp → Prop, (∀ H', Nx H' → ∃ m', m' < m ∧ W (i + 1) m' H') ∧ ∀ x H', J.yld i H x H' → g x (wipe σ vs) H' fun σ2 H2 => wipe σ2 vs = wipe σ vs ∧ tt σ2 H2 fun b H3 =>
    if b = true then te σ2 H3 fun y H4 => ∃ acc, H4 D = some (.lst acc) ∧ acc.length < sizeLine ∧ Nx (upd H4 D (.lst (acc ++ [y]))) else Nx H3)
theorem w_lc {wi : TI} {g : TG} {tt : TT} {te : TE} {vs : List Nat} (h : wi σ H fun J H1 => LcP J g tt te vs Q σ H1) : tLc wi g tt te vs σ H Q := h
/-- each turn adds one: the k-th is ys[k]; what stood but M stands -/
theorem lcp_map {J : It} {n : Nat} {G : Hp → Prop} {Y : Nat → Hp → V → Hp → Prop} (w : Walk J n G Y) {g : TG} {te : TE} {vs : List Nat} (M : List Addr) (ys : List V) (hn : ys.length = n) (hz : n ≤ 1000000) (hG : ∀ H', Kp M H H' → G H')
    (hs : ∀ i x H1 H2 (R : V → Hp → Prop), i < n → Kp M H H1 → Y i H1 x H2 → (∀ y H4, ys[i]? = some y → Kp M H1 H4 → R y H4) → g x (wipe σ vs) H2 fun σ2 H3 => wipe σ2 vs = wipe σ vs ∧ te σ2 H3 R)
    (hM : ∀ b ∈ M, ∃ o, H b = some o)
    (hd : ∀ D H', H D = none → Kp M H H' → H' D = some (.lst ys) → Q (.ref D) H') : LcP J g tYes te vs Q σ H := by
  intro D hD
  have hDM : D ∉ M := fun z => by obtain ⟨o, e⟩ := hM D z; rw [hD] at e; cases e
  refine lc_it w (fun i H' => Kp M H H' ∧ H' D = some (.lst (ys.take i))) ⟨Kp.new hD, upd_same⟩ (fun i H' _ z => hG H' z.1) ?_ ?_
  · rintro i x H1 H2 hi ⟨k1, e1⟩ y
    refine (hs i x H1 H2 _ hi k1 y ?_)
    intro z H4 hz' k4
    refine ⟨ys.take i, k4 _ _ hDM e1, ?_, ?_, ?_⟩
    · rw [List.length_take]; exact Nat.lt_of_le_of_lt (Nat.min_le_left _ _) (Nat.lt_of_lt_of_le (Nat.lt_of_lt_of_le hi hz) (by decide))
    · exact (k1.trans k4).mutN hD
    · rw [upd_same, List.take_add_one, hz']; rfl
  · rintro H' ⟨k, e⟩
    rw [List.take_of_length_le (by omega)] at e
    exact hd D H' hD k e
/-- each turn adds one of which P holds (P leans on tuples alone); S: what else holds turn by turn -/
theorem lcp_gen {J : It} {n : Nat} {G : Hp → Prop} {Y : Nat → Hp → V → Hp → Prop} (w : Walk J n G Y) {g : TG} {te : TE} {vs : List Nat} (M : List Addr) (P : Nat → V → Hp → Prop) (S : Nat → Hp → Prop) (hz : n ≤ 1000000)
    (mono : ∀ i y H1 H2, KT H1 H2 → P i y H1 → P i y H2) (SD : ∀ D, H D = none → ∀ i H1 o, S i H1 → S i (upd H1 D o)) (hG : ∀ i H', Kp M H H' → S i H' → G H') (S0 : S 0 H)
    (hs : ∀ i x H1 H2 (R : V → Hp → Prop), i < n → Kp M H H1 → KT H H1 → S i H1 → Y i H1 x H2 → (∀ y H4, P i y H4 → Kp M H1 H4 → KT H1 H4 → S (i + 1) H4 → R y H4) → g x (wipe σ vs) H2 fun σ2 H3 => wipe σ2 vs = wipe σ vs ∧ te σ2 H3 R)
    (hM : ∀ b ∈ M, ∃ o, H b = some o)
    (hd : ∀ D H' ys, ys.length = n → (∀ i y, ys[i]? = some y → P i y H') → H D = none → Kp M H H' → KT H H' → S n H' → H' D = some (.lst ys) → Q (.ref D) H') : LcP J g tYes te vs Q σ H := by
  intro D hD
  have hDM : D ∉ M := fun z => by obtain ⟨o, e⟩ := hM D z; rw [hD] at e; cases e
  refine lc_it w (fun i H' => Kp M H H' ∧ KT H H' ∧ S i H' ∧ ∃ ys, ys.length = i ∧ H' D = some (.lst ys) ∧ ∀ k y, ys[k]? = some y → P k y H') ⟨Kp.new hD, KT.refl.upd hD, SD D hD _ _ _ S0, [], rfl, upd_same, by simp⟩ (fun i H' _ z => hG i H' z.1 z.2.2.1) ?_ ?_
  · rintro i x H1 H2 hi ⟨k1, t1, s1, ys, hl, e1, hp⟩ y
    refine hs i x H1 H2 _ hi k1 t1 s1 y ?_
    intro z H4 pz k4 t4 s4
    have e4 := k4 _ _ hDM e1
    refine ⟨ys, e4, ?_, (k1.trans k4).mutN hD, (t1.trans t4).upd hD, SD D hD _ _ _ s4, ys ++ [z], by rw [List.length_append, hl]; rfl, upd_same, ?_⟩
    · rw [hl]; exact Nat.lt_of_lt_of_le (Nat.lt_of_lt_of_le hi hz) (by decide)
    · intro k y' hy'
      by_cases hk : k < ys.length
      · rw [List.getElem?_append_left hk] at hy'
        exact mono _ _ _ _ (KT.updL e4) (mono _ _ _ _ t4 (hp k y' hy'))
      · rw [List.getElem?_append_right (by omega)] at hy'
        by_cases hk2 : k = ys.length
        · subst hk2
          have e : z = y' := by simpa using hy'
          subst e
          rw [hl]
          exact mono _ _ _ _ (KT.updL e4) pz
        · rw [List.getElem?_eq_none (by simp; omega)] at hy'
          cases hy'
  · rintro H' ⟨k, t, sn, ys, hl, e, hp⟩
    exact hd D H' ys hl hp hD k t sn e
theorem lcp_rel {J : It} {n : Nat} {G : Hp → Prop} {Y : Nat → Hp → V → Hp → Prop} (w : Walk J n G Y) {g : TG} {te : TE} {vs : List Nat} (M : List Addr) (P : Nat → V → Hp → Prop) (hz : n ≤ 1000000)
    (mono : ∀ i y H1 H2, KT H1 H2 → P i y H1 → P i y H2) (hG : ∀ H', Kp M H H' → G H')
    (hs : ∀ i x H1 H2 (R : V → Hp → Prop), i < n → Kp M H H1 → KT H H1 → Y i H1 x H2 → (∀ y H4, P i y H4 → Kp M H1 H4 → KT H1 H4 → R y H4) → g x (wipe σ vs) H2 fun σ2 H3 => wipe σ2 vs = wipe σ vs ∧ te σ2 H3 R)
    (hM : ∀ b ∈ M, ∃ o, H b = some o)
    (hd : ∀ D H' ys, ys.length = n → (∀ i y, ys[i]? = some y → P i y H') → H D = none → Kp M H H' → KT H H' → H' D = some (.lst ys) → Q (.ref D) H') : LcP J g tYes te vs Q σ H :=
  lcp_gen w M P (fun _ _ => True) hz mono (fun _ _ _ _ _ _ => trivial) (fun _ H' k _ => hG H' k) trivial (fun i x H1 H2 R hi k t _ y h => hs i x H1 H2 R hi k t y fun y' H4 p k4 t4 => h y' H4 p k4 t4 trivial) hM fun D H' ys h1 h2 h3 h4 h5 _ h6 => hd D H' ys h1 h2 h3 h4 h5 h6
theorem refs_of {α : Type} (C : Addr → α → Prop) : ∀ (ys : List V) (F : Nat → α), (∀ j y, ys[j]? = some y → ∃ p, y = .ref p ∧ C p (F j)) → ∃ ps : List (Addr × α), ys = ps.map (fun q => .ref q.1) ∧ ps.map (·.2) = (List.range ys.length).map F ∧ ∀ q ∈ ps, C q.1 q.2
  | [], _, _ => ⟨[], rfl, rfl, by simp⟩
  | y :: r, F, h => by
    obtain ⟨p, rfl, hp⟩ := h 0 y rfl
    obtain ⟨ps, e1, e2, e3⟩ := refs_of C r (F ∘ Nat.succ) fun j z hz => h (j + 1) z hz
    refine ⟨(p, F 0) :: ps, by rw [e1]; rfl, ?_, ?_⟩
    · rw [List.length_cons, List.range_succ_eq_map, List.map_cons, e2, List.map_cons, List.map_map]
    · intro q hq
      rcases List.mem_cons.mp hq with rfl | hq
      · exact hp
      · exact e3 q hq
end
/-! ### errors -/
/-- what the top has written of an own error class without __init__ -/
structure Exn (K : PySem.W.Frag) (mg : Str → Option Value) (x : Str) (C : Addr) : Prop where
  g : mg x = some (.ref C)
  x : PySem.W.excIn K C [.type "ValueError", .type "Exception", .type "BaseException", .type "object"] "ValueError.__new__" = true
  k : PySem.W.keepIn K (.ref C) = true
  b : PySem.W.subIn K (.ref C) (.type "BaseException") = some true
  t : PySem.W.typeIn K (.ref C) = some (.type "type")
  e : PySem.W.exmOne K (.ref C) (.ref C) = some true
theorem exm_is {K : PySem.W.Frag} {t : Value} {C : Addr} {r : Bool} (hb : PySem.W.subIn K (.ref C) (.type "BaseException") = some true) (hi : PySem.W.isClsIn K C = true) (ht : PySem.W.typeIn K (.ref C) = some (.type "type")) (hs : PySem.W.subIn K t (.ref C) = some r) : PySem.W.exmOne K t (.ref C) = some r := by
  have hi' : (PySem.W.clsIn K C).isSome = true := hi
  unfold PySem.W.exmOne
  rw [hb, if_pos (by rfl)]
  show (if ((PySem.W.clsIn K C).isSome && PySem.W.typeIn K (Value.ref C) == some (Value.type "type")) = true then PySem.W.subIn K t (Value.ref C) else none) = some r
  rw [hi', ht]
  exact hs
def tTryO (K : PySem.W.Frag) (c : Value) (tb : WX → TS) (ts : Addr → Value → Option Addr → TS) : TS := fun D σ H => tb (wOnly K c ts (fun _ _ _ _ => False) D) D σ H
section
variable {X : Cx} {x : Str} {c : Value} {body suite : List Stmt} {b₀ : Stmt} {np pos pos' : Pos} {tb : WX → TS} {ts : Addr → Value → Option Addr → TS}
end
section
variable {K : PySem.W.Frag} {σ : St} {H : Hp} {nx bk ct : St → Hp → Prop} {rt : VK}
theorem w_try {c : Value} {tb : WX → TS} {ts : Addr → Value → Option Addr → TS} (h : tb (wOnly K c ts (fun _ _ _ _ => False) ⟨nx, rt, bk, ct⟩) ⟨nx, rt, bk, ct⟩ σ H) : tTryO K c tb ts ⟨nx, rt, bk, ct⟩ σ H := h
end
/-! ### dict comprehensions -/
section
open PySem.Spec PyProof.Rows
variable {X : Cx}
/-- name = {k: v for ..}, the name a local: as the layer's rule for a list's comprehension -/
theorem ps_setDc {i : Nat} {y : Str} {py : Pos} {kx vx tg iter : Expr} {ifs : List Expr} {scope : Scope} {own : List (Str × Nat)} {pos spos : Pos} {wi : TI} {g : TG} {tt : TT} {tk tv : TE}
    (hc : X.calm = true) (hN : X.N.Nodup) (hy : X.N[i]? = some y) (hyl : X.env.scope.names.lookup y = some .local)
    (hsw : swapsWith (.DictComp kx vx [⟨tg, iter, ifs, 0⟩] scope pos) (some (.Name y py)) spos.line X.env = pure true)
    (hi : PI X tg iter wi) (ok : BlkOk X.N X.env.scope scope own)
    (hg : ∀ s0 H0 C0 cl fp, PG (X.blk s0 H0 scope (compEnvC scope cl C0 X.env) fp) tg g) (ht : ∀ s0 H0 C0 cl fp, PTs (X.blk s0 H0 scope (compEnvC scope cl C0 X.env) fp) ifs tt)
    (hk : ∀ s0 H0 C0 cl fp, PE (X.blk s0 H0 scope (compEnvC scope cl C0 X.env) fp) kx tk) (he : ∀ s0 H0 C0 cl fp, PE (X.blk s0 H0 scope (compEnvC scope cl C0 X.env) fp) vx tv)
    (hs : ∀ z, foldedSetIterable iter X.env z = pure z := by intro _; rfl) :
    PS X (.Assign [.Name y py] (.DictComp kx vx [⟨tg, iter, ifs, 0⟩] scope pos) spos) (tAsg (tDc wi g tt tk tv (own.map (·.2))) (gName i)) := by
  constructor
  intro pins s σ H Ed I h
  rw [exec_Assign_Name_used y py _ _ hsw]
  apply wpAny_bind
  apply wpAny_standAt
  apply wpAny_bind
  show wpAny _ X.A (comprehension (.DictComp kx vx [⟨tg, iter, ifs, 0⟩] scope pos) scope X.env (firstIterPos [⟨tg, iter, ifs, 0⟩] pos) newDict false (eval iter X.env) (some (assign (.Name y py) X.env)) >>= fun _ => pure ()) _ _ s
  apply wpAny_bind
  have h' : tDc wi g tt tk tv (own.map (·.2)) σ H (fun x H1 => gName i x σ H1 Ed.nx) := h
  refine thn (dc_core (Qf := fun _ s1 => SP X pins Ed .next s1) hc hN I hi ok hg ht hk he hs h' ?_) (fun _ _ z => wpAny_pure (wpAny_pure z))
  intro L C s1 m H1 I1 q hn ff
  obtain ⟨f0, f1, f2, f3, f4, f5⟩ := ff
  show wpAny _ _ (assign (.Name y py) X.env (.ref L)) _ _ _
  apply wpAny_assign_Name
  refine store_ok2 (v := V.ref L) I1 hN hy (.inl hyl) rfl ?_ (.inr hyl)
  rintro s2 I2 ⟨ad, sb, had⟩
  have hne : C ≠ ad := by
    rcases had with hz | hz
    · exact fun e => f1 (e.trans hz)
    · exact fun e => f4 y ad hz e.symm
  refine ⟨m, hn.sameBut sb hne, fun h3 sb3 => ⟨_, H1, ?_, q⟩⟩
  exact I2.turned (t' := s2.toks) (fun b o hb e => (sb3.2 b hb).trans e) f0 f1 f3 f4 f5
theorem sw_trueD {kx vx : Expr} {gs : List Comprehension} {scope : Scope} {pos py : Pos} {y : Str} {l : Nat} {env : Env} (hkd : env.scope.kind = .function) (hlk : env.scope.names.lookup y = some .local)
    (hln : (py.line == pos.line) = true) (hno : (scope.names.any fun (n, k) => n == y && (k == .local || k == .cell)) = false) : swapsWith (.DictComp kx vx gs scope pos) (some (.Name y py)) l env = pure true := by
  have e1 : env.kindOf y = some .local := hlk
  have e2 : env.blockKind = .function := by
    unfold Env.blockKind
    rw [hkd]
    rfl
  unfold swapsWith
  simp only [e2, e1, hno, Expr.pos, hln]
  rfl
end
section
variable {K : PySem.W.Frag} {σ : St} {H : Hp} {Q : VK}
def DcP (J : It) (g : TG) (tt : TT) (tk tv : TE) (vs : List Nat) (Q : VK) (σ : St) (H1 : Hp) : Prop := ∀ D, H1 D = none → ∃ W : Nat → Nat → Hp → Prop, (∃ m, W 0 m (upd H1 D (.dK []))) ∧ ∀ i m H, W i m H →
  (J.stop i H ∧ Q (.ref D) H) ∨ (J.go i H ∧ ∃ Nx : Hp → Prop, (∀ H', Nx H' → ∃ m', m' < m ∧ W (i + 1) m' H') ∧ ∀ x H', J.yld i H x H' → g x (wipe σ vs) H' fun σ2 H2 => wipe σ2 vs = wipe σ vs ∧ tt σ2 H2 fun b H3 =>
    if b = true then tk σ2 H3 fun y H4 => tv σ2 H4 fun z H5 => ∃ kvs k, y = kV k ∧ H5 D = some (.dK kvs) ∧ kvs.length < sizeLine ∧ Nx (upd H5 D (.dK (putK kvs k z))) else Nx H3)
theorem w_dc {wi : TI} {g : TG} {tt : TT} {tk tv : TE} {vs : List Nat} (h : wi σ H fun J H1 => DcP J g tt tk tv vs Q σ H1) : tDc wi g tt tk tv vs σ H Q := h
theorem putK_len' {κ : Type} [DecidableEq κ] (c : List (κ × V)) (k : κ) (x : V) : (putK c k x).length ≤ c.length + 1 := by
  unfold putK
  by_cases e : (c.any fun kv => decide (kv.1 = k)) = true
  · rw [if_pos e, List.length_map]; omega
  · rw [if_neg e, List.length_append]; simp
theorem mergeK_len (es : List (Key × V)) : ∀ acc, (mergeK acc es).length ≤ acc.length + es.length := by
  unfold mergeK
  induction es with
  | nil => intro acc; simp
  | cons e r ih =>
    intro acc
    have h1 := ih (putK acc e.1 e.2)
    have h2 := putK_len' acc e.1 e.2
    simp only [List.foldl_cons, List.length_cons] at *
    omega
theorem mergeK_snoc (acc es : List (Key × V)) (e : Key × V) : mergeK acc (es ++ [e]) = putK (mergeK acc es) e.1 e.2 := by
  unfold mergeK; rw [List.foldl_append]; rfl
/-- each turn adds a pair: the k-th is es[k]; what stood but M stands -/
theorem dcp_map {J : It} {n : Nat} {G : Hp → Prop} {Y : Nat → Hp → V → Hp → Prop} (w : Walk J n G Y) {g : TG} {tk tv : TE} {vs : List Nat} (M : List Addr) (es : List (Key × V)) (hn : es.length = n) (hz : n ≤ 1000000) (hG : ∀ H', Kp M H H' → G H')
    (hs : ∀ i x H1 H2 (R : V → V → Hp → Prop), i < n → Kp M H H1 → Y i H1 x H2 → (∀ e H4, es[i]? = some e → Kp M H1 H4 → R (kV e.1) e.2 H4) → g x (wipe σ vs) H2 fun σ2 H3 => wipe σ2 vs = wipe σ vs ∧ tk σ2 H3 fun y H4 => tv σ2 H4 fun z H5 => R y z H5)
    (hM : ∀ b ∈ M, ∃ o, H b = some o)
    (hd : ∀ D H', H D = none → Kp M H H' → H' D = some (.dK (mergeK [] es)) → Q (.ref D) H') : DcP J g tYes tk tv vs Q σ H := by
  intro D hD
  have hDM : D ∉ M := fun z => by obtain ⟨o, e⟩ := hM D z; rw [hD] at e; cases e
  refine ⟨fun i m H' => m = n - i ∧ i ≤ n ∧ Kp M H H' ∧ H' D = some (.dK (mergeK [] (es.take i))), ⟨n, by simp, Nat.zero_le _, Kp.new hD, upd_same⟩, ?_⟩
  rintro i m H1 ⟨rfl, hi, k1, e1⟩
  by_cases hlt : i < n
  · refine .inr ⟨w.goes i H1 hlt (hG _ k1), fun H' => Kp M H H' ∧ H' D = some (.dK (mergeK [] (es.take (i + 1)))), fun H' z => ⟨n - (i + 1), by omega, rfl, hlt, z.1, z.2⟩, fun x H2 y => ?_⟩
    refine hs i x H1 H2 (fun y z H5 => ∃ kvs k, y = kV k ∧ H5 D = some (.dK kvs) ∧ kvs.length < sizeLine ∧ (Kp M H (upd H5 D (.dK (putK kvs k z))) ∧ (upd H5 D (.dK (putK kvs k z))) D = some (.dK (mergeK [] (es.take (i + 1)))))) hlt k1 (w.yields i H1 x H2 hlt (hG _ k1) y) ?_
    intro e H4 he k4
    refine ⟨mergeK [] (es.take i), e.1, rfl, k4 _ _ hDM e1, ?_, (k1.trans k4).mutN hD, ?_⟩
    · have h1 := mergeK_len (es.take i) []
      have h2 : (es.take i).length ≤ 1000000 := by rw [List.length_take]; omega
      exact Nat.lt_of_le_of_lt (Nat.le_trans h1 (by simpa using h2)) (by decide)
    · rw [upd_same, List.take_add_one, he]
      show _ = some (HO.dK (mergeK [] (es.take i ++ [e])))
      rw [mergeK_snoc]
  · have e : i = n := by omega
    subst e
    rw [List.take_of_length_le (by omega)] at e1
    exact .inl ⟨w.stops H1 (hG _ k1), hd D H1 hD k1 e1⟩
theorem valV_merge (k : Key) : ∀ (es acc : List (Key × V)), (valV (mergeK acc es) k).isSome = ((valV acc k).isSome || es.any fun e => decide (e.1 = k)) := by
  intro es
  induction es with
  | nil => intro acc; show (valV acc k).isSome = _; simp
  | cons e r ih =>
    intro acc
    show (valV (mergeK (putK acc e.1 e.2) r) k).isSome = _
    rw [ih, valV_put, List.any_cons]
    by_cases h : k = e.1
    · rw [if_pos h, decide_eq_true h.symm]; simp
    · rw [if_neg h, decide_eq_false (fun z => h z.symm)]; simp
/-- {x: True for x in ns}: who is in it -/
theorem known_in (ns : List Int) (f : Int → V) (n : Int) : (valV (mergeK [] (ns.map fun i => ((Sum.inl i : Key), f i))) (Sum.inl n)).isSome = decide (n ∈ ns) := by
  rw [valV_merge, valV_nil]
  rw [Bool.eq_iff_iff]
  simp
end
/-! ### ints -/
theorem cmul_l {i j : Int} (h1 : -(2 ^ 64) < i) (h2 : i < 2 ^ 64) : CMul i j := .inl ⟨h1, h2⟩
theorem cmul_r {i j : Int} (h1 : -(2 ^ 64) < j) (h2 : j < 2 ^ 64) : CMul i j := .inr ⟨h1, h2⟩
theorem cdivw {i j : Int} (h1 : 0 < j) (h2 : j < 2 ^ 64) : CDivW i j := wide_div (b := 64) h1 (by omega) (by decide) (by decide)
theorem at_lt {α : Type} {xs : List α} {i : Int} (h0 : 0 ≤ i) (h1 : i < xs.length) : ∃ v, xs[i.toNat]? = some v ∧ atI xs i = some v := by
  have hl : i.toNat < xs.length := by omega
  refine ⟨xs[i.toNat], List.getElem?_eq_getElem hl, ?_⟩
  have e := atI_nat (xs := xs) (j := i.toNat) (List.getElem?_eq_getElem hl)
  rw [Int.toNat_of_nonneg h0] at e
  exact e
/-! ### the deck -/
def MOSTD : Nat := 1099511627776
structure Deck (H : Hp) (d c : Addr) (n : Nat) : Prop where
  ex : ∃ (cs : List Int) (a : Nat) (b : Int) (t : Nat), H d = some (.lst [.ref c, .int a, .int b, .int t]) ∧ H c = some (.lst (cs.map V.int)) ∧ t ≤ n
  ne : c ≠ d
theorem Deck.kp {M : List Addr} {H H' : Hp} {d c : Addr} {n : Nat} (k : Kp M H H') (h1 : d ∉ M) (h2 : c ∉ M) (D : Deck H d c n) : Deck H' d c n := by
  obtain ⟨⟨cs, a, b, t, e1, e2, e3⟩, ne⟩ := D
  exact ⟨⟨cs, a, b, t, k _ _ h1 e1, k _ _ h2 e2, e3⟩, ne⟩
theorem Deck.new {H : Hp} {d c : Addr} {n : Nat} {p : Addr} {o : HO} (h : H p = none) (D : Deck H d c n) : Deck (upd H p o) d c n := D.kp (M := []) (Kp.new h) (by simp) (by simp)
theorem Deck.mut {H : Hp} {d c : Addr} {n : Nat} {p : Addr} {o : HO} (h1 : p ≠ d) (h2 : p ≠ c) (D : Deck H d c n) : Deck (upd H p o) d c n :=
  D.kp (M := [p]) (Kp.mut (by simp)) (by simpa using Ne.symm h1) (by simpa using Ne.symm h2)
theorem Deck.mono {H : Hp} {d c : Addr} {n m : Nat} (D : Deck H d c n) (h : n ≤ m) : Deck H d c m := by
  obtain ⟨⟨cs, a, b, t, e1, e2, e3⟩, ne⟩ := D
  exact ⟨⟨cs, a, b, t, e1, e2, Nat.le_trans e3 h⟩, ne⟩
theorem Deck.at {H : Hp} {d c : Addr} {n : Nat} (D : Deck H d c n) : (∃ xs, H d = some (.lst xs)) ∧ ∃ xs, H c = some (.lst xs) := by
  obtain ⟨⟨cs, a, b, t, e1, e2, e3⟩, ne⟩ := D
  exact ⟨⟨_, e1⟩, ⟨_, e2⟩⟩
theorem Deck.ne1 {H : Hp} {d c p : Addr} {n : Nat} (D : Deck H d c n) (h : H p = none) : p ≠ d ∧ p ≠ c := by
  obtain ⟨⟨xs, e1⟩, ys, e2⟩ := D.at
  exact ⟨(ne_of_none e1 h).symm, (ne_of_none e2 h).symm⟩
end FW

set_option Elab.async false
set_option linter.all false
set_option maxRecDepth 100000
set_option maxHeartbeats 4000000
/-! {key: value for a in as if .. for b in bs if ..}: a dict by two clauses, as a rule of the layer (my own: the layer has it for lists). -/
namespace FW
open PySem PySem.Spec PyProof.Rows L2
section
variable {kx vx ta ia tb ib : Expr} {fa fb : List Expr} {sc : Scope} {ps : Pos}
abbrev two (kx vx ta ia : Expr) (fa : List Expr) (tb ib : Expr) (fb : List Expr) (sc : Scope) (ps : Pos) : Expr := .DictComp kx vx [⟨ta, ia, fa, 0⟩, ⟨tb, ib, fb, 0⟩] sc ps
/-- the tests of a clause, one behind the other -/
abbrev testsOf2 (fs : List Expr) (env : Env) : Sem Bool := forIn fs true fun c r => if r = true then do let ok ← isTrue c env (eval c env); pure (ForInStep.yield ok) else pure (ForInStep.yield r)
theorem turn_first (it : Value) (D : Addr) (env : Env) : compTurn (two kx vx ta ia fa tb ib fb sc ps) 0 it (.ref D) env = (do
    standAt ia.pos
    match ← pyNext it with
    | none => pure (.done .next)
    | some u =>
      letOwnedTupleGo ta it u
      assign ta env u
      let mut good := true
      for c in fa do
        if good then good ← isTrue c env (eval c env)
      if good then
        let y ← eval ib env
        standAt ib.pos
        let y ← foldedSetIterable ib env y
        let _ ← runOwn (.compStart (two kx vx ta ia fa tb ib fb sc ps) 1 (← holding [y] (pyIter y)) (.ref D) env) env
      again (.compLoop (two kx vx ta ia fa tb ib fb sc ps) 0 it (.ref D) env)) := by rfl
theorem turn_second (it : Value) (D : Addr) (env : Env) : compTurn (two kx vx ta ia fa tb ib fb sc ps) 1 it (.ref D) env = (do
    standAt ib.pos
    match ← pyNext it with
    | none => pure (.done .next)
    | some u =>
      letOwnedTupleGo tb it u
      assign tb env u
      let mut good := true
      for c in fb do
        if good then good ← isTrue c env (eval c env)
      if good then
        (do
          let k ← eval kx env
          let v ← holding [k] (eval vx env)
          standAt { kx.pos with endLine := vx.pos.endLine, endCol := vx.pos.endCol }
          holding [k, v] (dictSet D k v))
      again (.compLoop (two kx vx ta ia fa tb ib fb sc ps) 1 it (.ref D) env)) := by rfl
variable {pg : Program} {wd : World} {A : Around} {R : Result → Shared → Prop} {st : Shared} {it : Value} {D : Addr} {env : Env}
/-- the first clause's loop; nothing raises in it -/
theorem loop_first (hf : ∀ y, foldedSetIterable ib env y = pure y) (G : Nat → Shared → Prop)
    (go : ∀ n z, G n z → wpAny (model pg wd) A (pyNext it) (fun r z1 => match r with
      | none => R (.ok .next) z1
      | some u => wpAny (model pg wd) A (letOwnedTupleGo ta it u) (fun _ z2 => wpAny (model pg wd) A (assign ta env u) (fun _ z3 => wpAny (model pg wd) A (testsOf2 fa env) (fun b z4 =>
          if b = true then wpAny (model pg wd) A (eval ib env) (fun y z5 => wpAny (model pg wd) A (pyIter y) (fun j z6 =>
            codeAny (model pg wd) A (.compStart (two kx vx ta ia fa tb ib fb sc ps) 1 j (.ref D) env) (fun r z7 => match r with
              | .ok _ => ∃ m, m < n ∧ G m z7
              | .error _ => False) z6) (fun _ _ => False) z5) (fun _ _ => False) z4
          else ∃ m, m < n ∧ G m z4) (fun _ _ => False) z3) (fun _ _ => False) z2) (fun _ _ => False) z1) (fun _ _ => False) z)
    (n : Nat) (h : G n st) : codeAny (model pg wd) A (.compLoop (two kx vx ta ia fa tb ib fb sc ps) 0 it (.ref D) env) R st := by
  refine codeAny_loop rfl G ?_ n h
  intro n z hz
  show wpAny _ A ((compTurn (two kx vx ta ia fa tb ib fb sc ps) 0 it (.ref D) env).onRaise _) _ _ z
  apply wpAny_noted
  rw [turn_first]
  apply wpAny_bind
  apply wpAny_standAt
  apply wpAny_bind
  refine thnF (go n z hz) fun r z1 h1 => ?_
  cases r with
  | none => exact wpAny_pure h1
  | some u =>
    apply wpAny_bind
    refine thnF h1 fun _ z2 h2 => ?_
    apply wpAny_bind
    refine thnF h2 fun _ z3 h3 => ?_
    apply wpAny_bind
    refine thnF h3 fun b z4 h4 => ?_
    cases b with
    | false => exact wpAny_pure ⟨rfl, h4⟩
    | true =>
      apply wpAny_bind
      refine thnF h4 fun y z5 h5 => ?_
      apply wpAny_bind
      apply wpAny_standAt
      apply wpAny_bind
      refine wpAny_of_eq (hf y) ?_
      apply wpAny_bind
      apply wpAny_holding
      refine thnF h5 fun j z6 h6 => ?_
      apply wpAny_bind
      refine wpAny_runOwn ?_
      rw [Around.mark_none]
      refine codeAny_mono h6 fun r z7 h7 => ?_
      cases r with
      | error _ => exact False.elim h7
      | ok _ => first | exact wpAny_pure ⟨rfl, h7⟩ | exact wpAny_bind (wpAny_pure (wpAny_pure ⟨rfl, h7⟩))
/-- the second clause's loop -/
theorem loop_second (G : Nat → Shared → Prop)
    (go : ∀ n z, G n z → wpAny (model pg wd) A (pyNext it) (fun r z1 => match r with
      | none => R (.ok .next) z1
      | some u => wpAny (model pg wd) A (letOwnedTupleGo tb it u) (fun _ z2 => wpAny (model pg wd) A (assign tb env u) (fun _ z3 => wpAny (model pg wd) A (testsOf2 fb env) (fun b z4 =>
          if b = true then wpAny (model pg wd) A (eval kx env) (fun k z5 => wpAny (model pg wd) A (eval vx env) (fun v z6 => wpAny (model pg wd) A (dictSet D k v) (fun _ z7 => ∃ m, m < n ∧ G m z7) (fun _ _ => False) z6) (fun _ _ => False) z5) (fun _ _ => False) z4
          else ∃ m, m < n ∧ G m z4) (fun _ _ => False) z3) (fun _ _ => False) z2) (fun _ _ => False) z1) (fun _ _ => False) z)
    (n : Nat) (h : G n st) : codeAny (model pg wd) A (.compLoop (two kx vx ta ia fa tb ib fb sc ps) 1 it (.ref D) env) R st := by
  refine codeAny_loop rfl G ?_ n h
  intro n z hz
  show wpAny _ A ((compTurn (two kx vx ta ia fa tb ib fb sc ps) 1 it (.ref D) env).onRaise _) _ _ z
  apply wpAny_noted
  rw [turn_second]
  apply wpAny_bind
  apply wpAny_standAt
  apply wpAny_bind
  refine thnF (go n z hz) fun r z1 h1 => ?_
  cases r with
  | none => exact wpAny_pure h1
  | some u =>
    apply wpAny_bind
    refine thnF h1 fun _ z2 h2 => ?_
    apply wpAny_bind
    refine thnF h2 fun _ z3 h3 => ?_
    apply wpAny_bind
    refine thnF h3 fun b z4 h4 => ?_
    cases b with
    | false => exact wpAny_pure ⟨rfl, h4⟩
    | true =>
      apply wpAny_bind
      apply wpAny_bind
      refine thnF h4 fun k z5 h5 => ?_
      apply wpAny_bind
      apply wpAny_holding
      refine thnF h5 fun v z6 h6 => ?_
      apply wpAny_bind
      apply wpAny_standAt
      apply wpAny_holding
      exact thnF h6 fun _ z7 h7 => wpAny_pure ⟨rfl, h7⟩
/-- the second clause begins -/
theorem start_second (h0 : codeAny (model pg wd) A (.compLoop (two kx vx ta ia fa tb ib fb sc ps) 1 it (.ref D) env) R st)
    (h1 : wpAny (model pg wd) A (pyIter it) (fun j z => codeAny (model pg wd) A (.compLoop (two kx vx ta ia fa tb ib fb sc ps) 1 j (.ref D) env) R z) (notedBy (model pg wd) A env fun x z => R (.error x) z) st) :
    codeAny (model pg wd) A (.compStart (two kx vx ta ia fa tb ib fb sc ps) 1 it (.ref D) env) R st := by
  apply codeAny_of_tree
  show wpAny _ _ ((compStart (two kx vx ta ia fa tb ib fb sc ps) 1 it (.ref D) env).onRaise _) _ _ st
  apply wpAny_notedAt
  unfold compStart
  show wpAny _ _ (ask >>= _) _ _ st
  apply wpAny_bind
  apply wpAny_askSetting
  apply wpAny_ite
  split
  · first | exact wpAny_bind (wpAny_pure (wpAny_pure ⟨rfl, h0⟩)) | exact wpAny_pure ⟨rfl, h0⟩
  · apply wpAny_bind
    apply wpAny_rule
    show wpAny _ _ (standAt ib.pos >>= _) _ _ st
    apply wpAny_bind
    apply wpAny_standAt
    apply wpAny_bind
    exact wpAny_mono h1 (fun _ _ q => wpAny_pure ⟨rfl, q⟩) fun _ _ q => q
end
section
variable {X : Cx} {kx vx ta ia tb ib : Expr} {fa fb : List Expr} {sc : Scope} {ps qs : Pos} {own : List (Str × Nat)} {us : List Nat} {wa wb : TI} {ga gb : TG} {ra rb : TT} {tk tv : TE}
/-- the inner walk of one turn: from it Nx is reached -/
def Inner2 (J : It) (gb : TG) (rb : TT) (tk tv : TE) (us : List Nat) (D : Addr) (σ : L2.St) (H : Hp) (Nx : Hp → Prop) : Prop := ∃ W : Nat → Nat → Hp → Prop, (∃ m, W 0 m H) ∧ ∀ j k H1, W j k H1 →
  (J.stop j H1 ∧ Nx H1) ∨ (J.go j H1 ∧ ∃ Ny : Hp → Prop, (∀ H2, Ny H2 → ∃ k', k' < k ∧ W (j + 1) k' H2) ∧ ∀ x H2, J.yld j H1 x H2 → gb x (wipe σ us) H2 fun σ3 H3 => wipe σ3 us = wipe σ us ∧ rb σ3 H3 fun b H4 =>
    if b = true then tk σ3 H4 fun y H5 => tv σ3 H5 fun z H6 => ∃ kvs key, y = kV key ∧ H6 D = some (.dK kvs) ∧ kvs.length < sizeLine ∧ Ny (upd H6 D (.dK (putK kvs key z))) else Ny H4)
/-- the whole -/
def tDc2 (wa : TI) (ga : TG) (ra : TT) (wb : TI) (gb : TG) (rb : TT) (tk tv : TE) (os us : List Nat) : TE := fun σ H Q => wa σ H fun J H1 => ∀ D, H1 D = none → ∃ W : Nat → Nat → Hp → Prop, (∃ m, W 0 m (upd H1 D (.dK []))) ∧ ∀ i m H2, W i m H2 →
  (J.stop i H2 ∧ Q (.ref D) H2) ∨ (J.go i H2 ∧ ∃ Nx : Hp → Prop, (∀ H3, Nx H3 → ∃ m', m' < m ∧ W (i + 1) m' H3) ∧ ∀ x H3, J.yld i H2 x H3 → ga x (wipe σ os) H3 fun σ2 H4 => wipe σ2 os = wipe σ os ∧ ra σ2 H4 fun b H5 =>
    if b = true then wb σ2 H5 fun J1 H6 => Inner2 J1 gb rb tk tv us D σ2 H6 Nx else Nx H5)
theorem dc2_run {pins : List (Addr × Obj)} {s : Shared} {σ : L2.St} {H : Hp} {Q : VK} {use : Option (Value → Sem Unit)} {Qf : Value → Shared → Prop}
    (calm : X.calm = true) (nd : X.N.Nodup) (I : Inv X pins σ H s) (pa : PI X ta ia wa) (ok : BlkOk X.N X.env.scope sc own) (sub : ∀ i ∈ us, i ∈ own.map (·.2))
    (pga : ∀ z G C cl fp, PG (X.blk z G sc (compEnvC sc cl C X.env) fp) ta ga) (pra : ∀ z G C cl fp, PTs (X.blk z G sc (compEnvC sc cl C X.env) fp) fa ra)
    (pb : ∀ z G C cl fp, PI (X.blk z G sc (compEnvC sc cl C X.env) fp) tb ib wb) (pgb : ∀ z G C cl fp, PG (X.blk z G sc (compEnvC sc cl C X.env) fp) tb gb) (prb : ∀ z G C cl fp, PTs (X.blk z G sc (compEnvC sc cl C X.env) fp) fb rb)
    (pk : ∀ z G C cl fp, PE (X.blk z G sc (compEnvC sc cl C X.env) fp) kx tk) (pv' : ∀ z G C cl fp, PE (X.blk z G sc (compEnvC sc cl C X.env) fp) vx tv)
    (hfa : ∀ y, foldedSetIterable ia X.env y = pure y) (hfb : ∀ env y, foldedSetIterable ib env y = pure y)
    (h : tDc2 wa ga ra wb gb rb tk tv (own.map (·.2)) us σ H Q)
    (fin : ∀ D C z m H', Inv X pins σ H' z → Q (.ref D) H' → z.heap.Ns C m → FpOk X pins H' C → compPost (model X.prog X.w) X.A X.xe use Qf (.ref D) C (.ok .next) z) :
    wpAny (model X.prog X.w) X.A (comprehension (two kx vx ta ia fa tb ib fb sc ps) sc X.env qs newDict false (eval ia X.env) use) Qf X.xe s := by
  have cellsOk : ∀ y ∈ sc.names, y.2 = .free → ∃ c, X.env.cells.lookup y.1 = some c := by
    intro y hy e
    rcases ok.free y hy e with k | k
    · exact I.ok.has _ (.inl k)
    · exact I.ok.has _ (.inr k)
  refine wpAny_comprehension_free (use := use) rfl hfa (closure_ok cellsOk) ok.kind (fun y hy e => by rw [ok.uniq y hy, e]) ?_
  refine thn (pa.run pins s σ H _ I h) fun _ _ hx => thn hx fun _ z2 hz2 => ?_
  obtain ⟨it, fp, tn, J, G2, rfl, I2, T, at2, far2, q⟩ := hz2
  refine wpAny_newObj_type (newEnv_comp ?_)
  -- the new dict stands at D
  obtain ⟨D, hD⟩ : ∃ D, D = z2.heap.objs.size := ⟨_, rfl⟩
  rw [← hD]
  have freeD : G2 D = none := I2.hok.fresh (Nat.le_of_eq hD.symm)
  obtain ⟨W, ⟨m0, w0⟩, turn⟩ := q D freeD
  obtain ⟨z3, e3⟩ : ∃ z3 : Shared, z3 = { z2 with heap := z2.heap.push { cls := .type "dict", data := .dict #[] } } := ⟨_, rfl⟩
  have h3 : z3.heap = z2.heap.push { cls := .type "dict", data := .dict #[] } := by rw [e3]
  have I3 : Inv X pins σ (upd G2 D (.dK [])) z3 := by
    rw [e3]
    refine I2.laid (t' := z2.toks) (fun _ _ e => Heap.get?_push_of_some _ e) (Nat.le_of_eq hD.symm) ?_
    rw [hD]
    exact dk_empty z2.heap I2.big
  have small : ∀ b ∈ fp, b < z2.heap.objs.size := by
    intro b hb
    obtain ⟨_, e, _⟩ := T.obj _ _ at2 b hb
    exact Heap.lt_size e
  have far3 : ∀ b ∈ fp, FpOk X pins (upd G2 D (.dK [])) b ∧ b < z3.heap.objs.size := by
    intro b hb
    have lt := small b hb
    constructor
    · refine ⟨?_, (far2 b hb).2⟩
      rw [upd_ne (by rw [hD]; exact Nat.ne_of_lt lt)]
      exact (far2 b hb).1
    · rw [h3, Heap.size_push]
      exact Nat.lt_succ_of_lt lt
  have at3 : tn 0 z3.heap := T.keep _ _ _ at2 fun _ _ _ e => by rw [h3]; exact Heap.get?_push_of_some _ e
  have I4 := block_start I3 ok nd far3
  -- the block's frame
  obtain ⟨cl, hcl⟩ : ∃ cl, cl = cellsFrom (z3.heap.objs.size + 1) sc.names (cloFrom X.env.cells sc.names []) := ⟨_, rfl⟩
  rw [← hcl] at I4
  have gA := pga z3 (upd G2 D (.dK [])) z3.heap.objs.size cl fp
  have tA := pra z3 (upd G2 D (.dK [])) z3.heap.objs.size cl fp
  have iB := pb z3 (upd G2 D (.dK [])) z3.heap.objs.size cl fp
  have gB := pgb z3 (upd G2 D (.dK [])) z3.heap.objs.size cl fp
  have tB := prb z3 (upd G2 D (.dK [])) z3.heap.objs.size cl fp
  have eK := pk z3 (upd G2 D (.dK [])) z3.heap.objs.size cl fp
  have eV := pv' z3 (upd G2 D (.dK [])) z3.heap.objs.size cl fp
  show codeAny _ _ (.compStart (two kx vx ta ia fa tb ib fb sc ps) 0 (.ref it) (.ref D) (compEnvC sc (cellsFrom (({ z2 with heap := z2.heap.push { cls := .type "dict", data := .dict #[] } } : Shared).heap.objs.size + 1) sc.names (cloFrom X.env.cells sc.names [])) ({ z2 with heap := z2.heap.push { cls := .type "dict", data := .dict #[] } } : Shared).heap.objs.size X.env))
    (compPost (model X.prog X.w) X.A X.xe use Qf (.ref D) ({ z2 with heap := z2.heap.push { cls := .type "dict", data := .dict #[] } } : Shared).heap.objs.size) { ({ z2 with heap := z2.heap.push { cls := .type "dict", data := .dict #[] } } : Shared) with heap := pushCells (({ z2 with heap := z2.heap.push { cls := .type "dict", data := .dict #[] } } : Shared).heap.push { cls := .type "dict", data := .dict #[] }) sc.names }
  rw [← e3, ← hcl]
  have none3 : ∀ b ∈ fp, (upd G2 D (.dK [])) b = none := fun b hb => (far3 b hb).1.1
  obtain ⟨ev, hev⟩ : ∃ ev, ev = compEnvC sc cl z3.heap.objs.size X.env := ⟨_, rfl⟩
  rw [← hev] at I4 gA tA iB gB tB eK eV ⊢
  have evL : ev.locals = z3.heap.objs.size := by rw [hev]; rfl
  obtain ⟨G3, hG3⟩ : ∃ G3, G3 = upd G2 D (.dK []) := ⟨_, rfl⟩
  rw [← hG3] at I3 I4 gA tA iB gB tB eK eV w0 none3 far3
  obtain ⟨z4, e4⟩ : ∃ z4 : Shared, z4 = { z3 with heap := pushCells (z3.heap.push { cls := .type "dict", data := .dict #[] }) sc.names } := ⟨_, rfl⟩
  rw [← e4] at I4 ⊢
  have at4 : tn 0 z4.heap := T.keep _ _ _ at3 fun _ _ _ e => by rw [e4]; exact pushCells_keeps _ _ _ _ (Heap.get?_push_of_some _ e)
  have aside : ∀ {σ' : L2.St} {G : Hp} {z : Shared}, Inv (X.blk z3 G3 sc ev fp) [] σ' G z → (∀ b ∈ fp, G b = none) → ∀ b ∈ fp, FpOk (X.blk z3 G3 sc ev fp) [] G b := by
    intro σ' G z J' hn b hb
    exact ⟨hn b hb, (J'.ok.exf b hb).1, J'.ok.exfs b hb, .inl hb, fun x c e => (J'.ok.exf b hb).2 x c e, fun p hp => absurd (show p ∈ ([] : List (Addr × Obj)) ++ [] from hp) (by simp)⟩
  have whole : codeAny (model X.prog X.w) X.A (.compLoop (two kx vx ta ia fa tb ib fb sc ps) 0 (.ref it) (.ref D) ev) (compPost (model X.prog X.w) X.A X.xe use Qf (.ref D) z3.heap.objs.size) z4 := by
    refine loop_first (hfb ev) (fun n z => ∃ i G, Inv (X.blk z3 G3 sc ev fp) [] (wipe σ (own.map (·.2))) G z ∧ tn i z.heap ∧ (∀ b ∈ fp, G b = none) ∧ W i n G) ?_ m0 ⟨0, G3, I4, at4, none3, w0⟩
    rintro n z5 ⟨i, G5, I5, at5, none5, w5⟩
    rcases turn i n G5 w5 with ⟨stop, qq⟩ | ⟨goes, Nx, hNx, step⟩
    · refine thnF (T.done (X.blk z3 G3 sc ev fp) rfl rfl rfl calm i [] z5 _ G5 (fun _ _ => False) I5 (aside I5 none5) at5 stop) ?_
      rintro r z6 ⟨rfl, I6⟩
      have I7 : Inv X pins σ G5 z6 := I3.call' (ch := fp) I6.os I6.base I6.hok I6.bare fun b hb =>
        let f := (far3 b hb).1
        ⟨f.2.2.2.1, f.2.1, f.2.2.2.2.1, f.2.2.2.2.2⟩
      have noC : G5 z3.heap.objs.size = none := by
        have y : G5 ev.locals = none := I6.free
        rw [evL] at y
        exact y
      obtain ⟨m, hn, _⟩ := I6.loc
      have hn' : z6.heap.Ns ev.locals m := hn
      rw [evL] at hn'
      exact fin D _ z6 m G5 I7 qq hn' (I3.fpOk (Nat.le_refl _) noC)
    · refine thnF (T.item (X.blk z3 G3 sc ev fp) rfl rfl rfl calm i [] z5 _ G5 (fun _ _ => False) I5 (aside I5 none5) at5 goes) ?_
      rintro r z6 ⟨u, rfl, h6⟩
      refine thnF h6 ?_
      rintro _ z7 ⟨x, G7, I7, r7, y7, at7, none7⟩
      refine thnF (gA.run _ z7 _ G7 x u _ (I7.pinned (aside I7 none7) (T.obj _ _ at7)) r7 (step x G7 y7)) ?_
      rintro _ z8 ⟨σ8, G8, I8, hw8, q8⟩
      refine thnF (tA.run _ z8 σ8 G8 _ I8 q8) ?_
      rintro b z9 ⟨G9, I9, q9⟩
      -- one turn of the first clause is over
      have over : ∀ {σ9 : L2.St} {z : Shared} {G : Hp}, Inv (X.blk z3 G3 sc ev fp) ([] ++ pinsAt fp z7.heap) σ9 G z → (wipe σ (own.map (·.2))).length = σ9.length → (∀ (j : Nat) v, (wipe σ (own.map (·.2)))[j]? = some (some v) → σ9[j]? = some (some v)) → Nx G →
          ∃ m, m < n ∧ ∃ i G, Inv (X.blk z3 G3 sc ev fp) [] (wipe σ (own.map (·.2))) G z ∧ tn i z.heap ∧ (∀ b ∈ fp, G b = none) ∧ W i m G := by
        intro σ9 z G I' hl hk nx
        obtain ⟨m', lt, w'⟩ := hNx G nx
        have pins' : ∀ b ∈ fp, ∀ o, z7.heap.get? b = some o → z.heap.get? b = some o ∧ G b = none := by
          intro b hb o e
          have y := I'.pin (b, o) (List.mem_append_right _ (List.mem_append_right _ (mem_pinsAt hb e)))
          exact ⟨y.1, y.2.1⟩
        refine ⟨m', lt, i + 1, G, (I'.unpinned (pins := [])).weak hl hk, T.keep _ _ _ at7 (fun b hb o e => (pins' b hb o e).1), ?_, w'⟩
        intro b hb
        obtain ⟨o, e, _⟩ := T.obj _ _ at7 b hb
        exact (pins' b hb o e).2
      have len8 : (wipe σ (own.map (·.2))).length = σ8.length := by rw [← hw8, wipe_length]
      cases b with
      | false =>
        have q9' : Nx G9 := q9
        show ∃ m, m < n ∧ _
        exact over I9 len8 (fun j v e => by rw [← hw8] at e; exact (wipe_some e).1) q9'
      | true =>
        have q9' : wb σ8 G9 fun J1 H6 => Inner2 J1 gb rb tk tv us D σ8 H6 Nx := q9
        show wpAny _ _ (eval ib ev) _ _ z9
        refine thnF (iB.run _ z9 σ8 G9 _ I9 q9') fun _ _ hx => thnF hx ?_
        rintro _ z11 ⟨it1, fp1, tn1, J1, G11, rfl, I11, T1, at11, far11, W1, ⟨m1, w1⟩, turn1⟩
        have aside1 : ∀ {G : Hp}, (∀ b ∈ fp1, G b = none) → ∀ b ∈ fp1, FpOk (X.blk z3 G3 sc ev fp) ([] ++ pinsAt fp z7.heap) G b := fun hn b hb => ⟨hn b hb, (far11 b hb).2⟩
        have inner : codeAny (model X.prog X.w) X.A (.compLoop (two kx vx ta ia fa tb ib fb sc ps) 1 (.ref it1) (.ref D) ev) (fun r z => match r with
            | .ok _ => ∃ m, m < n ∧ ∃ i G, Inv (X.blk z3 G3 sc ev fp) [] (wipe σ (own.map (·.2))) G z ∧ tn i z.heap ∧ (∀ b ∈ fp, G b = none) ∧ W i m G
            | .error _ => False) z11 := by
          refine loop_second (fun k z => ∃ j G, Inv (X.blk z3 G3 sc ev fp) ([] ++ pinsAt fp z7.heap) (wipe σ8 us) G z ∧ tn1 j z.heap ∧ (∀ b ∈ fp1, G b = none) ∧ W1 j k G) ?_ m1 ⟨0, G11, I11.weak (wipe_length _ _) (fun j v e => (wipe_some e).1), at11, fun b hb => (far11 b hb).1, w1⟩
          rintro k z12 ⟨j, G12, I12, at12, none12, w12⟩
          rcases turn1 j k G12 w12 with ⟨stop1, nx1⟩ | ⟨goes1, Ny, hNy, step1⟩
          · refine thnF (T1.done (X.blk z3 G3 sc ev fp) rfl rfl rfl calm j _ z12 (wipe σ8 us) G12 (fun _ _ => False) I12 (aside1 none12) at12 stop1) ?_
            rintro r z13 ⟨rfl, I13⟩
            refine over I13 (len8.trans (wipe_length σ8 us).symm) ?_ nx1
            intro j' v e
            rw [← hw8] at e
            obtain ⟨e1, e2⟩ := wipe_some e
            rw [wipe_out fun y => e2 (sub j' y)]
            exact e1
          · refine thnF (T1.item (X.blk z3 G3 sc ev fp) rfl rfl rfl calm j _ z12 (wipe σ8 us) G12 (fun _ _ => False) I12 (aside1 none12) at12 goes1) ?_
            rintro r z13 ⟨u1, rfl, h13⟩
            refine thnF h13 ?_
            rintro _ z14 ⟨x1, G14, I14, r14, y14, at14, none14⟩
            refine thnF (gB.run _ z14 (wipe σ8 us) G14 x1 u1 _ (I14.pinned (aside1 none14) (T1.obj _ _ at14)) r14 (step1 x1 G14 y14)) ?_
            rintro _ z15 ⟨σ15, G15, I15, hw15, q15⟩
            refine thnF (tB.run _ z15 σ15 G15 _ I15 q15) ?_
            rintro b1 z16 ⟨G16, I16, q16⟩
            have over1 : ∀ {z : Shared} {G : Hp}, Inv (X.blk z3 G3 sc ev fp) (([] ++ pinsAt fp z7.heap) ++ pinsAt fp1 z14.heap) σ15 G z → Ny G → ∃ m, m < k ∧ ∃ j G, Inv (X.blk z3 G3 sc ev fp) ([] ++ pinsAt fp z7.heap) (wipe σ8 us) G z ∧ tn1 j z.heap ∧ (∀ b ∈ fp1, G b = none) ∧ W1 j m G := by
              intro z G I' nx
              obtain ⟨m', lt, w'⟩ := hNy G nx
              have pins' : ∀ b ∈ fp1, ∀ o, z14.heap.get? b = some o → z.heap.get? b = some o ∧ G b = none := by
                intro b hb o e
                have y := I'.pin (b, o) (List.mem_append_right _ (List.mem_append_right _ (mem_pinsAt hb e)))
                exact ⟨y.1, y.2.1⟩
              refine ⟨m', lt, j + 1, G, I'.unpinned.weak (by rw [← hw15, wipe_length]) (fun j v e => by rw [← hw15] at e; exact (wipe_some e).1), T1.keep _ _ _ at14 (fun b hb o e => (pins' b hb o e).1), ?_, w'⟩
              intro b hb
              obtain ⟨o, e, _⟩ := T1.obj _ _ at14 b hb
              exact (pins' b hb o e).2
            cases b1 with
            | false =>
              have q16' : Ny G16 := q16
              show ∃ m, m < k ∧ _
              exact over1 I16 q16'
            | true =>
              have q16' : tk σ15 G16 fun y H5 => tv σ15 H5 fun z H6 => ∃ kvs key, y = kV key ∧ H6 D = some (.dK kvs) ∧ kvs.length < sizeLine ∧ Ny (upd H6 D (.dK (putK kvs key z))) := q16
              show wpAny _ _ (eval kx ev) _ _ z16
              refine thnF (eK.run _ z16 σ15 G16 _ I16 q16') ?_
              rintro _ z17 ⟨yk, G17, I17, r17, q17⟩
              refine thnF (eV.run _ z17 σ15 G17 _ I17 q17) ?_
              rintro _ z18 ⟨yv, G18, I18, r18, kvs, key, rfl, hD18, lt18, nx⟩
              exact d_dictSet (X := X.blk z3 G3 sc ev fp) I18 hD18 lt18 r17 r18 fun _ I19 => over1 I19 nx
        exact start_second inner (T1.self X.A 0 _ _ _ at11 inner)
  exact codeAny_compStart_dict whole (T.self X.A 0 _ _ _ at4 whole)
/-- name = {..}, the name a local of the def -/
theorem ps_setDc2 {i : Nat} {y : Str} {py spos : Pos} (calm : X.calm = true) (nd : X.N.Nodup) (hy : X.N[i]? = some y) (hyl : X.env.scope.names.lookup y = some .local)
    (hsw : swapsWith (two kx vx ta ia fa tb ib fb sc ps) (some (.Name y py)) spos.line X.env = pure true)
    (pa : PI X ta ia wa) (ok : BlkOk X.N X.env.scope sc own) (sub : ∀ i ∈ us, i ∈ own.map (·.2))
    (pga : ∀ z G C cl fp, PG (X.blk z G sc (compEnvC sc cl C X.env) fp) ta ga) (pra : ∀ z G C cl fp, PTs (X.blk z G sc (compEnvC sc cl C X.env) fp) fa ra)
    (pb : ∀ z G C cl fp, PI (X.blk z G sc (compEnvC sc cl C X.env) fp) tb ib wb) (pgb : ∀ z G C cl fp, PG (X.blk z G sc (compEnvC sc cl C X.env) fp) tb gb) (prb : ∀ z G C cl fp, PTs (X.blk z G sc (compEnvC sc cl C X.env) fp) fb rb)
    (pk : ∀ z G C cl fp, PE (X.blk z G sc (compEnvC sc cl C X.env) fp) kx tk) (pv' : ∀ z G C cl fp, PE (X.blk z G sc (compEnvC sc cl C X.env) fp) vx tv)
    (hfa : ∀ y, foldedSetIterable ia X.env y = pure y := by intro _; rfl) (hfb : ∀ env y, foldedSetIterable ib env y = pure y := by intro _ _; rfl) :
    PS X (.Assign [.Name y py] (two kx vx ta ia fa tb ib fb sc ps) spos) (tAsg (tDc2 wa ga ra wb gb rb tk tv (own.map (·.2)) us) (gName i)) := by
  constructor
  intro pins s σ H Ed I h
  rw [exec_Assign_Name_used y py _ _ hsw]
  apply wpAny_bind
  apply wpAny_standAt
  apply wpAny_bind
  show wpAny _ X.A (comprehension (two kx vx ta ia fa tb ib fb sc ps) sc X.env (firstIterPos [⟨ta, ia, fa, 0⟩, ⟨tb, ib, fb, 0⟩] ps) newDict false (eval ia X.env) (some (assign (.Name y py) X.env)) >>= fun _ => pure ()) _ _ s
  apply wpAny_bind
  have h' : tDc2 wa ga ra wb gb rb tk tv (own.map (·.2)) us σ H (fun x H1 => gName i x σ H1 Ed.nx) := h
  refine thn (dc2_run (Qf := fun _ s1 => SP X pins Ed .next s1) calm nd I pa ok sub pga pra pb pgb prb pk pv' hfa hfb h' ?_) (fun _ _ z => wpAny_pure (wpAny_pure z))
  intro L C s1 m H1 I1 q hn ff
  obtain ⟨f0, f1, f2, f3, f4, f5⟩ := ff
  show wpAny _ _ (assign (.Name y py) X.env (.ref L)) _ _ _
  apply wpAny_assign_Name
  refine store_ok2 (v := V.ref L) I1 nd hy (.inl hyl) rfl ?_ (.inr hyl)
  rintro s2 I2 ⟨ad, sb, had⟩
  have hne : C ≠ ad := by
    rcases had with hz | hz
    · exact fun e => f1 (e.trans hz)
    · exact fun e => f4 y ad hz e.symm
  refine ⟨m, hn.sameBut sb hne, fun h3 sb3 => ⟨_, H1, ?_, q⟩⟩
  exact I2.turned (t' := s2.toks) (fun b o hb e => (sb3.2 b hb).trans e) f0 f1 f3 f4 f5
theorem pi_listK {K : PySem.W.Frag} {l tg : Expr} {tl : TE} (hK : X.K = K) (hl : PE X l tl) : PI X tg l (iList K tl) := hK ▸ pi_list hl
end
/-! ### its steps -/
section
variable {K : PySem.W.Frag} {σ : L2.St} {H : Hp} {Q : VK}
def Dc2P (J : It) (ga : TG) (ra : TT) (wb : TI) (gb : TG) (rb : TT) (tk tv : TE) (os us : List Nat) (Q : VK) (σ : L2.St) (H1 : Hp) : Prop := ∀ D, H1 D = none → ∃ W : Nat → Nat → Hp → Prop, (∃ m, W 0 m (upd H1 D (.dK []))) ∧ ∀ i m H2, W i m H2 →
  (J.stop i H2 ∧ Q (.ref D) H2) ∨ (J.go i H2 ∧ ∃ Nx : Hp → Prop, (∀ H3, Nx H3 → ∃ m', m' < m ∧ W (i + 1) m' H3) ∧ ∀ x H3, J.yld i H2 x H3 → ga x (wipe σ os) H3 fun σ2 H4 => wipe σ2 os = wipe σ os ∧ ra σ2 H4 fun b H5 =>
    if b = true then wb σ2 H5 fun J1 H6 => Inner2 J1 gb rb tk tv us D σ2 H6 Nx else Nx H5)
theorem w_dc2 {wa wb : TI} {ga gb : TG} {ra rb : TT} {tk tv : TE} {os us : List Nat} (h : wa σ H fun J H1 => Dc2P J ga ra wb gb rb tk tv os us Q σ H1) : tDc2 wa ga ra wb gb rb tk tv os us σ H Q := h
theorem dc2_it {J : It} {n : Nat} {G : Hp → Prop} {Y : Nat → Hp → V → Hp → Prop} (w : Walk J n G Y) {wb : TI} {ga gb : TG} {ra rb : TT} {tk tv : TE} {os us : List Nat} (Pv : Addr → Nat → Hp → Prop) (h0 : ∀ D, H D = none → Pv D 0 (upd H D (.dK []))) (hG : ∀ D i H1, i ≤ n → Pv D i H1 → G H1)
    (hs : ∀ D i x H1 H2, H D = none → i < n → Pv D i H1 → Y i H1 x H2 → ga x (wipe σ os) H2 fun σ2 H4 => wipe σ2 os = wipe σ os ∧ ra σ2 H4 fun b H5 => if b = true then wb σ2 H5 fun J1 H6 => Inner2 J1 gb rb tk tv us D σ2 H6 (Pv D (i + 1)) else Pv D (i + 1) H5)
    (hd : ∀ D H1, H D = none → Pv D n H1 → Q (.ref D) H1) : Dc2P J ga ra wb gb rb tk tv os us Q σ H := by
  intro D hD
  refine ⟨fun i m H1 => m = n - i ∧ i ≤ n ∧ Pv D i H1, ⟨n, by simp, Nat.zero_le _, h0 D hD⟩, ?_⟩
  rintro i m H1 ⟨rfl, hi, p⟩
  by_cases lt : i < n
  · exact .inr ⟨w.goes i H1 lt (hG D i H1 hi p), Pv D (i + 1), fun H3 q => ⟨n - (i + 1), by omega, rfl, lt, q⟩, fun x H2 y => hs D i x H1 H2 hD lt p (w.yields i H1 x H2 lt (hG D i H1 hi p) y)⟩
  · have e : i = n := by omega
    subst e
    exact .inl ⟨w.stops H1 (hG D i H1 hi p), hd D H1 hD p⟩
theorem inner_it {J : It} {n : Nat} {G : Hp → Prop} {Y : Nat → Hp → V → Hp → Prop} (w : Walk J n G Y) {gb : TG} {rb : TT} {tk tv : TE} {us : List Nat} {D : Addr} {Nx : Hp → Prop} (Pv : Nat → Hp → Prop) (h0 : Pv 0 H) (hG : ∀ i H1, i ≤ n → Pv i H1 → G H1)
    (hs : ∀ i x H1 H2, i < n → Pv i H1 → Y i H1 x H2 → gb x (wipe σ us) H2 fun σ3 H3 => wipe σ3 us = wipe σ us ∧ rb σ3 H3 fun b H4 =>
      if b = true then tk σ3 H4 fun y H5 => tv σ3 H5 fun z H6 => ∃ kvs key, y = kV key ∧ H6 D = some (.dK kvs) ∧ kvs.length < sizeLine ∧ Pv (i + 1) (upd H6 D (.dK (putK kvs key z))) else Pv (i + 1) H4)
    (hd : ∀ H1, Pv n H1 → Nx H1) : Inner2 J gb rb tk tv us D σ H Nx := by
  refine ⟨fun i m H1 => m = n - i ∧ i ≤ n ∧ Pv i H1, ⟨n, by simp, Nat.zero_le _, h0⟩, ?_⟩
  rintro i m H1 ⟨rfl, hi, p⟩
  by_cases lt : i < n
  · exact .inr ⟨w.goes i H1 lt (hG i H1 hi p), Pv (i + 1), fun H3 q => ⟨n - (i + 1), by omega, rfl, lt, q⟩, fun x H2 y => hs i x H1 H2 lt p (w.yields i H1 x H2 lt (hG i H1 hi p) y)⟩
  · have e : i = n := by omega
    subst e
    exact .inl ⟨w.stops H1 (hG i H1 hi p), hd H1 p⟩
/-- a comprehension with a test: the turn i gives sel i, or nothing -/
theorem lcp_sel {J : It} {n : Nat} {G : Hp → Prop} {Y : Nat → Hp → V → Hp → Prop} (w : Walk J n G Y) {g : TG} {tt : TT} {te : TE} {vs : List Nat} (M : List Addr) (sel : Nat → Option V) (hz : n ≤ 1000000) (hG : ∀ H', Kp M H H' → G H')
    (hs : ∀ i x H1 H2 (R : V → Hp → Prop) (R0 : Hp → Prop), i < n → Kp M H H1 → Y i H1 x H2 → (∀ y H4, sel i = some y → Kp M H1 H4 → R y H4) → (∀ H4, sel i = none → Kp M H1 H4 → R0 H4) → g x (wipe σ vs) H2 fun σ2 H3 => wipe σ2 vs = wipe σ vs ∧ tt σ2 H3 fun b H4 => if b = true then te σ2 H4 R else R0 H4)
    (hM : ∀ b ∈ M, ∃ o, H b = some o)
    (hd : ∀ D H', H D = none → Kp M H H' → H' D = some (.lst ((List.range n).filterMap sel)) → Q (.ref D) H') : LcP J g tt te vs Q σ H := by
  intro D hD
  have hDM : D ∉ M := fun z => by obtain ⟨o, e⟩ := hM D z; rw [hD] at e; cases e
  refine lc_it w (fun i H' => Kp M H H' ∧ H' D = some (.lst ((List.range i).filterMap sel))) ⟨Kp.new hD, upd_same⟩ (fun i H' _ z => hG H' z.1) ?_ ?_
  · rintro i x H1 H2 hi ⟨k1, e1⟩ y
    refine hs i x H1 H2 _ _ hi k1 y ?_ ?_
    · intro z H4 hz' k4
      refine ⟨_, k4 _ _ hDM e1, ?_, (k1.trans k4).mutN hD, ?_⟩
      · refine Nat.lt_of_le_of_lt (List.length_filterMap_le _ _) ?_
        rw [List.length_range]
        exact Nat.lt_of_lt_of_le (Nat.lt_of_lt_of_le hi hz) (by decide)
      · rw [upd_same, List.range_succ, List.filterMap_append]
        simp [hz']
    · intro H4 hz' k4
      refine ⟨k1.trans k4, ?_⟩
      rw [k4 _ _ hDM e1, List.range_succ, List.filterMap_append]
      simp [hz']
  · rintro H' ⟨k, e⟩
    exact hd D H' hD k e
/-- {k: v for .. if ..}: the turn i puts sel i, or nothing -/
theorem dcp_sel {J : It} {n : Nat} {G : Hp → Prop} {Y : Nat → Hp → V → Hp → Prop} (w : Walk J n G Y) {g : TG} {tt : TT} {tk tv : TE} {vs : List Nat} (M : List Addr) (sel : Nat → Option (Key × V)) (hz : n ≤ 1000000) (hG : ∀ H', Kp M H H' → G H')
    (hs : ∀ i x H1 H2 (R : V → V → Hp → Prop) (R0 : Hp → Prop), i < n → Kp M H H1 → Y i H1 x H2 → (∀ e H4, sel i = some e → Kp M H1 H4 → R (kV e.1) e.2 H4) → (∀ H4, sel i = none → Kp M H1 H4 → R0 H4) → g x (wipe σ vs) H2 fun σ2 H3 => wipe σ2 vs = wipe σ vs ∧ tt σ2 H3 fun b H4 => if b = true then tk σ2 H4 fun y H5 => tv σ2 H5 fun z H6 => R y z H6 else R0 H4)
    (hM : ∀ b ∈ M, ∃ o, H b = some o)
    (hd : ∀ D H', H D = none → Kp M H H' → H' D = some (.dK (mergeK [] ((List.range n).filterMap sel))) → Q (.ref D) H') : DcP J g tt tk tv vs Q σ H := by
  intro D hD
  have hDM : D ∉ M := fun z => by obtain ⟨o, e⟩ := hM D z; rw [hD] at e; cases e
  refine ⟨fun i m H' => m = n - i ∧ i ≤ n ∧ Kp M H H' ∧ H' D = some (.dK (mergeK [] ((List.range i).filterMap sel))), ⟨n, by simp, Nat.zero_le _, Kp.new hD, upd_same⟩, ?_⟩
  rintro i m H1 ⟨rfl, hi, k1, e1⟩
  by_cases hlt : i < n
  · refine .inr ⟨w.goes i H1 hlt (hG _ k1), fun H' => Kp M H H' ∧ H' D = some (.dK (mergeK [] ((List.range (i + 1)).filterMap sel))), fun H' z => ⟨n - (i + 1), by omega, rfl, hlt, z.1, z.2⟩, fun x H2 y => ?_⟩
    refine hs i x H1 H2 (fun y z H5 => ∃ kvs k, y = kV k ∧ H5 D = some (.dK kvs) ∧ kvs.length < sizeLine ∧ (Kp M H (upd H5 D (.dK (putK kvs k z))) ∧ (upd H5 D (.dK (putK kvs k z))) D = some (.dK (mergeK [] ((List.range (i + 1)).filterMap sel))))) _ hlt k1 (w.yields i H1 x H2 hlt (hG _ k1) y) ?_ ?_
    · intro e H4 he k4
      refine ⟨_, e.1, rfl, k4 _ _ hDM e1, ?_, (k1.trans k4).mutN hD, ?_⟩
      · have h1 := mergeK_len ((List.range i).filterMap sel) []
        have h2 : ((List.range i).filterMap sel).length ≤ i := by
          have := List.length_filterMap_le sel (List.range i)
          rw [List.length_range] at this
          exact this
        exact Nat.lt_of_le_of_lt (Nat.le_trans h1 (show _ ≤ 1000000 by simp only [List.length_nil]; omega)) (by decide)
      · rw [upd_same, List.range_succ, List.filterMap_append]
        simp only [List.filterMap_cons, he, List.filterMap_nil]
        rw [mergeK_snoc]
    · intro H4 he k4
      refine ⟨k1.trans k4, ?_⟩
      rw [k4 _ _ hDM e1, List.range_succ, List.filterMap_append]
      simp [he]
  · have e : i = n := by omega
    subst e
    exact .inl ⟨w.stops H1 (hG _ k1), hd D H1 hD k1 e1⟩
/-! ### a dict that is walked; any, sorted, insert -/
def rInsert : V → List V → Hp → VK → Prop := fun x vs H Q => ∃ (l : Addr) (xs : List V) (i : Int) (y : V), x = .ref l ∧ vs = [.int i, y] ∧ H l = some (.lst xs) ∧ xs.length < sizeLine ∧ 0 ≤ i ∧ i < 2 ^ 63 ∧ Q .non (upd H l (.lst (xs.take i.toNat ++ [y] ++ xs.drop i.toNat)))
theorem w_any {p : Addr} {bs : List Bool} (h1 : SqL K H p (bs.map V.bl)) (h : Q (.bl (bs.any id)) H) : rAny K [.ref p] H Q := ⟨p, bs, rfl, h1, h⟩
theorem w_sorted {p : Addr} {ns : List Int} (h1 : SqL K H p (ns.map V.int)) (h2 : ns.length < 64) (h : ∀ (ys : List Int) l H1, ys.Perm ns → ys.Pairwise (· ≤ ·) → H l = none → H1 l = some (.lst (ys.map V.int)) → Same H H1 → Q (.ref l) H1) : rSorted K [.ref p] H Q :=
  ⟨p, ns, rfl, h1, h2, fun ys l a b c => h ys l _ a b c upd_same (Same.new c)⟩
section
variable {nx bk ct : L2.St → Hp → Prop} {rt : VK}
theorem w_lock {t : TS} {d : Addr} {kvs : List (Key × V)} (e : H d = some (.dK kvs)) (h : ∀ od H1, H1 d = some (.frz od (.dK kvs)) → Off d H H1 → t ⟨fun σ' H' => H' d = some (.frz od (.dK kvs)) ∧ nx σ' (upd H' d (.dK kvs)), fun v H' => H' d = some (.frz od (.dK kvs)) ∧ rt v (upd H' d (.dK kvs)), fun σ' H' => H' d = some (.frz od (.dK kvs)) ∧ bk σ' (upd H' d (.dK kvs)), fun σ' H' => H' d = some (.frz od (.dK kvs)) ∧ ct σ' (upd H' d (.dK kvs))⟩ σ H1) : tLock t ⟨nx, rt, bk, ct⟩ σ H :=
  ⟨d, _, e, trivial, fun od => h od _ upd_same fun x hx => upd_ne hx⟩
/-- behind the walk the dict is as it was -/
theorem unlock {d : Addr} {kvs : List (Key × V)} {H' : Hp} {R : Hp → Prop} {o : Obj} (e : H' d = some (.frz o (.dK kvs))) (h : ∀ H2, H2 d = some (.dK kvs) → Off d H' H2 → R H2) : H' d = some (.frz o (.dK kvs)) ∧ R (upd H' d (.dK kvs)) := ⟨e, h _ upd_same fun x hx => upd_ne hx⟩
def rKeys (x : V) (H1 : Hp) (R : It → Hp → Prop) : Prop := ∃ d o, x = .ref d ∧ ((∃ kvs, H1 d = some (.frz o (.dK kvs)) ∧ R (Itk d o kvs) H1) ∨ ∃ kvs, H1 d = some (.frz o (.dT kvs)) ∧ R (Itkt d o kvs) H1)
theorem w_keys {td : TE} {R : It → Hp → Prop} (h : td σ H fun x H1 => rKeys x H1 R) : iKeys td σ H R := h
theorem w_keys' {d : Addr} {o : Obj} {kvs : List (Key × V)} {R : It → Hp → Prop} (e : H d = some (.frz o (.dK kvs))) (h : R (Itk d o kvs) H) : rKeys (.ref d) H R := ⟨d, o, rfl, .inl ⟨kvs, e, h⟩⟩
theorem lp_keys {d : Addr} {o : Obj} {kvs : List (Key × V)} {ks : List Int} {g : TG} {tb : TS} (hk : kvs.map (·.1) = ks.map (Sum.inl : Int → Key)) (Pv : Nat → L2.St → Hp → Prop) (h0 : Pv 0 σ H) (hl : ∀ i σ H, i ≤ ks.length → Pv i σ H → H d = some (.frz o (.dK kvs)))
    (hs : ∀ i x σ H, ks[i]? = some x → Pv i σ H → g (.int x) σ H fun σ2 H2 => tb ⟨Pv (i + 1), rt, nx, Pv (i + 1)⟩ σ2 H2) (hd : ∀ σ H, Pv ks.length σ H → nx σ H) : Lp (Itk d o kvs) g tb ⟨nx, rt, bk, ct⟩ σ H := by
  have hn : kvs.length = ks.length := by
    have := congrArg List.length hk
    simpa using this
  refine lp_it walk_keys Pv h0 (fun i σ H hi => hl i σ H (by omega)) ?_ (by rw [hn]; exact hd)
  rintro i x σ H H' hi p ⟨rfl, k, v, e, rfl⟩
  have e2 : (kvs.map (·.1))[i]? = some k := by rw [List.getElem?_map, e]; rfl
  rw [hk, List.getElem?_map] at e2
  obtain ⟨z, e3, rfl⟩ := Option.map_eq_some_iff.mp e2
  exact hs i z σ H' e3 p
end
theorem w_tyes {R : Bool → Hp → Prop} (h : R true H) : tYes σ H R := h
theorem w_dinF {a : Addr} {o : Obj} {kvs : List (Key × V)} {n : Int} (e : H a = some (.frz o (.dK kvs))) (h : Q (.bl (valV kvs (Sum.inl n)).isSome) H) : rDIn (.ref a) (.int n) H Q := ⟨a, _, rfl, .inl ⟨kvs, Sum.inl n, .inr ⟨o, e⟩, rfl, rfl⟩, h⟩
theorem w_dgetF {a : Addr} {o : Obj} {kvs : List (Key × V)} {n : Int} {v : V} (e : H a = some (.frz o (.dK kvs))) (e2 : valV kvs (Sum.inl n) = some v) (h : Q v H) : rDGet (.ref a) (.int n) H Q := ⟨a, v, rfl, .inl ⟨kvs, Sum.inl n, .inr ⟨o, e⟩, rfl, e2.symm⟩, h⟩
/-! ### get, reversed, slices, pop -/
def rDGet1 (a : Addr) (y : V) (H : Hp) (Q : VK) : Prop := ∃ o, DGet H a y o ∧ Q (o.getD .non) H
theorem w_dget1 {td ty : TE} (h : td σ H fun x H1 => rIsD x H1 fun a H1 => ty σ H1 fun y H2 => rDGet1 a y H2 Q) : tDGet1 td ty σ H Q := h
theorem w_dget1I {a : Addr} {kvs : List (Key × V)} {n : Int} (e : H a = some (.dK kvs)) (h : Q ((valV kvs (Sum.inl n)).getD .non) H) : rDGet1 a (.int n) H Q := ⟨_, DGet.k (k := Sum.inl n) e, h⟩
def rRev (K : PySem.W.Frag) (vs : List V) (H : Hp) (R : It → Hp → Prop) : Prop := ∃ (a : Addr) (xs : List V), vs = [.ref a] ∧ SqL K H a xs ∧ R (Itv K a xs.length) H
theorem w_rev {ta : TA} {R : It → Hp → Prop} (h : ta σ H fun vs H1 => rRev K vs H1 R) : iRev K ta σ H R := h
theorem w_rev' {a : Addr} {xs : List V} {R : It → Hp → Prop} (h1 : SqL K H a xs) (h : R (Itv K a xs.length) H) : rRev K [.ref a] H R := ⟨a, xs, rfl, h1, h⟩
theorem lp_rev {nx bk ct : L2.St → Hp → Prop} {rt : VK} {a : Addr} {xs : List V} {g : TG} {tb : TS} (Pv : Nat → L2.St → Hp → Prop) (h0 : Pv 0 σ H) (hl : ∀ i σ H, i ≤ xs.length → Pv i σ H → SqL K H a xs)
    (hs : ∀ i x σ H, i < xs.length → xs[xs.length - 1 - i]? = some x → Pv i σ H → g x σ H fun σ2 H2 => tb ⟨Pv (i + 1), rt, nx, Pv (i + 1)⟩ σ2 H2) (hd : ∀ σ H, Pv xs.length σ H → nx σ H) : Lp (Itv K a xs.length) g tb ⟨nx, rt, bk, ct⟩ σ H := by
  refine lp_it walk_rev Pv h0 hl ?_ hd
  rintro i x σ H H' hi p ⟨rfl, e⟩
  exact hs i x σ H' hi e p
def rPart (x : V) (H : Hp) (R : Option Int → Hp → Prop) : Prop := ∃ i, x = .int i ∧ R (some i) H
theorem w_slice {r : V → Option Int → Option Int → Hp → VK → Prop} {te : TE} {tl th : TO} (h : te σ H fun x H1 => tl σ H1 fun l H2 => th σ H2 fun u H3 => r x l u H3 Q) : L2.tSl r te tl th σ H Q := h
theorem w_noPart {R : Option Int → Hp → Prop} (h : R none H) : tNoPart σ H R := h
theorem w_part {te : TE} {R : Option Int → Hp → Prop} (h : te σ H fun x H1 => rPart x H1 R) : tPart te σ H R := h
theorem w_part' {i : Int} {R : Option Int → Hp → Prop} (h : R (some i) H) : rPart (.int i) H R := ⟨i, rfl, h⟩
theorem w_slL {a : Addr} {xs : List V} {lo hi : Option Int} (h1 : SqL K H a xs) (h : ∀ p H1, H p = none → H1 p = some (.lst (cutV xs lo hi)) → Same H H1 → Q (.ref p) H1) : rSlL K (.ref a) lo hi H Q := ⟨a, xs, rfl, h1, w_new h⟩
theorem cut_last (xs : List V) : cutV xs none (some (-1)) = xs.dropLast := by
  show ((xs.drop 0).take ((if (-1 : Int) < 0 then ((-1 : Int) + (xs.length : Int)).toNat else min (-1 : Int).toNat xs.length) - 0)) = xs.dropLast
  rw [if_pos (by decide), List.drop_zero, List.dropLast_eq_take]
  congr 1
  omega
theorem w_bm0 {r : V → List V → Hp → VK → Prop} {to : TE} (h : to σ H fun x H1 => tyV K "list" x H1 ∧ r x [] H1 Q) : tBM0 K "list" r to σ H Q := h
theorem w_pop {l : Addr} {xs : List V} {y : V} (h1 : H l = some (.lst (xs ++ [y]))) (h : ∀ H1, H1 l = some (.lst xs) → Off l H H1 → Q y H1) : rPop (.ref l) [] H Q :=
  ⟨l, _, y, rfl, rfl, h1, by simp, by rw [List.dropLast_concat]; exact h _ upd_same fun x hx => upd_ne hx⟩
theorem w_retN {nx bk ct : L2.St → Hp → Prop} {rt : VK} (h : rt .non H) : tRetN ⟨nx, rt, bk, ct⟩ σ H := h
theorem range_fm {α β : Type} (f : α → Option β) : ∀ xs : List α, (List.range xs.length).filterMap (fun i => xs[i]?.bind f) = xs.filterMap f
  | [] => rfl
  | x :: r => by
    rw [List.length_cons, List.range_succ_eq_map, List.filterMap_cons, List.filterMap_map, List.filterMap_cons]
    have h := range_fm f r
    show (match f x with | none => List.filterMap (fun i => r[i]?.bind f) (List.range r.length) | some b => b :: List.filterMap (fun i => r[i]?.bind f) (List.range r.length)) = _
    rw [h]
    cases f x <;> rfl
end
end FW

set_option Elab.async false
set_option linter.all false
set_option maxRecDepth 100000
set_option maxHeartbeats 4000000
/-! Data of any kind: what isinstance says of them, and tuples of them to a depth. -/
namespace FW
open PySem PySem.Spec PyProof.Rows L2
inductive Ty (H : Hp) : V → String → Prop where
  | non : Ty H .non "NoneType"
  | bl (b : Bool) : Ty H (.bl b) "bool"
  | int (i : Int) : Ty H (.int i) "int"
  | str (z : Str) : Ty H (.str z) "str"
  | lst {a : Addr} {xs : List V} (e : H a = some (.lst xs)) : Ty H (.ref a) "list"
  | tup {a : Addr} {xs : List V} (e : H a = some (.tup xs)) : Ty H (.ref a) "tuple"
  | dK {a : Addr} {kvs : List (Key × V)} (e : H a = some (.dK kvs)) : Ty H (.ref a) "dict"
section
variable {K : PySem.W.Frag} {σ : L2.St} {H : Hp} {Q : VK} {x : V} {a : String}
theorem Ty.tx (t : Ty H x a) : TyX K H x (.type a) := by
  cases t with
  | non => exact .base .non
  | bl b => exact .base (.bl b)
  | int i => exact .base (.int i)
  | str z => exact .base (.str z)
  | lst e => exact .base (.lst e)
  | tup e => exact .base (.tup e)
  | dK e => exact .base (.dK e)
theorem Ty.kTup (t : Ty H x a) : kitB a "tuple" = some (decide (a = "tuple")) := by
  cases t with
  | non => exact kb_NoneType_tuple
  | bl b => exact kb_bool_tuple
  | int i => exact kb_int_tuple
  | str z => exact kb_str_tuple
  | lst e => exact kb_list_tuple
  | tup e => exact kb_tuple_tuple
  | dK e => exact kb_dict_tuple
theorem Ty.kInt (t : Ty H x a) : kitB a "int" = some (decide (a = "int") || decide (a = "bool")) := by
  cases t with
  | non => exact kb_NoneType_int
  | bl b => exact kb_bool_int
  | int i => exact kb_int_int
  | str z => exact kb_str_int
  | lst e => exact kb_list_int
  | tup e => exact kb_tuple_int
  | dK e => exact kb_dict_int
theorem Ty.kBool (t : Ty H x a) : kitB a "bool" = some (decide (a = "bool")) := by
  cases t with
  | non => exact kb_NoneType_bool
  | bl b => exact kb_bool_bool
  | int i => exact kb_int_bool
  | str z => exact kb_str_bool
  | lst e => exact kb_list_bool
  | tup e => exact kb_tuple_bool
  | dK e => exact kb_dict_bool
theorem w_isTup (t : Ty H x a) (h : Q (.bl (decide (a = "tuple"))) H) : rIsi K [x, .ty "tuple"] H Q := w_isi t.tx t.kTup h
theorem w_isInt (t : Ty H x a) (h : Q (.bl (decide (a = "int") || decide (a = "bool"))) H) : rIsi K [x, .ty "int"] H Q := w_isi t.tx t.kInt h
theorem w_isBool (t : Ty H x a) (h : Q (.bl (decide (a = "bool"))) H) : rIsi K [x, .ty "bool"] H Q := w_isi t.tx t.kBool h
theorem Ty.isInt (t : Ty H x a) (e : a = "int") : ∃ i, x = .int i := by
  cases t with
  | int i => exact ⟨i, rfl⟩
  | non => exact absurd e (by decide)
  | bl _ => exact absurd e (by decide)
  | tup _ => exact absurd e (by decide)
  | str _ => exact absurd e (by decide)
  | lst _ => exact absurd e (by decide)
  | dK _ => exact absurd e (by decide)
theorem Ty.ofInt {i : Int} (t : Ty H (.int i) a) : a = "int" := by
  cases t with
  | int i => rfl
theorem Ty.ofTup {p : Addr} {xs : List V} (t : Ty H (.ref p) a) (e : H p = some (.tup xs)) : a = "tuple" := by
  cases t with
  | tup h => rfl
  | lst h => rw [e] at h; cases h
  | dK h => rw [e] at h; cases h
end
/-- data: a tuple of data, or another thing -/
inductive Dat (B : Nat) (H : Hp) : V → Prop where
  | leaf {x : V} {a : String} (t : Ty H x a) (h : a ≠ "tuple") : Dat B H x
  | tup {p : Addr} {xs : List V} (e : H p = some (.tup xs)) (l : xs.length ≤ B) (h : ∀ y ∈ xs, Dat B H y) : Dat B H (.ref p)
theorem Dat.int {B : Nat} {H : Hp} {i : Int} : Dat B H (.int i) := .leaf (.int i) (by decide)
theorem Dat.ty {B : Nat} {H : Hp} {x : V} (h : Dat B H x) : ∃ a, Ty H x a := by
  cases h with
  | leaf t _ => exact ⟨_, t⟩
  | tup e _ _ => exact ⟨_, .tup e⟩
/-- what keeps tuples, and of lists and dicts their kind -/
structure KD (H H' : Hp) : Prop where
  t : KT H H'
  l : ∀ b xs, H b = some (.lst xs) → ∃ ys, H' b = some (.lst ys)
  d : ∀ b kvs, H b = some (.dK kvs) → ∃ kws, H' b = some (.dK kws)
theorem KD.of {H H' : Hp} (k : Same H H') : KD H H' := ⟨KT.of k, fun b xs e => ⟨xs, k _ _ e⟩, fun b kvs e => ⟨kvs, k _ _ e⟩⟩
theorem KD.refl {H : Hp} : KD H H := ⟨KT.refl, fun b xs e => ⟨xs, e⟩, fun b kvs e => ⟨kvs, e⟩⟩
theorem KD.trans {H H1 H2 : Hp} (a : KD H H1) (b : KD H1 H2) : KD H H2 := ⟨a.t.trans b.t, fun c xs e => by
  obtain ⟨ys, e⟩ := a.l c xs e
  exact b.l c ys e, fun c xs e => by
  obtain ⟨ys, e⟩ := a.d c xs e
  exact b.d c ys e⟩
theorem KD.off {p : Addr} {H H' : Hp} {xs ys : List V} (k : Off p H H') (e : H p = some (.lst xs)) (e' : H' p = some (.lst ys)) : KD H H' := ⟨KT.off k e, fun b zs h => by
  by_cases q : b = p
  · subst q; exact ⟨ys, e'⟩
  · exact ⟨zs, k.get q h⟩, fun b kvs h => ⟨kvs, k.get (ne_of h e (fun z => nomatch z)) h⟩⟩
theorem Ty.kd {H H' : Hp} {x : V} {a : String} (t : Ty H x a) (k : KD H H') : Ty H' x a := by
  cases t with
  | non => exact .non
  | bl b => exact .bl b
  | int i => exact .int i
  | str z => exact .str z
  | lst e => obtain ⟨ys, e⟩ := k.l _ _ e; exact .lst e
  | tup e => exact .tup (k.t _ _ e)
  | dK e => obtain ⟨ys, e⟩ := k.d _ _ e; exact .dK e
theorem Dat.kd {B : Nat} {H H' : Hp} {x : V} (h : Dat B H x) (k : KD H H') : Dat B H' x := by
  induction h with
  | leaf t h => exact .leaf (t.kd k) h
  | tup e l _ ih => exact .tup (k.t _ _ e) l fun y hy => ih y hy
theorem Dat.mono {B C : Nat} (hB : B ≤ C) {H : Hp} {x : V} (h : Dat B H x) : Dat C H x := by
  induction h with
  | leaf t h => exact .leaf t h
  | tup e l _ ih => exact .tup e (Nat.le_trans l hB) fun y hy => ih y hy
theorem Dat.cases {B : Nat} {H : Hp} {x : V} (h : Dat B H x) : (∃ a, Ty H x a ∧ a ≠ "tuple") ∨ ∃ (p : Addr) (xs : List V), x = .ref p ∧ H p = some (.tup xs) ∧ xs.length ≤ B ∧ ∀ y ∈ xs, Dat B H y := by
  cases h with
  | leaf t h => exact .inl ⟨_, t, h⟩
  | tup e l h => exact .inr ⟨_, _, rfl, e, l, h⟩
theorem Deck.kd {H H' : Hp} {d c : Addr} {n m : Nat} (D : Deck H d c n) (D' : Deck H' d c m) (o : Off d H H') : KD H H' := by
  obtain ⟨⟨xs, e⟩, _⟩ := D.at
  obtain ⟨⟨ys, e'⟩, _⟩ := D'.at
  exact KD.off o e e'
section
variable {K : PySem.W.Frag} {H : Hp} {Q : VK}
theorem w_catAt {a b : Addr} {xs ys : List V} (h1 : H a = some (.tup xs)) (h2 : H b = some (.tup ys)) (hz : xs.length + ys.length ≤ sizeLine) (h : ∀ p H1, H1 p = some (.tup (xs ++ ys)) → Same H H1 → Q (.ref p) H1) : rCatA K (.ref a) (.ref b) H Q := by
  refine ⟨a, b, xs, ys, rfl, rfl, .of h1, .of h2, hz, fun e => ?_, fun _ e => ?_, fun _ _ p hp => h p _ upd_same (Same.new hp)⟩
  · subst e
    exact h b H h2 (fun _ _ z => z)
  · subst e
    exact h a H (by rw [List.append_nil]; exact h1) (fun _ _ z => z)
end
/-! ### except X as e -/
def tTryA (K : PySem.W.Frag) (c : Value) (i : Nat) (tb : WX → TS) (ts : Addr → Value → Option Addr → TS) : TS := fun D σ H => tb (wAs K c i ts (fun _ _ _ _ => False) D) D σ H
def tGuard (P : Prop) (t : TS) : TS := fun D σ H => P ∧ t D σ H
section
variable {X : Cx} {x n : Str} {c : Value} {i : Nat} {body suite : List Stmt} {b₀ : Stmt} {np pos pos' : Pos} {tb : WX → TS} {ts : Addr → Value → Option Addr → TS}
end
section
variable {K : PySem.W.Frag} {σ : L2.St} {H : Hp} {Q : VK} {nx bk ct : L2.St → Hp → Prop} {rt : VK}
end
end FW

set_option Elab.async false
set_option linter.all false
set_option maxRecDepth 100000
set_option maxHeartbeats 4000000
/-! own errors with fields: made, caught, looked at; min of pairs; defaults by keyword -/
namespace FW
section
open PySem PySem.W PySem.Calls PyProof.Rows
variable {prog : Program} {w : World} {A : Around} {E : Value → Shared → Prop} {s : Shared} {K : Frag} {x D : Addr} {ox : Obj} {od : Option Obj}
end
open PySem PySem.Spec PyProof.Rows L2
/-- isinstance(e, c), e the error that the suite holds, with its fields at d -/
def rIsF (K : PySem.W.Frag) (D a : Addr) (d : Option Addr) : List V → Hp → VK → Prop := fun xs H Q => ∃ (c : V) (cv : Value) (b : Bool) (dd : Addr) (fs : List (Str × V)), xs = [.ref a, c] ∧ d = some dd ∧ H dd = some (.xd fs) ∧ (∀ u, RelV c u → u = cv) ∧ PySem.W.kitOne K (.ref D) cv = some b ∧ Q (.bl b) H
/-- an own error with __init__ -/
structure ExnI (K : PySem.W.Frag) (mg : Str → Option Value) (x : Str) (C fI : Addr) (fd : FuncData) (ps : List Str) (fs : List Str) : Prop where
  g : mg x = some (.ref C)
  T : OexC K C
  i : PySem.W.findIn K (.ref C) "__init__" = some (some (.ref fI))
  t : PySem.W.typeIn K (.ref fI) = some (.type "function")
  b : Binds K fd ps []
  f : XfC K C
  ec : ExcC K C
  nf : ∀ y ∈ fs, PySem.W.findIn K (.ref C) y = some none
/-- a def with keyword-only defaults -/
structure DfK (K : PySem.W.Frag) (mg : Str → Option Value) (x : Str) (st : Stmt) (ps : List Str) (kws : List (Str × V)) (dvs : List V) (f : Addr) (fd : FuncData) : Prop where
  fn : FunD K x x (defArgs st) (defBody st) (defScope st) [] kws f fd
  g : mg x = some (.ref f)
  kp : PySem.W.keepIn K (.ref f) = true
  b : ∃ ds, Vals dvs ds ∧ Binds K fd ps ds
  kb : ∃ g, KBn K fd ps (ps.length - kws.length) (kws.map (·.1)) g (fun vs zs => vs ++ zs)
/-- raise C(..) of two fields -/
def tRaiseO (C : Addr) (W : WX) (sp : Sp) (ta : TA) : TS := fun _ σ H => tMkO C sp [] ta σ H fun cls d H' => W cls d σ H'
section
variable {K : PySem.W.Frag} {σ : L2.St} {H : Hp} {Q : VK} {nx bk ct : L2.St → Hp → Prop} {rt : VK}
theorem w_mkO {C : Addr} {sp : Sp} {ta : TA} {Qx : XK} (h : ta σ H fun vs H1 => vs.length ≤ 1000 ∧ ∀ a, H1 a = none → sp (.ref a :: (vs ++ [])) (upd H1 a (exo a C none)) (fun v H2 => v = .non ∧ ∃ (d : Addr) (fs : List (Str × V)), H2 a = some (exo a C (some d)) ∧ H2 d = some (exd d fs) ∧ H1 d = none ∧ Qx (.ref C) (some d) (upd (del H2 a) d (.xd fs))) (fun _ _ _ => False)) : tMkO C sp [] ta σ H Qx := h
theorem w_callN {n m : Nat} {sp : Sp} {gV : List V → List V → List V} {E : XK} {t tk : TA} (h : t σ H fun vs H1 => tk σ H1 fun zs H2 => vs.length = n ∧ zs.length = m ∧ sp (gV vs zs) H2 Q E) : tCallN n m sp gV E t tk σ H Q := h
theorem w_ost {f : Str} {to te : TE} {D : Ends} (h : te σ H fun y H1 => to σ H1 fun x H2 => ∃ a C : Addr, x = .ref a ∧ OexC K C ∧ PySem.W.findIn K (.ref C) f = some none ∧ ((H2 a = some (exo a C none) ∧ ∀ dx, H2 dx = none → dx ≠ a → D.nx σ (upd (upd H2 dx (exd dx [(f, y)])) a (exo a C (some dx)))) ∨ ∃ (dx : Addr) (fs : List (Str × V)), H2 a = some (exo a C (some dx)) ∧ H2 dx = some (exd dx fs) ∧ fs.length ≤ 900 ∧ D.nx σ (upd H2 dx (exd dx ((f, y) :: fs))))) : tOst K f to te D σ H := h
end
/-- what __init__ of two fields leaves -/
def spInit2 (K : PySem.W.Frag) (C : Addr) (f g : Str) : Sp := fun vs H Q _ => ∃ (a : Addr) (x y : V), vs = [.ref a, x, y] ∧ H a = some (exo a C none) ∧ ∀ dx, H dx = none → dx ≠ a → Q .non (upd (upd (upd H dx (exd dx [(f, x)])) a (exo a C (some dx))) dx (exd dx [(g, y), (f, x)]))
def spInit1 (K : PySem.W.Frag) (C : Addr) (f : Str) : Sp := fun vs H Q _ => ∃ (a : Addr) (x : V), vs = [.ref a, x] ∧ H a = some (exo a C none) ∧ ∀ dx, H dx = none → dx ≠ a → Q .non (upd (upd H dx (exd dx [(f, x)])) a (exo a C (some dx)))
/-- the heap behind it -/
theorem mk2_same {K : PySem.W.Frag} {C : Addr} {f g : Str} {x y : V} {H : Hp} {Qx : XK} {a : Addr} (ha : H a = none) (h : ∀ d H', Same H H' → H d = none → H' d = some (.xd [(g, y), (f, x)]) → Qx (.ref C) (some d) H') :
    spInit2 K C f g [.ref a, x, y] (upd H a (exo a C none)) (fun v H2 => v = .non ∧ ∃ (d : Addr) (fs : List (Str × V)), H2 a = some (exo a C (some d)) ∧ H2 d = some (exd d fs) ∧ H d = none ∧ Qx (.ref C) (some d) (upd (del H2 a) d (.xd fs))) (fun _ _ _ => False) := by
  refine ⟨a, x, y, rfl, upd_same, fun dx hd hne => ⟨rfl, dx, _, ?_, upd_same, (upd_none hd).1, h dx _ (fun b o e => ?_) (upd_none hd).1 upd_same⟩⟩
  · rw [upd_ne (Ne.symm hne), upd_same]
  · have n1 : b ≠ dx := ne_of_none e (upd_none hd).1
    have n2 : b ≠ a := ne_of_none e ha
    rw [upd_ne n1, del_ne n2, upd_ne n1, upd_ne n2, upd_ne n1, upd_ne n2]
    exact e
/-! ### min of a list of pairs -/
def LtP (p q : Int × Int) : Prop := p.1 < q.1 ∨ p.1 = q.1 ∧ p.2 < q.2
def rMinP (K : PySem.W.Frag) : List V → Hp → VK → Prop := fun vs H Q => ∃ (a : Addr) (ps : List (Addr × Int × Int)), vs = [V.ref a] ∧ SqL K H a (ps.map fun q => .ref q.1) ∧ (∀ q ∈ ps, H q.1 = some (.tup [.int q.2.1, .int q.2.2])) ∧ ps ≠ [] ∧ ∀ q ∈ ps, (∀ r ∈ ps, ¬ LtP r.2 q.2) → Q (.ref q.1) H
section
variable {X : Cx} {pins : List (Addr × Obj)} {σ : L2.St} {H : Hp} {s : Shared}
end
end FW

set_option Elab.async false
set_option linter.all false
set_option maxRecDepth 100000
set_option maxHeartbeats 4000000
/-! for i, x in enumerate(t), t a tuple -/
namespace FW
open PySem PySem.Spec PyProof.Rows L2
def ItU (K : PySem.W.Frag) (a : Addr) : It :=
  ⟨fun i H => ∃ (xs : List V) (x : V), SqT K H a xs ∧ xs[i]? = some x,
   fun i H v H' => ∃ T x, v = .ref T ∧ H T = none ∧ H' = upd H T (.tup [.int (i : Nat), x]) ∧ ∀ xs, SqT K H a xs → xs[i]? = some x,
   fun i H => ∃ xs : List V, SqT K H a xs ∧ xs.length = i⟩
section
variable {P : Program} {w : World} {K : PySem.W.Frag} {elts : List Expr} {kk : Nat} {tpos : Pos}
end
section
variable {prog : Program} {w : World} {A : Around} {E : Value → Shared → Prop} {s : Shared}
end
def rEnumT (K : PySem.W.Frag) (vs : List V) (H : Hp) (R : It → Hp → Prop) : Prop := ∃ a xs, vs = [.ref a] ∧ SqT K H a xs ∧ R (ItU K a) H
def iEnumT (K : PySem.W.Frag) (ta : TA) : TI := fun σ H R => ta σ H fun vs H1 => rEnumT K vs H1 R
def rLenD (vs : List V) (H : Hp) (Q : VK) : Prop := ∃ a kvs, vs = [V.ref a] ∧ H a = some (.dK kvs) ∧ Q (.int kvs.length) H
section
variable {K : PySem.W.Frag} {σ : L2.St} {H : Hp} {a : Addr} {xs : List V}
theorem w_enum {ta : TA} {R : It → Hp → Prop} (h : ta σ H fun vs H1 => rEnumT K vs H1 R) : iEnumT K ta σ H R := h
theorem w_enum' {R : It → Hp → Prop} (h1 : SqT K H a xs) (h : R (ItU K a) H) : rEnumT K [.ref a] H R := ⟨a, xs, rfl, h1, h⟩
end
/-! ### what keeps all but the deck -/
structure KX (dk : Addr) (H H' : Hp) : Prop extends KD H H' where
  p : Kp [dk] H H'
theorem KX.of {d : Addr} {H H' : Hp} (k : Same H H') : KX d H H' := ⟨KD.of k, Kp.of k⟩
theorem KX.refl {d : Addr} {H : Hp} : KX d H H := ⟨KD.refl, Kp.refl⟩
theorem KX.trans {d : Addr} {H H1 H2 : Hp} (a : KX d H H1) (b : KX d H1 H2) : KX d H H2 := ⟨a.toKD.trans b.toKD, a.p.trans b.p⟩
theorem Deck.kx {H H' : Hp} {d c : Addr} {n m : Nat} (D : Deck H d c n) (D' : Deck H' d c m) (o : Off d H H') : KX d H H' := ⟨D.kd D' o, o.kp (by simp)⟩
instance {d : Addr} {H H' : Hp} : CoeOut (KX d H H') (KD H H') := ⟨KX.toKD⟩
end FW

set_option Elab.async false
set_option linter.all false
set_option maxRecDepth 100000
set_option maxHeartbeats 4000000
/-! sorted(d) of a dict of ints, of any length -/
namespace FW
open PySem PySem.Spec PyProof.Rows L2
def rSortA (xs : List V) (H : Hp) (Q : VK) : Prop := ∃ (a : Addr) (kvs : List (Key × V)) (ks : List Int), xs = [.ref a] ∧ Rd H a (.dK kvs) ∧ kvs.map (·.1) = ks.map Sum.inl ∧ ks.length ≤ 100000 ∧
    ∀ (ys : List Int) (p : Addr), ys.Perm ks → ys.Pairwise (· ≤ ·) → H p = none → Q (.ref p) (upd H p (.lst (ys.map V.int)))
end FW

set_option Elab.async false
set_option linter.all false
set_option maxRecDepth 100000
set_option maxHeartbeats 4000000
/-! t[k::w] of a tuple; extend by a tuple; pairs in a list -/
namespace HT
open PySem PySem.Spec PyProof.Rows
section
variable {prog : Program} {w : World} {A : Around} {E : Value → Shared → Prop} {s : Shared}
def places (n k w : Nat) : Nat := (n - k - 1) / w + 1
def stepL {α : Type} (xs : List α) (k c : Nat) : List α := (List.range (places xs.length k c)).filterMap fun j => xs[k + j * c]?
end
end HT
namespace FW
open PySem PySem.Spec PyProof.Rows L2
/-- t[k::w] -/
def rStep (K : PySem.W.Frag) (x y z : V) (H : Hp) (Q : VK) : Prop := ∃ (a : Addr) (xs : List V) (k c : Nat), x = .ref a ∧ y = .int k ∧ z = .int c ∧ SqT K H a xs ∧ k < xs.length ∧ 0 < c ∧ (k = 0 → c = 1 → Q (.ref a) H) ∧ (¬ (k = 0 ∧ c = 1) → Nw (.tup (HT.stepL xs k c)) H Q)
def tStep (K : PySem.W.Frag) (te tl ts : TE) : TE := fun σ H Q => te σ H fun x H1 => tl σ H1 fun y H2 => ts σ H2 fun z H3 => rStep K x y z H3 Q
section
variable {X : Cx}
def rExtT (K : PySem.W.Frag) : V → List V → Hp → VK → Prop := fun x vs H Q => ∃ l b xs zs, x = .ref l ∧ vs = [.ref b] ∧ H l = some (.lst xs) ∧ H b = some (.tup zs) ∧ xs.length + zs.length ≤ sizeLine ∧ Q .non (upd H l (.lst (xs ++ zs)))
/-- a pair (int, truth) that is not in a list of such -/
def rNotInP (K : PySem.W.Frag) : R2 := fun x y H Q => ∃ (p a : Addr) (v : Int) (b : Bool) (an : List (Addr × Int × Bool)), x = .ref p ∧ y = .ref a ∧ H p = some (.tup [.int v, .bl b]) ∧ SqL K H a (an.map fun q => .ref q.1) ∧ (∀ q ∈ an, H q.1 = some (.tup [.int q.2.1, .bl q.2.2])) ∧ Q (.bl (decide ((v, b) ∉ an.map (·.2)))) H
end
section
variable {K : PySem.W.Frag} {σ : L2.St} {H : Hp} {Q : VK}
end
end FW

set_option Elab.async false
set_option linter.all false
set_option maxRecDepth 100000
set_option maxHeartbeats 4000000
/-! a, .., *rest = t: the last target starred, t a tuple -/
namespace FW
open PySem PySem.Spec PyProof.Rows L2
section
variable {prog : Program} {w : World} {A : Around} {E : Value → Shared → Prop} {s : Shared}
end
/-- n names, then a starred one -/
def gStar (K : PySem.W.Frag) (j : Nat) (t : TGs) : TG := fun v σ H Q => ∃ a xs, v = .ref a ∧ SqT K H a xs ∧ j ≤ xs.length ∧ ∀ L, H L = none → t (xs.take j ++ [.ref L]) σ (upd H L (.lst (xs.drop j))) Q
section
variable {X : Cx} {pos : Pos}
end
end FW

set_option Elab.async false
set_option linter.all false
set_option maxRecDepth 100000
set_option maxHeartbeats 4000000
/-! try with several except clauses, each with or without a name -/
namespace FW
open PySem PySem.Spec PyProof.Rows L2
abbrev Suite := Addr → Value → Option Addr → TS
/-- the ends behind a suite whose name goes -/
def unset (i : Nat) (D : Ends) : Ends := ⟨fun σ H => D.nx (σ.set i none) H, D.rt, fun σ H => D.bk (σ.set i none) H, fun σ H => D.ct (σ.set i none) H⟩
def runCl (o : Option Nat) (ts : Suite) (a : Addr) (cls : Value) (d : Option Addr) (D : Ends) (σ : L2.St) (H : Hp) : Prop :=
  match o with
  | none => ts a cls d D σ H
  | some i => ts a cls d (unset i D) (σ.set i (some (.ref a))) H
def wCl (K : PySem.W.Frag) (Wo : WX) (D : Ends) : List (Value × Option Nat × Suite) → WX
  | [] => Wo
  | (c, o, ts) :: r => fun cls d σ H => ∃ b, PySem.W.exmOne K cls c = some b ∧ (b = true → ∀ a, H a = none → runCl o ts a cls d D σ H) ∧ (b = false → wCl K Wo D r cls d σ H)
inductive ClOk (X : Cx) : List ExceptHandler → List (Value × Option Nat × Suite) → Prop
  | nil : ClOk X [] []
  | only {x : Str} {c : Value} {ts : Suite} {st : Stmt} {sts : List Stmt} {p1 p2 : Pos} {hs : List ExceptHandler} {l : List (Value × Option Nat × Suite)} (nm : Names X x c)
      (su : ∀ a oe cls d pn, Zc cls d oe → (∃ vs, oe.data = .fields vs) → PSs (X.suite a ((a, oe) :: pn)) (st :: sts) (ts a cls d)) (r : ClOk X hs l) :
      ClOk X (.ExceptHandler (some (.Name x p1)) none (st :: sts) p2 :: hs) ((c, none, ts) :: l)
  | as {x n : Str} {c : Value} {i : Nat} {ts : Suite} {st : Stmt} {sts : List Stmt} {p1 p2 : Pos} {hs : List ExceptHandler} {l : List (Value × Option Nat × Suite)} (hi : X.N[i]? = some n) (hl : X.env.kindOf n = some .local) (nm : Names X x c)
      (su : ∀ a oe cls d pn, Zc cls d oe → (∃ vs, oe.data = .fields vs) → PSs (X.suite a ((a, oe) :: pn)) (st :: sts) (ts a cls d)) (r : ClOk X hs l) :
      ClOk X (.ExceptHandler (some (.Name x p1)) (some n) (st :: sts) p2 :: hs) ((c, some i, ts) :: l)
def tTryG (K : PySem.W.Frag) (l : List (Value × Option Nat × Suite)) (Wo : WX) (tb : WX → TS) : TS := fun D σ H => tb (wCl K Wo D l) D σ H
section
variable {X : Cx} {body : List Stmt} {h1 : ExceptHandler} {hs : List ExceptHandler} {l : List (Value × Option Nat × Suite)} {pos : Pos} {tb : WX → TS} {Wo : WX}
end
section
variable {K : PySem.W.Frag} {σ : L2.St} {H : Hp} {nx bk ct : L2.St → Hp → Prop} {rt : VK}
end
end FW

set_option Elab.async false
set_option linter.all false
set_option maxRecDepth 100000
set_option maxHeartbeats 4000000
/-! {tuple: value for a in as if ..}: a dict keyed by tuples, one clause; pairs looked for in tuples; zip of tuples -/
namespace FW
open PySem PySem.Spec PyProof.Rows L2
section
variable {kx vx ta ia : Expr} {fa : List Expr} {sc : Scope} {ps : Pos}
abbrev one (kx vx ta ia : Expr) (fa : List Expr) (sc : Scope) (ps : Pos) : Expr := .DictComp kx vx [⟨ta, ia, fa, 0⟩] sc ps
variable {pg : Program} {wd : World} {A : Around} {R : Result → Shared → Prop} {st : Shared} {it : Value} {D : Addr} {env : Env}
end
section
variable {X : Cx}
variable {kx vx ta ia : Expr} {fa : List Expr} {sc : Scope} {ps qs : Pos} {own : List (Str × Nat)} {wa : TI} {ga : TG} {ra : TT} {tk tv : TE}
def DcTP (J : It) (g : TG) (tt : TT) (tk tv : TE) (vs : List Nat) (Q : VK) (σ : L2.St) (H1 : Hp) : Prop := ∀ D, H1 D = none → ∃ W : Nat → Nat → Hp → Prop, (∃ m, W 0 m (upd H1 D (.dT []))) ∧ ∀ i m H, W i m H →
  (J.stop i H ∧ Q (.ref D) H) ∨ (J.go i H ∧ ∃ Nx : Hp → Prop, (∀ H', Nx H' → ∃ m', m' < m ∧ W (i + 1) m' H') ∧ ∀ x H', J.yld i H x H' → g x (wipe σ vs) H' fun σ2 H2 => wipe σ2 vs = wipe σ vs ∧ tt σ2 H2 fun b H3 =>
    if b = true then tk σ2 H3 fun y H4 => tv σ2 H4 fun z H5 => ∃ kvs k b, y = .ref b ∧ H5 b = some (.tup (k.map kV)) ∧ H5 D = some (.dT kvs) ∧ kvs.length < sizeLine ∧ Nx (upd H5 D (.dT (putK kvs k z))) else Nx H3)
def tDcT (wi : TI) (g : TG) (tt : TT) (tk tv : TE) (vs : List Nat) : TE := fun σ H Q => wi σ H fun J H1 => DcTP J g tt tk tv vs Q σ H1
/-- a pair of ints that is not in a tuple of such -/
def rNotInT (K : PySem.W.Frag) : R2 := fun x y H Q => ∃ (p a : Addr) (v b : Int) (an : List (Addr × Int × Int)), x = .ref p ∧ y = .ref a ∧ H p = some (.tup [.int v, .int b]) ∧ SqT K H a (an.map fun q => .ref q.1) ∧ (∀ q ∈ an, H q.1 = some (.tup [.int q.2.1, .int q.2.2])) ∧ Q (.bl (decide ((v, b) ∉ an.map (·.2)))) H
end
section
variable {K : PySem.W.Frag} {σ : L2.St} {H : Hp} {Q : VK} {nx bk ct : L2.St → Hp → Prop} {rt : VK}
/-- for a, b in zip(tuple, tuple) -/
def rZipA (K : PySem.W.Frag) (vs : List V) (H : Hp) (R : It → Hp → Prop) : Prop := ∃ a b xs ys, vs = [.ref a, .ref b] ∧ ((SqL K H a xs ∧ SqL K H b ys ∧ R (Itz K a b) H) ∨ (SqT K H a xs ∧ SqT K H b ys ∧ R (RZ.ItzT K a b) H))
end
end FW

set_option Elab.async false
set_option linter.all false
set_option maxRecDepth 100000
set_option maxHeartbeats 4000000
/-! try: .. except (A, B): .. -/
namespace FW
open PySem PySem.Spec PyProof.Rows L2
def wTwo (K : PySem.W.Frag) (c1 c2 : Value) (ts : Suite) (D : Ends) : WX := fun cls d σ H => PySem.W.exmAny K cls [c1, c2] = some true ∧ ∀ a, H a = none → ts a cls d D σ H
def tTry2 (K : PySem.W.Frag) (c1 c2 : Value) (tb : WX → TS) (ts : Suite) : TS := fun D σ H => tb (wTwo K c1 c2 ts D) D σ H
section
variable {X : Cx} {body sts : List Stmt} {st : Stmt} {x1 x2 : Str} {c1 c2 : Value} {p1 p2 p3 p4 p5 : Pos} {kk : Nat} {tb : WX → TS} {ts : Suite}
end
end FW

set_option Elab.async false
set_option linter.all false
set_option maxRecDepth 100000
set_option maxHeartbeats 4000000
/-! texts: len, in, signs one by one, join; lists taken apart; all -/
namespace FW
open PySem PySem.Spec PyProof.Rows L2
def rLenS : List V → Hp → VK → Prop := fun xs H Q => ∃ z, xs = [.str z] ∧ z.length ≤ sizeLine ∧ Q (.int z.length) H
def rInS : R2 := fun x y H Q => ∃ (c : Nat) (z : Str), x = .str ⟨#[c]⟩ ∧ y = .str z ∧ Q (.bl (decide (c ∈ z.cps.toList))) H
def rJoin (K : PySem.W.Frag) : V → List V → Hp → VK → Prop := fun x xs H Q => ∃ a p, ∃ ys : List Str, x = .str a ∧ xs = [.ref p] ∧ (SqL K H p (ys.map V.str) ∨ SqT K H p (ys.map V.str)) ∧ (ys.map (·.length)).sum + ys.length * a.length ≤ 16777216 ∧ Q (.str (Txt.join a ys)) H
def rIStr (v : V) (H : Hp) (R : It → Hp → Prop) : Prop := ∃ x, v = .str x ∧ R (Its x) H
def rLtS : R2 := fun x y H Q => ∃ i j : Str, x = .str i ∧ y = .str j ∧ Q (.bl (decide (i.cps.toList < j.cps.toList))) H
def rGtS : R2 := fun x y H Q => ∃ i j : Str, x = .str i ∧ y = .str j ∧ Q (.bl (decide (j.cps.toList < i.cps.toList))) H
section
variable {X : Cx}
end
section
variable {K : PySem.W.Frag} {σ : L2.St} {H : Hp} {Q : VK} {nx bk ct : L2.St → Hp → Prop} {rt : VK}
end
section
variable {P : Program} {w : World} {K : PySem.W.Frag} {mg : Str → Option Value} {base : Heap} {x qual : Str} {params : Arguments} {body : List Stmt} {scope : Scope} {dvs : List V} {kws : List (Str × V)} {f : Addr} {fd : FuncData}
end
/-- a def with defaults -/
structure DfD (K : PySem.W.Frag) (mg : Str → Option Value) (x : Str) (st : Stmt) (ps : List Str) (dvs : List V) (f : Addr) (fd : FuncData) : Prop where
  fn : FunD K x x (defArgs st) (defBody st) (defScope st) dvs [] f fd
  g : mg x = some (.ref f)
  kp : PySem.W.keepIn K (.ref f) = true
  b : ∃ ds, Vals dvs ds ∧ Binds K fd ps ds
/-- a def with several keyword-only defaults -/
structure DfKs (K : PySem.W.Frag) (mg : Str → Option Value) (x : Str) (st : Stmt) (ps : List Str) (kws : List (Str × V)) (dvs : List V) (f : Addr) (fd : FuncData) : Prop where
  fn : FunD K x x (defArgs st) (defBody st) (defScope st) [] kws f fd
  g : mg x = some (.ref f)
  kp : PySem.W.keepIn K (.ref f) = true
  b : ∃ ds, Vals dvs ds ∧ Binds K fd ps ds
end FW

set_option Elab.async false
set_option linter.all false
set_option maxRecDepth 100000
set_option maxHeartbeats 4000000
/-! t[::-1] of a tuple -/
namespace HT
open PySem PySem.Spec PyProof.Rows
section
variable {prog : Program} {w : World} {A : Around} {E : Value → Shared → Prop} {s : Shared}
end
end HT
namespace FW
open PySem PySem.Spec PyProof.Rows L2
/-- t[::-1] -/
def rRevT (K : PySem.W.Frag) (x z : V) (H : Hp) (Q : VK) : Prop := ∃ (a : Addr) (xs : List V), x = .ref a ∧ z = .int (-1) ∧ SqT K H a xs ∧ Nw (.tup xs.reverse) H Q
def tRevT (K : PySem.W.Frag) (te ts : TE) : TE := fun σ H Q => te σ H fun x H1 => ts σ H1 fun z H3 => rRevT K x z H3 Q
section
variable {X : Cx}
end
section
variable {K : PySem.W.Frag} {σ : L2.St} {H : Hp} {Q : VK}
end
end FW

set_option Elab.async false
set_option linter.all false
set_option maxRecDepth 100000
set_option maxHeartbeats 4000000
/-! text * number, tuple * number, texts put together -/
namespace FW
open PySem PySem.Spec PyProof.Rows L2
def rRepS : R2 := fun x y H Q => ∃ (z : Str) (k : Int), x = .str z ∧ y = .int k ∧ z.length ≤ 16 ∧ 0 ≤ k ∧ k ≤ 1000 ∧ Q (.str (Txt.mul z k)) H
def rAddS : R2 := fun x y H Q => ∃ i j : Str, x = .str i ∧ y = .str j ∧ i.length + j.length ≤ sizeLine ∧ Q (.str (i ++ j)) H
section
variable {K : PySem.W.Frag} {H : Hp} {Q : VK}
end
end FW

set_option Elab.async false
set_option linter.all false
set_option maxRecDepth 100000
set_option maxHeartbeats 4000000
/-! dicts whose keys are nested tuples of ints, texts and None -/
namespace FW
open PySem PySem.Spec PyProof.Rows L2
mutual
/-- the thing v is the key k -/
inductive NAt (H : Hp) : NestedKey → V → Prop
  | non : NAt H .none .non
  | int (i : Int) : NAt H (.num i) (.int i)
  | str (x : Str) : NAt H (.text x) (.str x)
  | tup {a : Addr} {ks : List NestedKey} {xs : List V} : H a = some (.tup xs) → NAll H ks xs → NAt H (.tup ks) (.ref a)
  | frz {a : Addr} {o : Obj} {ks : List NestedKey} {xs : List V} : H a = some (.frz o (.tup xs)) → NAll H ks xs → NAt H (.tup ks) (.ref a)
inductive NAll (H : Hp) : List NestedKey → List V → Prop
  | nil : NAll H [] []
  | cons {k : NestedKey} {v : V} {ks : List NestedKey} {vs : List V} : NAt H k v → NAll H ks vs → NAll H (k :: ks) (v :: vs)
end
mutual
theorem NAt.kt {H H' : Hp} (t : KT H H') : ∀ (k : NestedKey) (v : V), NAt H k v → NAt H' k v
  | .none, _, h => by cases h; exact .non
  | .num i, _, h => by cases h; exact .int i
  | .text x, _, h => by cases h; exact .str x
  | .tup ks, _, h => by
    cases h with
    | tup e all => exact .tup (t _ _ e) (NAll.kt t ks _ all)
    | frz e all => exact .frz (t.f _ _ _ e) (NAll.kt t ks _ all)
theorem NAll.kt {H H' : Hp} (t : KT H H') : ∀ (ks : List NestedKey) (vs : List V), NAll H ks vs → NAll H' ks vs
  | [], _, h => by cases h; exact .nil
  | k :: ks, _, h => by
    cases h with
    | cons a b => exact .cons (NAt.kt t k _ a) (NAll.kt t ks _ b)
end
mutual
theorem NAt.inj {H : Hp} : ∀ (k k' : NestedKey) (v : V), NAt H k v → NAt H k' v → k = k'
  | .none, _, _, h, h' => by cases h; cases h'; rfl
  | .num i, _, _, h, h' => by cases h; cases h'; rfl
  | .text x, _, _, h, h' => by cases h; cases h'; rfl
  | .tup ks, _, _, h, h' => by
    cases h with
    | tup e all =>
      cases h' with
      | tup e' all' =>
        rw [e] at e'
        cases e'
        rw [NAll.inj ks _ _ all all']
      | frz e' all' =>
        rw [e] at e'
        cases e'
    | frz e all =>
      cases h' with
      | tup e' all' =>
        rw [e] at e'
        cases e'
      | frz e' all' =>
        rw [e] at e'
        cases e'
        rw [NAll.inj ks _ _ all all']
theorem NAll.inj {H : Hp} : ∀ (ks ks' : List NestedKey) (vs : List V), NAll H ks vs → NAll H ks' vs → ks = ks'
  | [], _, _, h, h' => by cases h; cases h'; rfl
  | k :: ks, _, _, h, h' => by
    cases h with
    | cons a b =>
      cases h' with
      | cons a' b' => rw [NAt.inj k _ _ a a', NAll.inj ks _ _ b b']
end
section
variable {X : Cx} {pins : List (Addr × Obj)} {σ : L2.St} {H : Hp} {s : Shared}
mutual
theorem NAt.is (I : Inv X pins σ H s) : ∀ (k : NestedKey) (v : V) (u : Value), NAt H k v → RelV v u → NestedIs s.heap k u
  | .none, _, _, h, r => by
    cases h
    cases r
    exact .none
  | .num i, _, _, h, r => by
    cases h
    obtain ⟨t, rfl⟩ := r
    exact .int i t
  | .text x, _, _, h, r => by
    cases h
    obtain ⟨t, rfl⟩ := r
    exact .text x t
  | .tup ks, _, _, h, r => by
    cases h with
    | @tup a _ xs e all =>
      cases r
      obtain ⟨_, its, rel, o, h1, h2, n, h3⟩ := (show ObjOk X.prog X.w H s.heap a (.tup xs) from I.hok a _ e)
      exact .tup h1 h2 h3 (NAll.is I ks _ _ all rel)
    | @frz a ob _ xs e all =>
      cases r
      obtain ⟨_, _, its, rel, o, h1, h2, n, h3⟩ := (show ObjOk X.prog X.w H s.heap a (.frz ob (.tup xs)) from I.hok a _ e)
      exact .tup h1 h2 h3 (NAll.is I ks _ _ all rel)
theorem NAll.is (I : Inv X pins σ H s) : ∀ (ks : List NestedKey) (vs : List V) (us : List Value), NAll H ks vs → Vals vs us → NestedAll s.heap ks us
  | [], _, _, h, r => by
    cases h
    cases r
    exact .nil
  | k :: ks, _, _, h, r => by
    cases h with
    | cons a b =>
      cases r with
      | cons ra rb => exact .cons (NAt.is I k _ _ a ra) (NAll.is I ks _ _ b rb)
end
end
abbrev NEnt := NestedKey × Addr × V
def NVal (xs : List NEnt) (k : NestedKey) : Option V := (xs.find? fun x => decide (x.1 = k)).map (·.2.2)
def NPut (xs : List NEnt) (k : NestedKey) (a : Addr) (v : V) : List NEnt := if (NVal xs k).isSome then xs.map (fun x => if x.1 = k then (x.1, x.2.1, v) else x) else xs ++ [(k, a, v)]
abbrev NRel : List NEnt → List (NestedKey × Addr × Value) → Prop := Paired fun p q => p.1 = q.1 ∧ p.2.1 = q.2.1 ∧ RelV p.2.2 q.2.2
theorem NRel.val {xs : List NEnt} {ys : List (NestedKey × Addr × Value)} (r : NRel xs ys) (k : NestedKey) : RelO (NVal xs k) ((atKey ys k).map (·.2)) := by
  induction r with
  | nil => exact True.intro
  | @cons p q ps qs h t ih =>
    obtain ⟨h1, _, h2⟩ := h
    by_cases e : p.1 = k
    · have e' : q.1 = k := h1.symm.trans e
      have b : atKey (q :: qs) k = some q.2 := by simp [atKey, List.find?_cons, e']
      have c : NVal (p :: ps) k = some p.2.2 := by simp [NVal, List.find?_cons, e]
      rw [c, b]
      exact h2
    · have e' : ¬ q.1 = k := fun z => e (h1.trans z)
      have b : atKey (q :: qs) k = atKey qs k := by simp [atKey, List.find?_cons, e']
      have c : NVal (p :: ps) k = NVal ps k := by simp [NVal, List.find?_cons, e]
      rw [c, b]
      exact ih
theorem NRel.put {xs : List NEnt} {ys : List (NestedKey × Addr × Value)} (r : NRel xs ys) (k : NestedKey) (b : Addr) {y : V} {u : Value} (ry : RelV y u) : NRel (NPut xs k b y) (storedH ys k b u) := by
  have e : (NVal xs k).isSome = (atKey ys k).isSome := by rw [(r.val k).isSome_eq, Option.isSome_map]
  unfold NPut storedH
  rw [e]
  by_cases q : (atKey ys k).isSome = true
  · rw [if_pos q, if_pos q]
    clear e q
    induction r with
    | nil => exact .nil
    | @cons p q ps qs h t ih =>
      rw [List.map_cons, List.map_cons]
      refine .cons ?_ ih
      obtain ⟨h1, h2, h3⟩ := h
      unfold putAt
      by_cases e : p.1 = k
      · rw [if_pos e, if_pos (h1.symm.trans e)]
        exact ⟨h1, h2, ry⟩
      · rw [if_neg e, if_neg (fun z => e (h1.trans z))]
        exact ⟨h1, h2, h3⟩
  · rw [if_neg q, if_neg q]
    exact Paired.snoc r ⟨rfl, rfl, ry⟩
/-- the dict at a, keyed by nested tuples -/
def NO (P : Program) (w : World) (a : Addr) (xs : List NEnt) : HO := .ext fun h => xs.length ≤ sizeLine ∧ (a == sysModules) = false ∧ ∃ ys : List (NestedKey × Addr × Value), NRel xs ys ∧
  ∃ o es ep, h.get? a = some o ∧ o.ExactDict ∧ o.data = .dict es ep ∧ es.toList = ys.map (entryOfKey (nestedKind P w)) ∧ (ys.map (·.1)).Nodup
structure NDict (P : Program) (w : World) (H : Hp) (a : Addr) (xs : List NEnt) : Prop where
  at' : H a = some (NO P w a xs)
  keys : ∀ p ∈ xs, NAt H p.1 (.ref p.2.1) ∧ p.1.depth ≤ 8
theorem NDict.kp {P : Program} {w : World} {M : List Addr} {H H' : Hp} {a : Addr} {xs : List NEnt} (d : NDict P w H a xs) (k : Kp M H H') (t : KT H H') (h : a ∉ M) : NDict P w H' a xs :=
  ⟨k _ _ h d.at', fun p hp => ⟨NAt.kt t _ _ (d.keys p hp).1, (d.keys p hp).2⟩⟩
section
variable {X : Cx} {pins : List (Addr × Obj)} {σ : L2.St} {H : Hp} {s : Shared} {a : Addr} {xs : List NEnt}
theorem nd_of (I : Inv X pins σ H s) (d : NDict X.prog X.w H a xs) : xs.length ≤ sizeLine ∧ (a == sysModules) = false ∧ ∃ ys, NRel xs ys ∧ s.heap.DictOfH (nestedKind X.prog X.w) a ys := by
  obtain ⟨⟨z, y, ys, r, o, es, ep, h1, h2, h3, h4, h5⟩, hex, hst⟩ := (show ObjOk X.prog X.w H s.heap a (NO X.prog X.w a xs) from I.hok a _ d.at')
  refine ⟨z, y, ys, r, o, es, ep, h1, h2, h3, h4, ?_, h5⟩
  have hk := d.keys
  clear h4 h5 z d hex hst
  induction r with
  | nil => intro x hx; cases hx
  | @cons p q ps qs h t ih =>
    intro x hx
    rcases List.mem_cons.mp hx with rfl | hx
    · obtain ⟨g1, g2⟩ := hk p (by simp)
      have e1 : p.1 = x.1 := h.1
      have e2 : p.2.1 = x.2.1 := h.2.1
      rw [e1] at g1 g2
      rw [e2] at g1
      exact ⟨NAt.is I _ _ _ g1 rfl, g2⟩
    · exact ih (fun p hp => hk p (by simp [hp])) x hx
theorem nd_type (I : Inv X pins σ H s) (d : NDict X.prog X.w H a xs) : s.TypeIs (.ref a) "dict" ∧ (∀ b, Value.ref a = .ref b → ∃ ob, s.heap.get? b = some ob ∧ ob.dict = none) := by
  obtain ⟨_, _, ys, _, dd⟩ := nd_of I d
  refine ⟨dd.typeIs, fun b q => ?_⟩
  cases q
  obtain ⟨ob, _, _, h1, h2, _⟩ := dd
  exact ⟨ob, h1, h2.2.1⟩
theorem nk_is (I : Inv X pins σ H s) {b : Addr} {k : NestedKey} (h : NAt H k (.ref b)) (h8 : k.depth ≤ 8) : (nestedKind X.prog X.w).is s.heap k b := ⟨NAt.is I _ _ _ h rfl, h8⟩
variable {b : Addr} {k : NestedKey} {A : Around} {E : Value → Shared → Prop} {v : V} {r : Value}
theorem n_in {Q : Value → Shared → Prop} (hu : A.units + 9 < cLine) (I : Inv X pins σ H s) (d : NDict X.prog X.w H a xs) (hk : NAt H k (.ref b)) (h8 : k.depth ≤ 8) (h : ∀ s', Inv X pins σ H s' → Q (.bool (NVal xs k).isSome) s') :
    wpAny (model X.prog X.w) A (compareOp .In (.ref b) (.ref a)) Q E s := by
  obtain ⟨z, hd, ys, rel, dd⟩ := nd_of I d
  refine wpAny_in_heap (knd := nestedKind X.prog X.w) (show A.in1.units + 8 < cLine from by show A.units + 1 + 8 < cLine; omega) (nk_is I hk h8) hd dd ?_
  have q := (rel.val k).isSome_eq
  rw [Option.isSome_map] at q
  rw [← q]
  exact h _ (I.tok _)
theorem n_getItem {Q : Value → Shared → Prop} (hu : A.units + 9 < cLine) (I : Inv X pins σ H s) (d : NDict X.prog X.w H a xs) (hk : NAt H k (.ref b)) (h8 : k.depth ≤ 8) (l : NVal xs k = some v) (h : ∀ w' s', Inv X pins σ H s' → RelV v w' → Q w' s') :
    wpAny (model X.prog X.w) A (getItem (.ref a) (.ref b)) Q E s := by
  obtain ⟨z, hd, ys, rel, dd⟩ := nd_of I d
  obtain ⟨w', hw, rw'⟩ := RelO.some_of (v := v) (o := (atKey ys k).map (·.2)) (by rw [← l]; exact rel.val k)
  obtain ⟨p, hp, hp2⟩ := Option.map_eq_some_iff.mp hw
  refine wpAny_getItem_heap (knd := nestedKind X.prog X.w) (show A.in1.units + 8 < cLine from by show A.units + 1 + 8 < cLine; omega) (nk_is I hk h8) dd hp ?_
  rw [hp2]
  exact h w' _ (I.tok _) rw'
theorem n_setItem {Q : Unit → Shared → Prop} (hu : A.units + 9 < cLine) (I : Inv X pins σ H s) (d : NDict X.prog X.w H a xs) (hk : NAt H k (.ref b)) (h8 : k.depth ≤ 8) (hl : xs.length < sizeLine) (rv : RelV v r) (h : ∀ s', Inv X pins σ (upd H a (NO X.prog X.w a (NPut xs k b v))) s' → Q () s') :
    wpAny (model X.prog X.w) A (setItem (.ref a) (.ref b) r) Q E s := by
  obtain ⟨z, hd, ys, rel, dd⟩ := nd_of I d
  have hz : ys.length ≤ sizeLine := by rw [← Paired.length rel]; exact z
  have hl' : (NPut xs k b v).length ≤ sizeLine := by
    unfold NPut
    split
    · rw [List.length_map]; exact z
    · rw [List.length_append]; exact hl
  refine wpAny_setItem_heap (knd := nestedKind X.prog X.w) (hsz := hz) (show A.in1.units + 8 < cLine from by show A.units + 1 + 8 < cLine; omega) (nk_is I hk h8) dd fun h' dd' hs => h _ ?_
  obtain ⟨q, es, ep, hq, h2, h3, h4, _, h5⟩ := dd'
  refine d_write I (by rw [d.at']; exact True.intro) hs ⟨q, hq⟩ ⟨⟨hl', hd, _, rel.put k b rv, q, es, ep, hq, h2, h3, h4, h5⟩, ⟨q, hq⟩, ?_⟩
  rintro h1 h2' ⟨g1, g2, ys', g3, o, es, ep, g4, g5⟩ keep
  exact ⟨g1, g2, ys', g3, o, es, ep, keep _ g4, g5⟩
end
/-! ### the rules -/
def rNIn (P : Program) (w : World) (x y : V) (H : Hp) (Q : VK) : Prop := ∃ a b xs k, x = .ref a ∧ y = .ref b ∧ NDict P w H a xs ∧ NAt H k (.ref b) ∧ k.depth ≤ 8 ∧ Q (.bl (NVal xs k).isSome) H
def rNGet (P : Program) (w : World) (x y : V) (H : Hp) (Q : VK) : Prop := ∃ a b xs k v, x = .ref a ∧ y = .ref b ∧ NDict P w H a xs ∧ NAt H k (.ref b) ∧ k.depth ≤ 8 ∧ NVal xs k = some v ∧ Q v H
def rNIs (P : Program) (w : World) (x : V) (H : Hp) (R : Addr → Hp → Prop) : Prop := ∃ a xs, x = .ref a ∧ NDict P w H a xs ∧ R a H
def rNGet1 (P : Program) (w : World) (a : Addr) (y : V) (H : Hp) (Q : VK) : Prop := ∃ b xs k, y = .ref b ∧ NDict P w H a xs ∧ NAt H k (.ref b) ∧ k.depth ≤ 8 ∧ Q ((NVal xs k).getD .non) H
def rNPut (P : Program) (w : World) (x y v : V) (H : Hp) (R : Hp → Prop) : Prop := ∃ a b xs k, x = .ref a ∧ y = .ref b ∧ NDict P w H a xs ∧ NAt H k (.ref b) ∧ k.depth ≤ 8 ∧ xs.length < sizeLine ∧ R (upd H a (NO P w a (NPut xs k b v)))
def tNIn (P : Program) (w : World) (ty td : TE) : TE := fun σ H Q => ty σ H fun y H1 => td σ H1 fun x H2 => rNIn P w x y H2 Q
def tNGet (P : Program) (w : World) (td ty : TE) : TE := fun σ H Q => td σ H fun x H1 => ty σ H1 fun y H2 => rNGet P w x y H2 Q
def tNGet1 (P : Program) (w : World) (td ty : TE) : TE := fun σ H Q => td σ H fun x H1 => rNIs P w x H1 fun a H1 => ty σ H1 fun y H2 => rNGet1 P w a y H2 Q
def sNPut (P : Program) (w : World) (td ty tv : TE) : TS := fun D σ H => tv σ H fun v H1 => td σ H1 fun x H2 => ty σ H2 fun y H3 => rNPut P w x y v H3 fun H4 => D.nx σ H4
def tNNew (P : Program) (w : World) : TE := fun _ H Q => ∀ p, H p = none → Q (.ref p) (upd H p (NO P w p []))
section
variable {X : Cx} {o i e value : Expr} {pos pos' tpos apos cpos : Pos} {td ty tv : TE}
theorem pc_nin (hu : X.A.units + 64 < cLine) (hi : PE X i ty) (ho : PE X o td) : PC X .In i o (tNIn X.prog X.w ty td) := by
  refine ⟨fun pins s σ H Q I h => ?_⟩
  refine thn (hi.run pins s σ H _ I h) fun iv s1 ⟨y, H1, I1, ry, q1⟩ => thn (ho.run pins s1 σ H1 _ I1 q1) fun u s2 ⟨x, H2, I2, rx, a, b, xs, k, ex, ey, d, hk, h8, q2⟩ => ?_
  subst ex ey
  obtain rfl : u = Value.ref a := rx
  obtain rfl : iv = Value.ref b := ry
  exact n_in (by omega) I2 d hk h8 fun s3 I3 => ⟨.bl _, H2, I3, rfl, q2⟩
theorem pe_nget (hu : X.A.units + 64 < cLine) (ho : PE X o td) (hi : PE X i ty) (hs : NoSl i) : PE X (.Subscript o i pos) (tNGet X.prog X.w td ty) := by
  refine ⟨fun pins s σ H Q I h => ?_⟩
  refine subD_of PySem.F.slot_dict_getitem.lookup hs (thn (ho.run pins s σ H _ I h) fun u s1 ⟨x, H1, I1, rx, q1⟩ => thn (hi.run pins s1 σ H1 _ I1 q1) fun iv s2 ⟨y, H2, I2, ry, a, b, xs, k, v, ex, ey, d, hk, h8, l, q2⟩ => ?_)
  subst ex ey
  obtain rfl : u = Value.ref a := rx
  obtain rfl : iv = Value.ref b := ry
  exact ⟨(nd_type I2 d).1, n_getItem (by omega) I2 d hk h8 l fun w' s3 I3 rw' => ⟨v, H2, I3, rw', q2⟩⟩
theorem ps_nput (hu : X.A.units + 64 < cLine) (ho : PE X o td) (hi : PE X i ty) (hv : PE X value tv) (hs : swapsWith value (some (.Subscript o i pos')) pos.line X.env = pure false) :
    PS X (.Assign [.Subscript o i pos'] value pos) (sNPut X.prog X.w td ty tv) := by
  refine ⟨fun pins s σ H D I h => ?_⟩
  refine wpAny_Assign_Subscript (thn (hv.run pins s σ H _ I h) fun r s1 ⟨v, H1, I1, rv, q1⟩ => thn (ho.run pins s1 σ H1 _ I1 q1) fun u s2 ⟨x, H2, I2, rx, q2⟩ => thn (hi.run pins s2 σ H2 _ I2 q2) fun iv s3 ⟨y, H3, I3, ry, a, b, xs, k, ex, ey, d, hk, h8, hl, q3⟩ => ?_) hs
  subst ex ey
  obtain rfl : u = Value.ref a := rx
  obtain rfl : iv = Value.ref b := ry
  exact n_setItem (by omega) I3 d hk h8 hl rv fun s4 I4 => ⟨σ, _, I4, q3⟩
theorem pe_nnew : PE X (.Dict [] [] pos) (tNNew X.prog X.w) := ⟨fun pins s σ H Q I h =>
  wpAny_Dict_empty ⟨.ref s.heap.objs.size, _, I.laid (a := s.heap.objs.size) (o := NO X.prog X.w s.heap.objs.size []) (t' := s.toks) (fun _ _ q => Heap.get?_push_of_some _ q) (Nat.le_refl _)
    ⟨⟨Nat.zero_le _, beq_eq_false_iff_ne.mpr (Ne.symm (Nat.ne_of_lt I.big)), [], .nil, _, #[], 0, Heap.get?_push_size _ rfl, ⟨rfl, rfl, rfl⟩, rfl, rfl, List.nodup_nil⟩, ⟨_, Heap.get?_push_size _ rfl⟩, by
      rintro h1 h2' ⟨g1, g2, ys', g3, o, es, ep, g4, g5⟩ keep
      exact ⟨g1, g2, ys', g3, o, es, ep, keep _ g4, g5⟩⟩, rfl, h _ (I.hok.fresh (Nat.le_refl _))⟩⟩
end
section
variable {P : Program} {w : World} {K : PySem.W.Frag} {σ : L2.St} {H : Hp} {Q : VK} {nx bk ct : L2.St → Hp → Prop} {rt : VK} {v : V}
theorem w_nin {ty td : TE} (h : ty σ H fun y H1 => td σ H1 fun x H2 => rNIn P w x y H2 Q) : tNIn P w ty td σ H Q := h
theorem w_nget {td ty : TE} (h : td σ H fun x H1 => ty σ H1 fun y H2 => rNGet P w x y H2 Q) : tNGet P w td ty σ H Q := h
theorem w_nput {td ty tv : TE} (h : tv σ H fun v H1 => td σ H1 fun x H2 => ty σ H2 fun y H3 => rNPut P w x y v H3 fun H4 => nx σ H4) : sNPut P w td ty tv ⟨nx, rt, bk, ct⟩ σ H := h
theorem w_seqNP {td ty tv : TE} {u : TS} (h : tv σ H fun v H1 => td σ H1 fun x H2 => ty σ H2 fun y H3 => rNPut P w x y v H3 fun H4 => u ⟨nx, rt, bk, ct⟩ σ H4) : tSeq (sNPut P w td ty tv) u ⟨nx, rt, bk, ct⟩ σ H := h
theorem w_nin' {a b : Addr} {xs : List NEnt} {k : NestedKey} (d : NDict P w H a xs) (hk : NAt H k (.ref b)) (h8 : k.depth ≤ 8) (h : Q (.bl (NVal xs k).isSome) H) : rNIn P w (.ref a) (.ref b) H Q := ⟨a, b, xs, k, rfl, rfl, d, hk, h8, h⟩
theorem w_nget' {a b : Addr} {xs : List NEnt} {k : NestedKey} (d : NDict P w H a xs) (hk : NAt H k (.ref b)) (h8 : k.depth ≤ 8) (l : NVal xs k = some v) (h : Q v H) : rNGet P w (.ref a) (.ref b) H Q := ⟨a, b, xs, k, v, rfl, rfl, d, hk, h8, l, h⟩
theorem w_nput' {a b : Addr} {xs : List NEnt} {k : NestedKey} {R : Hp → Prop} (d : NDict P w H a xs) (hk : NAt H k (.ref b)) (h8 : k.depth ≤ 8) (hl : xs.length < sizeLine) (h : ∀ H1, NDict P w H1 a (NPut xs k b v) → Off a H H1 → R H1) : rNPut P w (.ref a) (.ref b) v H R := by
  refine ⟨a, b, xs, k, rfl, rfl, d, hk, h8, hl, h _ ⟨upd_same, fun p hp => ?_⟩ fun x hx => upd_ne hx⟩
  have t : KT H (upd H a (NO P w a (NPut xs k b v))) := ⟨fun c ys ec => upd_get (ne_of ec d.at' (fun z => nomatch z)) ec, fun c _ ys ec => upd_get (ne_of ec d.at' (fun z => nomatch z)) ec⟩
  have hp' : (NAt H p.1 (.ref p.2.1) ∧ p.1.depth ≤ 8) := by
    unfold NPut at hp
    split at hp
    · obtain ⟨q, hq, rfl⟩ := List.mem_map.mp hp
      have := d.keys q hq
      split <;> exact this
    · rcases List.mem_append.mp hp with hp | hp
      · exact d.keys p hp
      · have e : p = (k, b, v) := by simpa using hp
        subst e
        exact ⟨hk, h8⟩
  exact ⟨NAt.kt t _ _ hp'.1, hp'.2⟩
theorem w_nnew (h : ∀ p H1, H p = none → NDict P w H1 p [] → Same H H1 → Q (.ref p) H1) : tNNew P w σ H Q := fun p hp => h p _ hp ⟨upd_same, fun q hq => by cases hq⟩ (Same.new hp)
end
end FW

set_option Elab.async false
set_option linter.all false
set_option maxRecDepth 100000
set_option maxHeartbeats 4000000
/-! sets of ints out of lists, sorted at any length -/
namespace FW
open PySem PySem.Spec PyProof.Rows L2
/-- an empty set, as set.__new__ lays it -/
abbrev es0 (w : World) : Obj := { cls := .type "set", dict := none, data := .set #[] 0 (.fresh 0 0 (!w.params.followText "set-order")) }
section
variable {P : Program} {w : World} {A : Around} {E : Value → Shared → Prop} {s : Shared}
theorem set_of_list {l : Addr} {xs : Array Value} (ns : List Int) {Q : Value → Shared → Prop} (calm : A.handled = none) (isL : s.heap.IsList l xs) (are : IntsAre xs.toList ns) (few : ns.length + 1 < scanBound)
    (fin : ∀ (g : Heap) (tk c : Nat), SetR w g s.heap.objs.size (fun j => decide (j ∈ ns)) c → c ≤ ns.length → (∀ b o, s.heap.get? b = some o → g.get? b = some o) → Q (.ref s.heap.objs.size) { s with heap := g, toks := tk }) :
    wpAny (model P w) A (call (.type "set") [.ref l]) Q E s := by
  have size : xs.size = ns.length := by rw [← Array.length_toList]; exact IntsAre.length are
  obtain ⟨c0, tl, c1⟩ := F.called_set.mro
  have c2 := F.called_set.made
  have c3 := F.called_set.sub
  have c4 := F.called_set.notType
  have c5 := F.called_set.canCreate
  have c6 := F.typeCall_set_1 (.ref l)
  refine wpAny_call (codeAny_of_tree ?_)
  show wpAny (model P w) _ (callAny (.type "set") ⟨[.ref l], []⟩) _ _ s
  refine wpAny_pure ⟨Code.quiet_builtin _ (by decide +kernel), ?_⟩
  refine codeAny_builtin F.entry_type_call ?_
  rw [Around.under_plain (weight_type_call_type "set" [.ref l] []) rfl]
  repeat (any_goals (first | assumption | wp_step))
  refine codeAny_mono (code_set_led1 (w := w) (.ref l) (E := E) (Q₁ := fun y t => y = .ref s.heap.objs.size ∧ t = { s with heap := s.heap.push (es0 w) }) ⟨rfl, rfl⟩) fun r t hr => ?_
  match r, hr with
  | .error e, hr => exact hr
  | .ok (.ret y), hr =>
    obtain ⟨ey, et⟩ := hr
    subst ey et
    have at0 : (s.heap.push (es0 w)).get? s.heap.objs.size = some (es0 w) := Heap.get?_push_size _ rfl
    have ty0 : Shared.TypeIs { s with heap := s.heap.push (es0 w) } (.ref s.heap.objs.size) "set" := ⟨_, at0, rfl⟩
    have d1 := F.called_set.init.lookup
    have d2 := F.called_set.init.bind (.ref s.heap.objs.size)
    repeat (any_goals (first | assumption | wp_step))
    refine codeAny_mono (codeAny_call_builtin (R := wants (fun y t => y = .none ∧ ∃ g tk c, t = { s with heap := g, toks := tk } ∧ SetR w g s.heap.objs.size (fun j => decide (j ∈ ns)) c ∧ c ≤ ns.length ∧ (∀ b o, s.heap.get? b = some o → g.get? b = some o)) E) F.called_set.init.plain F.entry_set_init (check_set_init_1 ty0 ?_)) fun r2 t2 hr2 => ?_
    · obtain ⟨⟨kl, dc, dt, sl⟩, hol, hcl, nl, hdl⟩ := isL
      simp only at hcl hdl
      subst hcl
      subst hdl
      have at1 : (s.heap.push (es0 w)).get? l = some { cls := .type "list", dict := dc, data := .seq xs nl, slots := sl } := Heap.get?_push_of_some _ hol
      have n1 := F.sub_list_set
      have n2 := F.sub_list_frozenset
      have n3 : (Value.type "list" == Value.type "dict") = false := by decide
      have isL1 : (s.heap.push (es0 w)).IsList l xs := ⟨_, at1, rfl, nl, rfl⟩
      unfold Builtin.«set.__init__» noKeywords Builtin.Frozenset.updateFrom
      generalize gi : pyIter = it
      wp_walk
      subst gi
      refine wpAny_pyIter_list isL1 ?_
      refine wpAny_bind (wpAny_runValue ?_)
      have ll : l < s.heap.objs.size := Heap.lt_size hol
      have calm3 : A.in1.in1.in1.handled = none := by simp [calm]
      have sz1 : (s.heap.push (es0 w)).objs.size = s.heap.objs.size + 1 := Heap.size_push ..
      have ne1 : l ≠ (s.heap.push (es0 w)).objs.size := by rw [sz1]; exact Nat.ne_of_lt (Nat.lt_succ_of_lt ll)
      have ne2 : s.heap.objs.size ∉ [(s.heap.push (es0 w)).objs.size, l] := by
        rw [sz1]
        simp only [List.mem_cons, List.not_mem_nil, or_false, not_or]
        exact ⟨Nat.ne_of_lt (Nat.lt_succ_self _), Nat.ne_of_gt ll⟩
      have vals : ∀ (i : Nat) (v : Value), xs[i]? = some v → ∃ k t, ns[i]? = some k ∧ v = .int k t := fun i v hv => by
        have hi : i < ns.length := by rw [← size]; exact (Array.getElem?_eq_some_iff.mp hv).1
        obtain ⟨t, e⟩ := PyProof.Rows.IntsAre.int_at are i v (by rw [Array.getElem?_toList]; exact hv)
        exact ⟨ns[i], t, List.getElem?_eq_getElem hi, by rw [e, List.getD_eq_getElem?_getD, List.getElem?_eq_getElem hi]; rfl⟩
      refine set_update_ints (Walks.list calm3 _ l ne1 xs).toS s.heap.objs.size ne2 ns size few vals xs.size 0 _ (Nat.sub_zero _) (Nat.zero_le _) ⟨⟨_, Heap.get?_push_size _ rfl, rfl, rfl⟩, isL1.push _⟩ ⟨0, Nat.le_refl 0, setR_new_at (Heap.get?_push_of_some _ at0)⟩ ?_
      intro t c mv hc hS
      obtain ⟨g, g2, g3, tk, g5⟩ := t
      have q1 : g2 = s.gens := mv.gens
      have q2 : g3 = s.drawn := mv.drawn
      have q3 : g5 = s.os := mv.os
      subst q1 q2 q3
      show wpAny _ _ _ _ _ _
      refine wpAny_pure ?_
      show wpAny _ _ (ret Value.none) _ _ _
      rw [size] at hc
      refine wpAny_pure ⟨rfl, g, tk, c, rfl, hS, hc, fun b o e => ?_⟩
      have lb : b < s.heap.objs.size := Heap.lt_size e
      exact mv.heap b o (by rw [sz1]; simp only [List.mem_cons, List.not_mem_nil, or_false, not_or]; exact ⟨Nat.ne_of_lt lb, Nat.ne_of_lt (Nat.lt_succ_of_lt lb)⟩) (Heap.get?_push_of_some _ (Heap.get?_push_of_some _ e))
    · match r2, hr2 with
      | .error e, hr2 => exact hr2
      | .ok (.ret y), hr2 =>
        obtain ⟨ey, g, tk, c, et, hS, hc, keep⟩ := hr2
        subst ey et
        repeat (any_goals (first | assumption | wp_step))
        exact fin _ _ _ hS hc keep
      | .ok .next, hr2 => exact hr2.elim
      | .ok .brk, hr2 => exact hr2.elim
      | .ok .cont, hr2 => exact hr2.elim
  | .ok .next, hr => exact hr.elim
  | .ok .brk, hr => exact hr.elim
  | .ok .cont, hr => exact hr.elim
end
def rSetL (K : PySem.W.Frag) (w : World) (vs : List V) (H : Hp) (Q : VK) : Prop := ∃ (l : Addr) (ns : List Int), vs = [.ref l] ∧ SqL K H l (ns.map V.int) ∧ ns.length ≤ 4000 ∧ ∀ (p : Addr) (c : Nat), H p = none → c ≤ ns.length → Q (.ref p) (upd H p (SetO w p (fun j => decide (j ∈ ns)) c))
def rSortS (w : World) (vs : List V) (H : Hp) (Q : VK) : Prop := ∃ (a : Addr) (S : Int → Bool) (n : Nat), vs = [V.ref a] ∧ H a = some (SetO w a S n) ∧ n ≤ 4000 ∧ ∀ (ns : List Int) (p : Addr), ns.Pairwise (· < ·) → (∀ k : Int, k ∈ ns ↔ S k = true) → H p = none → Q (.ref p) (upd H p (.lst (ns.map V.int)))
section
variable {X : Cx}
theorem c_setL (calm : X.calm = true) : CallR X (.type "set") (rSetL X.K X.w) := by
  intro pins s σ H vs us Q I r h
  obtain ⟨l, ns, rfl, hl, hn, q⟩ := h
  rw [Vals.ref1 r]
  obtain ⟨its, rv, pl, hz⟩ := I.list hl
  refine set_of_list ns (I.ok.hd calm) pl.isList (by simpa using RZ.intsAre_vals rv) (by unfold scanBound; omega) fun g tk c R hc keep => ?_
  have free : H s.heap.objs.size = none := I.hok.fresh (Nat.le_refl _)
  exact ⟨.ref s.heap.objs.size, _, I.laid (t' := tk) keep (Nat.le_refl _) (setO_new R), rfl, q _ c free hc⟩
theorem c_sortS (calm : X.calm = true) : CallR X (.builtin "sorted") (rSortS X.w) := by
  intro pins s σ H vs us Q I r h
  obtain ⟨a, S, n, rfl, ha, hn4, q⟩ := h
  rw [Vals.ref1 r]
  obtain ⟨o, es, ep, t, ho, hex, hd, good, nd, hm, hb, hf, hn, ris, led⟩ := setO_get I ha
  refine Calls.call_function_entry kind_sorted plain_sorted entry_sorted (args_sorted1 _) ?_
  unfold Builtin.«sorted»; refine wpAny_bind (m := checkCount "sorted" 1 1 _) (wpAny_pure ?_)
  refine wpAny_bind (collect_set (A := X.A.in1) (I.ok.hd calm) ⟨o, ho, hex.1, hd⟩ hf hb ris led fun s1 xs k1 z1 g1 o1 pm => ?_)
  have xl : xs.length = n := by rw [pm.length_eq, List.length_map, Array.length_toList]; exact hn
  have xI : IntsAre xs (xs.map Builtin.Re.reRawOf) := L2.ints_of xs fun v hv => by
    obtain ⟨e, he, rfl⟩ := List.mem_map.mp (pm.mem_iff.mp hv)
    obtain ⟨k, tk, h1, _⟩ := good e he
    exact ⟨k, tk, h1⟩
  have pk : (xs.map Builtin.Re.reRawOf).Perm (es.toList.map keyOf) := by
    have q := pm.map Builtin.Re.reRawOf
    rwa [List.map_map] at q
  have hz : xs.length ≤ sizeLine := by rw [xl, sizeLine_eq]; omega
  refine wpAny_bind (wpAny_newList ?_ hz)
  have atL : (s1.heap.push (seqObj "list" xs.toArray 0)).get? s1.heap.objs.size = some (seqObj "list" xs.toArray 0) := Heap.get?_push_size _ rfl
  refine wpAny_bind (wpAny_holding (wpAny_call_entry slot_list_sort ⟨_, atL, rfl⟩ entry_list_sort (SrtO.list_sort_ord (s := { s1 with heap := s1.heap.push (seqObj "list" xs.toArray 0) }) SrtO.swo_int atL hz (fun h2 => SrtO.ints_sortable xI h2) fun out h1 h2 => ⟨_, rfl, ?_⟩) (args_list_sort _)))
  obtain ⟨i1, i2, i3⟩ := SrtO.ints_out xI h1 h2
  obtain ⟨e', he'⟩ := sortedHeap_at (vs := xs) (out := out.toArray) atL
  have pn : (out.map SrtO.iv).Perm (es.toList.map keyOf) := i2.trans pk
  have hlen : ((out.map SrtO.iv).map V.int).length ≤ sizeLine := by rw [List.length_map, i2.length_eq, List.length_map]; exact hz
  have free : H s1.heap.objs.size = none := I.hok.fresh z1
  have keep : ∀ b u, s.heap.get? b = some u → (sortedHeap (s1.heap.push (seqObj "list" xs.toArray 0)) s1.heap.objs.size xs out.toArray).get? b = some u := fun b u e => by
    have e1 := k1 b u e
    have lb : b < s1.heap.objs.size := Heap.lt_size e1
    rw [sortedHeap_old (Nat.ne_of_lt lb) (by rw [size_push']; exact Nat.lt_succ_of_lt lb)]
    exact Heap.get?_push_of_some _ e1
  have J : Inv X pins σ (upd H s1.heap.objs.size (.lst ((out.map SrtO.iv).map V.int))) { s with heap := sortedHeap (s1.heap.push (seqObj "list" xs.toArray 0)) s1.heap.objs.size xs out.toArray, gens := s1.gens, drawn := s1.drawn, toks := s1.toks } := I.call (ch := []) (Un.laid keep z1 free) (I.hok.laid (o := .lst ((out.map SrtO.iv).map V.int)) keep z1 ⟨hlen, out, e', vals_of_ints i1, he'⟩) (by rw [g1]; exact I.bare) (fun _ z => nomatch z)
  refine wpAny_pure ⟨_, rfl, .ref s1.heap.objs.size, upd H s1.heap.objs.size (.lst ((out.map SrtO.iv).map V.int)), ?_, rfl, q _ _ (lt_of_le_nodup _ i3 (pn.nodup_iff.mpr nd)) (fun k => by rw [pn.mem_iff, ← hm k]) free⟩
  cases s1
  cases s
  cases o1
  exact J
end
section
variable {K : PySem.W.Frag} {w : World} {H : Hp} {Q : VK}
theorem w_setOf {l : Addr} {ns : List Int} (h1 : SqL K H l (ns.map V.int)) (h2 : ns.length ≤ 4000) (h : ∀ p c H1, H p = none → c ≤ ns.length → H1 p = some (SetO w p (fun j => decide (j ∈ ns)) c) → Same H H1 → Q (.ref p) H1) : rSetL K w [.ref l] H Q :=
  ⟨l, ns, rfl, h1, h2, fun p c hp hc => h p c _ hp hc upd_same (Same.new hp)⟩
theorem w_sortS {a : Addr} {S : Int → Bool} {n : Nat} (h1 : H a = some (SetO w a S n)) (h2 : n ≤ 4000) (h : ∀ (ns : List Int) p H1, ns.Pairwise (· < ·) → (∀ k : Int, k ∈ ns ↔ S k = true) → H p = none → H1 p = some (.lst (ns.map V.int)) → Same H H1 → Q (.ref p) H1) : rSortS w [.ref a] H Q :=
  ⟨a, S, n, rfl, h1, h2, fun ns p hs hm hp => h ns p _ hs hm hp upd_same (Same.new hp)⟩
end
end FW

set_option Elab.async false
set_option linter.all false
set_option maxRecDepth 100000
set_option maxHeartbeats 4000000
/-! objects of own classes; max with a default; data in lists -/
namespace FW
open PySem PySem.Spec PyProof.Rows L2
/-! ### max(list, default=d) -/
def rMaxD (K : PySem.W.Frag) (vs zs : List V) (H : Hp) (Q : VK) : Prop := ∃ (a : Addr) (ns : List Int) (d : Int), vs = [.ref a] ∧ zs = [.int d] ∧ SqL K H a (ns.map V.int) ∧ (ns = [] → Q (.int d) H) ∧ ∀ m, m ∈ ns → (∀ y ∈ ns, y ≤ m) → Q (.int m) H
section
variable {X : Cx} {pins : List (Addr × Obj)} {σ : L2.St} {H : Hp} {s : Shared}
theorem int_at {ns : List Int} {its : List Value} (r : Vals (ns.map V.int) its) {i : Nat} {v : Value} (h : its[i]? = some v) : ∃ k t, ns[i]? = some k ∧ v = .int k t := by
  induction ns generalizing its i with
  | nil =>
    cases r
    simp at h
  | cons n ns ih =>
    cases r with
    | cons r1 rr =>
      obtain ⟨t, rfl⟩ := r1
      cases i with
      | zero => exact ⟨n, t, rfl, by simpa using h.symm⟩
      | succ i => exact ih rr (by simpa using h)
end
/-! ### fields, methods, makings -/
/-- a class as the top has left it, with the names of its fields -/
structure Kl (K : PySem.W.Frag) (mg : Str → Option Value) (x : Str) (C : Addr) (as : List Str) : Prop where
  g : mg x = some (.ref C)
  cl : Cls K C
  na : ∀ f ∈ as, NoAttr K C f
/-- a method -/
structure DfM (K : PySem.W.Frag) (C : Addr) (m qual : Str) (st : Stmt) (ps : List Str) (f : Addr) (fd : FuncData) : Prop where
  fn : Fun K m qual st f fd
  b : Binds K fd ps []
  m : Meth K C m f
def rFld (K : PySem.W.Frag) (f : Str) (x : V) (H : Hp) (Q : VK) : Prop := ∃ a C dx fs v, x = .ref a ∧ H a = some (.ins C dx fs) ∧ Cls K C ∧ NoAttr K C f ∧ fs.lookup f = some v ∧ Q v H
def rFldS (K : PySem.W.Frag) (f : Str) (x y : V) (H : Hp) (R : Hp → Prop) : Prop := ∃ a C dx fs, x = .ref a ∧ H a = some (.ins C dx fs) ∧ Cls K C ∧ NoAttr K C f ∧ fs.length < 1000 ∧ R (upd H a (.ins C dx (putF f y fs)))
def rMeth (C : Addr) (m : Str) (x : V) (H : Hp) (A : Prop) : Prop := ∃ a dx fs, x = .ref a ∧ H a = some (.ins C dx fs) ∧ fs.lookup m = none ∧ A
def rMake (C : Addr) (sp : Sp) (vs : List V) (H : Hp) (Q : VK) (E : XK) : Prop := ∀ x dx, H x = none → H dx = none → dx ≠ x → sp (.ref x :: vs) (upd (upd H dx (.own x)) x (.ins C dx [])) (fun v H2 => v = .non ∧ Q (.ref x) H2) E
section
variable {K : PySem.W.Frag} {σ : L2.St} {H : Hp} {Q : VK} {nx bk ct : L2.St → Hp → Prop} {rt : VK} {v : V}
theorem w_maxD {r : List V → List V → Hp → VK → Prop} {t tk : TA} (h : t σ H fun vs H1 => tk σ H1 fun zs H2 => r vs zs H2 Q) : tCKw r t tk σ H Q := h
end
end FW

set_option Elab.async false
set_option linter.all false
set_option maxRecDepth 100000
set_option maxHeartbeats 4000000
/-! l[::-1] of a list; set of a tuple of ints; two promises of one def -/
namespace FW
open PySem PySem.Spec PyProof.Rows L2
def rRevL (K : PySem.W.Frag) (x z : V) (H : Hp) (Q : VK) : Prop := ∃ (a : Addr) (xs : List V), x = .ref a ∧ z = .int (-1) ∧ SqL K H a xs ∧ Nw (.lst xs.reverse) H Q
def tRevL (K : PySem.W.Frag) (te ts : TE) : TE := fun σ H Q => te σ H fun x H1 => ts σ H1 fun z H3 => rRevL K x z H3 Q
section
variable {X : Cx}
end
def rSetT (K : PySem.W.Frag) (w : World) (vs : List V) (H : Hp) (Q : VK) : Prop := ∃ (l : Addr) (ns : List Int), vs = [.ref l] ∧ SqT K H l (ns.map V.int) ∧ ns.length ≤ 4000 ∧ ∀ (p : Addr) (c : Nat), H p = none → c ≤ ns.length → Q (.ref p) (upd H p (SetO w p (fun j => decide (j ∈ ns)) c))
theorem c_setT {X : Cx} (calm : X.calm = true) : CallR X (.type "set") (rSetT X.K X.w) := by
  intro pins s σ H vs us Q I r h
  obtain ⟨l, ns, rfl, hl, hn, q⟩ := h
  rw [Vals.ref1 r]
  obtain ⟨its, rv, pl, hz⟩ := I.tuple hl
  refine call_set_tupI ns (I.ok.hd calm) (show s.heap.IsTuple l its.toArray from pl) (by simpa using RZ.intsAre_vals rv) (by unfold scanBound; omega) fun g tk c R hc keep => ?_
  have free : H s.heap.objs.size = none := I.hok.fresh (Nat.le_refl _)
  exact ⟨.ref s.heap.objs.size, _, I.laid (t' := tk) keep (Nat.le_refl _) (setO_new R), rfl, q _ c free hc⟩
section
variable {K : PySem.W.Frag} {w : World} {σ : L2.St} {H : Hp} {Q : VK}
theorem w_setOfT {l : Addr} {ns : List Int} (h1 : SqT K H l (ns.map V.int)) (h2 : ns.length ≤ 4000) (h : ∀ p c H1, H p = none → c ≤ ns.length → H1 p = some (SetO w p (fun j => decide (j ∈ ns)) c) → Same H H1 → Q (.ref p) H1) : rSetT K w [.ref l] H Q :=
  ⟨l, ns, rfl, h1, h2, fun p c hp hc => h p c _ hp hc upd_same (Same.new hp)⟩
end
theorem FnOk.or {P : Program} {w : World} {K : PySem.W.Frag} {mg : Str → Option Value} {base : Heap} {CX : CXT} {k : Nat} {f : Addr} {fd : FuncData} {ps : List Str} {sp sp' : Sp} (F : FnOk P w K mg base CX k f fd ps sp) (G : FnOk P w K mg base CX k f fd ps sp') : FnOk P w K mg base CX k f fd ps (fun vs H Q E => sp vs H Q E ∨ sp' vs H Q E) :=
  ⟨fun vs H Q E q => q.elim (F.len vs H Q E) (G.len vs H Q E), fun A outer s H args us vs Q E hr he hb hv hs => hs.elim (F.run A outer s H args us vs Q E hr he hb hv) (G.run A outer s H args us vs Q E hr he hb hv)⟩
end FW

set_option Elab.async false
set_option linter.all false
set_option maxRecDepth 100000
set_option maxHeartbeats 4000000
/-! d.items() of a dict of texts and ints, and sorted of it -/
namespace FW
open PySem PySem.Spec PyProof.Rows L2
def rItemsK : V → List V → Hp → VK → Prop := fun x xs H Q => ∃ (a : Addr) (kvs : List (Key × V)), x = .ref a ∧ xs = [] ∧ H a = some (.dK kvs) ∧ ∀ p, H p = none → Q (.ref p) (upd H p (L2.DX.itemsO p a))
/-! ### the order of pairs of a text and an int -/
abbrev TI := Addr × Str × Int
def encTI (b : TI) : PyData := .tuple [.str b.2.1, .int b.2.2]
abbrev txLt (x y : Str) : Prop := x.cps.toList < y.cps.toList
/-! ### the tuples laid -/
def kvTI (qs : List (Str × Int)) : List (Key × V) := qs.map fun q => ((Sum.inr q.1 : Key), V.int q.2)
def rSortI (vs : List V) (H : Hp) (Q : VK) : Prop := ∃ (a d : Addr) (qs : List (Str × Int)), vs = [.ref a] ∧ H a = some (L2.DX.itemsO a d) ∧ H d = some (.dK (kvTI qs)) ∧ (qs.map (·.1)).Nodup ∧
  ∀ (H' : Hp) (p : Addr) (ts : List TI), (∀ b o, H b = some o → H' b = some o) → H p = none → H' p = some (.lst (ts.map fun t => .ref t.1)) → (∀ t ∈ ts, H' t.1 = some (.tup [.str t.2.1, .int t.2.2])) → (ts.map (·.2)).Perm qs → ts.Pairwise (fun x y => txLt x.2.1 y.2.1) → Q (.ref p) H'
end FW

set_option Elab.async false
set_option linter.all false
set_option maxRecDepth 100000
set_option maxHeartbeats 4000000
/-! a def of an own class called through the class: C.m(x, ..) -/
namespace FW
open PySem PySem.Spec PyProof.Rows L2
/-- a class's reading, with the names of fields, whatever its name -/
structure Kf (K : PySem.W.Frag) (C : Addr) (as : List Str) : Prop where
  cl : Cls K C
  na : ∀ f ∈ as, NoAttr K C f
def tClsF (C : Addr) (sp : Sp) (dvs : List V) (E : XK) (ta : TE) (t : TA) : TE := fun σ H Q => ta σ H fun x H1 => x = .ref C ∧ t σ H1 fun vs H2 => sp (vs ++ dvs) H2 Q E
end FW

set_option Elab.async false
set_option linter.all false
set_option maxRecDepth 100000
set_option maxHeartbeats 4000000
/-! len and str by an own class's defs; != of one object with itself -/
namespace FW
open PySem PySem.Spec PyProof.Rows L2
section
variable {X : Cx} {CX : CXT} {k : Nat} {f C : Addr} {fd : FuncData} {ps : List Str} {sp : Sp} {E : XK}
def rLenO (C : Addr) (sp : Sp) (E : XK) (xs : List V) (H : Hp) (Q : VK) : Prop := ∃ a dx fs, xs = [.ref a] ∧ H a = some (.ins C dx fs) ∧ sp [.ref a] H (fun v H2 => ∃ n : Nat, v = .int (n : Int) ∧ n ≤ 1000000 ∧ Q (.int (n : Int)) H2) E
def rStrO (C : Addr) (sp : Sp) (E : XK) (xs : List V) (H : Hp) (Q : VK) : Prop := ∃ a dx fs, xs = [.ref a] ∧ H a = some (.ins C dx fs) ∧ sp [.ref a] H (fun v H2 => ∃ z : Str, v = .str z ∧ Q (.str z) H2) E
end
def rStrI (xs : List V) (H : Hp) (Q : VK) : Prop := ∃ i, xs = [V.int i] ∧ i.natAbs.log2 < 1920 ∧ Q (.str (toString i)) H
/-! ### one object compared with itself -/
section
variable {M : Model} {prog : Program} {w : World} {A : Around} {E : Value → Shared → Prop} {s : Shared} {K : PySem.W.Frag} {x C : Addr} {ox : Obj} {od : Option Obj}
end
/-- an own class that compares by identity -/
structure EqI (K : PySem.W.Frag) (C : Addr) : Prop where
  mr : PySem.W.mroIn K C (.type "object") = some true
  eq : PySem.W.findIn K (.ref C) "__eq__" = some (some (.builtin "object.__eq__"))
  ne : PySem.W.findIn K (.ref C) "__ne__" = some (some (.builtin "object.__ne__"))
def rNeS (K : PySem.W.Frag) : R2 := fun x y H Q => ∃ a C dx fs, x = .ref a ∧ y = .ref a ∧ H a = some (.ins C dx fs) ∧ EqI K C ∧ Q (.bl false) H
end FW

set_option Elab.async false
set_option linter.all false
set_option maxRecDepth 100000
set_option maxHeartbeats 4000000
/-! f(x, k = v) in a try; for k, v in e.items() of a dict that a call made -/
namespace FW
open PySem PySem.Spec PyProof.Rows L2
section
variable {X : Cx} {CX : CXT} {k n : Nat} {f : Addr} {fd : FuncData} {ps ks : List Str} {sp : Sp} {E : L2.St → XK} {x : Str} {p pos : Pos} {e : Expr} {es : List Expr} {kws : List Keyword} {t tk : TA} {g : List Value → List Value → List Value} {gV : List V → List V → List V}
def tCallNS (n m : Nat) (sp : Sp) (gV : List V → List V → List V) (E : L2.St → XK) (t tk : TA) : TE := fun σ H Q => t σ H fun vs H1 => tk σ H1 fun zs H2 => vs.length = n ∧ zs.length = m ∧ sp (gV vs zs) H2 Q (E σ)
/-! ### a dict that is read from here on -/
def tFrz (td : TE) : TE := fun σ H Q => td σ H fun x H1 => ∃ d kvs, x = .ref d ∧ H1 d = some (.dK kvs) ∧ ∀ o H2, H2 d = some (.frz o (.dK kvs)) → Off d H1 H2 → Q x H2
def rItems (x : V) (H1 : Hp) (R : It → Hp → Prop) : Prop := ∃ d o kvs, x = .ref d ∧ H1 d = some (.frz o (.dK kvs)) ∧ R (Iti d o kvs) H1
end
end FW

set_option Elab.async false
set_option linter.all false
set_option maxRecDepth 100000
set_option maxHeartbeats 4000000
/-! zip of a tuple and a list -/
namespace FW
open PySem
section
variable {pg : Program} {w : World} {ar : Around} {er : Value → Shared → Prop} {sh : Shared}
end
abbrev zipMH1 (h : Heap) (l1 : Addr) : Heap := h.push { cls := .type "tuple_iterator", data := .fields #[.ref l1, .int 0 0] }
abbrev zipMH2 (h : Heap) (l1 l2 : Addr) : Heap := (zipMH1 h l1).push { cls := .type "list_iterator", data := .fields #[.ref l2, .int 0 0] }
abbrev zipMH3 (h : Heap) (l1 l2 : Addr) : Heap := (zipMH2 h l1 l2).push { cls := .type "tuple", data := .seq #[.ref h.objs.size, .ref (zipMH1 h l1).objs.size] }
abbrev zipMH4 (h : Heap) (l1 l2 : Addr) : Heap := (zipMH3 h l1 l2).push { cls := .type "tuple", data := .seq #[.none, .none] }
abbrev zipMH5 (h : Heap) (l1 l2 : Addr) : Heap := (zipMH4 h l1 l2).push { cls := .type "zip", data := .fields #[.none, .bool false, .bool false, .ref (zipMH2 h l1 l2).objs.size, .ref (zipMH3 h l1 l2).objs.size] }

section
variable {pg : Program} {w : World} {ar : Around} {er : Value → Shared → Prop} {sh : Shared}
end
open PySem.Spec PyProof.Rows L2
def ItzM (K : PySem.W.Frag) (aa b : Addr) : It :=
  ⟨fun ix H => ∃ (xs ys : List V) (x y : V), SqT K H aa xs ∧ SqL K H b ys ∧ xs[ix]? = some x ∧ ys[ix]? = some y,
    fun ix H v H' => ∃ T x y, v = .ref T ∧ H T = none ∧ H' = upd H T (.tup [x, y]) ∧ (∀ xs, SqT K H aa xs → xs[ix]? = some x) ∧ ∀ ys, SqL K H b ys → ys[ix]? = some y,
    fun ix H => ∃ xs ys : List V, SqT K H aa xs ∧ SqL K H b ys ∧ (xs.length ≤ ix ∨ ys.length ≤ ix)⟩
def iZipM (K : PySem.W.Frag) (ta : TA) : L2.TI := fun σ H R => ta σ H fun vs Hn => ∃ a b xs ys, vs = [.ref a, .ref b] ∧ SqT K Hn a xs ∧ SqL K Hn b ys ∧ R (ItzM K a b) Hn
def rZipM (K : PySem.W.Frag) (vs : List V) (H : Hp) (R : It → Hp → Prop) : Prop := ∃ a b xs ys, vs = [.ref a, .ref b] ∧ SqT K H a xs ∧ SqL K H b ys ∧ R (ItzM K a b) H
end FW

set_option Elab.async false
set_option linter.all false
set_option maxRecDepth 100000
set_option maxHeartbeats 4000000
/-! a set's table laid anew has room for all -/
namespace FW
open PySem PySem.Spec PyProof.Rows L2
/-! ### 5 x + 1 goes through all places -/
def s5 : Nat → Nat
  | 0 => 0
  | n + 1 => 5 * s5 n + 1
theorem s5_pow : ∀ n, 4 * s5 n + 1 = 5 ^ n
  | 0 => rfl
  | n + 1 => by
    have h := s5_pow n
    rw [Nat.pow_succ, ← h, s5]
    omega
theorem s5_add (m : Nat) : ∀ n, s5 (n + m) = 5 ^ m * s5 n + s5 m
  | 0 => by rw [Nat.zero_add, s5, Nat.mul_zero, Nat.zero_add]
  | n + 1 => by
    rw [show n + 1 + m = n + m + 1 by omega, s5, s5_add m n, s5, Nat.mul_add, Nat.mul_add]
    have h := s5_pow m
    have : 5 * (5 ^ m * s5 n) = 5 ^ m * (5 * s5 n) := by rw [Nat.mul_left_comm]
    omega
theorem s5_two (m : Nat) : s5 (m + m) = 2 * (s5 m * (2 * s5 m + 1)) := by
  rw [s5_add, ← s5_pow m, Nat.add_mul, Nat.mul_add]
  have e1 : 4 * s5 m * s5 m = 4 * (s5 m * s5 m) := Nat.mul_assoc ..
  have e2 : s5 m * (2 * s5 m) = 2 * (s5 m * s5 m) := by rw [Nat.mul_left_comm]
  rw [e1, e2]
  omega
theorem odd_dvd {k a b : Nat} (h : 2 ^ k ∣ a * (2 * b + 1)) : 2 ^ k ∣ a := by
  refine Nat.Coprime.dvd_of_dvd_mul_right (Nat.Coprime.pow_left k ?_) h
  show Nat.gcd 2 (2 * b + 1) = 1
  rw [Nat.gcd_rec, show (2 * b + 1) % 2 = 1 by omega]
  rfl
theorem s5_dvd : ∀ (k d : Nat), 2 ^ k ∣ s5 d → 2 ^ k ∣ d
  | 0, d, _ => by rw [Nat.pow_zero]; exact Nat.one_dvd d
  | k + 1, d, h => by
    have hp : 2 ^ (k + 1) = 2 * 2 ^ k := by rw [Nat.pow_succ, Nat.mul_comm]
    rw [hp] at h ⊢
    rcases Nat.mod_two_eq_zero_or_one d with e | e
    · have ed : d = d / 2 + d / 2 := by omega
      rw [ed, s5_two] at h
      have h1 := Nat.dvd_of_mul_dvd_mul_left (by decide) h
      have h2 := s5_dvd k (d / 2) (odd_dvd h1)
      obtain ⟨c, hc⟩ := h2
      exact ⟨c, by rw [Nat.mul_assoc, ← hc]; omega⟩
    · have ed : d = d / 2 + d / 2 + 1 := by omega
      rw [ed, s5, s5_two] at h
      have h2 : 2 ∣ 5 * (2 * (s5 (d / 2) * (2 * s5 (d / 2) + 1))) + 1 := Nat.dvd_trans (Nat.dvd_mul_right 2 (2 ^ k)) h
      omega
def f5 (N x : Nat) : Nat := (x * 5 + 1) % N
def it5 (N : Nat) : Nat → Nat → Nat
  | 0, x => x
  | n + 1, x => f5 N (it5 N n x)
theorem it5_lt {N : Nat} (h : 0 < N) {x : Nat} (hx : x < N) : ∀ n, it5 N n x < N
  | 0 => hx
  | n + 1 => Nat.mod_lt _ h
theorem it5_eq {N : Nat} {x : Nat} (hx : x < N) : ∀ n, it5 N n x = (5 ^ n * x + s5 n) % N
  | 0 => by
    rw [it5, Nat.pow_zero, Nat.one_mul, s5, Nat.add_zero, Nat.mod_eq_of_lt hx]
  | n + 1 => by
    rw [it5, it5_eq hx n, f5, Nat.add_mod, Nat.mul_mod, Nat.mod_mod, ← Nat.mul_mod, ← Nat.add_mod]
    congr 1
    rw [Nat.pow_succ, s5, Nat.add_mul]
    have : 5 ^ n * x * 5 = 5 ^ n * 5 * x := by rw [Nat.mul_right_comm]
    omega
theorem it5_add {N : Nat} (x : Nat) (m : Nat) : ∀ n, it5 N (n + m) x = it5 N n (it5 N m x)
  | 0 => by rw [Nat.zero_add]; rfl
  | n + 1 => by rw [show n + 1 + m = n + m + 1 by omega, it5, it5, it5_add x m n]
theorem it5_back {k x d : Nat} (hx : x < 2 ^ k) (h : it5 (2 ^ k) d x = x) : 2 ^ k ∣ d := by
  rw [it5_eq hx, ← s5_pow] at h
  refine s5_dvd k d (odd_dvd (b := 2 * x) ?_)
  have e : (4 * s5 d + 1) * x + s5 d = s5 d * (2 * (2 * x) + 1) + x := by
    rw [Nat.add_mul, Nat.mul_add, Nat.one_mul, Nat.mul_one]
    have e1 : 4 * s5 d * x = s5 d * (2 * (2 * x)) := by
      rw [Nat.mul_comm 4, Nat.mul_assoc]
      congr 1
      omega
    omega
  rw [e] at h
  have h2 : (s5 d * (2 * (2 * x) + 1) + x) % 2 ^ k = x % 2 ^ k := by rw [h, Nat.mod_eq_of_lt hx]
  have h3 := Nat.sub_mod_eq_zero_of_mod_eq h2
  rw [Nat.add_sub_cancel] at h3
  exact Nat.dvd_of_mod_eq_zero h3
theorem f5_inj {k x y : Nat} (hx : x < 2 ^ k) (hy : y < 2 ^ k) (h : f5 (2 ^ k) x = f5 (2 ^ k) y) : x = y := by
  have key : ∀ {x y : Nat}, x ≤ y → y < 2 ^ k → f5 (2 ^ k) x = f5 (2 ^ k) y → x = y := by
    intro x y hxy hy h
    have h3 := Nat.sub_mod_eq_zero_of_mod_eq (show (y * 5 + 1) % 2 ^ k = (x * 5 + 1) % 2 ^ k from h.symm)
    have h4 := Nat.dvd_of_mod_eq_zero h3
    have h5 : 2 ^ k ∣ (y - x) * (2 * 2 + 1) := by
      have : y * 5 + 1 - (x * 5 + 1) = (y - x) * 5 := by rw [Nat.sub_mul]; omega
      rw [this] at h4
      exact h4
    have h6 := odd_dvd h5
    by_cases e : y - x = 0
    · omega
    · have := Nat.le_of_dvd (by omega) h6
      omega
  rcases Nat.le_total x y with g | g
  · exact key g hy h
  · exact (key g hx h.symm).symm
theorem it5_inj {k x : Nat} (hx : x < 2 ^ k) : ∀ {n m : Nat}, n < m → m < 2 ^ k → it5 (2 ^ k) n x ≠ it5 (2 ^ k) m x := by
  have hN : 0 < 2 ^ k := by omega
  intro n m hnm hm h
  have key : ∀ j, it5 (2 ^ k) j (it5 (2 ^ k) 0 x) = it5 (2 ^ k) j (it5 (2 ^ k) (m - n) x) → x = it5 (2 ^ k) (m - n) x := by
    intro j
    induction j with
    | zero => exact fun h => h
    | succ j ih => exact fun h => ih (f5_inj (it5_lt hN hx j) (it5_lt hN (it5_lt hN hx _) j) h)
  have h1 := key n (by
    rw [← it5_add x (m - n) n, show n + (m - n) = m by omega]
    exact h)
  have h2 := it5_back hx h1.symm
  have := Nat.le_of_dvd (by omega) h2
  omega
theorem sub_len : ∀ (ks vs : List Nat), ks.Nodup → (∀ x ∈ ks, x ∈ vs) → ks.length ≤ vs.length
  | [], _, _, _ => Nat.zero_le _
  | k :: ks, vs, h, hs => by
    rw [List.nodup_cons] at h
    have hk := hs k (by simp)
    have ih := sub_len ks (vs.erase k) h.2 fun x hx => (List.mem_erase_of_ne (fun z => h.1 (by rw [← z]; exact hx))).mpr (hs x (by simp [hx]))
    rw [List.length_erase_of_mem hk] at ih
    have : 0 < vs.length := List.length_pos_of_mem hk
    rw [List.length_cons]
    omega
theorem nat_pigeon (N : Nat) (l : List Nat) (nd : l.Nodup) (h : ∀ x ∈ l, x < N) : l.length ≤ N := by
  have := sub_len l (List.range N) nd fun x hx => List.mem_range.mpr (h x hx)
  rwa [List.length_range] at this
/-- from any place every place is come to -/
theorem it5_all {k x y : Nat} (hx : x < 2 ^ k) (hy : y < 2 ^ k) : ∃ n, n < 2 ^ k ∧ it5 (2 ^ k) n x = y := by
  have hN : 0 < 2 ^ k := by omega
  refine Classical.byContradiction fun hno => ?_
  have hne : ∀ n, n < 2 ^ k → it5 (2 ^ k) n x ≠ y := fun n hn e => hno ⟨n, hn, e⟩
  have nd : ((List.range (2 ^ k)).map fun n => it5 (2 ^ k) n x).Nodup := by
    rw [List.Nodup, List.pairwise_map]
    refine List.Pairwise.imp_of_mem (R := (· < ·)) (fun {a b} ha hb h => ?_) List.pairwise_lt_range
    exact it5_inj hx h (List.mem_range.mp hb)
  have := nat_pigeon (2 ^ k) (y :: (List.range (2 ^ k)).map fun n => it5 (2 ^ k) n x) (List.nodup_cons.mpr ⟨fun h => by
    obtain ⟨n, hn, e⟩ := List.mem_map.mp h
    exact hne n (List.mem_range.mp hn) e, nd⟩) fun z hz => by
    rcases List.mem_cons.mp hz with e | h
    · exact e ▸ hy
    · obtain ⟨n, _, e⟩ := List.mem_map.mp h
      exact e ▸ it5_lt hN hx n
  rw [List.length_cons, List.length_map, List.length_range] at this
  omega
/-! ### a free place is found -/
/-- the places that are tried first in each stretch -/
def lp5 (mask : Nat) : Nat → Nat → Nat → Nat
  | 0, i, _ => i
  | n + 1, i, p => lp5 mask n (SetTable.leap mask i p).1 (SetTable.leap mask i p).2
theorem lp5_zero {mask : Nat} : ∀ (n i : Nat), lp5 mask n i 0 = it5 (mask + 1) n i
  | 0, _ => rfl
  | n + 1, i => by
    rw [lp5]
    show lp5 mask n ((i * 5 + 1 + 0 / 32) % (mask + 1)) (0 / 32) = _
    rw [Nat.zero_div, Nat.add_zero, lp5_zero n, it5_add (N := mask + 1) i 1 n]
    rfl
theorem free_none {owner : Array (Option Nat)} {mask : Nat} : ∀ (f i p : Nat), SetTable.layClean.free mask owner f i p = none → ∀ n, n < f → (owner.getD (lp5 mask n i p) (some 0)).isNone = false
  | 0, _, _, _, n, hn => absurd hn (Nat.not_lt_zero n)
  | f + 1, i, p, h, n, hn => by
    unfold SetTable.layClean.free at h
    cases e : (List.range (SetTable.runEnd mask i + 1 - i)).find? fun k => (owner.getD (i + k) (some 0)).isNone with
    | some k =>
      rw [e] at h
      cases h
    | none =>
      rw [e] at h
      cases n with
      | zero =>
        have h1 := List.find?_eq_none.mp e 0 (List.mem_range.mpr (by unfold SetTable.runEnd; split <;> omega))
        show (owner.getD (i + 0) (some 0)).isNone = false
        exact Bool.eq_false_iff.mpr h1
      | succ n => exact free_none f _ _ h n (by omega)
theorem free_some {owner : Array (Option Nat)} {mask : Nat} : ∀ (f i p j : Nat), SetTable.layClean.free mask owner f i p = some j → (owner.getD j (some 0)).isNone = true
  | 0, _, _, _, h => by cases h
  | f + 1, i, p, j, h => by
    unfold SetTable.layClean.free at h
    cases e : (List.range (SetTable.runEnd mask i + 1 - i)).find? fun k => (owner.getD (i + k) (some 0)).isNone with
    | some k =>
      rw [e] at h
      have : i + k = j := Option.some.inj h
      subst this
      simpa using List.find?_some e
    | none =>
      rw [e] at h
      exact free_some f _ _ j h
theorem free_is {owner : Array (Option Nat)} {mask k : Nat} (hm : mask + 1 = 2 ^ k) (h : Int) {y : Nat} (hy : y < mask + 1) (ho : owner.getD y (some 0) = none) :
    ∃ j, SetTable.layClean.free mask owner (SetTable.turns mask) (SetTable.bits h % (mask + 1)) (SetTable.bits h) = some j ∧ (owner.getD j (some 0)).isNone = true := by
  cases e : SetTable.layClean.free mask owner (SetTable.turns mask) (SetTable.bits h % (mask + 1)) (SetTable.bits h) with
  | some j => exact ⟨j, rfl, free_some _ _ _ _ e⟩
  | none =>
    have hb : SetTable.bits h < 32 ^ 13 := by
      have : SetTable.bits h < 2 ^ 64 := by
        unfold SetTable.bits
        have := Int.emod_lt_of_pos h (show (0 : Int) < 2 ^ 64 by decide)
        have := Int.emod_nonneg h (show ((2 : Int) ^ 64) ≠ 0 by decide)
        omega
      exact Nat.lt_of_lt_of_le this (by decide)
    obtain ⟨j, hj, ej⟩ : ∃ j, j < mask + 1 ∧ ∀ n, lp5 mask (n + 13) (SetTable.bits h % (mask + 1)) (SetTable.bits h) = it5 (mask + 1) n j := by
      have key : ∀ (m i p : Nat), p < 32 ^ m → i < mask + 1 → ∃ j, j < mask + 1 ∧ ∀ n, lp5 mask (n + m) i p = it5 (mask + 1) n j := by
        intro m
        induction m with
        | zero =>
          intro i p hp hi
          have : p = 0 := by rw [Nat.pow_zero] at hp; omega
          subst this
          exact ⟨i, hi, fun n => lp5_zero n i⟩
        | succ m ih =>
          intro i p hp hi
          obtain ⟨j, hj, e⟩ := ih ((i * 5 + 1 + p / 32) % (mask + 1)) (p / 32) (by
            rw [Nat.pow_succ] at hp
            exact (Nat.div_lt_iff_lt_mul (by decide)).mpr hp) (Nat.mod_lt _ (by omega))
          exact ⟨j, hj, fun n => e n⟩
      exact key 13 _ _ hb (Nat.mod_lt _ (by omega))
    rw [hm] at hj hy
    obtain ⟨n, hn, en⟩ := it5_all hj hy
    have en' : it5 (mask + 1) n j = y := by rw [hm]; exact en
    have := free_none _ _ _ e (n + 13) (by unfold SetTable.turns; omega)
    rw [ej n, en', ho] at this
    cases this
/-! ### what is laid -/
def liv (o : Array (Option Nat)) (j : Nat) : Option (Nat × Nat) := (o.getD j none).map (j, ·)
def livs (o : Array (Option Nat)) (M : Nat) : List (Nat × Nat) := (List.range M).filterMap (liv o)
theorem fm_congr {α : Type} {g g' : Nat → Option α} : ∀ l : List Nat, (∀ i ∈ l, g' i = g i) → l.filterMap g' = l.filterMap g
  | [], _ => rfl
  | a :: l, h => by
    have ih := fm_congr l fun i hi => h i (by simp [hi])
    cases e : g a with
    | none => rw [List.filterMap_cons_none (by rw [h a (by simp), e]), List.filterMap_cons_none e, ih]
    | some b => rw [List.filterMap_cons_some (by rw [h a (by simp), e]), List.filterMap_cons_some e, ih]
theorem fm_set {α : Type} (g g' : Nat → Option α) (j : Nat) (v : α) (h0 : g j = none) (h1 : g' j = some v) (h2 : ∀ i, i ≠ j → g' i = g i) : ∀ l : List Nat, l.Nodup → j ∈ l → (l.filterMap g').Perm (v :: l.filterMap g)
  | [], _, h => by cases h
  | a :: l, nd, h => by
    rw [List.nodup_cons] at nd
    by_cases e : a = j
    · subst e
      rw [List.filterMap_cons_some h1, List.filterMap_cons_none h0]
      have : l.filterMap g' = l.filterMap g := fm_congr l fun i hi => h2 i fun z => nd.1 (z ▸ hi)
      rw [this]
    · have hj : j ∈ l := by
        rcases List.mem_cons.mp h with g | g
        · exact absurd g.symm e
        · exact g
      have ih := fm_set g g' j v h0 h1 h2 l nd.2 hj
      cases ea : g a with
      | none => rw [List.filterMap_cons_none (by rw [h2 a e, ea]), List.filterMap_cons_none ea]; exact ih
      | some b =>
        rw [List.filterMap_cons_some (by rw [h2 a e, ea]), List.filterMap_cons_some ea]
        exact (ih.cons b).trans (List.Perm.swap v b _)
/-- so many are laid -/
def LdOk (M : Nat) (o : Array (Option Nat)) (k : Nat) : Prop := o.size = M ∧ ((livs o M).map (·.2)).Perm (List.range k)
theorem LdOk.zero (M : Nat) : LdOk M (Array.replicate M none) 0 := by
  refine ⟨Array.size_replicate .., ?_⟩
  have : livs (Array.replicate M none) M = [] := by
    unfold livs
    refine List.filterMap_eq_nil_iff.mpr fun j _ => ?_
    unfold liv
    rw [Array.getD_eq_getD_getElem?, Array.getElem?_replicate]
    split <;> rfl
  rw [this]
  exact List.Perm.refl _
theorem LdOk.room {M : Nat} {o : Array (Option Nat)} {k : Nat} (h : LdOk M o k) (hk : k < M) : ∃ y, y < M ∧ o.getD y (some 0) = none := by
  refine Classical.byContradiction fun hno => ?_
  have hall : ∀ j, j < M → ∃ v, o.getD j none = some v := fun j hj => by
    cases e : o.getD j none with
    | some v => exact ⟨v, rfl⟩
    | none =>
      refine absurd ⟨j, hj, ?_⟩ hno
      rw [Array.getD_eq_getD_getElem?, Array.getElem?_eq_getElem (by rw [h.1]; exact hj)] at e ⊢
      exact e
  have hl : (livs o M).length = M := by
    have key : ∀ l : List Nat, (∀ j ∈ l, j < M) → (l.filterMap (liv o)).length = l.length := by
      intro l
      induction l with
      | nil => exact fun _ => rfl
      | cons a l ih =>
        intro hl
        obtain ⟨v, hv⟩ := hall a (hl a (by simp))
        rw [List.filterMap_cons_some (b := (a, v)) (by unfold liv; rw [hv]; rfl), List.length_cons, List.length_cons, ih fun j hj => hl j (by simp [hj])]
    have := key (List.range M) fun j hj => List.mem_range.mp hj
    rwa [List.length_range] at this
  have := h.2.length_eq
  rw [List.length_map, hl, List.length_range] at this
  omega
theorem LdOk.put {M : Nat} {o : Array (Option Nat)} {k j : Nat} (h : LdOk M o k) (hj : (o.getD j (some 0)).isNone = true) : LdOk M (o.setIfInBounds j (some k)) (k + 1) := by
  have hjl : j < o.size := by
    refine Classical.byContradiction fun hn => ?_
    rw [Array.getD_eq_getD_getElem?, Array.getElem?_eq_none (by omega)] at hj
    cases hj
  have hjn : o.getD j none = none := by
    rw [Array.getD_eq_getD_getElem?, Array.getElem?_eq_getElem hjl] at hj ⊢
    simpa using hj
  refine ⟨by rw [Array.size_setIfInBounds]; exact h.1, ?_⟩
  have p := fm_set (liv o) (liv (o.setIfInBounds j (some k))) j (j, k) (by unfold liv; rw [hjn]; rfl) (by
    unfold liv
    rw [Array.getD_eq_getD_getElem?, Array.getElem?_setIfInBounds_self_of_lt hjl]
    rfl) (fun i hi => by
    unfold liv
    rw [Array.getD_eq_getD_getElem?, Array.getD_eq_getD_getElem?, Array.getElem?_setIfInBounds_ne (Ne.symm hi)]) (List.range M) List.nodup_range (List.mem_range.mpr (by rw [← h.1]; exact hjl))
  have p2 := (p.map (·.2))
  rw [List.map_cons] at p2
  refine p2.trans ((h.2.cons k).trans ?_)
  rw [List.range_succ]
  exact (List.perm_append_comm (l₁ := List.range k) (l₂ := [k])).symm
theorem lay_fold {mask k : Nat} (hm : mask + 1 = 2 ^ k) : ∀ (hs : List Int) (o : Array (Option Nat)) (c : Nat), LdOk (mask + 1) o c → c + hs.length ≤ mask →
    ∃ o', hs.foldl (fun acc h => do
      let (owner, k) ← acc
      let j ← SetTable.layClean.free mask owner (SetTable.turns mask) (SetTable.bits h % (mask + 1)) (SetTable.bits h)
      pure (owner.setIfInBounds j (some k), k + 1)) (some (o, c)) = some (o', c + hs.length) ∧ LdOk (mask + 1) o' (c + hs.length)
  | [], o, c, h, _ => ⟨o, rfl, h⟩
  | x :: hs, o, c, h, hl => by
    rw [List.length_cons] at hl
    obtain ⟨y, hy, ho⟩ := h.room (by omega)
    obtain ⟨j, ej, hj⟩ := free_is hm x hy ho
    obtain ⟨o', e, h'⟩ := lay_fold hm hs _ (c + 1) (h.put hj) (by omega)
    refine ⟨o', ?_, by rw [List.length_cons, show c + (hs.length + 1) = c + 1 + hs.length by omega]; exact h'⟩
    rw [List.foldl_cons]
    have e1 : (do
      let (owner, k) ← (some (o, c) : Option (Array (Option Nat) × Nat))
      let j ← SetTable.layClean.free mask owner (SetTable.turns mask) (SetTable.bits x % (mask + 1)) (SetTable.bits x)
      pure (owner.setIfInBounds j (some k), k + 1)) = some (o.setIfInBounds j (some c), c + 1) := by
      show (SetTable.layClean.free mask o (SetTable.turns mask) (SetTable.bits x % (mask + 1)) (SetTable.bits x)).bind _ = _
      rw [ej]
      rfl
    rw [e1, e, List.length_cons, show c + (hs.length + 1) = c + 1 + hs.length by omega]
theorem laid_is {mask k : Nat} (hm : mask + 1 = 2 ^ k) (fi mo : Nat) (led pl : Bool) (hs : Array Int) (hl : hs.size ≤ mask) :
    ∃ (t : SetTable) (order : Array Nat), SetTable.laid mask fi mo led pl hs = some (t, order) ∧ order.toList.Perm (List.range hs.size) ∧ t.place.toList.Pairwise (· < ·) ∧ t.place.size = hs.size ∧ t.mask = mask ∧ t.dummies = #[] ∧ t.finger = fi ∧ t.led = led ∧ t.moves = mo ∧ t.plain = pl := by
  obtain ⟨o, e, h⟩ := lay_fold hm hs.toList _ 0 (LdOk.zero (mask + 1)) (by rw [Array.length_toList]; omega)
  rw [Nat.zero_add, Array.length_toList] at e h
  have e1 : SetTable.layClean mask hs = some o := by
    unfold SetTable.layClean
    rw [← Array.foldl_toList, e]
    rfl
  refine ⟨_, _, by
    unfold SetTable.laid
    rw [e1]
    rfl, ?_, ?_, ?_, rfl, rfl, rfl, rfl, rfl, rfl⟩
  · exact h.2
  · show (((livs o (mask + 1)).map (·.1)).toArray.toList).Pairwise (· < ·)
    rw [List.pairwise_map]
    unfold livs
    have key : ∀ l : List Nat, l.Pairwise (· < ·) → (l.filterMap (liv o)).Pairwise (fun a b => a.1 < b.1) := fun l hl => by
      refine List.Pairwise.filterMap _ (fun a a' haa b hb b' hb' => ?_) hl
      unfold liv at hb hb'
      obtain ⟨u, _, rfl⟩ := Option.map_eq_some_iff.mp hb
      obtain ⟨u', _, rfl⟩ := Option.map_eq_some_iff.mp hb'
      exact haa
    exact key _ List.pairwise_lt_range
  · show ((livs o (mask + 1)).map (·.1)).toArray.size = _
    have := h.2.length_eq
    rw [List.length_map, List.length_range] at this
    rw [List.size_toArray, List.length_map, this]
end FW

set_option Elab.async false
set_option linter.all false
set_option maxRecDepth 100000
set_option maxHeartbeats 4000000
/-! set | set and set - set of ints -/
namespace FW
open PySem PySem.Spec PyProof.Rows L2
theorem above_pow (n : Nat) : ∀ (f k : Nat), ∃ j, SetTable.sizeAbove.go n f (2 ^ k) = 2 ^ j
  | 0, k => ⟨k, rfl⟩
  | f + 1, k => by
    unfold SetTable.sizeAbove.go
    split
    · rw [← Nat.pow_succ]
      exact above_pow n f (k + 1)
    · exact ⟨k, rfl⟩
theorem above_gt (n : Nat) : ∀ (f z : Nat), n < z * 2 ^ f → n < SetTable.sizeAbove.go n f z
  | 0, z, h => by
    rw [Nat.pow_zero, Nat.mul_one] at h
    exact h
  | f + 1, z, h => by
    unfold SetTable.sizeAbove.go
    split
    · refine above_gt n f (z * 2) ?_
      rw [Nat.mul_assoc, ← Nat.pow_succ']
      exact h
    · rename_i hz
      omega
theorem above_le (n : Nat) : ∀ (f z : Nat), SetTable.sizeAbove.go n f z ≤ max z (2 * n)
  | 0, z => Nat.le_max_left _ _
  | f + 1, z => by
    unfold SetTable.sizeAbove.go
    split
    · have := above_le n f (z * 2)
      omega
    · exact Nat.le_max_left _ _
theorem above_is {n : Nat} (h : n ≤ 10000) : ∃ j, SetTable.sizeAbove n = 2 ^ j ∧ n < SetTable.sizeAbove n ∧ SetTable.sizeAbove n ≤ 20000 := by
  obtain ⟨j, e⟩ := above_pow n 64 3
  refine ⟨j, e, above_gt n 64 8 ?_, ?_⟩
  · exact Nat.lt_of_le_of_lt h (by decide)
  · have := above_le n 64 8
    unfold SetTable.sizeAbove
    omega
section
variable {P : Program} {w : World} {A : Around} {E : Value → Shared → Prop} {s : Shared}
theorem fm_perm {es : Array (Int × Value)} {order : Array Nat} (pm : order.toList.Perm (List.range es.size)) : (order.filterMap (es[·]?)).toList.Perm es.toList := by
  rw [Array.toList_filterMap]
  refine (pm.filterMap _).trans ?_
  have : (List.range es.size).filterMap (fun i => es[i]?) = es.toList := by
    have key : ∀ l : List (Int × Value), (List.range l.length).filterMap (fun i => l[i]?) = l := by
      intro l
      induction l with
      | nil => rfl
      | cons a l ih =>
        rw [List.length_cons, List.range_succ_eq_map]
        refine (List.filterMap_cons_some (f := fun i => (a :: l)[i]?) (a := 0) (b := a) rfl).trans ?_
        rw [List.filterMap_map]
        exact congrArg (a :: ·) ih
    have k := key es.toList
    rw [Array.length_toList] at k
    rw [← k]
    congr 1
    funext i
    rw [Array.getElem?_toList]
  rw [this]
/-- the table is laid anew: the members come in another order -/
theorem reord {es : Array (Int × Value)} {t : SetTable} {order : Array Nat} {X Y : Sem (Array (Int × Value) × SetTable)} {Q : Array (Int × Value) × SetTable → Shared → Prop} (hX : X = if ((order.filterMap (es[·]?)).size != es.size) = true then Y else pure (order.filterMap (es[·]?), t)) (pm : order.toList.Perm (List.range es.size)) (h : Q (order.filterMap (es[·]?), t) s) :
    wpAny (model P w) A X Q E s := by
  have hz : (order.filterMap (es[·]?)).size = es.size := by rw [← Array.length_toList, (fm_perm pm).length_eq, Array.length_toList]
  have hc : ((order.filterMap (es[·]?)).size != es.size) = false := by rw [hz]; simp
  rw [hX, hc]
  exact wpAny_pure h
/-- room for so many more in a new set -/
theorem room_new {r : Addr} {o : Obj} {ep : Nat} {t : SetTable} {more : Nat} {Q : Unit → Shared → Prop} (ho : s.heap.get? r = some o) (hd : o.data = .set #[] ep t) (hp : t.place = #[]) (hdm : t.dummies = #[]) (hm : t.mask = 7) (hmore : more ≤ 4000)
    (h : ∀ (h' : Heap) (ep' : Nat) (t' : SetTable) (k : Nat), Heap.SameBut r s.heap h' → h'.get? r = some { o with data := .set #[] ep' t' } → t'.mask + 1 = 2 ^ k → more ≤ t'.mask → t'.place = #[] → t'.dummies = #[] → t'.led = t.led → Q () { s with heap := h' }) :
    wpAny (model P w) A (setRoomFor r more) Q E s := by
  have hf : t.fits (#[] : Array (Int × Value)).size = true := by unfold SetTable.fits SetTable.fill; rw [hp, hdm, hm]; rfl
  unfold setRoomFor
  refine wpAny_bind (wpAny_setState_of ho hd hf ?_)
  dsimp only
  unfold SetTable.roomFor SetTable.fill
  rw [hp, hdm, hm]
  simp only [List.size_toArray, List.length_nil, Nat.zero_add]
  by_cases hc : more * 5 ≥ 7 * 3
  · rw [if_pos hc]
    dsimp only
    unfold setRelay
    refine wpAny_bind (wpAny_setState_of ho hd hf ?_)
    dsimp only
    obtain ⟨j, ej, hgt, hle⟩ := above_is (n := more * 2) (by omega)
    have hmk : SetTable.sizeAbove (more * 2) - 1 + 1 = 2 ^ j := by rw [← ej]; omega
    refine wp_if_neg (by rw [sizeLine_eq]; omega) ?_
    try refine wpAny_bind (wpAny_pure ?_)
    obtain ⟨t2, order, e2, pm, _, ps, hmask, hdum, hfin, hled, _, hpl⟩ := laid_is hmk t.finger (t.movedTo (SetTable.sizeAbove (more * 2) - 1)) t.led t.plain ((#[] : Array (Int × Value)).map (·.1)) (by simp)
    have e3 : t.relaid ((#[] : Array (Int × Value)).map (·.1)) (more * 2) = some (t2, order) := e2
    rw [e3]
    refine wpAny_bind (reord (es := #[]) rfl (by simpa using pm) ?_)
    dsimp only
    have h0 : order.filterMap ((#[] : Array (Int × Value))[·]?) = #[] := by
      have := (fm_perm (es := #[]) (order := order) (by simpa using pm)).length_eq
      rw [Array.length_toList] at this
      exact Array.eq_empty_of_size_eq_zero (by simpa using this)
    rw [h0]
    refine wpAny_storeSet_of ho hd ?_ (by decide)
    have hp2 : t2.place = #[] := Array.eq_empty_of_size_eq_zero (by simpa using ps)
    exact h _ _ _ j (Heap.SameBut.update s.heap r _) (store_at ho hd) (by rw [hmask]; exact hmk) (by rw [hmask]; omega) hp2 hdum hled
  · rw [if_neg hc]
    dsimp only
    refine wpAny_pure ?_
    exact h s.heap ep t 3 (Heap.SameBut.refl _ _) (by rw [ho]; obtain ⟨c, d, dt, sl⟩ := o; simp only at hd; subst hd; rfl) (by rw [hm]) (by rw [hm]; omega) hp hdm rfl
/-- what stands in a set of ints -/
def Eof (w : World) (es : Array (Int × Value)) (t : SetTable) (S : Int → Bool) : Prop :=
  (∀ e ∈ es.toList, GoodE e) ∧ (es.toList.map keyOf).Nodup ∧ (∀ k, S k = true ↔ k ∈ es.toList.map keyOf) ∧ es.size < scanBound ∧ t.fits es.size = true ∧ Ris t.place.toList ∧ (w.params.followText "set-order" = true ∨ t.led = true)
theorem Eof.r {h : Heap} {a : Addr} {o : Obj} {es : Array (Int × Value)} {ep : Nat} {t : SetTable} {S : Int → Bool} (e : Eof w es t S) (ho : h.get? a = some o) (hx : o.ExactSet) (hd : o.data = .set es ep t) : SetR w h a S es.size :=
  ⟨o, es, ep, t, ho, hx, hd, e.1, e.2.1, e.2.2.1, e.2.2.2.1, e.2.2.2.2.1, rfl, e.2.2.2.2.2.1, e.2.2.2.2.2.2⟩
theorem Eof.perm {es es' : Array (Int × Value)} {t t' : SetTable} {S : Int → Bool} (e : Eof w es t S) (p : es'.toList.Perm es.toList) (hf : t'.fits es'.size = true) (hr : Ris t'.place.toList) (hl : w.params.followText "set-order" = true ∨ t'.led = true) : Eof w es' t' S := by
  obtain ⟨h1, h2, h3, h4, _⟩ := e
  have hz : es'.size = es.size := by rw [← Array.length_toList, p.length_eq, Array.length_toList]
  exact ⟨fun x hx => h1 x (p.mem_iff.mp hx), (p.map keyOf).nodup_iff.mpr h2, fun k => (h3 k).trans (p.map keyOf).mem_iff.symm, by rw [hz]; exact h4, hf, hr, hl⟩
/-- all of a set into a new one -/
theorem merge_new {r b : Addr} {o ob : Obj} {ep epb : Nat} {t tb : SetTable} {eb : Array (Int × Value)} {S : Int → Bool} {each : Sem Unit} {Q : Unit → Shared → Prop} (hrb : r ≠ b) (ho : s.heap.get? r = some o) (hx : o.ExactSet) (hd : o.data = .set #[] ep t) (hp : t.place = #[]) (hdm : t.dummies = #[]) (hm : t.mask = 7) (hled : w.params.followText "set-order" = true ∨ t.led = true)
    (hob : s.heap.get? b = some ob) (hdb : ob.data = .set eb epb tb) (eofb : Eof w eb tb S) (hn : eb.size ≤ 4000)
    (h : ∀ h' : Heap, Heap.SameBut r s.heap h' → SetR w h' r S eb.size → Q () { s with heap := h' }) :
    wpAny (model P w) A (setMerge r b each) Q E s := by
  obtain ⟨b1, b2, b3, b4, b5, b6, b7⟩ := id eofb
  unfold setMerge
  refine wp_if_neg (by simpa using hrb) ?_
  try refine wpAny_bind (wpAny_pure ?_)
  refine wpAny_bind (wpAny_setState_of hob hdb b5 ?_)
  dsimp only
  by_cases he : eb = #[]
  · subst he
    refine wp_if_pos rfl ?_
    refine wpAny_pure (h _ (Heap.SameBut.refl _ _) ?_)
    refine Eof.r (t := t) (es := #[]) ⟨by simp, by simp, fun k => (by rw [b3]), by decide, ?_, ?_, hled⟩ ho hx hd
    · unfold SetTable.fits SetTable.fill; rw [hp, hdm, hm]; rfl
    · rw [hp]; exact List.Pairwise.nil
  · refine wp_if_neg (by simpa using he) ?_
    try refine wpAny_bind (wpAny_pure ?_)
    refine wpAny_bind (room_new ho hd hp hdm hm hn fun h' ep' t' k sb ho' hk hmk hp' hdm' hled' => ?_)
    have hf' : t'.fits (#[] : Array (Int × Value)).size = true := by
      unfold SetTable.fits SetTable.fill
      rw [hp', hdm']
      simp
    have hob' : h'.get? b = some ob := (sb.2 b (Ne.symm hrb)).trans hob
    refine wpAny_bind (wpAny_setState_of (s := { s with heap := h' }) ho' rfl hf' ?_)
    dsimp only
    unfold SetTable.road SetTable.fill
    rw [hp', hdm']
    simp only [List.size_toArray, List.length_nil, Nat.add_zero, bne_self_eq_false, Bool.false_eq_true, if_false]
    have hled2 : w.params.followText "set-order" = true ∨ (t'.led && tb.led) = true := by
      rcases hled with g | g
      · exact .inl g
      · rcases b7 with g' | g'
        · exact .inl g'
        · exact .inr (by rw [hled', g, g']; rfl)
    by_cases hc : (t'.mask == tb.mask && tb.dummies.isEmpty) = true
    · rw [if_pos hc]
      dsimp only
      refine wpAny_storeSet_of (s := { s with heap := h' }) ho' rfl ?_ (fits_of_scanBound b4)
      refine h _ (sb.trans (Heap.SameBut.update _ _ _)) ?_
      exact (eofb.perm (t' := { tb with finger := t'.finger, led := t'.led && tb.led, moves := t'.moves, plain := t'.plain && tb.plain }) (List.Perm.refl _) b5 b6 hled2).r (store_at ho' rfl) hx rfl
    · rw [if_neg hc]
      dsimp only
      obtain ⟨t2, order, e2, pm, ris2, ps, hmask, hdum, hfin, hled3, _, hpl⟩ := laid_is hk t'.finger t'.moves (t'.led && tb.led) (t'.plain && tb.plain) (eb.map (·.1)) (by rw [Array.size_map]; exact hmk)
      rw [e2]
      rw [Array.size_map] at pm ps
      refine wpAny_bind (reord rfl pm ?_)
      dsimp only
      have p2 := fm_perm pm
      have hz : (order.filterMap (eb[·]?)).size = eb.size := by rw [← Array.length_toList, p2.length_eq, Array.length_toList]
      refine wpAny_storeSet_of (s := { s with heap := h' }) ho' rfl ?_ (fits_of_scanBound (by rw [hz]; exact b4))
      have q := (eofb.perm (t' := t2) p2 (by
        unfold SetTable.fits SetTable.fill
        rw [ps, hdum, hz, hmask]
        simp only [List.size_toArray, List.length_nil, Nat.add_zero, beq_self_eq_true, Bool.true_and]
        exact decide_eq_true hmk) ris2 (by rw [hled3]; exact hled2)).r (store_at (es' := order.filterMap (eb[·]?)) (t' := t2) ho' rfl) hx rfl
      rw [hz] at q
      exact h _ (sb.trans (Heap.SameBut.update _ _ _)) q
theorem sets_quiet {l : List Addr} (hl : ∀ x ∈ l, ∃ o es ep t, s.heap.get? x = some o ∧ o.data = .set es ep t ∧ t.fits es.size = true ∧ ∀ e ∈ es.toList, GoodE e) {Q : Bool → Shared → Prop} (h : Q true s) : wpAny (model P w) A (setsQuiet l) Q E s := by
  unfold setsQuiet
  refine wpAny_bind (wpAny_forIn_list _ (fun rest b s' => b = (none, ()) ∧ s' = s ∧ ∀ x ∈ rest, x ∈ l) _ (fun x rest b s1 hI => ?_) (fun b s1 hI => ?_) _ _ ⟨rfl, rfl, fun x hx => hx⟩)
  · obtain ⟨rfl, rfl, hr⟩ := hI
    obtain ⟨o, es, ep, t, ho, hd, hf, hg⟩ := hl x (hr x (by simp))
    refine wpAny_bind (wpAny_setEntries_of ho hd hf ?_)
    refine wpAny_bind (forIn_array_ _ (fun rest b s' => b = (none, ()) ∧ s' = s1 ∧ ∀ x ∈ rest, x ∈ es.toList) _ (fun e rest' b s2 hI => ?_) (fun b s2 hI => ?_) _ _ ⟨rfl, rfl, fun x hx => hx⟩)
    · obtain ⟨rfl, rfl, hr'⟩ := hI
      obtain ⟨k, tk, hk, _⟩ := hg e (hr' e (by simp))
      obtain ⟨e1, e2⟩ := e
      simp only at hk
      subst hk
      exact wpAny_pure ⟨rfl, rfl, fun x hx => hr' x (by simp [hx])⟩
    · obtain ⟨rfl, rfl, _⟩ := hI
      exact wpAny_pure ⟨rfl, rfl, fun y hy => hr y (by simp [hy])⟩
  · obtain ⟨rfl, rfl, _⟩ := hI
    exact wpAny_pure h
/-- the members of a set, in some order; the other set may lose its marks -/
theorem walk_unseen {a b : Addr} {oa ob : Obj} {ea eb : Array (Int × Value)} {epa epb : Nat} {ta tb : SetTable} {S : Int → Bool} {l : List Addr} {f : Option Addr} {Q : Array (Int × Value) → Shared → Prop} (hoa : s.heap.get? a = some oa) (hda : oa.data = .set ea epa ta) (eofa : Eof w ea ta S)
    (hl : ∀ x ∈ l, ∃ o es ep t, s.heap.get? x = some o ∧ o.data = .set es ep t ∧ t.fits es.size = true ∧ ∀ e ∈ es.toList, GoodE e)
    (hfb : f = some b ∧ b ≠ a ∧ s.heap.get? b = some ob ∧ ob.data = .set eb epb tb ∧ tb.fits eb.size = true ∧ eb.size < scanBound ∨ f = none)
    (h : ∀ (ws : Array (Int × Value)) (h' : Heap), ws.toList.Perm ea.toList → (h' = s.heap ∨ (f = some b ∧ ∃ t', h' = s.heap.update b (Obj.putSet eb t') ∧ t'.place = tb.place ∧ t'.mask = tb.mask ∧ t'.dummies = tb.dummies ∧ (w.params.followText "set-order" = true ∨ tb.led = true → w.params.followText "set-order" = true ∨ t'.led = true))) → Q ws { s with heap := h' }) :
    wpAny (model P w) A (setWalkUnseen a l f) Q E s := by
  obtain ⟨a1, a2, a3, a4, a5, a6, a7⟩ := id eofa
  have keep := h (s.heap |> fun _ => ea) s.heap (List.Perm.refl _) (.inl rfl)
  have walk : ∀ {Q' : Array (Int × Value) → Shared → Prop}, (∀ ws : Array (Int × Value), ws.toList.Perm ea.toList → Q' ws s) → ((!ta.plain && decide (ea.size > 1)) = false ∨ w.params.followText "set-order" = true) → wpAny (model P w) A (setWalk a) Q' E s := by
    intro Q' hq hdr
    unfold setWalk
    refine wpAny_bind (wpAny_setState_of hoa hda a5 ?_)
    dsimp only
    refine wpAny_bind (wpAny_byText ?_)
    cases hbt : w.params.followText "set-order" with
    | true =>
      refine wp_if_pos rfl ?_
      exact wpAny_bind (wpAny_askSetting (wpAny_pure (hq _ (pick_perm _ _))))
    | false =>
      refine wp_if_neg Bool.false_ne_true ?_
      have hd1 : (!ta.plain && decide (ea.size > 1)) = false := hdr.resolve_right (by rw [hbt]; exact Bool.false_ne_true)
      refine wp_if_neg (by show ¬ ((!ta.plain && decide (ea.size > 1)) = true); rw [hd1]; exact Bool.false_ne_true) ?_
      have hl : ta.led = true := a7.resolve_left (by rw [hbt]; exact Bool.false_ne_true)
      refine wpAny_bind (wpAny_of_eq (a := ()) ?_ ?_)
      · show (if (!ta.led && decide (ea.size > 1)) = true then unsupported "set:maker-not-led" else pure ()) = pure ()
        rw [hl]
        rfl
      · exact wpAny_pure (hq _ (List.Perm.refl _))
  unfold setWalkUnseen
  refine wpAny_bind (wpAny_setState_of hoa hda a5 ?_)
  dsimp only
  refine wpAny_bind (wpAny_byText ?_)
  by_cases hc : (w.params.followText "set-order" || (ta.led && ta.plain) || decide (ea.size ≤ 1)) = true
  · refine wp_if_pos hc ?_
    refine walk (fun ws p => h ws s.heap p (.inl rfl)) ?_
    rw [Bool.or_eq_true, Bool.or_eq_true, Bool.and_eq_true, decide_eq_true_iff] at hc
    rcases hc with (g | g) | g
    · exact .inr g
    · left
      rw [g.2]
      rfl
    · left
      rw [show decide (ea.size > 1) = false from decide_eq_false (by omega), Bool.and_false]
  · refine wp_if_neg hc ?_
    try refine wpAny_bind (wpAny_pure ?_)
    refine wpAny_bind (sets_quiet (l := a :: l) (fun x hx => ?_) ?_)
    · rcases List.mem_cons.mp hx with g | g
      · rw [g]
        exact ⟨oa, ea, epa, ta, hoa, hda, a5, a1⟩
      · exact hl x g
    refine wp_if_neg (by decide) ?_
    try refine wpAny_bind (wpAny_pure ?_)
    refine wpAny_bind (wpAny_rule ?_)
    rcases hfb with ⟨rfl, hba, hob, hdb, hfb, hbb⟩ | rfl
    · dsimp only
      refine wpAny_bind (wpAny_setState_of hob hdb hfb ?_)
      dsimp only
      by_cases hm : (tb.led && !ta.led || tb.plain && !ta.plain) = true
      · refine wp_if_pos hm ?_
        refine wpAny_bind (wpAny_storeSet_of hob hdb ?_ (fits_of_scanBound hbb))
        refine wpAny_pure (h _ _ (List.Perm.refl _) (.inr ⟨rfl, _, rfl, rfl, rfl, rfl, fun z => ?_⟩))
        rcases a7 with g | g
        · exact .inl g
        · rcases z with g' | g'
          · exact .inl g'
          · exact .inr (by show (tb.led && ta.led) = true; rw [g, g']; rfl)
      · refine wp_if_neg hm ?_
        exact wpAny_pure (h _ _ (List.Perm.refl _) (.inl rfl))
    · dsimp only
      exact wpAny_pure (h _ _ (List.Perm.refl _) (.inl rfl))
/-- room for so many more in any set of ints -/
theorem room_any {r : Addr} {S : Int → Bool} {n more : Nat} {Q : Unit → Shared → Prop} (R : SetR w s.heap r S n) (hn : 0 < n) (hb : n + more ≤ 4000) (h : ∀ h' : Heap, Heap.SameBut r s.heap h' → SetR w h' r S n → Q () { s with heap := h' }) :
    wpAny (model P w) A (setRoomFor r more) Q E s := by
  obtain ⟨o, es, ep, t, ho, hx, hd, g, nd, hm, hsb, hf, rfl, hr, hl⟩ := id R
  have eof : Eof w es t S := ⟨g, nd, hm, hsb, hf, hr, hl⟩
  unfold setRoomFor
  refine wpAny_bind (wpAny_setState_of ho hd hf ?_)
  dsimp only
  unfold SetTable.roomFor
  have hps : t.place.size = es.size := by
    unfold SetTable.fits at hf
    rw [Bool.and_eq_true, beq_iff_eq] at hf
    exact hf.1
  by_cases hc : (t.fill + more) * 5 ≥ t.mask * 3
  · rw [if_pos hc]
    dsimp only
    unfold setRelay
    refine wpAny_bind (wpAny_setState_of ho hd hf ?_)
    dsimp only
    obtain ⟨j, ej, hgt, hle⟩ := above_is (n := (t.place.size + more) * 2) (by omega)
    have hmk : SetTable.sizeAbove ((t.place.size + more) * 2) - 1 + 1 = 2 ^ j := by rw [← ej]; omega
    refine wp_if_neg (by rw [sizeLine_eq]; omega) ?_
    try refine wpAny_bind (wpAny_pure ?_)
    obtain ⟨t2, order, e2, pm, ris2, ps, hmask, hdum, hfin, hled, _, hpl⟩ := laid_is hmk t.finger (t.movedTo (SetTable.sizeAbove ((t.place.size + more) * 2) - 1)) t.led t.plain (es.map (·.1)) (by rw [Array.size_map]; omega)
    have e3 : t.relaid (es.map (·.1)) ((t.place.size + more) * 2) = some (t2, order) := e2
    rw [e3]
    rw [Array.size_map] at pm ps
    refine wpAny_bind (reord rfl pm ?_)
    dsimp only
    have p2 := fm_perm pm
    have hz : (order.filterMap (es[·]?)).size = es.size := by rw [← Array.length_toList, p2.length_eq, Array.length_toList]
    refine wpAny_storeSet_of ho hd ?_ (fits_of_scanBound (by rw [hz]; exact hsb))
    have q := (eof.perm (t' := t2) p2 (by
      unfold SetTable.fits SetTable.fill
      rw [ps, hdum, hz, hmask]
      simp only [List.size_toArray, List.length_nil, Nat.add_zero, beq_self_eq_true, Bool.true_and]
      exact decide_eq_true (by omega)) ris2 (by rw [hled]; exact hl)).r (store_at (es' := order.filterMap (es[·]?)) (t' := t2) ho hd) hx rfl
    rw [hz] at q
    exact h _ (Heap.SameBut.update _ _ _) q
  · rw [if_neg hc]
    dsimp only
    exact wpAny_pure (h _ (Heap.SameBut.refl _ _) R)
/-- all of a set into another one that has members -/
theorem merge_into {r b : Addr} {ob : Obj} {epb : Nat} {tb : SetTable} {eb : Array (Int × Value)} {S S' : Int → Bool} {n : Nat} {each : Sem Unit} {Q : Unit → Shared → Prop} (hrb : r ≠ b) (R : SetR w s.heap r S n) (hn : 0 < n) (hob : s.heap.get? b = some ob) (hdb : ob.data = .set eb epb tb) (eofb : Eof w eb tb S') (hb : n + eb.size ≤ 4000)
    (heach : ∀ (s1 : Shared) (Q1 : Unit → Shared → Prop), s1.heap.get? b = some ob → Q1 () s1 → wpAny (model P w) A each Q1 E s1)
    (h : ∀ (h' : Heap) (c : Nat), Heap.SameBut r s.heap h' → c ≤ n + eb.size → SetR w h' r (fun j => S j || S' j) c → Q () { s with heap := h' }) :
    wpAny (model P w) A (setMerge r b each) Q E s := by
  obtain ⟨b1, b2, b3, b4, b5, b6, b7⟩ := id eofb
  unfold setMerge
  refine wp_if_neg (by simpa using hrb) ?_
  try refine wpAny_bind (wpAny_pure ?_)
  refine wpAny_bind (wpAny_setState_of hob hdb b5 ?_)
  dsimp only
  by_cases he : eb = #[]
  · subst he
    refine wp_if_pos rfl ?_
    refine wpAny_pure (h _ n (Heap.SameBut.refl _ _) (by simp) (R.congr fun k => ?_))
    have : S' k = false := by
      cases e : S' k with
      | false => rfl
      | true => have := (b3 k).mp e; simp at this
    rw [this, Bool.or_false]
  · refine wp_if_neg (by simpa using he) ?_
    try refine wpAny_bind (wpAny_pure ?_)
    refine wpAny_bind (room_any R hn hb fun h1 sb1 R1 => ?_)
    have hob1 : h1.get? b = some ob := (sb1.2 b (Ne.symm hrb)).trans hob
    obtain ⟨o, es, ep, t, ho, hx, hd, g, nd, hm, hsb, hf, hnn, hr, hl⟩ := id R1
    refine wpAny_bind (wpAny_setState_of (s := { s with heap := h1 }) ho hd hf ?_)
    dsimp only
    have hps : t.place.size = es.size := by
      unfold SetTable.fits at hf
      rw [Bool.and_eq_true, beq_iff_eq] at hf
      exact hf.1
    have hroad : t.road tb = .oneByOne := by
      unfold SetTable.road
      refine if_pos ?_
      unfold SetTable.fill
      rw [bne_iff_ne]
      omega
    rw [hroad]
    dsimp only
    refine wpAny_bind (walk_unseen (s := { s with heap := h1 }) (ob := o) (eb := es) (epb := ep) (tb := t) (b := r) (f := some r) hob1 hdb eofb (fun x hx => ?_) (.inl ⟨rfl, hrb, ho, hd, hf, hsb⟩) fun ws h2 pw hh2 => ?_)
    · have : x = r := by simpa using hx
      rw [this]
      exact ⟨o, es, ep, t, ho, hd, hf, g⟩
    have R2 : SetR w h2 r S n ∧ Heap.SameBut r h1 h2 := by
      rcases hh2 with e | ⟨_, t', e, q1, q2, q3, q4⟩
      · rw [e]
        exact ⟨R1, Heap.SameBut.refl _ _⟩
      · rw [e]
        refine ⟨?_, Heap.SameBut.update _ _ _⟩
        rw [← hnn]
        exact Eof.r (es := es) (t := t') ⟨g, nd, hm, hsb, by unfold SetTable.fits SetTable.fill; rw [q1, q2, q3]; exact hf, by rw [q1]; exact hr, q4 hl⟩ (store_at ho hd) hx rfl
    have hob2 : h2.get? b = some ob := (R2.2.2 b (Ne.symm hrb)).trans hob1
    refine wpAny_bind (forIn_array_ _ (fun rest _ s' => ∃ (h' : Heap) (c : Nat) (done : List (Int × Value)), s' = { s with heap := h' } ∧ Heap.SameBut r h2 h' ∧ ws.toList = done ++ rest ∧ c ≤ n + done.length ∧ SetR w h' r (fun j => S j || decide (j ∈ done.map keyOf)) c) _ (fun e rest u s1 hI => ?_) (fun u s1 hI => ?_) _ _ ⟨h2, n, [], rfl, Heap.SameBut.refl _ _, rfl, Nat.le_refl _, R2.1.congr fun k => by simp⟩)
    · obtain ⟨h3, c, done, rfl, sb3, hdone, hc, R3⟩ := hI
      have hew : e ∈ eb.toList := pw.mem_iff.mp (by rw [hdone]; simp)
      obtain ⟨k, tk, hk, hh⟩ := b1 e hew
      obtain ⟨e1, e2⟩ := e
      simp only at hk hh
      subst hk
      have hl1 : done.length + (rest.length + 1) = eb.size := by
        have := pw.length_eq
        rw [hdone, List.length_append, List.length_cons, Array.length_toList] at this
        omega
      have hob3 : h3.get? b = some ob := (sb3.2 b (Ne.symm hrb)).trans hob2
      refine wpAny_bind (wpAny_holding ?_)
      rw [hh]
      refine setR_add_hashed (s := { s with heap := h3 }) (k := k) R3 (by unfold scanBound; omega) fun h4 sb4 R4 => ?_
      have hob4 : h4.get? b = some ob := (sb4.2 b (Ne.symm hrb)).trans hob3
      refine wpAny_bind (heach { s with heap := h4 } _ hob4 ?_)
      refine wpAny_bind (wpAny_setState_of (s := { s with heap := h4 }) hob4 hdb b5 ?_)
      dsimp only
      refine wp_if_neg (by simp) ?_
      refine wpAny_pure ⟨h4, _, done ++ [(e1, Value.int k tk)], rfl, sb3.trans sb4, by rw [hdone]; simp, ?_, R4.congr fun j => ?_⟩
      · rw [List.length_append, List.length_cons, List.length_nil]
        split <;> omega
      · rw [List.map_append, Bool.or_assoc]
        congr 1
        rw [Bool.eq_iff_iff, Bool.or_eq_true, decide_eq_true_iff, decide_eq_true_iff, decide_eq_true_iff, List.mem_append]
        exact or_congr Iff.rfl (by simp [keyOf])
    · obtain ⟨h3, c, done, rfl, sb3, hdone, hc, R3⟩ := hI
      rw [List.append_nil] at hdone
      have hl1 : done.length = eb.size := by
        have := pw.length_eq
        rw [hdone, Array.length_toList] at this
        exact this
      refine wpAny_pure (h h3 c (sb1.trans (R2.2.trans sb3)) (by omega) (R3.congr fun j => ?_))
      congr 1
      rw [Bool.eq_iff_iff, b3, decide_eq_true_iff, ← hdone]
      exact (pw.map keyOf).mem_iff.symm
/-- a new set -/
theorem new_set {Q : Value → Shared → Prop} (h : Q (.ref s.heap.objs.size) { s with heap := s.heap.push (es0 w) }) : wpAny (model P w) A (newSet (.type "set")) Q E s := by
  unfold newSet setsByText
  refine wpAny_bind (wpAny_bind (wpAny_askSetting (wpAny_pure ?_)))
  dsimp only
  simp only [newObj]
  exact wpAny_bind (wpAny_alloc (wpAny_pure h))
theorem es0_led : w.params.followText "set-order" = true ∨ (SetTable.fresh 0 0 (!w.params.followText "set-order")).led = true := by
  cases e : w.params.followText "set-order" with
  | true => exact .inl rfl
  | false => exact .inr rfl
theorem base_of {a : Addr} {Q : Value → Shared → Prop} (ht : s.TypeIs (.ref a) "set") (h : Q (.type "set") s) : wpAny (model P w) A (Builtin.Frozenset.baseOf a) Q E s := by
  unfold Builtin.Frozenset.baseOf
  exact wpAny_bind (wpAny_isInstance ht sub_set_self (wpAny_pure h))
theorem any_set {v : Value} {Q : Bool → Shared → Prop} (ht : s.TypeIs v "set") (h : Q true s) : wpAny (model P w) A (Builtin.Frozenset.isAnySet v) Q E s := by
  unfold Builtin.Frozenset.isAnySet orM
  refine wpAny_bind (wpAny_isInstance ht sub_set_self ?_)
  exact wpAny_pure h
/-- a copy -/
theorem copy_of {a : Addr} {o : Obj} {es : Array (Int × Value)} {ep : Nat} {t : SetTable} {S : Int → Bool} {Q : Value → Shared → Prop} (ho : s.heap.get? a = some o) (hx : o.ExactSet) (hd : o.data = .set es ep t) (eof : Eof w es t S) (hn : es.size ≤ 4000)
    (h : ∀ h' : Heap, (∀ b u, s.heap.get? b = some u → h'.get? b = some u) → SetR w h' s.heap.objs.size S es.size → (es.size = 0 → h' = s.heap.push (es0 w)) → Q (.ref s.heap.objs.size) { s with heap := h' }) :
    wpAny (model P w) A (Builtin.Frozenset.copyOf a) Q E s := by
  have hlt : a < s.heap.objs.size := Heap.lt_size ho
  unfold Builtin.Frozenset.copyOf
  refine wpAny_bind (base_of ⟨o, ho, hx.1⟩ ?_)
  refine wpAny_bind (new_set ?_)
  have hn0 : (s.heap.push (es0 w)).get? s.heap.objs.size = some (es0 w) := Heap.get?_push_size _ rfl
  refine wpAny_bind (m := Builtin.Frozenset.addrOf (.ref s.heap.objs.size)) (wpAny_pure ?_)
  have hoa : (s.heap.push (es0 w)).get? a = some o := Heap.get?_push_of_some _ ho
  refine wpAny_bind ?_
  by_cases hz : es = #[]
  · subst hz
    unfold setMerge
    refine wp_if_neg (by simpa using Nat.ne_of_gt hlt) ?_
    try refine wpAny_bind (wpAny_pure ?_)
    refine wpAny_bind (wpAny_setState_of (s := { s with heap := s.heap.push (es0 w) }) hoa hd eof.2.2.2.2.1 ?_)
    dsimp only
    refine wp_if_pos rfl ?_
    refine wpAny_pure (wpAny_pure (h _ (fun b u e => Heap.get?_push_of_some _ e) ?_ fun _ => rfl))
    refine Eof.r (t := SetTable.fresh 0 0 (!w.params.followText "set-order")) (es := #[]) ⟨by simp, by simp, fun k => (by rw [eof.2.2.1]), by decide, rfl, List.Pairwise.nil, es0_led⟩ hn0 ⟨rfl, rfl, rfl⟩ rfl
  · refine merge_new (s := { s with heap := s.heap.push (es0 w) }) (Nat.ne_of_gt hlt) hn0 ⟨rfl, rfl, rfl⟩ rfl rfl rfl rfl es0_led hoa hd eof hn fun h' sb R => ?_
    refine wpAny_pure (h h' (fun b u e => ?_) R fun z => ?_)
    · exact (sb.2 b (Nat.ne_of_lt (Heap.lt_size e))).trans (Heap.get?_push_of_some _ e)
    · exact absurd (Array.eq_empty_of_size_eq_zero z) hz
theorem entry_set_or : entryFor table "set.__or__" = some Builtin.«frozenset.__or__» :=
  entryFor_alias (id' := "frozenset.__or__") (by kernel_rfl) rfl (by decide +kernel) (by kernel_rfl)
/-- a | b of two sets of ints -/
theorem set_or {a b : Addr} {S S' : Int → Bool} {n m : Nat} {Q : Value → Shared → Prop} (hab : a ≠ b) (R : SetR w s.heap a S n) (R' : SetR w s.heap b S' m) (hn : n + m ≤ 4000)
    (h : ∀ (h' : Heap) (c : Nat), (∀ x u, s.heap.get? x = some u → h'.get? x = some u) → c ≤ n + m → SetR w h' s.heap.objs.size (fun j => S j || S' j) c → Q (.ref s.heap.objs.size) { s with heap := h' }) :
    wpAny (model P w) A (binaryOp .BitOr (.ref a) (.ref b)) Q E s := by
  obtain ⟨o, es, ep, t, ho, hx, hd, g, nd, hm, hsb, hf, rfl, hr, hl⟩ := id R
  obtain ⟨o', es', ep', t', ho', hx', hd', g', nd', hm', hsb', hf', rfl, hr', hl'⟩ := id R'
  have ta : s.TypeIs (.ref a) "set" := ⟨o, ho, hx.1⟩
  have tb : s.TypeIs (.ref b) "set" := ⟨o', ho', hx'.1⟩
  refine wpAny_binaryOp_same ta tb F.fills_set_or F.slot_set_or ?_
  refine wpAny_call_entry F.slot_set_or ta entry_set_or ?_ (F.args_set_or_2 _ _)
  have eofa : Eof w es t S := ⟨g, nd, hm, hsb, hf, hr, hl⟩
  have eofb : Eof w es' t' S' := ⟨g', nd', hm', hsb', hf', hr', hl'⟩
  have hla : a < s.heap.objs.size := Heap.lt_size ho
  have hlb : b < s.heap.objs.size := Heap.lt_size ho'
  unfold Builtin.«frozenset.__or__»
  refine wpAny_bind (wpAny_of_eq (a := (Value.ref a, Value.ref b)) rfl ?_)
  try dsimp only
  simp only [Bool.false_eq_true, if_false]
  refine wpAny_bind ?_
  unfold andM
  refine wpAny_bind (any_set ta ?_)
  try dsimp only
  refine any_set tb ?_
  refine wp_if_neg (by decide) ?_
  try refine wpAny_bind (wpAny_pure ?_)
  refine wpAny_bind ?_
  show wpAny _ _ (Builtin.Frozenset.copyOf a >>= _) _ _ _
  refine wpAny_bind (copy_of ho hx hd eofa (by omega) fun h1 k1 R1 z1 => ?_)
  refine wp_if_pos (by simpa using Ne.symm hab) ?_
  refine wpAny_bind (m := Builtin.Frozenset.addrOf (.ref s.heap.objs.size)) (wpAny_pure ?_)
  refine wpAny_bind (wpAny_holding ?_)
  have hob1 := k1 b o' ho'
  have nb : s.heap.objs.size ≠ b := Nat.ne_of_gt hlb
  unfold Builtin.Frozenset.updateFrom
  refine wpAny_bind (any_set (s := { s with heap := h1 }) ⟨o', hob1, hx'.1⟩ ?_)
  refine wp_if_pos rfl ?_
  refine wpAny_bind (m := Builtin.Frozenset.addrOf (.ref b)) (wpAny_pure ?_)
  unfold Builtin.Frozenset.merge
  have hep : ∀ (s1 : Shared) (Q1 : Unit → Shared → Prop) (id : String), s1.heap.get? b = some o' → Q1 () s1 → wpAny (model P w) A.in1 (Builtin.Frozenset.unchanged id b ep') Q1 E s1 := fun s1 Q1 id e q => by
    unfold Builtin.Frozenset.unchanged
    refine wpAny_bind (wpAny_setEpoch_of e hd' hf' ?_)
    refine wp_if_neg (by simp) ?_
    exact wpAny_pure q
  have fin : ∀ (h' : Heap) (c : Nat), Heap.SameBut s.heap.objs.size h1 h' → c ≤ es.size + es'.size → SetR w h' s.heap.objs.size (fun j => S j || S' j) c → Q (.ref s.heap.objs.size) { s with heap := h' } := fun h' c sb hc R2 => h h' c (fun x u e => (sb.2 x (Nat.ne_of_lt (Heap.lt_size e))).trans (k1 x u e)) hc R2
  refine wpAny_bind (wpAny_setEpoch_of (s := { s with heap := h1 }) hob1 hd' hf' ?_)
  by_cases hz : es.size = 0
  · have e1 := z1 hz
    subst e1
    have hn0 : (s.heap.push (es0 w)).get? s.heap.objs.size = some (es0 w) := Heap.get?_push_size _ rfl
    refine merge_new (s := { s with heap := s.heap.push (es0 w) }) nb hn0 ⟨rfl, rfl, rfl⟩ rfl rfl rfl rfl es0_led hob1 hd' eofb (by omega) fun h2 sb R2 => ?_
    refine wpAny_pure (wpAny_pure ⟨_, rfl, (fun z => nomatch z), fin h2 es'.size sb (by omega) (R2.congr fun k => ?_)⟩)
    have : S k = false := by
      cases e : S k with
      | false => rfl
      | true =>
        have := (hm k).mp e
        have e0 : es.toList = [] := List.eq_nil_of_length_eq_zero (by rw [Array.length_toList]; exact hz)
        rw [e0] at this
        simp at this
    rw [this, Bool.false_or]
  · refine merge_into (s := { s with heap := h1 }) nb R1 (by omega) hob1 hd' eofb (by omega) (fun s1 Q1 e q => hep s1 Q1 _ e q) fun h2 c sb hc R2 => ?_
    exact wpAny_pure (wpAny_pure ⟨_, rfl, (fun z => nomatch z), fin h2 c sb hc R2⟩)
end
def rSetOr (w : World) : R2 := fun x y H Q => ∃ (a b : Addr) (S S' : Int → Bool) (n m : Nat), x = .ref a ∧ y = .ref b ∧ a ≠ b ∧ H a = some (SetO w a S n) ∧ H b = some (SetO w b S' m) ∧ n + m ≤ 4000 ∧ ∀ (p : Addr) (c : Nat), H p = none → c ≤ n + m → Q (.ref p) (upd H p (SetO w p (fun j => S j || S' j) c))
section
variable {X : Cx}
theorem op_setOr : OpR X (binaryOp .BitOr) (rSetOr X.w) := by
  intro pins s σ H x y v u Q I rx ry h
  obtain ⟨a, b, S, S', n, m, rfl, rfl, hab, ha, hb, hn, q⟩ := h
  cases rx
  cases ry
  refine set_or hab (setO_get I ha) (setO_get I hb) hn fun h' c keep hc R => ?_
  exact ⟨.ref _, _, I.laid (t' := s.toks) keep (Nat.le_refl _) (setO_new R), rfl, q _ c (I.hok.fresh (Nat.le_refl _)) hc⟩
end
section
variable {w : World} {H : Hp} {Q : VK}
theorem w_setOr {a b : Addr} {S S' : Int → Bool} {n m : Nat} (hab : a ≠ b) (h1 : H a = some (SetO w a S n)) (h2 : H b = some (SetO w b S' m)) (hn : n + m ≤ 4000) (h : ∀ p c H1, H p = none → c ≤ n + m → H1 p = some (SetO w p (fun j => S j || S' j) c) → Same H H1 → Q (.ref p) H1) : rSetOr w (.ref a) (.ref b) H Q :=
  ⟨a, b, S, S', n, m, rfl, rfl, hab, h1, h2, hn, fun p c hp hc => h p c _ hp hc upd_same (Same.new hp)⟩
end
end FW

set_option Elab.async false
set_option linter.all false
set_option maxRecDepth 100000
set_option maxHeartbeats 4000000
/-! zip of a list and a tuple -/
namespace FW
open PySem
section
variable {pg : Program} {w : World} {ar : Around} {er : Value → Shared → Prop} {sh : Shared}
end
abbrev zipL_H1 (h : Heap) (l1 : Addr) : Heap := h.push { cls := .type "list_iterator", data := .fields #[.ref l1, .int 0 0] }
abbrev zipL_H2 (h : Heap) (l1 l2 : Addr) : Heap := (zipL_H1 h l1).push { cls := .type "tuple_iterator", data := .fields #[.ref l2, .int 0 0] }
abbrev zipL_H3 (h : Heap) (l1 l2 : Addr) : Heap := (zipL_H2 h l1 l2).push { cls := .type "tuple", data := .seq #[.ref h.objs.size, .ref (zipL_H1 h l1).objs.size] }
abbrev zipL_H4 (h : Heap) (l1 l2 : Addr) : Heap := (zipL_H3 h l1 l2).push { cls := .type "tuple", data := .seq #[.none, .none] }
abbrev zipL_H5 (h : Heap) (l1 l2 : Addr) : Heap := (zipL_H4 h l1 l2).push { cls := .type "zip", data := .fields #[.none, .bool false, .bool false, .ref (zipL_H2 h l1 l2).objs.size, .ref (zipL_H3 h l1 l2).objs.size] }

section
variable {pg : Program} {w : World} {ar : Around} {er : Value → Shared → Prop} {sh : Shared}
end
open PySem.Spec PyProof.Rows L2
def ItzL_ (K : PySem.W.Frag) (aa b : Addr) : It :=
  ⟨fun ix H => ∃ (xs ys : List V) (x y : V), SqL K H aa xs ∧ SqT K H b ys ∧ xs[ix]? = some x ∧ ys[ix]? = some y,
    fun ix H v H' => ∃ T x y, v = .ref T ∧ H T = none ∧ H' = upd H T (.tup [x, y]) ∧ (∀ xs, SqL K H aa xs → xs[ix]? = some x) ∧ ∀ ys, SqT K H b ys → ys[ix]? = some y,
    fun ix H => ∃ xs ys : List V, SqL K H aa xs ∧ SqT K H b ys ∧ (xs.length ≤ ix ∨ ys.length ≤ ix)⟩
def iZipL_ (K : PySem.W.Frag) (ta : TA) : L2.TI := fun σ H R => ta σ H fun vs Hn => ∃ a b xs ys, vs = [.ref a, .ref b] ∧ SqL K Hn a xs ∧ SqT K Hn b ys ∧ R (ItzL_ K a b) Hn
def rZipL_ (K : PySem.W.Frag) (vs : List V) (H : Hp) (R : It → Hp → Prop) : Prop := ∃ a b xs ys, vs = [.ref a, .ref b] ∧ SqL K H a xs ∧ SqT K H b ys ∧ R (ItzL_ K a b) H
theorem w_zipL_ {K : PySem.W.Frag} {σ : L2.St} {H : Hp} {ta : TA} {R : It → Hp → Prop} (h : ta σ H fun vs Hn => rZipL_ K vs Hn R) : iZipL_ K ta σ H R := h
end FW

set_option Elab.async false
set_option linter.all false
set_option maxRecDepth 100000
set_option maxHeartbeats 4000000
/-! dicts keyed by pairs of tuples of ints: len, and sorted of one at any length -/
namespace FW
open PySem PySem.Spec PyProof.Rows L2
abbrev Sts := List Int × List Int
def stK (q : Sts) : NestedKey := .tup [.tup (q.1.map .num), .tup (q.2.map .num)]
def encSt (q : Sts) : PyData := .tuple [.tuple (q.1.map .int), .tuple (q.2.map .int)]
theorem num_map_inj : ∀ {a b : List Int}, a.map NestedKey.num = b.map NestedKey.num → a = b
  | [], [], _ => rfl
  | [], _ :: _, h => by cases h
  | _ :: _, [], h => by cases h
  | x :: a, y :: b, h => by
    rw [List.map_cons, List.map_cons] at h
    injection h with h1 h2
    injection h1 with h1
    rw [h1, num_map_inj h2]
theorem stK_inj {p q : Sts} (h : stK p = stK q) : p = q := by
  unfold stK at h
  injection h with h
  injection h with h1 h2
  injection h2 with h2 _
  injection h1 with h1
  injection h2 with h2
  exact Prod.ext (num_map_inj h1) (num_map_inj h2)
theorem nums_depth : ∀ a : List Int, NestedKey.depthAll (a.map NestedKey.num) = 0
  | [] => rfl
  | x :: a => by
    rw [List.map_cons]
    show max (NestedKey.depth (.num x)) (NestedKey.depthAll (a.map NestedKey.num)) = 0
    rw [nums_depth a]
    rfl
theorem stK_depth (q : Sts) : (stK q).depth ≤ 8 := by
  unfold stK
  show max (NestedKey.depthAll (q.1.map NestedKey.num) + 1) (max (NestedKey.depthAll (q.2.map NestedKey.num) + 1) 0) + 1 ≤ 8
  rw [nums_depth, nums_depth]
  decide
/-! ### the order of states -/
def stLt (a b : Sts) : Prop := a.1 < b.1 ∨ (a.1 = b.1 ∧ a.2 < b.2)
theorem eqv_tints : ∀ (a b : List Int), PyData.eqv (.tuple (a.map .int)) (.tuple (b.map .int)) = true ↔ a = b
  | [], [] => by simp [PyData.eqv, PyData.eqvAll]
  | [], y :: b => by simp [PyData.eqv, PyData.eqvAll]
  | x :: a, [] => by simp [PyData.eqv, PyData.eqvAll]
  | x :: a, y :: b => by
    have ih := eqv_tints a b
    simp only [PyData.eqv] at ih
    simp [PyData.eqv, PyData.eqvAll, ih]
theorem dataLt_tints (a b : List Int) : PySem.W.dataLt (.tuple (a.map .int)) (.tuple (b.map .int)) = decide (a < b) := by
  rw [PySem.W.dataLt_tuple]
  exact PySem.W.dataLt_ints a b
theorem dataLt_St (a b : Sts) : PySem.W.dataLt (encSt a) (encSt b) = true ↔ stLt a b := by
  unfold encSt stLt
  rw [PySem.W.dataLt_pair (by simp only [PySem.W.alike]; exact PySem.W.alike_ints _ _) (by simp only [PySem.W.alike]; exact PySem.W.alike_ints _ _), dataLt_tints, dataLt_tints]
  by_cases h : a.1 = b.1
  · rw [if_pos ((eqv_tints _ _).mpr h)]
    by_cases g : a.2 = b.2
    · rw [if_pos ((eqv_tints _ _).mpr g)]
      constructor
      · intro z; cases z
      · rintro (z | ⟨_, z⟩)
        · rw [h] at z
          exact absurd z (List.lt_irrefl _)
        · rw [g] at z
          exact absurd z (List.lt_irrefl _)
    · rw [if_neg (fun z => g ((eqv_tints _ _).mp z)), decide_eq_true_iff]
      constructor
      · exact fun z => .inr ⟨h, z⟩
      · rintro (z | ⟨_, z⟩)
        · rw [h] at z
          exact absurd z (List.lt_irrefl _)
        · exact z
  · rw [if_neg (fun z => h ((eqv_tints _ _).mp z)), decide_eq_true_iff]
    constructor
    · exact .inl
    · rintro (z | ⟨z, _⟩)
      · exact z
      · exact absurd z h
theorem ls_tri {x y : List Int} (h : ¬ x < y) : y < x ∨ x = y := by
  by_cases h2 : y < x
  · exact .inl h2
  · exact .inr (List.le_antisymm (List.not_lt.mp h2) (List.not_lt.mp h))
theorem stLt_irr (a : Sts) : ¬ stLt a a := by
  rintro (h | ⟨_, h⟩)
  · exact List.lt_irrefl _ h
  · exact List.lt_irrefl _ h
theorem stLt_trans {a b c : Sts} (h : stLt a b) (g : stLt b c) : stLt a c := by
  rcases h with h | ⟨h1, h2⟩
  · rcases g with g | ⟨g1, g2⟩
    · exact .inl (List.lt_trans h g)
    · exact .inl (g1 ▸ h)
  · rcases g with g | ⟨g1, g2⟩
    · exact .inl (h1 ▸ g)
    · exact .inr ⟨h1.trans g1, List.lt_trans h2 g2⟩
theorem stLt_tri {a b : Sts} (h : ¬ stLt a b) : stLt b a ∨ a = b := by
  by_cases h1 : a.1 < b.1
  · exact absurd (.inl h1) h
  rcases ls_tri h1 with h1 | h1
  · exact .inl (.inl h1)
  by_cases h2 : a.2 < b.2
  · exact absurd (.inr ⟨h1, h2⟩) h
  rcases ls_tri h2 with h2 | h2
  · exact .inl (.inr ⟨h1.symm, h2⟩)
  · exact .inr (Prod.ext h1 h2)
/-- two rising rows of the same states are one -/
theorem st_uniq : ∀ {a b : List Sts}, a.Pairwise stLt → b.Pairwise stLt → (∀ x, x ∈ a ↔ x ∈ b) → a = b
  | [], [], _, _, _ => rfl
  | [], y :: b, _, _, h => by have := (h y).mpr (by simp); cases this
  | x :: a, [], _, _, h => by have := (h x).mp (by simp); cases this
  | x :: a, y :: b, ha, hb, h => by
    rw [List.pairwise_cons] at ha hb
    have e : x = y := by
      rcases List.mem_cons.mp ((h x).mp (by simp)) with e | e
      · exact e
      rcases List.mem_cons.mp ((h y).mpr (by simp)) with e2 | e2
      · exact e2.symm
      exact absurd (stLt_trans (ha.1 y e2) (hb.1 x e)) (stLt_irr x)
    subst e
    rw [st_uniq ha.2 hb.2 fun z => ?_]
    constructor
    · intro hz
      rcases List.mem_cons.mp ((h z).mp (by simp [hz])) with e | e
      · exact absurd (e ▸ ha.1 z hz) (stLt_irr _)
      · exact e
    · intro hz
      rcases List.mem_cons.mp ((h z).mpr (by simp [hz])) with e | e
      · exact absurd (e ▸ hb.1 z hz) (stLt_irr _)
      · exact e
theorem le_St_iff {β : Type} (f : β → Sts) (a b : β) : PySem.W.dataLe false (fun q => encSt (f q)) a b = true ↔ ¬ stLt (f b) (f a) := by
  show (!PySem.W.dataLt (encSt (f b)) (encSt (f a))) = true ↔ _
  rw [← dataLt_St]
  simp
theorem totSt {β : Type} (f : β → Sts) : PySem.W.TotalLe (PySem.W.dataLe false (fun q => encSt (f q))) where
  trans a b c h1 h2 := by
    rw [le_St_iff] at *
    intro h
    rcases stLt_tri h1 with g | g
    · exact h2 (stLt_trans h g)
    · exact h2 (by rw [g]; exact h)
  total a b := by
    rw [le_St_iff, le_St_iff]
    by_cases h : stLt (f b) (f a)
    · right
      intro g
      exact stLt_irr _ (stLt_trans h g)
    · exact .inl h
theorem sorted_St {β : Type} (f : β → Sts) {bs : List β} (nd : (bs.map f).Nodup) : (bs.mergeSort (PySem.W.dataLe false (fun q => encSt (f q)))).Pairwise (fun x y => stLt (f x) (f y)) := by
  have h := PySem.W.sort_pairwise (totSt f) bs
  have hp := List.mergeSort_perm bs (PySem.W.dataLe false (fun q => encSt (f q)))
  have nd2 : ((bs.mergeSort (PySem.W.dataLe false (fun q => encSt (f q)))).map f).Nodup := ((hp.map f).nodup_iff).mpr nd
  unfold List.Nodup at nd2
  rw [List.pairwise_map] at nd2
  refine (h.and nd2).imp fun {x y} ⟨h1, h2⟩ => ?_
  rw [le_St_iff] at h1
  rcases stLt_tri h1 with g | g
  · exact g
  · exact absurd g.symm h2
/-! ### a dict's keys, walked -/
theorem kdl_raw {P : Program} {w : World} {K : Type} {ys : List (K × Addr × Value)} {d : Addr} {es : Array DictEntry} {ep : Nat} (lo : (d == sysModules) = false) (hx : ∀ i (hi : i < es.size), ∃ y, ys[i]? = some y ∧ es[i].key = .ref y.2.1 ∧ es[i].val = y.2.2) :
    PySem.W.KdlSrc P w "dict" d d es.size (fun i v => ∃ y, ys[i]? = some y ∧ v = .ref y.2.1) (fun h => h.DictRaw d es ep) where
  type := fun _ hm => hm.typeIs
  there := fun _ hm => ⟨hm.lt_size, hm.lt_size⟩
  keep := fun _ _ hm hk => hm.at fun o e => hk d (.inl rfl) o e
  notList := by decide
  notTuple := by decide
  hint := fun _ _ _ _ hm hq => PySem.W.kdl_hint_dict hm.typeIs hq
  iter := fun _ _ hh hm => ⟨_, _, (fun _ _ hq => wpAny_pyIter_dict_raw lo hm hq), Walks.keysH hh _ d (Nat.ne_of_lt hm.lt_size) es ep hx, ⟨⟨_, Heap.get?_push_size _ rfl, rfl, rfl⟩, hm.push _⟩⟩
mutual
theorem NAt.reads {X : Cx} {pins : List (Addr × Obj)} {σ : L2.St} {H : Hp} {s : Shared} (I : Inv X pins σ H s) : ∀ (k : NestedKey) (v : V) (u : Value), NAt H k v → RelV v u → Reads s.heap u k.data []
  | .none, _, _, h, r => by
    cases h
    cases r
    exact .none
  | .num i, _, _, h, r => by
    cases h
    obtain ⟨t, rfl⟩ := r
    exact .int i t
  | .text x, _, _, h, r => by
    cases h
    obtain ⟨t, rfl⟩ := r
    exact .str x t
  | .tup ks, _, _, h, r => by
    cases h with
    | @tup a _ xs e all =>
      cases r
      obtain ⟨_, its, rel, o, h1, h2, n, h3⟩ := (show ObjOk X.prog X.w H s.heap a (.tup xs) from I.hok a _ e)
      exact .tuple h1 h2 h3 (NAll.reads I ks _ _ all rel)
    | @frz a ob _ xs e all =>
      cases r
      obtain ⟨_, _, its, rel, o, h1, h2, n, h3⟩ := (show ObjOk X.prog X.w H s.heap a (.frz ob (.tup xs)) from I.hok a _ e)
      exact .tuple h1 h2 h3 (NAll.reads I ks _ _ all rel)
theorem NAll.reads {X : Cx} {pins : List (Addr × Obj)} {σ : L2.St} {H : Hp} {s : Shared} (I : Inv X pins σ H s) : ∀ (ks : List NestedKey) (vs : List V) (us : List Value), NAll H ks vs → Vals vs us → ReadsAll s.heap us (NestedKey.datas ks) []
  | [], _, _, h, r => by
    cases h
    cases r
    exact .nil
  | k :: ks, _, _, h, r => by
    cases h with
    | cons a b =>
      cases r with
      | cons ra rb =>
        have := ReadsAll.cons (NAt.reads I k _ _ a ra) (NAll.reads I ks _ _ b rb)
        simp only [NestedKey.datas]
        exact this
end
theorem datas_nums : ∀ a : List Int, NestedKey.datas (a.map NestedKey.num) = a.map PyData.int
  | [] => rfl
  | x :: a => by
    rw [List.map_cons, List.map_cons]
    show NestedKey.data (.num x) :: NestedKey.datas (a.map NestedKey.num) = _
    rw [datas_nums a]
    rfl
theorem data_stK (q : Sts) : (stK q).data = encSt q := by
  unfold stK encSt
  show PyData.tuple [.tuple (NestedKey.datas (q.1.map NestedKey.num)), .tuple (NestedKey.datas (q.2.map NestedKey.num))] = _
  rw [datas_nums, datas_nums]
theorem depth_encSt (q : Sts) : (encSt q).depth ≤ 8 := by
  unfold encSt
  show max (PyData.depthAll (q.1.map .int) + 1) (max (PyData.depthAll (q.2.map .int) + 1) 0) + 1 ≤ 8
  rw [PySem.W.depth_ints, PySem.W.depth_ints]
  decide
/-! ### sorted -/
def rSortN (P : Program) (w : World) (vs : List V) (H : Hp) (Q : VK) : Prop := ∃ (a : Addr) (xs : List NEnt) (qs : List (Sts × Addr)), vs = [.ref a] ∧ NDict P w H a xs ∧ xs.map (fun x => (x.1, x.2.1)) = qs.map (fun q => (stK q.1, q.2)) ∧ (qs.map (·.1)).Nodup ∧ qs.length ≤ 100000 ∧
  ∀ (ts : List (Sts × Addr)) (p : Addr), ts.Perm qs → ts.Pairwise (fun x y => stLt x.1 y.1) → H p = none → Q (.ref p) (upd H p (.lst (ts.map fun t => V.ref t.2)))
theorem each_refsN {β : Type} {f : β → Addr} {out : List Value} {bs : List β} (h : PySem.W.EachIs (fun v (b : β) => v = Value.ref (f b)) out bs) : out = bs.map fun b => Value.ref (f b) := by
  induction h with
  | nil => rfl
  | cons h1 _ ih => rw [h1, ih]; rfl
theorem each_ofN {β : Type} (f : β → Addr) : ∀ bs : List β, PySem.W.EachIs (fun v (b : β) => v = Value.ref (f b)) (bs.map fun b => Value.ref (f b)) bs
  | [] => .nil
  | b :: bs => .cons rfl (each_ofN f bs)
theorem nrel_addrs {xs : List NEnt} {ys : List (NestedKey × Addr × Value)} (r : NRel xs ys) : xs.map (fun x => (x.1, x.2.1)) = ys.map (fun y => (y.1, y.2.1)) := by
  induction r with
  | nil => rfl
  | cons h _ ih =>
    rw [List.map_cons, List.map_cons, ih]
    congr 1
    exact Prod.ext h.1 h.2.1
theorem c_sortN {X : Cx} (hcalm : X.calm = true) (hu : X.A.units + 64 < cLine) : CallR X (.builtin "sorted") (rSortN X.prog X.w) := by
  intro pins s σ H xs us Q I r ⟨a, es0, qs, ex, hd, hks, nd, hlq, q⟩
  subst ex
  obtain ⟨u, eu, rx⟩ := vals1 r
  subst eu
  cases rx
  obtain ⟨z, lo, ys, rel, dd⟩ := nd_of I hd
  obtain ⟨es, ep, hraw, hsz, hx⟩ := dd.raw
  have eys : ys.map (fun y => (y.1, y.2.1)) = qs.map (fun q => (stK q.1, q.2)) := (nrel_addrs rel).symm.trans hks
  have lys : ys.length = qs.length := by
    have := congrArg List.length eys
    simpa using this
  refine Calls.call_function_entry kind_sorted plain_sorted entry_sorted (args_sorted1 _) ?_
  unfold Builtin.«sorted»
  refine wpAny_bind (m := checkCount "sorted" 1 1 _) (wpAny_pure ?_)
  refine wpAny_bind (PySem.W.kdu_collect (A := X.A.in1) (kdl_raw (P := X.prog) (w := X.w) (ep := ep) lo (fun i hi => by
    obtain ⟨y, h1, h2, h3, _⟩ := hx i hi
    exact ⟨y, h1, h2, h3⟩)) (I.ok.hd hcalm) hraw (by rw [hsz, lys, sizeLine_eq]; omega) fun h' tk acc hk hacc => ?_)
  have eacc : acc.toList = qs.map fun q => Value.ref q.2 := by
    apply List.ext_getElem?
    intro i
    rw [List.getElem?_map, Array.getElem?_toList]
    rcases Nat.lt_or_ge i acc.size with hi | hi
    · obtain ⟨y, h1, h2⟩ := hacc.2 i acc[i] (by simp [hi])
      have h3 : (ys.map (fun y => (y.1, y.2.1)))[i]? = some (y.1, y.2.1) := by rw [List.getElem?_map, h1]; rfl
      rw [eys, List.getElem?_map] at h3
      obtain ⟨q', g1, g2⟩ := Option.map_eq_some_iff.mp h3
      rw [g1]
      have : acc[i]? = some acc[i] := by simp [hi]
      rw [this, h2]
      have : q'.2 = y.2.1 := congrArg Prod.snd g2
      rw [← this]
      rfl
    · have h1 : acc[i]? = none := by simp [hi]
      have h2 : qs[i]? = none := by
        rw [List.getElem?_eq_none_iff]
        have := hacc.1
        omega
      rw [h1, h2]
      rfl
  have I1 : Inv X pins σ H { s with heap := h', toks := tk } := I.kept hk
  have hz : acc.toList.length ≤ sizeLine := by rw [eacc, List.length_map, sizeLine_eq]; omega
  refine wpAny_bind (wpAny_newList ?_ hz)
  have hoL : (h'.push (seqObj "list" acc.toList.toArray 0)).get? h'.objs.size = some (seqObj "list" acc.toList.toArray 0) := Heap.get?_push_size _ rfl
  show wpAny _ _ _ _ _ { s with heap := h'.push (seqObj "list" acc.toList.toArray 0), toks := tk }
  rw [eacc] at hoL hz ⊢
  have rd : ∀ b ∈ qs, ∃ ws, Reads (h'.push (seqObj "list" (qs.map fun q => Value.ref q.2).toArray 0)) (.ref b.2) (encSt b.1) ws ∧ h'.objs.size ∉ ws := by
    intro b hb
    have hb2 : (stK b.1, b.2) ∈ es0.map (fun x => (x.1, x.2.1)) := by
      rw [hks]
      exact List.mem_map_of_mem hb
    obtain ⟨x, hx1, hx2⟩ := List.mem_map.mp hb2
    have k1 := (hd.keys x hx1).1
    have e1 : x.1 = stK b.1 := congrArg Prod.fst hx2
    have e2 : x.2.1 = b.2 := congrArg Prod.snd hx2
    rw [e1, e2] at k1
    have g := NAt.reads I _ _ _ k1 (show RelV (.ref b.2) (.ref b.2) from rfl)
    rw [data_stK] at g
    refine ⟨[], ?_, by simp⟩
    have g2 := NAt.reads I1 _ _ _ k1 (show RelV (.ref b.2) (.ref b.2) from rfl)
    rw [data_stK] at g2
    exact PyProof.Rows.Reads.keeps (fun b o e => Heap.get?_push_of_some _ e) g2
  have eR := each_ofN (fun q : Sts × Addr => q.2) qs
  have er : PySem.W.EachIs (fun v (b : Sts × Addr) => ∃ ws, Reads (h'.push (seqObj "list" (qs.map fun q => Value.ref q.2).toArray 0)) v (encSt b.1) ws ∧ h'.objs.size ∉ ws) (qs.map fun q => Value.ref q.2) qs :=
    (PySem.W.each_mem eR).mono fun v b ⟨h1, h2⟩ => by
      rw [h1]
      exact rd b h2
  have hal : PySem.W.AllAlike (qs.map fun q => encSt q.1) := PySem.W.AllAlike.of fun b b' => by
    simp only [encSt, PySem.W.alike, PySem.W.alikeAll, PySem.W.alike_ints, Bool.and_true]
  have hso : PySem.W.Sortable (qs.map fun q => encSt q.1) := PySem.W.Sortable.tuples fun b => ⟨_, _, rfl⟩
  refine wpAny_bind (wpAny_holding (PySem.W.list_sort_data (s := { s with heap := h'.push (seqObj "list" (qs.map fun q => Value.ref q.2).toArray 0), toks := tk }) (R := fun v (b : Sts × Addr) => v = Value.ref b.2) (enc := fun q => encSt q.1) (bs := qs) hoL eR er hal hso (by rw [sizeLine_eq]; omega) (fun b _ => ?_) fun out ho eo => ?_))
  · have := depth_encSt b.1
    show X.A.in1.units + 1 + (encSt b.1).depth < cLine
    have e : X.A.in1.units = X.A.units + 1 := rfl
    omega
  · have eo' := each_refsN eo
    subst eo'
    generalize hts : qs.mergeSort (PySem.W.dataLe false fun q => encSt q.1) = ts
    have hp : ts.Perm qs := by rw [← hts]; exact List.mergeSort_perm _ _
    have hsrt : ts.Pairwise (fun x y => stLt x.1 y.1) := by
      rw [← hts]
      exact sorted_St (fun q : Sts × Addr => q.1) nd
    obtain ⟨e', he'⟩ := sortedHeap_at (vs := qs.map fun q => Value.ref q.2) (out := (ts.map fun b => Value.ref b.2).toArray) hoL
    have vts : Vals ((ts.map fun t => V.ref t.2) : List V) (ts.map fun b => Value.ref b.2) := by
      generalize ts = l
      induction l with
      | nil => exact .nil
      | cons b l ih => exact .cons rfl ih
    have hlen : ((ts.map fun t => V.ref t.2) : List V).length ≤ sizeLine := by rw [List.length_map, hp.length_eq, sizeLine_eq]; omega
    refine wpAny_pure ⟨_, rfl, .ref h'.objs.size, upd H h'.objs.size (.lst (ts.map fun t => V.ref t.2)), I1.laid (t' := tk) (fun b u e => ?_) (Nat.le_refl _) (show ObjOk X.prog X.w _ _ _ (.lst (ts.map fun t => V.ref t.2)) from ⟨hlen, _, e', vts, he'⟩), rfl, q ts _ hp hsrt (I1.hok.fresh (Nat.le_refl _))⟩
    have hb : b < h'.objs.size := Heap.lt_size e
    rw [sortedHeap_old (Nat.ne_of_lt hb) (by rw [size_push']; exact Nat.lt_succ_of_lt hb)]
    exact Heap.get?_push_of_some _ e
theorem w_sortN {P : Program} {w : World} {H : Hp} {Q : VK} {a : Addr} {xs : List NEnt} {qs : List (Sts × Addr)} (d : NDict P w H a xs) (hk : xs.map (fun x => (x.1, x.2.1)) = qs.map (fun q => (stK q.1, q.2))) (nd : (qs.map (·.1)).Nodup) (hl : qs.length ≤ 100000)
    (h : ∀ (ts : List (Sts × Addr)) p H1, ts.Perm qs → ts.Pairwise (fun x y => stLt x.1 y.1) → H p = none → H1 p = some (.lst (ts.map fun t => V.ref t.2)) → Same H H1 → Q (.ref p) H1) : rSortN P w [.ref a] H Q :=
  ⟨a, xs, qs, rfl, d, hk, nd, hl, fun ts p g1 g2 hp => h ts p _ g1 g2 hp upd_same (Same.new hp)⟩
/-! ### within a comprehension -/
theorem pe_ngetK {X : Cx} {P : Program} {w : World} {o i : Expr} {pos : Pos} {td ty : TE} (hP : X.prog = P) (hw : X.w = w) (hu : X.A.units + 64 < cLine) (ho : PE X o td) (hi : PE X i ty) (hs : NoSl i) : PE X (.Subscript o i pos) (tNGet P w td ty) := by
  subst hP hw
  exact pe_nget hu ho hi hs
/-! ### len -/
def rLenN (P : Program) (w : World) : List V → Hp → VK → Prop := fun vs H Q => ∃ (a : Addr) (xs : List NEnt), vs = [.ref a] ∧ NDict P w H a xs ∧ Q (.int ((xs.length : Nat) : Int)) H
theorem c_lenN {X : Cx} : CallR X (.builtin "len") (rLenN X.prog X.w) := by
  intro pins s σ H xs us Q I r h
  obtain ⟨p, kvs, rfl, hp, q⟩ := h
  obtain ⟨u, rfl, rx⟩ := vals1 r
  obtain rfl : u = .ref p := rx
  obtain ⟨z, hd, ys, rel, dd⟩ := nd_of I hp
  have hl : kvs.length = ys.length := Paired.length rel
  refine call_len_dictH hd dd (by rw [← hl]; rw [sizeLine_eq] at z; omega) ?_
  rw [← hl]
  exact ⟨.int ((kvs.length : Nat) : Int), H, I.tok _, ⟨_, rfl⟩, q⟩
theorem w_lenN {P : Program} {w : World} {H : Hp} {Q : VK} {a : Addr} {xs : List NEnt} (d : NDict P w H a xs) (h : Q (.int ((xs.length : Nat) : Int)) H) : rLenN P w [.ref a] H Q := ⟨a, xs, rfl, d, h⟩
end FW

set_option Elab.async false
set_option linter.all false
set_option maxRecDepth 100000
set_option maxHeartbeats 4000000
/-! sorted(xs, key=f): f a def of the text that tells an int of each item and changes nothing; fewer than 64 items. -/
namespace FW
open PySem PySem.Spec PyProof.Rows L2 FbM
theorem perm_lift {α β : Type} {f : α → β} {l m : List β} (h : l.Perm m) : ∀ r : List α, m = r.map f → ∃ r' : List α, r'.Perm r ∧ r'.map f = l := by
  induction h with
  | nil =>
    intro r e
    exact ⟨r, .refl _, e.symm⟩
  | cons x _ ih =>
    intro r e
    cases r with
    | nil => cases e
    | cons y r =>
      rw [List.map_cons] at e
      injection e with e1 e2
      obtain ⟨r', p, q⟩ := ih r e2
      exact ⟨y :: r', p.cons y, by rw [List.map_cons, q, e1]⟩
  | swap x y l =>
    intro r e
    match r, e with
    | [], e => cases e
    | [_], e => simp at e
    | a :: b :: r, e =>
      rw [List.map_cons, List.map_cons] at e
      injection e with e1 e2
      injection e2 with e2 e3
      exact ⟨b :: a :: r, .swap a b r, by rw [List.map_cons, List.map_cons, e1, e2, e3]⟩
  | trans _ _ ih1 ih2 =>
    intro r e
    obtain ⟨r2, p2, q2⟩ := ih2 r e
    obtain ⟨r1, p1, q1⟩ := ih1 r2 q2.symm
    exact ⟨r1, p1.trans p2, q1⟩
section
variable {X : Cx} {pins : List (Addr × Obj)} {σ : L2.St} {H : Hp} {s : Shared}
/-- an object of ours that stands untracked is tracked from now on -/
theorem inv_track {a : Addr} {o : HO} (I : Inv X pins σ H s) (r : Rec X pins a) (n : H a = none) (new : ObjOk X.prog X.w (upd H a o) s.heap a o) : Inv X pins σ (upd H a o) s := by
  refine ⟨I.ok, I.os, I.bare, ⟨?_, ?_, ?_, ?_, ?_, ?_, ?_⟩, I.loc, I.cell, ?_, ?_, ?_, ?_, I.len⟩
  · exact I.base.keep
  · exact I.base.slot
  · intro b u q m hx
    rw [upd_ne (Nat.ne_of_lt (Nat.lt_of_lt_of_le (Heap.lt_size q) r.ge))]
    exact I.base.free b u q m hx
  · exact I.base.there
  · intro b xs q
    have := I.base.tups b xs q
    rw [upd_ne (ne_of_none this n)]
    exact this
  · intro b u v q
    have := I.base.frzs b u v q
    rw [upd_ne (ne_of_none this n)]
    exact this
  · intro b ps q
    obtain ⟨more, this⟩ := I.base.tbls b ps q
    exact ⟨more, by rw [upd_ne (ne_of_none this n)]; exact this⟩
  · rw [upd_ne r.nl.symm]
    exact I.free
  · intro x c e
    rw [upd_ne (r.ce x c e)]
    exact I.freeC x c e
  · intro p hp
    obtain ⟨h1, h2, h3⟩ := I.pin p hp
    exact ⟨h1, by rw [upd_ne (r.pn p hp)]; exact h2, h3⟩
  · intro b u e
    by_cases hb : b = a
    · subst hb
      rw [upd_same] at e
      cases e
      exact new
    · rw [upd_ne hb] at e
      exact (I.hok b u e).stay (fun c v _ q => q) (fun c q => by rw [upd_ne (ne_of_none q n)]; exact q) fun c xs q => by rw [upd_ne (ne_of_none q n)]; exact q
end
section
variable {prog : Program} {w : World} {A : Around} {E : Value → Shared → Prop} {s : Shared} {a kS : Addr} {vs : List Value} {kz : List Int} {keys : Array Value} {e e1 : Nat} {P : PySem.Fin → Shared → Prop}
end
section
variable {X : Cx} {pins : List (Addr × Obj)} {σ : L2.St} {H : Hp} {kk : Nat} {f : Addr} {fd : FuncData} {ps : List Str} {sp : Sp} {k : V → Int}
theorem sk_call {s : Shared} {y : V} {v : Value} (F : FnOk X.prog X.w X.K X.mg X.base CX0 kk f fd ps sp) (hr : Room kk X.A.in1.in1) (hb : Binds X.K fd ps []) (E : XK) (I : Inv X pins σ H s) (r : RelV y v) (h : sp [y] H (fun x H' => x = .int (k y) ∧ H' = H) E) :
    wpAny (model X.prog X.w) X.A.in1.in1 (call (.ref f) [v]) (fun u s' => ∃ t, u = .int (k y) t ∧ Inv X pins σ H s') (fun _ _ => False) s := by
  have r2 : Vals [y] [v] := .cons r .nil
  have hl : ([v] ++ ([] : List Value)).length = ps.length := (F.len _ _ _ _ h)
  have hbb := hb s [v] I.kIn hl
  rw [List.append_nil] at hbb
  refine wpAny_call (codeAny_mono (F.run X.A.in1.in1 X.stack s H ⟨[v], []⟩ [v] [y] _ E hr I.env0.in1.in1 hbb r2 h) fun r s' hq => ?_)
  cases r with
  | error e => exact False.elim hq
  | ok fl =>
    cases fl with
    | ret u =>
      obtain ⟨x, H', I', rx, rfl, rfl⟩ := I.after hq
      obtain ⟨t, rfl⟩ := rx
      exact ⟨t, rfl, I'⟩
    | next => exact False.elim hq
    | brk => exact False.elim hq
    | cont => exact False.elim hq
theorem repin {s : Shared} {kS a : Addr} {o1 o2 : Obj} (I : Inv X pins σ H s) (rS : Rec X pins kS) (ra : Rec X pins a) (nS : H kS = none) (na : H a = none) (fS : kS ∉ X.fs) (fa : a ∉ X.fs) (hS : s.heap.get? kS = some o1) (ha : s.heap.get? a = some o2) (d1 : ∀ v, o1.data ≠ .cell v) (d2 : ∀ v, o2.data ≠ .cell v) : Inv X (pins ++ [(kS, o1), (a, o2)]) σ H s :=
  I.pins_of fun p hp => by
    rcases List.mem_append.mp hp with h | h
    · exact I.pin p (List.mem_append_right _ h)
    · simp only [List.mem_cons, List.not_mem_nil, or_false] at h
      rcases h with rfl | rfl
      · exact ⟨hS, nS, rS.nl, fS, d1⟩
      · exact ⟨ha, na, ra.nl, fa, d2⟩
def rSortKey (K : PySem.W.Frag) (f : Addr) (sp : Sp) (E : XK) : List V → List V → Hp → VK → Prop := fun vs zs H Q => ∃ (a : Addr) (ys : List V) (k : V → Int), vs = [V.ref a] ∧ zs = [V.ref f] ∧ SqL K H a ys ∧ ys.length < 64 ∧
  (∀ y ∈ ys, sp [y] H (fun x H' => x = .int (k y) ∧ H' = H) E) ∧ ∀ (out : List V) (p : Addr), out.Perm ys → out.Pairwise (fun x y => k x ≤ k y) → H p = none → Q (.ref p) (upd H p (.lst out))
end
end FW

set_option Elab.async false
set_option linter.all false
set_option maxRecDepth 100000
set_option maxHeartbeats 4000000
/-! sorted(xs, key=f, reverse=b) of any length: f a def of the text that tells an int of each item and changes nothing -/
namespace FW
open PySem PySem.Spec PyProof.Rows L2 FbM
section
variable {prog : Program} {w : World} {A : Around} {E : Value → Shared → Prop} {s : Shared} {a kS : Addr} {vs : List Value} {keys : Array Value} {e e1 : Nat} {P : PySem.Fin → Shared → Prop} {rv : Bool}
theorem skr_tail {st : SortSt} {out : List Value} (nk : s.heap.get? kS = some (seqObj "list" keys e)) (na : s.heap.get? a = some (seqObj "list" #[] e1)) (hka : kS ≠ a) (few : keys.size ≤ sizeLine) (lo : out.length ≤ sizeLine) (fine : failedOf st = none)
    (hout : (if rv = true then ((arrOf st).map (·.2)).reverse else (arrOf st).map (·.2)) = out.toArray)
    (fin : ∀ h1 h' tk c, Heap.SameBut kS s.heap h1 → Heap.SameBut a h1 h' → h'.get? a = some (seqObj "list" out.toArray c) → P (.done (.ret .none)) { s with heap := h', toks := tk }) :
    wpAny (model prog w) A (ksk_tail a rv e1 (.ref kS) st) P E s := by
  have t1 := Heap.SameBut.update s.heap kS (Obj.mapSeq fun _ => (#[] : Array Value))
  have nb1 := (t1.2 a hka.symm).trans na
  have t2 := Heap.SameBut.update (s.heap.update kS (Obj.mapSeq fun _ => (#[] : Array Value))) a (Obj.mapSeq fun _ => List.toArray out)
  have gc2 := get?_update_seq nb1 fun _ => List.toArray out
  have lo2 : (List.toArray out).size ≤ sizeLine + 1 := by simpa using Nat.le_succ_of_le lo
  unfold ksk_tail
  try dsimp only
  rw [hout]
  refine wpAny_bind (listUpdate_at nk rfl ?_ (by exact few) (Nat.zero_le _))
  refine wpAny_bind (wpAny_letGo ?_)
  refine wpAny_bind (seqEpoch_at nb1 rfl ?_)
  refine wpAny_bind (listUpdate_at nb1 rfl ?_ (Nat.zero_le _) lo2)
  rw [fine]
  simp only [bne_self_eq_false, Bool.false_eq_true, if_false]
  exact wpAny_pure (fin _ _ _ _ t1 t2 gc2)
theorem skr_end {κ : PyProof.Rows.KeyKind} (nk : s.heap.get? kS = some (seqObj "list" keys e)) (na : s.heap.get? a = some (seqObj "list" #[] e1)) (hka : kS ≠ a) (S : PySem.W.SortsAt prog w A s κ keys.toList) (zs : keys.size = vs.length) (lz : vs.length ≤ sizeLine)
    (fin : ∀ h1 h' tk c, Heap.SameBut kS s.heap h1 → Heap.SameBut a h1 h' → h'.get? a = some (seqObj "list" (PySem.W.sortVals κ rv keys.toList vs).toArray c) → P (.done (.ret .none)) { s with heap := h', toks := tk }) :
    wpAny (model prog w) A (ksk_end a rv vs.toArray e1 (.ref kS) keys) P E s := by
  obtain ⟨kd, g1, g2⟩ := S.kind
  have kl : keys.toList.length = vs.length := by simpa using zs
  have KK : PyProof.Rows.KeysOf κ (keys.zip vs.toArray) := PySem.W.keysOf_zip S.keys
  have ol : (PySem.W.sortVals κ rv keys.toList vs).length = vs.length := PySem.W.sortVals_length rv kl
  generalize hx0 : (if rv = true then (keys.zip vs.toArray).reverse else keys.zip vs.toArray) = x0
  have px : x0.Perm (keys.zip vs.toArray) := by
    rw [← hx0]
    cases rv with
    | false => exact Array.Perm.refl _
    | true => exact Array.perm_iff_toList_perm.mpr (by simpa using List.reverse_perm (keys.zip vs.toArray).toList)
  have sx : x0.size = vs.length := by rw [px.size_eq, Array.size_zip, zs, List.size_toArray, Nat.min_self]
  have good : ∀ st' : SortSt, (arrOf st').Perm x0 → SortedToK κ (arrOf st') x0.size → Stable κ (arrOf st') x0 → (if rv = true then ((arrOf st').map (·.2)).reverse else (arrOf st').map (·.2)) = (PySem.W.sortVals κ rv keys.toList vs).toArray := by
    intro st' q1 q2 q3
    subst hx0
    have r := PySem.W.sort_out (rev := rv) (keys := keys) (items := vs.toArray) (xs := arrOf st') (κ := κ) KK q1 q2 q3
    have r' := congrArg List.toArray r
    rw [Array.toArray_toList] at r'
    exact r'
  have both : ∀ t : Sem PySem.Fin, wpAny (model prog w) A t P E s → wpAny (model prog w) A (if rv = true then (do let _ ← rule "list.sort.reverse"; t) else t) P E s := fun t ht => by
    split
    · exact wpAny_bind (wpAny_rule ht)
    · exact ht
  unfold ksk_end
  try dsimp only
  refine both _ ?_
  rw [hx0]
  by_cases two : vs.toArray.size < 2
  · rw [if_pos two, if_pos two]
    refine wpAny_bind (wpAny_pure ?_)
    rw [StateT.run_pure]
    refine wpAny_bind (wpAny_pure ?_)
    try dsimp only
    refine skr_tail (rv := rv) (st := SortSt.mk' general' x0 #[] 7 none) nk na hka (by rw [zs]; exact lz) (by rw [ol]; exact lz) rfl (good _ (Array.Perm.refl _) ?_ (Stable.refl _)) fin
    intro i j hij hj
    rw [sx] at hj
    rw [List.size_toArray] at two
    obtain rfl : i = j := by omega
    exact KeyOrd.kle_refl _
  · rw [if_neg two, if_neg two]
    rw [List.size_toArray] at two
    refine wpAny_bind (g2 (by omega) _ ?_)
    refine wpAny_bind (wpAny_mono (PyProof.Rows.H.wpS_sortRunsSt (κ := κ) (kd := kd) (a₀ := x0) (st := SortSt.mk' kd x0 #[] 7 none)
      (Q := fun _ st' => failedOf st' = none ∧ (if rv = true then ((arrOf st').map (·.2)).reverse else (arrOf st').map (·.2)) = (PySem.W.sortVals κ rv keys.toList vs).toArray)
      g1 (KK.perm px) ⟨Array.Perm.refl _, rfl, rfl⟩ rfl (Stable.refl _) (by rw [sx]; omega) fun st' b1 b2 b3 b4 => ⟨b2, good st' b1 b3 b4⟩) ?_ fun _ _ z => z)
    rintro ⟨⟨⟩, st'⟩ s' ⟨rfl, hf, ho⟩
    try dsimp only at ho ⊢
    exact skr_tail nk na hka (by rw [zs]; exact lz) (by rw [ol]; exact lz) hf ho fin
end
theorem skr_reads (h : Heap) {us : List Value} {ks : List Int} (hk : IntsAre us ks) : PySem.W.EachIs (fun v k => ∃ as, Reads h v k as) us (ks.map PyData.int) := by
  induction hk with
  | nil => exact .nil
  | cons _ _ _ ih => exact .cons ⟨_, Reads.int _ _⟩ ih
theorem each_vals : ∀ {ys : List V} {vs : List Value}, Vals ys vs → PySem.W.EachIs (fun v y => RelV y v) vs ys
  | _, _, .nil => .nil
  | _, _, .cons h r => .cons h (each_vals r)
theorem vals_each {ys : List V} {vs : List Value} (h : PySem.W.EachIs (fun v y => RelV y v) vs ys) : Vals ys vs := by
  induction h with
  | nil => exact .nil
  | cons h _ ih => exact .cons h ih
section
variable {X : Cx} {pins : List (Addr × Obj)} {σ : L2.St} {H : Hp} {kk : Nat} {f : Addr} {fd : FuncData} {ps : List Str} {sp : Sp} {k : V → Int} {rv : Bool}
theorem skr_rest {s : Shared} {kS a : Addr} {e1 : Nat} {vs : List Value} {ys : List V} {P : PySem.Fin → Shared → Prop} {E' : Value → Shared → Prop} (F : FnOk X.prog X.w X.K X.mg X.base CX0 kk f fd ps sp) (hr : Room kk X.A.in1.in1) (hb : Binds X.K fd ps []) (E : XK)
    (rS : Rec X pins kS) (ra : Rec X pins a) (nS : H kS = none) (na : H a = none) (fS : kS ∉ X.fs) (fa : a ∉ X.fs) (hka : kS ≠ a)
    (I : Inv X (pins ++ [(kS, seqObj "list" #[] 0), (a, seqObj "list" #[] e1)]) σ H s) (rel : Vals ys vs) (few : vs.length ≤ 100000) (hsp : ∀ y ∈ ys, sp [y] H (fun x H' => x = .int (k y) ∧ H' = H) E)
    (h : ∀ s' out c, Inv X pins σ H s' → s'.heap.get? a = some (seqObj "list" (List.toArray out) c) → PySem.W.KeyedOut rv (ys.map fun y => PyData.int (k y)) vs out → P (.done (.ret .none)) s') :
    wpAny (model X.prog X.w) X.A.in1.in1 (ksk_rest a (.ref f) rv vs.toArray e1 (.ref kS)) P E' s := by
  have hyl : ys.length = vs.length := rel.length
  unfold ksk_rest
  refine wpAny_bind (wpAny_rule ?_)
  first
    | rw [List.forIn_toArray]
    | (rw [← Array.forIn_toList]; simp only [List.toList_toArray])
    | rw [← Array.forIn_toList]
  refine wpAny_bind (ksk_fold (fun i s' => ∃ kA e, Inv X (pins ++ [(kS, seqObj "list" kA e), (a, seqObj "list" #[] e1)]) σ H s' ∧ IntsAre kA.toList ((ys.map k).take i)) vs 0 s
    ⟨#[], 0, I, by simpa using IntsAre.nil⟩ ?step ?done)
  case step =>
    rintro j v s' hv ⟨kA, e, I', hk⟩
    simp only [Nat.zero_add] at hk ⊢
    have hj : j < vs.length := (List.getElem?_eq_some_iff.mp hv).1
    obtain ⟨y, hy, ry⟩ : ∃ y, ys[j]? = some y ∧ RelV y v := by
      refine ⟨ys[j]'(by omega), List.getElem?_eq_getElem (by omega), ?_⟩
      obtain ⟨u, hu, ru⟩ := rel.get (List.getElem?_eq_getElem (by omega : j < ys.length))
      rw [hv] at hu
      cases hu
      exact ru
    have hz : kA.size ≤ vs.length := by
      have h1 := hk.length
      rw [Array.length_toList, List.length_take] at h1
      omega
    refine wpAny_bind (wpAny_attempt (wpAny_mono (sk_call (k := k) F hr hb E I' ry (hsp y (List.mem_of_getElem? hy))) (fun u s2 he => ?_) fun _ _ hF => hF.elim))
    obtain ⟨t, rfl, I2⟩ := he
    try dsimp only
    have pk := (I2.pin (kS, seqObj "list" kA e) (List.mem_append_right _ (List.mem_append_right _ (.head _)))).1
    have pa := (I2.pin (a, seqObj "list" #[] e1) (List.mem_append_right _ (List.mem_append_right _ (.tail _ (.head _))))).1
    have s1 := Heap.SameBut.update s2.heap kS (Obj.mapSeq (·.push (.int (k y) t)))
    have hc2 := get?_update_seq pk (·.push (.int (k y) t))
    have ek : (ys.map k).take (j + 1) = (ys.map k).take j ++ [k y] := by rw [List.take_add_one, List.getElem?_map, hy]; rfl
    have ea : (kA.push (Value.int (k y) t)).toList = kA.toList ++ [Value.int (k y) t] := by simp
    refine wpAny_bind (listUpdate_at pk rfl ?_ (by rw [sizeLine_eq]; omega) (Nat.le_trans (Nat.le_of_eq (Array.size_push ..)) (by rw [sizeLine_eq]; omega)))
    have I3 : Inv X pins σ H { s2 with heap := s2.heap.update kS (Obj.mapSeq (·.push (.int (k y) t))), toks := s2.toks } := rS.turn I2.unpinned nS fun c o hc e => (s1.2 c hc).trans e
    refine wpAny_pure ⟨rfl, kA.push (.int (k y) t), _, repin I3 rS ra nS na fS fa hc2 ((s1.2 a hka.symm).trans pa) (fun v z => by cases z) (fun v z => by cases z), by rw [ea, ek]; exact ksk_snoc hk⟩
  case done =>
    rintro s' ⟨kA, e, I', hk⟩
    have hk' : IntsAre kA.toList (ys.map k) := by
      have e3 : (ys.map k).take (0 + vs.length) = ys.map k := List.take_of_length_le (by rw [List.length_map]; omega)
      rw [e3] at hk
      exact hk
    have pk := (I'.pin (kS, seqObj "list" kA e) (List.mem_append_right _ (List.mem_append_right _ (.head _)))).1
    have pa := (I'.pin (a, seqObj "list" #[] e1) (List.mem_append_right _ (List.mem_append_right _ (.tail _ (.head _))))).1
    have rd := skr_reads s'.heap hk'
    rw [List.map_map] at rd
    have hal : PySem.W.AllAlike (ys.map fun y => PyData.int (k y)) := PySem.W.AllAlike.of fun b b' => by simp only [PySem.W.alike]
    have hso : PySem.W.Sortable (ys.map fun y => PyData.int (k y)) := PySem.W.Sortable.others fun b => ⟨(fun z => nomatch z), (fun xs z => nomatch z)⟩
    have zs : kA.size = vs.length := by
      have h1 := hk'.length
      rw [Array.length_toList, List.length_map] at h1
      omega
    try dsimp only
    refine wpAny_bind (listItems_at pk rfl ?_)
    refine skr_end (κ := PySem.W.dataKind s'.heap (ys.map fun y => PyData.int (k y))) pk pa hka (PySem.W.SortsAt.data rd hal hso fun d hd => ?_) zs (by rw [sizeLine_eq]; omega) fun h1 h2 tk c b1 b2 g2 => ?_
    · obtain ⟨y, _, rfl⟩ := List.mem_map.mp hd
      show X.A.in1.in1.units + 0 < cLine
      have := hr.units
      omega
    have I3 : Inv X pins σ H { s' with heap := h1, toks := tk } := rS.turn I'.unpinned nS fun c o hc e => (b1.2 c hc).trans e
    have I4 : Inv X pins σ H { s' with heap := h2, toks := tk } := ra.turn (s := { s' with heap := h1, toks := tk }) I3 na fun c o hc e => (b2.2 c hc).trans e
    exact h _ _ c I4 g2 ⟨_, _, hal, rfl, rd⟩
def rSortKR (K : PySem.W.Frag) (f : Addr) (sp : Sp) (E : XK) : List V → List V → Hp → VK → Prop := fun vs zs H Q => ∃ (a : Addr) (ys : List V) (k : V → Int) (b : Bool), vs = [V.ref a] ∧ zs = [V.ref f, V.bl b] ∧ SqL K H a ys ∧ ys.length ≤ 100000 ∧
  (∀ y ∈ ys, sp [y] H (fun x H' => x = .int (k y) ∧ H' = H) E) ∧ ∀ (out : List V) (p : Addr), out.Perm ys → out.Pairwise (fun x y => if b = true then k y ≤ k x else k x ≤ k y) → H p = none → Q (.ref p) (upd H p (.lst out))
theorem skr_order (ys : List V) (k : V → Int) (b : Bool) : (ys.mergeSort (PySem.W.dataLe b fun y => PyData.int (k y))).Pairwise (fun x y => if b = true then k y ≤ k x else k x ≤ k y) := by
  cases b with
  | true =>
    rw [PySem.W.dataGe_int]
    have h := List.pairwise_mergeSort (le := fun x y => decide (k y ≤ k x)) (fun a b c h1 h2 => by simp only [decide_eq_true_eq] at *; omega) (fun a b => by simp only [Bool.or_eq_true, decide_eq_true_eq]; omega) ys
    exact h.imp fun {x y} g => by simpa using g
  | false =>
    rw [PySem.W.dataLe_int]
    have h := List.pairwise_mergeSort (le := fun x y => decide (k x ≤ k y)) (fun a b c h1 h2 => by simp only [decide_eq_true_eq] at *; omega) (fun a b => by simp only [Bool.or_eq_true, decide_eq_true_eq]; omega) ys
    exact h.imp fun {x y} g => by simpa using g
/-- sorted(xs, key=f, reverse=b) -/
theorem cr_sortedKR (F : FnOk X.prog X.w X.K X.mg X.base CX0 kk f fd ps sp) (hr : Room (kk + 2) X.A) (hb : Binds X.K fd ps []) (E : XK) : CallRK X (.builtin "sorted") [Str.ofString "key", Str.ofString "reverse"] (rSortKR X.K f sp E) := by
  intro pins s σ H xs zs us ws Q I r rz h
  obtain ⟨l, ys, k, rv, rfl, rfl, hs, few, hsp, q⟩ := h
  obtain rfl := Vals.ref1 r
  obtain ⟨w1, w2, rfl, e1, e2⟩ : ∃ w1 w2, ws = [w1, w2] ∧ RelV (V.ref f) w1 ∧ RelV (V.bl rv) w2 := by
    cases rz with
    | cons r1 rr =>
      cases rr with
      | cons r2 rr =>
        cases rr
        exact ⟨_, _, rfl, r1, r2⟩
  obtain rfl : w1 = Value.ref f := e1
  obtain rfl : w2 = Value.bool rv := e2
  obtain ⟨vs, rel, hl, hz⟩ := I.list hs
  have hvl : ys.length = vs.length := rel.length
  have few' : vs.length ≤ 100000 := by omega
  have hr2 : Room kk X.A.in1.in1 := (show Room (kk + 1) X.A.in1 from Room.in1 hr).in1
  refine call_function_entry_kw kind_sorted plain_sorted entry_sorted (ksk_s2 _ _ _) ?_
  unfold Builtin.«sorted»
  refine wpAny_bind (m := checkCount "sorted" 1 1 _) (wpAny_pure ?_)
  refine wpAny_bind (collect_list hl.isList ?_ (by rw [sizeLine_eq]; omega))
  refine wpAny_bind (wpAny_newList ?_ (by rw [sizeLine_eq]; omega))
  have hsz : ((s.heap.push (seqObj "list" #[] 0)).update s.heap.objs.size (Obj.mapSeq (· ++ vs.toArray))).objs.size = s.heap.objs.size + 1 := by
    rw [Heap.size_update, size_push']
  have hoL : (((s.heap.push (seqObj "list" #[] 0)).update s.heap.objs.size (Obj.mapSeq (· ++ vs.toArray))).push (seqObj "list" vs.toArray 0)).get? (s.heap.objs.size + 1) = some (seqObj "list" vs.toArray 0) := by
    rw [← hsz]; exact Heap.get?_push_size _ rfl
  have keep : ∀ b o, s.heap.get? b = some o → b ≠ s.heap.objs.size + 1 ∧ (((s.heap.push (seqObj "list" #[] 0)).update s.heap.objs.size (Obj.mapSeq (· ++ vs.toArray))).push (seqObj "list" vs.toArray 0)).get? b = some o := fun b o q => by
    have hlt : b < s.heap.objs.size := Heap.lt_size q
    refine ⟨Nat.ne_of_lt (Nat.lt_succ_of_lt hlt), Heap.get?_push_of_some _ ?_⟩
    rw [Heap.get?_update_ne _ _ _ _ (Nat.ne_of_lt hlt)]
    exact Heap.get?_push_of_some _ q
  show wpAny _ _ _ _ _ { s with heap := ((s.heap.push (seqObj "list" #[] 0)).update s.heap.objs.size (Obj.mapSeq (· ++ vs.toArray))).push (seqObj "list" vs.toArray 0) }
  rw [hsz]
  refine wpAny_bind (wpAny_holding (wpAny_call_entry_kw slot_list_sort ⟨_, hoL, rfl⟩ entry_list_sort ?body (ksk_l2 _ _ _)))
  case body =>
    show wpAny (model X.prog X.w) X.A.in1.in1 (Builtin.«list.sort» ⟨[.ref (s.heap.objs.size + 1)], [(Str.ofString "key", .ref f), (Str.ofString "reverse", .bool rv)]⟩) _ _ _
    rw [ksk_t2]
    revert hoL keep
    generalize (((s.heap.push (seqObj "list" #[] 0)).update s.heap.objs.size (Obj.mapSeq (· ++ vs.toArray))).push (seqObj "list" vs.toArray 0)) = h1
    intro hoL keep
    unfold ksk_tree
    have u1 := Heap.SameBut.update h1 (s.heap.objs.size + 1) (Obj.mapSeq fun _ => (#[] : Array Value))
    obtain ⟨e1, ho1⟩ : ∃ e1, (h1.update (s.heap.objs.size + 1) (Obj.mapSeq fun _ => (#[] : Array Value))).get? (s.heap.objs.size + 1) = some (seqObj "list" #[] e1) := ⟨_, get?_update_seq hoL fun _ => #[]⟩
    refine wpAny_bind (listItems_at hoL rfl ?_)
    refine wpAny_bind (listUpdate_at hoL rfl ?_ (by rw [List.size_toArray, sizeLine_eq]; omega) (Nat.zero_le _))
    refine wpAny_bind (seqEpoch_at ho1 rfl ?_)
    have keep2 : ∀ b o, s.heap.get? b = some o → (h1.update (s.heap.objs.size + 1) (Obj.mapSeq fun _ => (#[] : Array Value))).get? b = some o := fun b o q => (u1.2 b (keep b o q).1).trans (keep b o q).2
    have hD2 : s.heap.objs.size + 1 < (h1.update (s.heap.objs.size + 1) (Obj.mapSeq fun _ => (#[] : Array Value))).objs.size := Heap.lt_size ho1
    show wpAny _ _ _ _ _ { s with heap := h1.update (s.heap.objs.size + 1) (Obj.mapSeq fun _ => (#[] : Array Value)) }
    revert ho1 keep2 hD2
    generalize h1.update (s.heap.objs.size + 1) (Obj.mapSeq fun _ => (#[] : Array Value)) = h2
    intro ho1 keep2 hD2
    refine wpAny_bind (wpAny_newTuple ?_ (by show vs.length ≤ _; rw [sizeLine_eq]; omega))
    refine wpAny_bind (wpAny_newList ?_ (Nat.zero_le _))
    refine wpAny_holding ?_
    have hS : ((h2.push (seqObj "tuple" vs.toArray 0)).push (seqObj "list" #[] 0)).get? (h2.push (seqObj "tuple" vs.toArray 0)).objs.size = some (seqObj "list" #[] 0) := Heap.get?_push_size _ rfl
    have keep3 : ∀ b o, h2.get? b = some o → ((h2.push (seqObj "tuple" vs.toArray 0)).push (seqObj "list" #[] 0)).get? b = some o := fun b o q => Heap.get?_push_of_some _ (Heap.get?_push_of_some _ q)
    have hszS : (h2.push (seqObj "tuple" vs.toArray 0)).objs.size = h2.objs.size + 1 := size_push' ..
    show wpAny _ _ _ _ _ { s with heap := (h2.push (seqObj "tuple" vs.toArray 0)).push (seqObj "list" #[] 0) }
    have geD : s.heap.objs.size ≤ s.heap.objs.size + 1 := Nat.le_succ _
    have geS : s.heap.objs.size ≤ (h2.push (seqObj "tuple" vs.toArray 0)).objs.size := by rw [hszS]; omega
    have hSD : (h2.push (seqObj "tuple" vs.toArray 0)).objs.size ≠ s.heap.objs.size + 1 := by rw [hszS]; omega
    have I3 : Inv X pins σ H { s with heap := (h2.push (seqObj "tuple" vs.toArray 0)).push (seqObj "list" #[] 0) } := I.kept (t' := s.toks) fun b o q => keep3 b o (keep2 b o q)
    have rD : Rec X pins (s.heap.objs.size + 1) := rec_new I geD
    have rS : Rec X pins ((h2.push (seqObj "tuple" vs.toArray 0)).objs.size) := rec_new I geS
    have nD : H (s.heap.objs.size + 1) = none := I.hok.fresh geD
    have nS : H ((h2.push (seqObj "tuple" vs.toArray 0)).objs.size) = none := I.hok.fresh geS
    refine skr_rest (k := k) F hr2 hb E rS rD nS nD (I.nofs geS) (I.nofs geD) hSD (repin I3 rS rD nS nD (I.nofs geS) (I.nofs geD) hS (keep3 _ _ ho1) (fun v z => by cases z) (fun v z => by cases z)) rel few' hsp fun s' out c I' g ko => ⟨_, rfl, ?_⟩
    have rz' := vals_each (PySem.W.keyedOut_each (R := fun v y => RelV y v) (fun y => PyData.int (k y)) ko (each_vals rel))
    have pz := List.mergeSort_perm ys (PySem.W.dataLe rv fun y => PyData.int (k y))
    have hlz : (ys.mergeSort (PySem.W.dataLe rv fun y => PyData.int (k y))).length ≤ sizeLine := by
      rw [pz.length_eq]
      exact hz
    refine wpAny_pure ⟨_, rfl, .ref (s.heap.objs.size + 1), upd H (s.heap.objs.size + 1) (.lst _), inv_track I' rD nD ⟨hlz, out, c, rz', g⟩, rfl, q _ _ pz (skr_order ys k rv) nD⟩
end
theorem w_sortKR {K : PySem.W.Frag} {f : Addr} {sp : Sp} {E : XK} {H : Hp} {Q : VK} {a : Addr} {ys : List V} (k : V → Int) {b : Bool} (h1 : H a = some (.lst ys)) (hl : ys.length ≤ 100000) (hs : ∀ y ∈ ys, sp [y] H (fun x H' => x = .int (k y) ∧ H' = H) E)
    (h : ∀ out p H1, out.Perm ys → out.Pairwise (fun x y => if b = true then k y ≤ k x else k x ≤ k y) → H p = none → H1 p = some (.lst out) → Same H H1 → Q (.ref p) H1) : rSortKR K f sp E [.ref a] [.ref f, .bl b] H Q :=
  ⟨a, ys, k, b, rfl, rfl, .of h1, hl, hs, fun out p g1 g2 hp => h out p _ g1 g2 hp upd_same (Same.new hp)⟩
end FW

set_option Elab.async false
set_option linter.all false
set_option maxRecDepth 100000
set_option maxHeartbeats 4000000
/-! {k: v} where k is a nested tuple; k not in such a dict -/
namespace FW
open PySem PySem.Spec PyProof.Rows L2
section
variable {X : Cx} {pins : List (Addr × Obj)} {σ : L2.St} {H : Hp} {s : Shared} {a b : Addr} {xs : List NEnt} {k : NestedKey} {A : Around} {E : Value → Shared → Prop}
theorem n_notIn {Q : Value → Shared → Prop} (hu : A.units + 9 < cLine) (I : Inv X pins σ H s) (d : NDict X.prog X.w H a xs) (hk : NAt H k (.ref b)) (h8 : k.depth ≤ 8) (h : ∀ s', Inv X pins σ H s' → Q (.bool (!(NVal xs k).isSome)) s') :
    wpAny (model X.prog X.w) A (compareOp .NotIn (.ref b) (.ref a)) Q E s := by
  obtain ⟨z, hd, ys, rel, dd⟩ := nd_of I d
  refine wpAny_notIn_heap (knd := nestedKind X.prog X.w) (show A.in1.units + 8 < cLine from by show A.units + 1 + 8 < cLine; omega) (nk_is I hk h8) hd dd ?_
  have q := (rel.val k).isSome_eq
  rw [Option.isSome_map] at q
  rw [← q]
  exact h _ (I.tok _)
end
def rNNotIn (P : Program) (w : World) (x y : V) (H : Hp) (Q : VK) : Prop := ∃ a b xs k, x = .ref a ∧ y = .ref b ∧ NDict P w H a xs ∧ NAt H k (.ref b) ∧ k.depth ≤ 8 ∧ Q (.bl (!(NVal xs k).isSome)) H
def tNNotIn (P : Program) (w : World) (ty td : TE) : TE := fun σ H Q => ty σ H fun y H1 => td σ H1 fun x H2 => rNNotIn P w x y H2 Q
def tNDisp (P : Program) (w : World) (trs : List (TE × TE)) : TE := fun σ H Q => ∀ p, H p = none → tPairs trs σ (upd H p (NO P w p [])) fun ps H2 => ∃ (b : Addr) (k : NestedKey) (v : V), ps = [(.ref b, v)] ∧ NDict P w H2 p [] ∧ NAt H2 k (.ref b) ∧ k.depth ≤ 8 ∧ Q (.ref p) (upd H2 p (NO P w p [(k, b, v)]))
section
variable {X : Cx} {i o : Expr} {pos : Pos} {ty td : TE}
theorem pc_nnotin (hu : X.A.units + 64 < cLine) (hi : PE X i ty) (ho : PE X o td) : PC X .NotIn i o (tNNotIn X.prog X.w ty td) := by
  refine ⟨fun pins s σ H Q I h => ?_⟩
  refine thn (hi.run pins s σ H _ I h) fun iv s1 ⟨y, H1, I1, ry, q1⟩ => ?_
  refine thn (ho.run pins s1 σ H1 _ I1 q1) fun ov s2 ⟨x, H2, I2, rx, a, b, xs, k, ex, ey, d, hk, h8, q2⟩ => ?_
  subst ex ey
  obtain rfl : iv = Value.ref b := ry
  obtain rfl : ov = Value.ref a := rx
  exact n_notIn (by omega) I2 d hk h8 fun s3 I3 => ⟨.bl (!(NVal xs k).isSome), H2, I3, rfl, q2⟩
theorem no_empty {P : Program} {w : World} {H : Hp} (h : Heap) (hb : sysModules ≠ h.objs.size) : ObjOk P w H (h.push { cls := .type "dict", data := .dict #[] }) h.objs.size (NO P w h.objs.size []) :=
  ⟨⟨Nat.zero_le _, beq_eq_false_iff_ne.mpr (Ne.symm hb), [], .nil, _, #[], 0, Heap.get?_push_size _ rfl, ⟨rfl, rfl, rfl⟩, rfl, rfl, List.nodup_nil⟩, ⟨_, Heap.get?_push_size _ rfl⟩, by
      rintro h1 h2' ⟨g1, g2, ys', g3, o, es, ep, g4, g5⟩ keep
      exact ⟨g1, g2, ys', g3, o, es, ep, keep _ g4, g5⟩⟩
theorem pe_ndisp {keys : List (Option Expr)} {values : List Expr} {trs : List (TE × TE)} (hu : X.A.units + 64 < cLine) (h : PPs X pos keys values trs) (hall : keys.all (·.isSome) = true) (hl : keys.length = values.length) (h1 : keys.length = 1) : PE X (.Dict keys values pos) (tNDisp X.prog X.w trs) := by
  refine ⟨fun pins s σ H Q I q => ?_⟩
  have hn := I.hok.fresh (Nat.le_refl s.heap.objs.size)
  have I1 := I.laid (a := s.heap.objs.size) (o := NO X.prog X.w s.heap.objs.size []) (h' := s.heap.push { cls := .type "dict", data := .dict #[] }) (t' := s.toks) (fun _ _ q => Heap.get?_push_of_some _ q) (Nat.le_refl _) (no_empty s.heap (Nat.ne_of_lt I.big))
  have hlen := pairTrees_length keys values X.env pos hall hl
  rw [arm_eval_Dict, zip_pairTrees keys values X.env pos hall hl, dictDisplay_pairs (pairTrees keys values X.env pos) (by
    intro e
    rw [e] at hlen
    simp at hlen
    omega) (by omega)]
  refine wpAny_bind (wpAny_standAt (wpAny_bind (wpAny_subDictH (knd := nestedKind X.prog X.w) (show X.A.units + 8 < cLine from by omega) (by omega) (thn (h.run pins _ σ _ _ I1 (q _ hn)) fun ws s2 ⟨ps, H2, I2, rel, b, k, v, ep, dN, hk, h8, q2⟩ => ?_))))
  subst ep
  obtain ⟨z, hd, ys, r0, dd⟩ := nd_of I2 dN
  cases r0
  cases rel with
  | @cons x y xs' ys' r rr =>
    cases rr
    obtain ⟨y1, y2⟩ := y
    obtain ⟨r1, r2⟩ := r
    obtain rfl : y1 = Value.ref b := r1
    refine ⟨[(k, b, y2)], ⟨rfl, rfl, nk_is I2 hk h8, trivial⟩, dd, fun h' tk dd' hs => wpAny_pure ⟨.ref s.heap.objs.size, _, ?_, rfl, q2⟩⟩
    obtain ⟨qo, es, ep, hq, g2, g3, g4, _, g5⟩ := dd'
    refine d_write I2 (by rw [dN.at']; exact True.intro) hs ⟨qo, hq⟩ ⟨⟨by show 1 ≤ sizeLine; decide, hd, _, .cons ⟨rfl, rfl, r2⟩ .nil, qo, es, ep, hq, g2, g3, g4, g5⟩, ⟨qo, hq⟩, ?_⟩
    rintro h1 h2' ⟨g1, g2, ys', g3, o, es, ep, g4, g5⟩ keep
    exact ⟨g1, g2, ys', g3, o, es, ep, keep _ g4, g5⟩
end
section
variable {P : Program} {w : World} {σ : L2.St} {H : Hp} {Q : VK}
theorem w_ndisp {tk tv : TE} (h : ∀ p H1, H p = none → NDict P w H1 p [] → Same H H1 → tPairs [(tk, tv)] σ H1 fun ps H2 => ∃ (b : Addr) (k : NestedKey) (v : V), ps = [(.ref b, v)] ∧ NDict P w H2 p [] ∧ NAt H2 k (.ref b) ∧ k.depth ≤ 8 ∧ Q (.ref p) (upd H2 p (NO P w p [(k, b, v)]))) : tNDisp P w [(tk, tv)] σ H Q :=
  fun p hp => h p _ hp ⟨upd_same, by simp⟩ (Same.new hp)
theorem npair_at {b p : Addr} {k : NestedKey} {v : V} (d : NDict P w H p []) (hk : NAt H k (.ref b)) (h8 : k.depth ≤ 8) : NDict P w (upd H p (NO P w p [(k, b, v)])) p [(k, b, v)] := by
  refine ⟨upd_same, fun x hx => ?_⟩
  rw [List.mem_singleton.mp hx]
  refine ⟨NAt.kt ⟨fun c ys eb => ?_, fun c o ys eb => ?_⟩ _ _ hk, h8⟩
  · rw [upd_ne (fun z => by rw [z, d.at'] at eb; cases eb)]; exact eb
  · rw [upd_ne (fun z => by rw [z, d.at'] at eb; cases eb)]; exact eb
theorem w_nnotin {ty td : TE} (h : ty σ H fun y H1 => td σ H1 fun x H2 => rNNotIn P w x y H2 Q) : tNNotIn P w ty td σ H Q := h
theorem w_nnotin' {a b : Addr} {xs : List NEnt} {k : NestedKey} (d : NDict P w H a xs) (hk : NAt H k (.ref b)) (h8 : k.depth ≤ 8) (h : Q (.bl (!(NVal xs k).isSome)) H) : rNNotIn P w (.ref a) (.ref b) H Q := ⟨a, b, xs, k, rfl, rfl, d, hk, h8, h⟩
end
end FW

set_option Elab.async false
set_option linter.all false
set_option maxRecDepth 100000
set_option maxHeartbeats 4000000
namespace FW
open PySem L2
def top (i : Nat) : Stmt := PySem.Challenge.pw_fewasks_k28_whole_least_asks.main.body.getD i (.Pass ⟨0, 0, 0, 0⟩)
abbrev s_Contrary___init__ : Stmt := inClass (top 3) 0
abbrev N_Contrary___init__ : List Str := ["self", "upper", "lower"]
theorem sc_Contrary___init__ : FnScope N_Contrary___init__ ["self", "upper", "lower"] (defScope s_Contrary___init__) := ⟨rfl, rfl, rfl, by decide +kernel, rfl, by decide +kernel, by decide +kernel⟩
abbrev s_spans : Stmt := top 5
abbrev N_spans : List Str := ["shape", "rows", "steps", "version", "parent", "found", "one"]
theorem sc_spans : FnScope N_spans ["shape"] (defScope s_spans) := ⟨rfl, rfl, rfl, by decide +kernel, rfl, by decide +kernel, by decide +kernel⟩
abbrev s_no_clash : Stmt := top 16
abbrev N_no_clash : List Str := ["rows", "answers", "no", "upper", "lower", "version", "truth"]
theorem sc_no_clash : FnScope N_no_clash ["rows", "answers"] (defScope s_no_clash) := ⟨rfl, rfl, rfl, by decide +kernel, rfl, by decide +kernel, by decide +kernel⟩
abbrev s_settled : Stmt := top 17
abbrev N_settled : List Str := ["shape", "answers", "rows", "no", "held", "has", "lacks", "left", "version", "truth", "low"]
theorem sc_settled : FnScope N_settled ["shape", "answers"] (defScope s_settled) := ⟨rfl, rfl, rfl, by decide +kernel, rfl, by decide +kernel, by decide +kernel⟩
abbrev s_next_asks : Stmt := top 18
abbrev N_next_asks : List Str := ["shape", "cover", "answers", "few", "left", "asks", "chain", "rest", "version"]
theorem sc_next_asks : FnScope N_next_asks ["shape", "cover", "answers", "few"] (defScope s_next_asks) := ⟨rfl, rfl, rfl, by decide +kernel, rfl, by decide +kernel, by decide +kernel⟩
abbrev s_most_asks : Stmt := top 19
abbrev N_most_asks : List Str := ["cover", "chain"]
theorem sc_most_asks : FnScope N_most_asks ["cover"] (defScope s_most_asks) := ⟨rfl, rfl, rfl, by decide +kernel, rfl, by decide +kernel, by decide +kernel⟩
abbrev s_give_way : Stmt := top 21
abbrev N_give_way : List Str := ["low", "came", "uppers", "lowers", "upper", "before"]
theorem sc_give_way : FnScope N_give_way ["low", "came", "uppers", "lowers"] (defScope s_give_way) := ⟨rfl, rfl, rfl, by decide +kernel, rfl, by decide +kernel, by decide +kernel⟩
abbrev s_pair_up : Stmt := top 22
abbrev N_pair_up : List Str := ["version", "rows", "uppers", "lowers", "came", "ways", "upper", "low"]
theorem sc_pair_up : FnScope N_pair_up ["version", "rows", "uppers", "lowers"] (defScope s_pair_up) := ⟨rfl, rfl, rfl, by decide +kernel, rfl, by decide +kernel, by decide +kernel⟩
abbrev s_apart_of : Stmt := top 23
abbrev N_apart_of : List Str := ["versions", "rows", "uppers", "lowers", "ways", "left", "right", "version", "low"]
theorem sc_apart_of : FnScope N_apart_of ["versions", "rows", "uppers", "lowers"] (defScope s_apart_of) := ⟨rfl, rfl, rfl, by decide +kernel, rfl, by decide +kernel, by decide +kernel⟩
abbrev s_cover : Stmt := top 24
abbrev N_cover : List Str := ["shape", "versions", "rows", "uppers", "lowers", "version", "chains", "chain"]
theorem sc_cover : FnScope N_cover ["shape"] (defScope s_cover) := ⟨rfl, rfl, rfl, by decide +kernel, rfl, by decide +kernel, by decide +kernel⟩
abbrev s_where_held : Stmt := top 8
abbrev N_where_held : List Str := ["rows", "state", "version"]
theorem sc_where_held : FnScope N_where_held ["rows", "state", "version"] (defScope s_where_held) := ⟨rfl, rfl, rfl, by decide +kernel, rfl, by decide +kernel, by decide +kernel⟩
abbrev s_where_lacking : Stmt := top 9
abbrev N_where_lacking : List Str := ["rows", "state", "version", "more", "upper"]
theorem sc_where_lacking : FnScope N_where_lacking ["rows", "state", "version"] (defScope s_where_lacking) := ⟨rfl, rfl, rfl, by decide +kernel, rfl, by decide +kernel, by decide +kernel⟩
abbrev s_open_ones : Stmt := top 10
abbrev N_open_ones : List Str := ["rows", "state", "version"]
theorem sc_open_ones : FnScope N_open_ones ["rows", "state"] (defScope s_open_ones) := ⟨rfl, rfl, rfl, by decide +kernel, rfl, by decide +kernel, by decide +kernel⟩
abbrev s_fill : Stmt := top 11
abbrev N_fill : List Str := ["rows", "state", "known", "best", "version", "high", "low"]
theorem sc_fill : FnScope N_fill ["rows", "state", "known"] (defScope s_fill) := ⟨rfl, rfl, rfl, by decide +kernel, rfl, by decide +kernel, by decide +kernel⟩
abbrev s_all_states : Stmt := top 12
abbrev N_all_states : List Str := ["shape", "known"]
theorem sc_all_states : FnScope N_all_states ["shape"] (defScope s_all_states) := ⟨rfl, rfl, rfl, by decide +kernel, rfl, by decide +kernel, by decide +kernel⟩
abbrev s_table : Stmt := top 13
abbrev N_table : List Str := ["shape", "known", "state"]
theorem sc_table : FnScope N_table ["shape"] (defScope s_table) := ⟨rfl, rfl, rfl, by decide +kernel, rfl, by decide +kernel, by decide +kernel⟩
abbrev s_law_deck : Stmt := top 26
abbrev N_law_deck : List Str := ["_law_script"]
theorem sc_law_deck : FnScope N_law_deck ["_law_script"] (defScope s_law_deck) := ⟨rfl, rfl, rfl, by decide +kernel, rfl, by decide +kernel, by decide +kernel⟩
abbrev s_law_mixed : Stmt := top 27
abbrev N_law_mixed : List Str := ["_law_cell", "_law_turn"]
theorem sc_law_mixed : FnScope N_law_mixed ["_law_cell", "_law_turn"] (defScope s_law_mixed) := ⟨rfl, rfl, rfl, by decide +kernel, rfl, by decide +kernel, by decide +kernel⟩
abbrev s_law_draw : Stmt := top 28
abbrev N_law_draw : List Str := ["_law_deck_here", "_law_many", "_law_cells", "_law_found", "_law_number"]
theorem sc_law_draw : FnScope N_law_draw ["_law_deck_here", "_law_many"] (defScope s_law_draw) := ⟨rfl, rfl, rfl, by decide +kernel, rfl, by decide +kernel, by decide +kernel⟩
abbrev s_law_int : Stmt := top 29
abbrev N_law_int : List Str := ["_law_thing"]
theorem sc_law_int : FnScope N_law_int ["_law_thing"] (defScope s_law_int) := ⟨rfl, rfl, rfl, by decide +kernel, rfl, by decide +kernel, by decide +kernel⟩
abbrev s_law_shape : Stmt := top 30
abbrev N_law_shape : List Str := ["_law_deck_here", "_law_most", "_law_versions", "_law_last", "_law_far", "_law_road", "_law_links", "_law_k", "_law_j", "_law_hit"]
theorem sc_law_shape : FnScope N_law_shape ["_law_deck_here", "_law_most"] (defScope s_law_shape) := ⟨rfl, rfl, rfl, by decide +kernel, rfl, by decide +kernel, by decide +kernel⟩
abbrev s_law_lower : Stmt := top 32
abbrev N_law_lower : List Str := ["_law_deck_here", "_law_rows", "_law_held", "_law_version", "_law_low"]
theorem sc_law_lower : FnScope N_law_lower ["_law_deck_here", "_law_rows"] (defScope s_law_lower) := ⟨rfl, rfl, rfl, by decide +kernel, rfl, by decide +kernel, by decide +kernel⟩
abbrev s_law_spans : Stmt := top 31
abbrev N_law_spans : List Str := ["_law_web", "_law_rows", "_law_version", "_law_found", "_law_two", "_law_low"]
theorem sc_law_spans : FnScope N_law_spans ["_law_web"] (defScope s_law_spans) := ⟨rfl, rfl, rfl, by decide +kernel, rfl, by decide +kernel, by decide +kernel⟩
abbrev s_law_rising : Stmt := top 33
abbrev N_law_rising : List Str := ["_law_thing", "_law_last", "_law_one"]
theorem sc_law_rising : FnScope N_law_rising ["_law_thing"] (defScope s_law_rising) := ⟨rfl, rfl, rfl, by decide +kernel, rfl, by decide +kernel, by decide +kernel⟩
abbrev s_law_open : Stmt := top 34
abbrev N_law_open : List Str := ["_law_rows", "_law_state", "_law_version"]
theorem sc_law_open : FnScope N_law_open ["_law_rows", "_law_state"] (defScope s_law_open) := ⟨rfl, rfl, rfl, by decide +kernel, rfl, by decide +kernel, by decide +kernel⟩
abbrev s_law_behind : Stmt := top 35
abbrev N_law_behind : List Str := ["_law_rows", "_law_state", "_law_version", "_law_truth", "_law_more", "_law_upper"]
theorem sc_law_behind : FnScope N_law_behind ["_law_rows", "_law_state", "_law_version", "_law_truth"] (defScope s_law_behind) := ⟨rfl, rfl, rfl, by decide +kernel, rfl, by decide +kernel, by decide +kernel⟩
abbrev s_law_states : Stmt := top 36
abbrev N_law_states : List Str := ["_law_rows", "_law_known", "_law_states_here", "_law_k", "_law_state", "_law_version", "_law_truth", "_law_other"]
theorem sc_law_states : FnScope N_law_states ["_law_rows"] (defScope s_law_states) := ⟨rfl, rfl, rfl, by decide +kernel, rfl, by decide +kernel, by decide +kernel⟩
abbrev s_law_size : Stmt := top 37
abbrev N_law_size : List Str := ["_law_state"]
theorem sc_law_size : FnScope N_law_size ["_law_state"] (defScope s_law_size) := ⟨rfl, rfl, rfl, by decide +kernel, rfl, by decide +kernel, by decide +kernel⟩
abbrev s_law_leasts : Stmt := top 38
abbrev N_law_leasts : List Str := ["_law_rows", "_law_leasts_here", "_law_state", "_law_best", "_law_version", "_law_high", "_law_low"]
theorem sc_law_leasts : FnScope N_law_leasts ["_law_rows"] (defScope s_law_leasts) := ⟨rfl, rfl, rfl, by decide +kernel, rfl, by decide +kernel, by decide +kernel⟩
abbrev s_law_is_table : Stmt := top 39
abbrev N_law_is_table : List Str := ["_law_rows", "_law_leasts_here", "_law_thing", "_law_states_here", "_law_k", "_law_row_here", "_law_left", "_law_high"]
theorem sc_law_is_table : FnScope N_law_is_table ["_law_rows", "_law_leasts_here", "_law_thing"] (defScope s_law_is_table) := ⟨rfl, rfl, rfl, by decide +kernel, rfl, by decide +kernel, by decide +kernel⟩
abbrev s_law_row : Stmt := top 40
abbrev N_law_row : List Str := ["_law_found", "_law_state", "_law_row_here"]
theorem sc_law_row : FnScope N_law_row ["_law_found", "_law_state"] (defScope s_law_row) := ⟨rfl, rfl, rfl, by decide +kernel, rfl, by decide +kernel, by decide +kernel⟩
abbrev s_law : Stmt := top 41
abbrev N_law : List Str := ["_law_script", "_law_deck_here", "_law_web", "_law_rows", "_law_held", "_law_found", "_law_fewest", "_law_state", "_law_turn", "_law_one", "_law_told", "_law_answers", "_law_asks", "_law_high", "_law_low", "_law_truth", "_law_most"]
theorem sc_law : FnScope N_law ["_law_script"] (defScope s_law) := ⟨rfl, rfl, rfl, by decide +kernel, rfl, by decide +kernel, by decide +kernel⟩
structure Df (K : PySem.W.Frag) (mg : Str → Option Value) (x : Str) (st : Stmt) (ps : List Str) (f : Addr) (fd : FuncData) : Prop where
  fn : Fun K x x st f fd
  b : Binds K fd ps []
  g : mg x = some (.ref f)
structure Txt (K : PySem.W.Frag) (mg : Str → Option Value) : Prop where
  n_len : mg "len" = none
  n_list : mg "list" = none
  n_isinstance : mg "isinstance" = none
  n_int : mg "int" = none
  n_bool : mg "bool" = none
  n_str : mg "str" = none
  n_tuple : mg "tuple" = none
  n_range : mg "range" = none
  n_sorted : mg "sorted" = none
  n_reversed : mg "reversed" = none
  n_any : mg "any" = none
  n_min : mg "min" = none
  n_max : mg "max" = none
  n_sum : mg "sum" = none
  n_set : mg "set" = none
  n_zip : mg "zip" = none
  n_ValueError : mg "ValueError" = none
  g_SMALL : ∃ t, mg "SMALL" = some (.int 5 t)
  g_FEW : ∃ t, mg "FEW" = some (.int 4 t)
local macro_rules | `(tactic| walk_at "sq") => `(tactic| first | assumption | exact SqL.of (by assumption) | exact SqT.of (by assumption) | exact TupD.sq (by assumption))
local macro_rules | `(tactic| walk_at "c") => `(tactic| first | ((with_reducible refine cdivw ?_ ?_) <;> first | decide | omega | assumption) | ((with_reducible refine cmul_r ?_ ?_) <;> first | decide | omega) | ((with_reducible refine cmul_l ?_ ?_) <;> first | decide | omega) | with_reducible assumption | decide | omega | exact ⟨by decide, by decide, by first | decide | omega⟩)
local macro_rules | `(tactic| walk_at "at") => `(tactic| first | assumption | exact rfl)
local macro_rules | `(tactic| walk_at "ty") => `(tactic| first | exact .base (.int _) | exact .base (.bl _) | exact .base (.str _) | exact .base .non | exact .base (.tup (by assumption)) | exact .base (.lst (by assumption)) | exact .base (.dK (by assumption)) | exact TupD.tx (by assumption))
local macro_rules | `(tactic| walk_at "kb") => `(tactic| first | exact kb_int_int | exact kb_int_bool | exact kb_int_str | exact kb_int_tuple | exact kb_int_list | exact kb_int_dict | exact kb_bool_int | exact kb_bool_bool | exact kb_bool_str | exact kb_bool_tuple | exact kb_bool_list | exact kb_bool_dict | exact kb_str_int | exact kb_str_bool | exact kb_str_str | exact kb_str_tuple | exact kb_str_list | exact kb_str_dict | exact kb_tuple_int | exact kb_tuple_bool | exact kb_tuple_str | exact kb_tuple_tuple | exact kb_tuple_list | exact kb_tuple_dict | exact kb_list_int | exact kb_list_bool | exact kb_list_str | exact kb_list_tuple | exact kb_list_list | exact kb_list_dict | exact kb_dict_int | exact kb_dict_bool | exact kb_dict_str | exact kb_dict_tuple | exact kb_dict_list | exact kb_dict_dict | exact kb_NoneType_int | exact kb_NoneType_bool | exact kb_NoneType_str | exact kb_NoneType_tuple | exact kb_NoneType_list | exact kb_NoneType_dict)
local macro_rules | `(tactic| walk_at "s") => `(tactic| first
  | with_reducible refine w_seqA ?_
  | with_reducible refine w_seqD ?_
  | with_reducible refine w_seqF ?_
  | with_reducible refine w_seqW ?_
  | with_reducible refine w_seqG ?_
  | with_reducible refine w_seqP ?_
  | with_reducible refine w_asg ?_
  | ((with_reducible refine' w_var ?hv ?_); (case hv => exact rfl))
  | with_reducible refine w_c ?_
  | ((with_reducible refine w_name ?_); dsimp only [List.set_cons_zero, List.set_cons_succ])
  | with_reducible refine w_name ?_
  | with_reducible refine w_op ?_
  | with_reducible refine w_un ?_
  | with_reducible refine w_neg ?_
  | with_reducible refine w_i0 ?_
  | ((with_reducible refine w_i ?hc ?_); (case hc => walk_at "c"))
  | with_reducible refine w_eqI ?_
  | with_reducible refine w_neI ?_
  | ((with_reducible refine' w_ixL ?h1 ?h2 ?_); (case h1 => walk_at "sq"); (case h2 => walk_at "at"))
  | ((with_reducible refine' w_ixT ?h1 ?h2 ?_); (case h1 => walk_at "sq"); (case h2 => walk_at "at"))
  | ((with_reducible refine' w_ixSL ?h1 ?h2 ?_); (case h1 => walk_at "sq"); (case h2 => walk_at "at"))
  | ((with_reducible refine' w_ixST ?h1 ?h2 ?_); (case h1 => walk_at "sq"); (case h2 => walk_at "at"))
  | with_reducible refine w_neB ?_
  | with_reducible refine w_eqN ?_
  | with_reducible refine w_sub ?_
  | with_reducible refine w_if ?_
  | with_reducible refine w_test ?_
  | with_reducible refine w_tb ?_
  | with_reducible refine w_bl ?_
  | with_reducible refine w_and ?_
  | with_reducible refine w_or ?_
  | with_reducible refine w_not ?_
  | with_reducible refine w_andV ?_
  | with_reducible refine w_orV ?_
  | with_reducible refine w_notV ?_
  | with_reducible refine w_ret ?_
  | with_reducible refine w_drop ?_
  | with_reducible refine w_next ?_
  | with_reducible refine w_cb ?_
  | with_reducible refine w_nil ?_
  | with_reducible refine w_cons ?_
  | with_reducible refine w_call ?_
  | with_reducible refine w_lst ?_
  | with_reducible refine w_tup ?_
  | with_reducible refine w_bm ?_
  | ((with_reducible refine' w_tyL ?h1 ?_); (case h1 => assumption))
  | ((with_reducible refine' w_lenL ?h1 ?_); (case h1 => walk_at "sq"))
  | ((with_reducible refine' w_lenT ?h1 ?_); (case h1 => walk_at "sq"))
  | ((with_reducible refine w_sz ?h1 ?_); (case h1 => first | decide | (simp only [List.length_cons, List.length_nil]; decide)))
  | with_reducible refine w_min2 ?_
  | with_reducible refine w_max2 ?_
  | with_reducible refine w_tupRg ?_
  | with_reducible refine w_rg2 ?_
  | with_reducible refine w_rg2' ?_
  | with_reducible refine w_bits ?_
  | with_reducible refine w_bits' ?_
  | with_reducible refine w_for ?_
  | with_reducible refine w_rng1 ?_
  | ((with_reducible refine w_rng1' ?h1 ?h2 ?_); (case h1 => omega); (case h2 => omega))
  | with_reducible refine w_rng2 ?_
  | ((with_reducible refine w_rng2' ?h1 ?_); (case h1 => omega))
  | with_reducible refine w_itL ?_
  | ((with_reducible refine' w_itL' ?h1 ?_); (case h1 => walk_at "sq"))
  | with_reducible refine w_itT ?_
  | ((with_reducible refine' w_itT' ?h1 ?_); (case h1 => walk_at "sq"))
  | with_reducible refine w_lc ?_
  | ((with_reducible refine' w_isi ?ty ?hk ?_); (case ty => walk_at "ty"); (case hk => walk_at "kb"))
  | with_reducible refine iteT ?_
  | with_reducible refine iteF ?_
  | with_reducible refine w_nT ?_
  | with_reducible refine w_nF ?_
  | with_reducible refine w_eqS ?_
  | with_reducible refine w_eqB ?_
  | ((with_reducible refine' w_sum ?h1 ?_); (case h1 => walk_at "sq"))
  | ((with_reducible refine' w_gtup ?h1 ?h2 ?_); (case h1 => walk_at "sq"); (case h2 => exact rfl))
  | with_reducible refine w_gcons ?_
  | with_reducible refine w_gnil ?_
  | with_reducible refine w_din ?_
  | with_reducible refine w_dnotin ?_
  | with_reducible refine w_dget ?_
  | ((with_reducible refine' w_dinI ?h1 ?_); (case h1 => assumption))
  | ((with_reducible refine' w_dnotinI ?h1 ?_); (case h1 => assumption))
  | ((with_reducible refine' w_dgetI ?h1 ?h2 ?_); (case h1 => assumption); (case h2 => assumption))
  | with_reducible refine w_dnewK ?_
  | with_reducible refine w_dput ?_
  | with_reducible refine w_dget2 ?_
  | ((with_reducible refine' w_isD ?h1 ?_); (case h1 => assumption))
  | ((with_reducible refine' w_dget2I ?h1 ?_); (case h1 => assumption))
  | with_reducible refine w_dsetd ?_
  | ((with_reducible refine' w_leT2 ?h1 ?h2 ?_); (case h1 => walk_at "sq"); (case h2 => walk_at "sq"))
  | ((with_reducible refine' w_inT ?h1 ?_); (case h1 => walk_at "sq"))
  | ((with_reducible refine' w_ninT ?h1 ?_); (case h1 => walk_at "sq"))
  | ((with_reducible refine' w_inL ?h1 ?_); (case h1 => walk_at "sq"))
  | ((with_reducible refine' w_ninL ?h1 ?_); (case h1 => walk_at "sq"))
  | with_reducible refine w_pair ?_
  | with_reducible refine w_pnil ?_
  | with_reducible refine w_callS ?_
  | with_reducible refine w_try ?_
  | with_reducible refine w_isB ?_
  | with_reducible refine w_isN ?_
  | with_reducible refine w_notN ?_
  | with_reducible refine w_chain ?_
  | with_reducible refine w_tru ?_
  | ((with_reducible refine' w_trL ?h1 ?_); (case h1 => walk_at "sq"))
  | ((with_reducible refine' w_trT ?h1 ?_); (case h1 => walk_at "sq"))
  | with_reducible refine w_dc ?_
  | with_reducible refine w_dc2 ?_
  | with_reducible refine w_dget1 ?_
  | ((with_reducible refine' w_dget1I ?h1 ?_); (case h1 => assumption))
  | with_reducible refine w_rev ?_
  | ((with_reducible refine' w_rev' ?h1 ?_); (case h1 => walk_at "sq"))
  | with_reducible refine w_slice ?_
  | with_reducible refine w_noPart ?_
  | with_reducible refine w_part ?_
  | with_reducible refine w_part' ?_
  | with_reducible refine w_enum ?_
  | ((with_reducible refine' w_enum' ?h1 ?_); (case h1 => walk_at "sq"))
  | with_reducible refine w_bm0 ?_
  | with_reducible refine w_retN ?_
  | with_reducible refine w_tyes ?_
  | with_reducible refine w_keys ?_
  | ((with_reducible refine' w_keys' ?h1 ?_); (case h1 => assumption))
  | ((with_reducible refine' w_dinF ?h1 ?_); (case h1 => assumption))
  | ((with_reducible refine' w_dgetF ?h1 ?h2 ?_); (case h1 => assumption); (case h2 => assumption))
  | ((with_reducible refine' w_any ?h1 ?_); (case h1 => walk_at "sq"))
  | dsimp only [Bool.not_true, Bool.not_false]
  )
local macro_rules | `(tactic| walk_at "p") => `(tactic| first | assumption | omega | (simp only [List.length_cons, List.length_nil, List.length_map]; omega) | exact rfl | decide)
local macro_rules | `(tactic| walk_at "d") => `(tactic| first
  | ((with_reducible refine w_yes ?hp ?_); (case hp => walk_at "p"))
  | ((with_reducible refine w_no ?hp ?_); (case hp => walk_at "p"))
  | ((with_reducible refine w_nyes ?hp ?_); (case hp => walk_at "p"))
  | ((with_reducible refine w_nno ?hp ?_); (case hp => walk_at "p")))
local macro_rules | `(tactic| walk_at "g") => `(tactic| repeat walk_at "s")
local macro_rules | `(tactic| walk_at "dg") => `(tactic| (walk_at "d"; repeat walk_at "s"))
local macro_rules | `(tactic| walk_at "x") => `(tactic| ((try dsimp only [cxOf, Cx.nox, Cx.wish]); repeat walk_at "s"))
local macro_rules | `(tactic| walk_at "s") => `(tactic| first
  | with_reducible refine w_nin ?_
  | with_reducible refine w_nget ?_
  | with_reducible refine w_seqNP ?_
  | with_reducible refine w_nput ?_
  | with_reducible refine w_zipL_ ?_
  | with_reducible refine w_nnotin ?_
  | with_reducible refine w_maxD ?_
  )
def spDeck (K : PySem.W.Frag) : Sp := fun vs H Q _ => ∃ (a : Addr) (ns : List Int), vs = [.ref a] ∧ SqL K H a (ns.map V.int) ∧
  ∀ H' d c, Same H H' → H d = none → H c = none → Deck H' d c 0 → Q (.ref d) H'
def spMixed : Sp := fun vs H Q _ => ∃ (x t : Int), vs = [.int x, .int t] ∧ 0 ≤ t ∧ t ≤ 2 ^ 41 ∧ ∀ i, Q (.int i) H
def spDraw : Sp := fun vs H Q _ => ∃ (d c : Addr) (n : Nat) (m : Int), vs = [.ref d, .int m] ∧ Deck H d c n ∧ n < MOSTD ∧ 0 < m ∧ m < 2 ^ 64 ∧
  ∀ (i : Nat) H', (i : Int) < m → Deck H' d c (n + 1) → Off d H H' → Q (.int i) H'
theorem w_deck {K : PySem.W.Frag} {H : Hp} {Q : VK} {E : XK} {a : Addr} {ns : List Int} (h1 : SqL K H a (ns.map V.int)) (h : ∀ H' d c, Same H H' → H d = none → H c = none → Deck H' d c 0 → Q (.ref d) H') : spDeck K ([V.ref a] ++ []) H Q E := ⟨a, ns, rfl, h1, h⟩
theorem w_draw {H : Hp} {Q : VK} {E : XK} {d c : Addr} {n : Nat} {m : Int} (D : Deck H d c n) (hn : n < MOSTD) (h0 : 0 < m) (h1 : m < 2 ^ 64) (h : ∀ (i : Nat) H', (i : Int) < m → Deck H' d c (n + 1) → Off d H H' → Q (.int i) H') : spDraw ([V.ref d, V.int m] ++ []) H Q E := ⟨d, c, n, m, rfl, D, hn, h0, h1, h⟩
section
variable {P : Program} {w : World} {K : PySem.W.Frag} {mg : Str → Option Value} {base : Heap}
theorem ok_deck {f : Addr} {fd : FuncData} (T : Txt K mg) (F : Fun K "_law_deck" "_law_deck" s_law_deck f fd) : FnOk P w K mg base CX0 1 f fd ["_law_script"] (spDeck K) := by
  refine F.ok sc_law_deck (fun vs H Q E h => ?_) (fun cdv A outer s H vs Q E hr h => ?_)
  · obtain ⟨a, ns, rfl, _⟩ := h
    rfl
  · obtain ⟨a, ns, rfl, hS, q⟩ := h
    refine ⟨_,
      (pss_one
        (ps_ret (pe_lst (pa_cons (pe_callTy (r := rListOf K) c_listOf (by rfl) T.n_list (by decide +kernel) (pa_cons (pv 0) pa_nil)) (pa_cons pe_int (pa_cons pe_int (pa_cons pe_int pa_nil)))))))
      , ?_⟩
    walk_at "x"
    refine w_listL hS fun c H1 hc e1 k1 => ?_
    walk_at "g"
    refine w_new fun d H2 hd e2 k2 => ?_
    refine q _ d c (Same.trans k1 k2) (k1.free hd) hc ⟨⟨ns, 0, 0, 0, e2, k2 _ _ e1, Nat.le_refl _⟩, ne_of_none e1 hd⟩
theorem ok_mixed {f : Addr} {fd : FuncData} (T : Txt K mg) (F : Fun K "_law_mixed" "_law_mixed" s_law_mixed f fd) : FnOk P w K mg base CX0 1 f fd ["_law_cell", "_law_turn"] spMixed := by
  refine F.ok sc_law_mixed (fun vs H Q E h => ?_) (fun cdv A outer s H vs Q E hr h => ?_)
  · obtain ⟨x, t, rfl, _⟩ := h
    rfl
  · obtain ⟨x, t, rfl, h0, h1, q⟩ := h
    refine ⟨_,
      (pss_one
        (ps_ret (pe_op op_mod (pe_op op_pow (pe_op op_add (pe_op op_add (pe_op op_mod (pv 0) pe_int) (pe_op op_mul (pv 1) pe_int)) pe_int) pe_int) pe_int)))
      , ?_⟩
    have e := Int.emod_lt_of_pos x (show (0 : Int) < 2147483629 by decide)
    have e2 := Int.emod_nonneg x (show (2147483629 : Int) ≠ 0 by decide)
    walk_at "x"
    exact q _
theorem ok_draw {f fM : Addr} {fd fdM : FuncData} (T : Txt K mg) (F : Fun K "_law_draw" "_law_draw" s_law_draw f fd) (D_law_mixed : Df K mg "_law_mixed" s_law_mixed ["_law_cell", "_law_turn"] fM fdM) : FnOk P w K mg base CX0 2 f fd ["_law_deck_here", "_law_many"] spDraw := by
  have G_law_mixed : FnOk P w K mg base CX0 1 fM fdM ["_law_cell", "_law_turn"] spMixed := ok_mixed T D_law_mixed.fn
  refine F.ok sc_law_draw (fun vs H Q E h => ?_) (fun cdv A outer s H vs Q E hr h => ?_)
  · obtain ⟨d, c, n, m, rfl, _⟩ := h
    rfl
  · obtain ⟨d, c, n, m, rfl, ⟨⟨cs, a, b, t, e1, e2, e3⟩, ne⟩, hn, hm, hm2, q⟩ := h
    have hn' : t < 1099511627776 := Nat.lt_of_le_of_lt e3 hn
    refine ⟨_,
      (pss_cons
        (ps_set (i := 2) sc_law_draw.nd rfl (.inl rfl) (pe_ix (r := rIxL K) ix_list (pv 0) pe_int (fun _ _ => rfl)))
      (pss_cons
        (ps_asg (pe_op op_add (pe_ix (r := rIxL K) ix_list (pv 0) pe_int (fun _ _ => rfl)) pe_int) (pg_sub (pv 0) pe_int set_list))
      (pss_cons
        (ps_if (PW.pt (pw_and (pt_cmpR op_eq (pe_ix (r := rIxL K) ix_list (pv 0) pe_int (fun _ _ => rfl)) pe_int (nomark _)) (pw_and1 (pt_cmpR op_lt (pe_ix (r := rIxL K) ix_list (pv 0) pe_int (fun _ _ => rfl)) (pe_callB (r := rLen K) c_len (by rfl) T.n_len (by decide +kernel) (pa_cons (pv 2) pa_nil)) (nomark _)))))
          (pss_cons
            (ps_asg (pe_op op_add (pe_ix (r := rIxL K) ix_list (pv 0) pe_int (fun _ _ => rfl)) pe_int) (pg_sub (pv 0) pe_int set_list))
          (pss_cons
            (ps_if (pt_cmpR op_lt (pe_ix (r := rIxL K) ix_list (pv 2) (pe_op op_sub (pe_ix (r := rIxL K) ix_list (pv 0) pe_int (fun _ _ => rfl)) pe_int) (fun _ _ => rfl)) (pe_op op_pow pe_int pe_int) (nomark _))
              (pss_one
                (ps_ret (pe_op op_mod (pe_call G_law_mixed (hr.mono (by omega)) (by rfl) D_law_mixed.g D_law_mixed.fn.kp D_law_mixed.b .nil pass0 (pa_cons (pe_ix (r := rIxL K) ix_list (pv 2) (pe_op op_sub (pe_ix (r := rIxL K) ix_list (pv 0) pe_int (fun _ _ => rfl)) pe_int) (fun _ _ => rfl)) (pa_cons (pe_ix (r := rIxL K) ix_list (pv 0) pe_int (fun _ _ => rfl)) pa_nil))) (pv 1))))
              pss_nil)
          (pss_one
            (ps_asg (pe_ix (r := rIxL K) ix_list (pv 2) (pe_op op_sub (pe_ix (r := rIxL K) ix_list (pv 0) pe_int (fun _ _ => rfl)) pe_int) (fun _ _ => rfl)) (pg_sub (pv 0) pe_int set_list)))))
          pss_nil)
      (pss_cons
        (ps_if (pt_cmpR op_gt (pe_ix (r := rIxL K) ix_list (pv 0) pe_int (fun _ _ => rfl)) pe_int (nomark _))
          (pss_cons
            (ps_set (i := 3) sc_law_draw.nd rfl (.inl rfl) (pe_op op_mod (pe_ix (r := rIxL K) ix_list (pv 0) pe_int (fun _ _ => rfl)) (pv 1)))
          (pss_cons
            (ps_asg (pe_op op_fdivW (pe_ix (r := rIxL K) ix_list (pv 0) pe_int (fun _ _ => rfl)) (pv 1)) (pg_sub (pv 0) pe_int set_list))
          (pss_one
            (ps_ret (pv 3)))))
          pss_nil)
      (pss_cons
        (ps_set (i := 4) sc_law_draw.nd rfl (.inl rfl) (pe_op op_mul (pe_ix (r := rIxL K) ix_list (pv 0) pe_int (fun _ _ => rfl)) pe_int))
      (pss_cons
        (ps_if (pt_cmpR op_gt (pe_callB (r := rLen K) c_len (by rfl) T.n_len (by decide +kernel) (pa_cons (pv 2) pa_nil)) pe_int (nomark _))
          (pss_one
            (ps_set (i := 4) sc_law_draw.nd rfl (.inl rfl) (pe_op op_add (pv 4) (pe_op op_mod (pe_ix (r := rIxL K) ix_list (pv 2) (pe_op op_mod (pe_op op_mul (pe_ix (r := rIxL K) ix_list (pv 0) pe_int (fun _ _ => rfl)) pe_int) (pe_callB (r := rLen K) c_len (by rfl) T.n_len (by decide +kernel) (pa_cons (pv 2) pa_nil))) (fun _ _ => rfl)) pe_int))))
          pss_nil)
      (pss_one
        (ps_ret (pe_op op_mod (pe_call G_law_mixed (hr.mono (by omega)) (by rfl) D_law_mixed.g D_law_mixed.fn.kp D_law_mixed.b .nil pass0 (pa_cons (pv 4) (pa_cons (pe_ix (r := rIxL K) ix_list (pv 0) pe_int (fun _ _ => rfl)) pa_nil))) (pv 1))))))))))
      , ?_⟩
    rw [show L2.start N_law_draw [V.ref d, V.int m] = [some (.ref d), some (.int m), none, none, none] from rfl]
    -- cells = deck[0]; deck[3] = deck[3] + 1
    walk_at "x"
    refine w_setL e1 rfl rfl fun H1 g0 o0 => ?_
    have fin : ∀ (H' : Hp) (a' : Nat) (b' i : Int), 0 ≤ i → i < m → H' d = some (.lst [.ref c, .int a', .int b', .int (t + 1)]) → Off d H H' → Q (.int i) H' := fun H' a' b' i i0 i1 g1 g2 => by
      have z := q i.toNat H' (by omega) ⟨⟨cs, a', b', t + 1, g1, (g2 c ne).trans e2, by omega⟩, ne⟩ g2
      rw [Int.toNat_of_nonneg i0] at z
      exact z
    have md : ∀ x : Int, 0 ≤ x % m ∧ x % m < m := fun x => ⟨Int.emod_nonneg x (by omega), Int.emod_lt_of_pos x hm⟩
    have g0 : H1 d = some (.lst [.ref c, .int a, .int b, .int ((t : Int) + 1)]) := g0
    have c1 : H1 c = some (.lst (cs.map V.int)) := (o0 c ne).trans e2
    -- if deck[2] == 0 and deck[1] < len(cells): ..
    refine w_seqJ (fun σ' H2 => σ' = [some (.ref d), some (.int m), some (.ref c), none, none] ∧ ∃ (a' : Nat) (b' : Int), H2 d = some (.lst [.ref c, .int a', .int b', .int ((t : Int) + 1)]) ∧ Off d H H2) ?_ ?_
    · rintro σ' H2 ⟨rfl, a', b', g2, o2⟩
      have c2 : H2 c = some (.lst (cs.map V.int)) := (o2 c ne).trans e2
      refine w_seqJ (fun σ' H3 => σ' = [some (.ref d), some (.int m), some (.ref c), none, none] ∧ H3 = H2) ?_ ?_
      · rintro σ' H3 ⟨rfl, rfl⟩
        -- number = deck[3] * 48271; if len(cells) > 0: ..
        walk_at "g"
        refine w_seqJ (fun σ' H4 => (∃ z : Int, σ' = [some (.ref d), some (.int m), some (.ref c), none, some (.int z)]) ∧ H4 = H3) ?_ ?_
        · rintro σ' H4 ⟨⟨z, rfl⟩, rfl⟩
          walk_at "g"
          refine ⟨_, _, rfl, by omega, by omega, fun y => ?_⟩
          walk_at "g"
          exact fin _ a' b' _ (md y).1 (md y).2 g2 o2
        · intro U hU
          walk_at "g"
          refine w_ite (fun hl => ?_) (fun hl => ?_)
          · obtain ⟨v, hv1, hv2⟩ := at_lt (xs := cs.map V.int) (i := ((t : Int) + 1) * 7 % ((cs.map V.int).length : Int)) (Int.emod_nonneg _ (by omega)) (Int.emod_lt_of_pos _ hl)
            rw [List.getElem?_map] at hv1
            obtain ⟨y, _, rfl⟩ := Option.map_eq_some_iff.mp hv1
            walk_at "g"
            exact hU _ _ ⟨⟨_, rfl⟩, rfl⟩
          · exact hU _ _ ⟨⟨_, rfl⟩, rfl⟩
      · intro U hU
        walk_at "g"
        refine w_ite (fun hl => ?_) (fun hl => ?_)
        · walk_at "g"
          refine w_setL g2 rfl rfl fun H9 g9 o9 => ?_
          walk_at "g"
          exact fin _ a' (b' / m) _ (md b').1 (md b').2 g9 (o2.trans o9)
        · exact hU _ _ ⟨rfl, rfl⟩
    · intro U hU
      have no : U [some (.ref d), some (.int m), some (.ref c), none, none] H1 := hU _ _ ⟨rfl, a, b, g0, o0⟩
      walk_at "g"
      refine w_ite (fun hl => ?_) (fun _ => no)
      walk_at "g"
      refine w_ite (fun hl2 => ?_) (fun _ => no)
      obtain ⟨v, hv1, hv2⟩ := at_lt (xs := cs.map V.int) (i := ((a + 1 : Nat) : Int) - 1) (by omega) (by omega)
      rw [List.getElem?_map] at hv1
      obtain ⟨y, _, rfl⟩ := Option.map_eq_some_iff.mp hv1
      walk_at "g"
      refine w_setL g0 rfl rfl fun H2 g2 o2 => ?_
      have g2 : H2 d = some (.lst [.ref c, .int ((a + 1 : Nat) : Int), .int b, .int ((t : Int) + 1)]) := g2
      have o2 : Off d H H2 := o0.trans o2
      have c2 : H2 c = some (.lst (cs.map V.int)) := (o2 c ne).trans e2
      refine w_seq ?_
      walk_at "g"
      refine w_ite (fun hl => ?_) (fun hl => ?_)
      · walk_at "g"
        refine ⟨_, _, rfl, by omega, by omega, fun y => ?_⟩
        walk_at "g"
        exact fin _ (a + 1) b _ (md y).1 (md y).2 g2 o2
      · walk_at "g"
        refine w_setL g2 rfl rfl fun H9 g9 o9 => ?_
        exact hU _ _ ⟨rfl, a + 1, y, g9, o2.trans o9⟩
end
/-! ### shapes on the heap -/
def VL (H : Hp) (a : Addr) (vs : List Int) : Prop := H a = some (.tup (vs.map V.int))
def PL (H : Hp) (b : Addr) (ps : List (Addr × Int × Int)) : Prop := H b = some (.tup (ps.map fun q => .ref q.1)) ∧ ∀ q ∈ ps, H q.1 = some (.tup [.int q.2.1, .int q.2.2])
def ShAt (H : Hp) (t : Addr) (vs : List Int) (ps : List (Addr × Int × Int)) : Prop := ∃ a b, H t = some (.tup [.ref a, .ref b]) ∧ VL H a vs ∧ PL H b ps
theorem VL.kt {H H' : Hp} {a : Addr} {vs : List Int} (h : VL H a vs) (k : KT H H') : VL H' a vs := k _ _ h
theorem PL.kt {H H' : Hp} {a : Addr} {ps : List (Addr × Int × Int)} (h : PL H a ps) (k : KT H H') : PL H' a ps := ⟨k _ _ h.1, fun q hq => k _ _ (h.2 q hq)⟩
theorem ShAt.kt {H H' : Hp} {t : Addr} {vs : List Int} {ps : List (Addr × Int × Int)} (h : ShAt H t vs ps) (k : KT H H') : ShAt H' t vs ps := by
  obtain ⟨a, b, e, v, p⟩ := h
  exact ⟨a, b, k _ _ e, v.kt k, p.kt k⟩
def LexL (x y : Int × Int) : Prop := x.1 < y.1 ∨ x.1 = y.1 ∧ x.2 < y.2
structure ShOk (vs : List Int) (ls : List (Int × Int)) : Prop where
  vr : vs.Pairwise (· < ·)
  v0 : ∀ v ∈ vs, 0 ≤ v
  lr : ls.Pairwise LexL
  lm : ∀ q ∈ ls, q.1 ∈ vs ∧ q.2 ∈ vs ∧ q.2 < q.1
theorem drop_of {α : Type} {xs : List α} {i : Nat} {x : α} (h : xs[i]? = some x) : xs.drop i = x :: xs.drop (i + 1) := by
  obtain ⟨h1, h2⟩ := List.getElem?_eq_some_iff.mp h
  rw [List.drop_eq_getElem_cons h1, h2]
theorem map_at {α : Type} {f : α → V} {xs : List α} {i : Nat} {v : V} (h : (xs.map f)[i]? = some v) : ∃ x, xs[i]? = some x ∧ v = f x := by
  rw [List.getElem?_map] at h
  obtain ⟨y, h1, h2⟩ := Option.map_eq_some_iff.mp h
  exact ⟨y, h1, h2.symm⟩
/-! ### shapes as they are drawn: the lists while they grow -/
structure LInv (vs : List Int) (z : Int) (j : Nat) (ls : List (Int × Int)) : Prop where
  pw : ls.Pairwise LexL
  mem : ∀ q ∈ ls, (q.1 ∈ vs ∧ q.2 ∈ vs ∧ q.2 < q.1) ∨ (q.1 = z ∧ q.2 ∈ vs.take j)
theorem LInv.skip {vs : List Int} {z : Int} {j : Nat} {ls : List (Int × Int)} (h : LInv vs z j ls) : LInv vs z (j + 1) ls := by
  refine ⟨h.pw, fun q hq => ?_⟩
  rcases h.mem q hq with a | ⟨a, b⟩
  · exact .inl a
  · exact .inr ⟨a, List.mem_of_mem_take (by rw [List.take_take, Nat.min_eq_left (Nat.le_succ j)]; exact b)⟩
theorem take_lt {vs : List Int} (h : vs.Pairwise (· < ·)) {j : Nat} {t x : Int} (ht : vs[j]? = some t) (hx : x ∈ vs.take j) : x < t := by
  have e : vs = vs.take j ++ vs.drop j := (List.take_append_drop j vs).symm
  rw [e, List.pairwise_append] at h
  refine h.2.2 x hx t ?_
  rw [drop_of ht]
  simp
theorem LInv.snoc {vs : List Int} {z t : Int} {j : Nat} {ls : List (Int × Int)} (h : LInv vs z j ls) (hv : vs.Pairwise (· < ·)) (hz : ∀ v ∈ vs, v < z) (ht : vs[j]? = some t) : LInv vs z (j + 1) (ls ++ [(z, t)]) := by
  constructor
  · rw [List.pairwise_append]
    refine ⟨h.pw, List.pairwise_singleton _ _, fun q hq y hy => ?_⟩
    have e : y = (z, t) := by simpa using hy
    subst e
    rcases h.mem q hq with a | ⟨a, b⟩
    · exact .inl (hz _ a.1)
    · exact .inr ⟨a, take_lt hv ht b⟩
  · intro q hq
    rcases List.mem_append.mp hq with a | a
    · exact h.skip.mem q a
    · have e : q = (z, t) := by simpa using a
      subst e
      refine .inr ⟨rfl, ?_⟩
      rw [List.take_add_one, ht]
      simp
theorem LInv.start {vs : List Int} {ls : List (Int × Int)} (h : ShOk vs ls) (z : Int) : LInv vs z 0 ls := ⟨h.lr, fun q hq => .inl (h.lm q hq)⟩
theorem LInv.done {vs : List Int} {z : Int} {j : Nat} {ls : List (Int × Int)} (h : LInv vs z j ls) (hv : vs.Pairwise (· < ·)) (h0 : ∀ v ∈ vs, 0 ≤ v) (hz : ∀ v ∈ vs, v < z) (z0 : 0 ≤ z) : ShOk (vs ++ [z]) ls := by
  refine ⟨?_, fun v hv' => ?_, h.pw, fun q hq => ?_⟩
  · rw [List.pairwise_append]
    exact ⟨hv, List.pairwise_singleton _ _, fun x hx y hy => by
      have e : y = z := by simpa using hy
      subst e
      exact hz x hx⟩
  · rcases List.mem_append.mp hv' with a | a
    · exact h0 v a
    · have e : v = z := by simpa using a
      subst e
      exact z0
  · rcases h.mem q hq with ⟨a, b, c⟩ | ⟨a, b⟩
    · exact ⟨List.mem_append_left _ a, List.mem_append_left _ b, c⟩
    · have m := List.mem_of_mem_take b
      exact ⟨by rw [a]; simp, List.mem_append_left _ m, by rw [a]; exact hz _ m⟩
theorem pick4 {j : Nat} (h : (j : Int) < 4) : ∃ m : Int, atI [V.int 3, V.int 2, V.int 6, V.int 9] (j : Int) = some (.int m) ∧ 0 < m ∧ m < 2 ^ 64 := by
  match j, h with
  | 0, _ => exact ⟨3, rfl, by decide, by decide⟩
  | 1, _ => exact ⟨2, rfl, by decide, by decide⟩
  | 2, _ => exact ⟨6, rfl, by decide, by decide⟩
  | 3, _ => exact ⟨9, rfl, by decide, by decide⟩
  | j + 4, h => omega
theorem mostd {n m : Nat} (h : n + 10000 ≤ MOSTD) (e : m < 10000) : n + m < MOSTD := by omega
theorem at_map {vs : List Int} {j : Nat} {t : Int} (h : vs[j]? = some t) : atI (vs.map V.int) (j : Int) = some (.int t) := atI_nat (by rw [List.getElem?_map, h]; rfl)
def spShape : Sp := fun vs H Q _ => ∃ (d c : Addr) (n m : Nat), vs = [.ref d, .int m] ∧ Deck H d c n ∧ n + 10000 ≤ MOSTD ∧ m ≤ 60 ∧
  ∀ H' t ns ps, Deck H' d c (n + 10000) → Kp [d] H H' → ShAt H' t ns ps → ShOk ns (ps.map (·.2)) → ns.length ≤ m → ps.length ≤ 100 * m → Q (.ref t) H'
section
variable {P : Program} {w : World} {K : PySem.W.Frag} {mg : Str → Option Value} {base : Heap}
theorem ok_shape {f fM fD : Addr} {fd fdM fdD : FuncData} (T : Txt K mg) (F : Fun K "_law_shape" "_law_shape" s_law_shape f fd) (D_law_mixed : Df K mg "_law_mixed" s_law_mixed ["_law_cell", "_law_turn"] fM fdM)
    (D_law_draw : Df K mg "_law_draw" s_law_draw ["_law_deck_here", "_law_many"] fD fdD) : FnOk P w K mg base CX0 3 f fd ["_law_deck_here", "_law_most"] spShape := by
  have G_law_draw : FnOk P w K mg base CX0 2 fD fdD ["_law_deck_here", "_law_many"] spDraw := ok_draw T D_law_draw.fn D_law_mixed
  refine F.ok sc_law_shape (fun vs H Q E h => ?_) (fun cdv A outer s H vs Q E hr h => ?_)
  · obtain ⟨d, c, n, m, rfl, _⟩ := h
    rfl
  · obtain ⟨d, c, n, m, rfl, D0, hn, hm, q⟩ := h
    refine ⟨_,
      (pss_cons
        (ps_set (i := 2) sc_law_shape.nd rfl (.inl rfl) (pe_lst pa_nil))
      (pss_cons
        (ps_set (i := 3) sc_law_shape.nd rfl (.inl rfl) (pe_un un_neg pe_int))
      (pss_cons
        (ps_set (i := 4) sc_law_shape.nd rfl (.inl rfl) (pe_call G_law_draw (hr.mono (by omega)) (by rfl) D_law_draw.g D_law_draw.fn.kp D_law_draw.b .nil pass0 (pa_cons (pv 0) (pa_cons pe_int pa_nil))))
      (pss_cons
        (ps_set (i := 5) sc_law_shape.nd rfl (.inl rfl) (pe_call G_law_draw (hr.mono (by omega)) (by rfl) D_law_draw.g D_law_draw.fn.kp D_law_draw.b .nil pass0 (pa_cons (pv 0) (pa_cons pe_int pa_nil))))
      (pss_cons
        (ps_set (i := 6) sc_law_shape.nd rfl (.inl rfl) (pe_lst pa_nil))
      (pss_cons
        (ps_for PassesOwn.never rfl (pi_range1 (by rfl) T.n_range (pa_cons (pe_call G_law_draw (hr.mono (by omega)) (by rfl) D_law_draw.g D_law_draw.fn.kp D_law_draw.b .nil pass0 (pa_cons (pv 0) (pa_cons (pe_op op_add (pv 1) pe_int) pa_nil))) pa_nil)) (pg_name (i := 7) sc_law_shape.nd rfl (.inl rfl))
          (pss_cons
            (ps_set (i := 3) sc_law_shape.nd rfl (.inl rfl) (pe_op op_add (pe_op op_add (pv 3) pe_int) (pe_call G_law_draw (hr.mono (by omega)) (by rfl) D_law_draw.g D_law_draw.fn.kp D_law_draw.b .nil pass0 (pa_cons (pv 0) (pa_cons pe_int pa_nil)))))
          (pss_cons
            (ps_if (PW.pt (pw_and (pt_cmpR op_eq (pv 4) pe_int (nomark _)) (pw_and1 (pt_cmpR op_eq (pe_call G_law_draw (hr.mono (by omega)) (by rfl) D_law_draw.g D_law_draw.fn.kp D_law_draw.b .nil pass0 (pa_cons (pv 0) (pa_cons pe_int pa_nil))) pe_int (nomark _)))))
              (pss_one
                (ps_set (i := 3) sc_law_shape.nd rfl (.inl rfl) (pe_op op_add (pv 3) (pe_call G_law_draw (hr.mono (by omega)) (by rfl) D_law_draw.g D_law_draw.fn.kp D_law_draw.b .nil pass0 (pa_cons (pv 0) (pa_cons (pe_op op_pow pe_int pe_int) pa_nil))))))
              pss_nil)
          (pss_cons
            (ps_for PassesOwn.never rfl (pi_range1 (by rfl) T.n_range (pa_cons (pv 7) pa_nil)) (pg_name (i := 8) sc_law_shape.nd rfl (.inl rfl))
              (pss_cons
                (ps_set (i := 9) sc_law_shape.nd rfl (.inl rfl) (pe_cmpR op_eq (pe_call G_law_draw (hr.mono (by omega)) (by rfl) D_law_draw.g D_law_draw.fn.kp D_law_draw.b .nil pass0 (pa_cons (pv 0) (pa_cons (pe_ix (r := rIxL K) ix_list (pe_lst (pa_cons pe_int (pa_cons pe_int (pa_cons pe_int (pa_cons pe_int pa_nil))))) (pv 5) (fun _ _ => rfl)) pa_nil))) pe_int (nomark _)))
              (pss_cons
                (ps_if (PW.pt (pw_and (pt_cmpR op_eq (pv 5) pe_int (nomark _)) (pw_and1 (pt_cmpR op_gt (pe_op op_sub (pv 7) (pv 8)) pe_int (nomark _)))))
                  (pss_one
                    (ps_set (i := 9) sc_law_shape.nd rfl (.inl rfl) pe_bl))
                  pss_nil)
              (pss_cons
                (ps_if (PW.pt (pw_and (pt_cmpR op_eq (pv 5) pe_int (nomark _)) (pw_and1 (pt_cmpR op_eq (pv 8) (pe_op op_sub (pv 7) pe_int) (nomark _)))))
                  (pss_one
                    (ps_set (i := 9) sc_law_shape.nd rfl (.inl rfl) pe_bl))
                  pss_nil)
              (pss_one
                (ps_if (pt_val (pv 9))
                  (pss_one
                    (ps_expr (pe_bm PySem.F.plainAttrs_list PySem.F.slot_list_append PySem.F.type_list_append mt_append (pv 6) (pa_cons (pe_tup (pa_cons (pv 3) (pa_cons (pe_ix (r := rIxL K) ix_list (pv 2) (pv 8) (fun _ _ => rfl)) pa_nil))) pa_nil))))
                  pss_nil))))))
          (pss_one
            (ps_expr (pe_bm PySem.F.plainAttrs_list PySem.F.slot_list_append PySem.F.type_list_append mt_append (pv 2) (pa_cons (pv 3) pa_nil))))))))
      (pss_one
        (ps_ret (pe_tup (pa_cons (pe_callTy (r := rTupOf K) c_tupOf (by rfl) T.n_tuple (by decide +kernel) (pa_cons (pv 2) pa_nil)) (pa_cons (pe_callTy (r := rTupOf K) c_tupOf (by rfl) T.n_tuple (by decide +kernel) (pa_cons (pv 6) pa_nil)) pa_nil)))))))))))
      , ?_⟩
    rw [show L2.start N_law_shape [V.ref d, V.int m] = [some (.ref d), some (.int m), none, none, none, none, none, none, none, none] from rfl]
    walk_at "x"
    refine w_new fun l1 H1 hl1 e1 k1 => ?_
    have D1 := D0.kp (M := []) (Kp.of k1) (by simp) (by simp)
    obtain ⟨n1d, n1c⟩ := D0.ne1 hl1
    walk_at "g"
    refine w_draw D1 (mostd (m := 0) hn (by omega)) (by decide) (by decide) fun far H2 hfar D2 o2 => ?_
    walk_at "g"
    refine w_draw D2 (mostd (m := 1) hn (by omega)) (by decide) (by decide) fun road H3 hroad D3 o3 => ?_
    walk_at "g"
    have e3 := o3.get n1d (o2.get n1d e1)
    refine w_new fun l2 H4 hl2 e4 k4 => ?_
    have D4 := D3.kp (M := []) (Kp.of k4) (by simp) (by simp)
    obtain ⟨n2d, n2c⟩ := D3.ne1 hl2
    have n21 : l1 ≠ l2 := ne_of_none e3 hl2
    have e1' := k4 _ _ e3
    have kk : Kp [d] H H4 := (Kp.of k1).trans ((o2.kp (by simp)).trans ((o3.kp (by simp)).trans (Kp.of k4)))
    have hl2H : H l2 = none := nofree (((Kp.of k1).trans ((o2.kp (by simp)).trans (o3.kp (by simp)))) : Kp [d] H H3) (by simpa using n2d) hl2
    walk_at "g"
    refine w_draw D4 (mostd (m := 2) hn (by omega)) (by omega) (by omega) fun many H5 hmany D5 o5 => ?_
    walk_at "g"
    refine lp_range (fun k σ H' => ∃ (ns : List Int) (ps : List (Addr × Int × Int)) (last : Int) (y7 y8 y9 : Option V), σ = [some (.ref d), some (.int m), some (.ref l1), some (.int last), some (.int far), some (.int road), some (.ref l2), y7, y8, y9] ∧
      Deck H' d c (n + 3 + 100 * k) ∧ H' l1 = some (.lst (ns.map V.int)) ∧ H' l2 = some (.lst (ps.map fun q => .ref q.1)) ∧ (∀ q ∈ ps, H' q.1 = some (.tup [.int q.2.1, .int q.2.2])) ∧
      ns.length = k ∧ ShOk ns (ps.map (·.2)) ∧ (∀ v ∈ ns, v ≤ last) ∧ -1 ≤ last ∧ ps.length ≤ 100 * k ∧ Kp [d] H H') ?_ ?_ ?_
    · exact ⟨[], [], -1, none, none, none, rfl, D5, o5.get n1d e1', o5.get n2d e4, by simp, rfl, ⟨List.Pairwise.nil, by simp, List.Pairwise.nil, by simp⟩, by simp, by omega, Nat.zero_le _, kk.trans (o5.kp (by simp))⟩
    · rintro k σ H6 hk ⟨ns, ps, last, y7, y8, y9, rfl, D6, el1, el2, hps, hlen, S, hlast, hl1', hpl, k6⟩
      have hk60 : k < 60 := by omega
      walk_at "g"
      refine w_draw D6 (by have : 3 + 100 * k < 10000 := by omega
                           omega) (by decide) (by decide) fun r1 H7 hr1 D7 o7 => ?_
      walk_at "g"
      -- last is raised
      refine w_seqJ (fun σ' H' => ∃ (z : Int), σ' = [some (.ref d), some (.int m), some (.ref l1), some (.int z), some (.int far), some (.int road), some (.ref l2), some (.int (0 + k)), y8, y9] ∧ last < z ∧ Deck H' d c (n + 3 + 100 * k + 3) ∧ Off d H6 H') ?_ ?_
      · rintro σ' H8 ⟨z, rfl, hz, D8, o8⟩
        have hzv : ∀ v ∈ ns, v < z := fun v hv => by have := hlast v hv; omega
        have hps8 : ∀ q ∈ ps, H8 q.1 = some (.tup [.int q.2.1, .int q.2.2]) := fun q hq => by
          obtain ⟨⟨xs, e⟩, _⟩ := D6.at
          exact o8.tup e (hps q hq)
        walk_at "g"
        refine lp_range (fun j σ H' => ∃ (ps' : List (Addr × Int × Int)) (y8 y9 : Option V), σ = [some (.ref d), some (.int m), some (.ref l1), some (.int z), some (.int far), some (.int road), some (.ref l2), some (.int (0 + k)), y8, y9] ∧
          Deck H' d c (n + 3 + 100 * k + 3 + j) ∧ H' l1 = some (.lst (ns.map V.int)) ∧ H' l2 = some (.lst (ps'.map fun q => .ref q.1)) ∧ (∀ q ∈ ps', H' q.1 = some (.tup [.int q.2.1, .int q.2.2])) ∧
          LInv ns z j (ps'.map (·.2)) ∧ ps'.length ≤ 100 * k + j ∧ Kp [d] H H') ?_ ?_ ?_
        · exact ⟨ps, _, _, rfl, D8, o8.get n1d el1, o8.get n2d el2, hps8, LInv.start S z, hpl, k6.trans (o8.kp (by simp))⟩
        · rintro j σ H9 hj ⟨ps', w8, w9, rfl, D9, g1, g2, gp, L, hpl', k9⟩
          have hjk : j < k := by omega
          have hjn : j < ns.length := by omega
          obtain ⟨t, ht⟩ : ∃ t, ns[j]? = some t := ⟨ns[j], List.getElem?_eq_getElem hjn⟩
          walk_at "g"
          refine w_new fun pp H10 hpp e10 k10 => ?_
          have D10 := D9.kp (M := []) (Kp.of k10) (by simp) (by simp)
          obtain ⟨npd, npc⟩ := D9.ne1 hpp
          obtain ⟨mm, emm, hmm0, hmm1⟩ := pick4 hroad
          walk_at "g"
          refine w_draw D10 (by have : 3 + 100 * k + 3 + j < 10000 := by omega
                                omega) hmm0 hmm1 fun r2 H11 hr2 D11 o11 => ?_
          walk_at "g"
          have g1' := o11.get n1d (k10 _ _ g1)
          have g2' := o11.get n2d (k10 _ _ g2)
          have gp' : ∀ q ∈ ps', H11 q.1 = some (.tup [.int q.2.1, .int q.2.2]) := fun q hq => by
            obtain ⟨⟨xs, e⟩, _⟩ := D10.at
            exact o11.tup e (k10 _ _ (gp q hq))
          have k11 : Kp [d] H H11 := k9.trans ((Kp.of k10).trans (o11.kp (by simp)))
          refine w_seqJ (fun σ' H' => (∃ b : Bool, σ' = [some (.ref d), some (.int m), some (.ref l1), some (.int z), some (.int far), some (.int road), some (.ref l2), some (.int (0 + k)), some (.int (0 + j)), some (.bl b)]) ∧ H' = H11) ?_ ?_
          · rintro σ' H' ⟨⟨b1, rfl⟩, rfl⟩
            refine w_seqJ (fun σ' H'' => (∃ b : Bool, σ' = [some (.ref d), some (.int m), some (.ref l1), some (.int z), some (.int far), some (.int road), some (.ref l2), some (.int (0 + k)), some (.int (0 + j)), some (.bl b)]) ∧ H'' = H') ?_ ?_
            · rintro σ' H'' ⟨⟨b2, rfl⟩, rfl⟩
              walk_at "g"
              refine w_itB (fun _ => ?_) (fun _ => ?_)
              · have hat := at_map ht
                rw [show (j : Int) = 0 + (j : Int) by omega] at hat
                walk_at "g"
                refine w_new fun pr H12 hpr e12 k12 => ?_
                have g2'' := k12 _ _ g2'
                walk_at "g"
                refine w_app g2'' (by rw [List.length_map]; exact Nat.lt_of_le_of_lt (show ps'.length ≤ 10000 by omega) (by decide)) fun H13 e13 o13 => ?_
                have D12 := D11.kp (M := []) (Kp.of k12) (by simp) (by simp)
                refine ⟨ps' ++ [(pr, z, t)], _, _, rfl, D12.kp (M := [l2]) (o13.kp (by simp)) (by simpa using Ne.symm n2d) (by simpa using Ne.symm n2c), o13.get n21 (k12 _ _ g1'), by rw [e13, List.map_append]; rfl, ?_, ?_, by rw [List.length_append]; simp; omega, Off.keep (k11.trans (Kp.of k12)) o13 hl2H⟩
                · intro q hq
                  rcases List.mem_append.mp hq with a | a
                  · exact o13.tup g2'' (k12 _ _ (gp' q a))
                  · have e : q = (pr, z, t) := by simpa using a
                    subst e
                    exact o13.tup g2'' e12
                · rw [List.map_append]
                  exact L.snoc S.vr hzv ht
              · walk_at "g"
                exact ⟨ps', _, _, rfl, D11, g1', g2', gp', L.skip, by omega, k11⟩
            · intro U hU
              walk_at "g"
              refine w_ite (fun _ => ?_) (fun _ => hU _ _ ⟨⟨_, rfl⟩, rfl⟩)
              walk_at "g"
              refine w_ite (fun _ => ?_) (fun _ => hU _ _ ⟨⟨_, rfl⟩, rfl⟩)
              walk_at "g"
              exact hU _ _ ⟨⟨_, rfl⟩, rfl⟩
          · intro U hU
            walk_at "g"
            refine w_ite (fun _ => ?_) (fun _ => hU _ _ ⟨⟨_, rfl⟩, rfl⟩)
            walk_at "g"
            refine w_ite (fun _ => ?_) (fun _ => hU _ _ ⟨⟨_, rfl⟩, rfl⟩)
            walk_at "g"
            exact hU _ _ ⟨⟨_, rfl⟩, rfl⟩
        · rintro σ H9 ⟨ps', w8, w9, rfl, D9, g1, g2, gp, L, hpl', k9⟩
          walk_at "g"
          refine w_app g1 (by rw [List.length_map]; exact small1000 (by omega)) fun H10 e10 o10 => ?_
          have hkk : (0 + (k : Int)).toNat = k := by omega
          rw [hkk] at L D9
          have kz : Kp [d] H H10 := Off.keep k9 o10 hl1
          refine ⟨ns ++ [z], ps', z, _, _, _, rfl, (D9.kp (M := [l1]) (o10.kp (by simp)) (by simpa using Ne.symm n1d) (by simpa using Ne.symm n1c)).mono (by omega), by rw [e10, List.map_append]; rfl, o10.get (Ne.symm n21) g2, fun q hq => o10.tup g1 (gp q hq), by rw [List.length_append]; simp; omega, L.done S.vr S.v0 hzv (by omega), ?_, by omega, by omega, kz⟩
          intro v hv
          rcases List.mem_append.mp hv with a | a
          · have := hzv v a
            omega
          · have e : v = z := by simpa using a
            omega
      · intro U hU
        walk_at "g"
        refine w_ite (fun _ => ?_) (fun _ => hU _ _ ⟨_, rfl, by omega, D7.mono (by omega), o7⟩)
        walk_at "g"
        refine w_draw D7 (by have : 3 + 100 * k + 1 < 10000 := by omega
                             omega) (by decide) (by decide) fun r2 H8 hr2 D8 o8 => ?_
        walk_at "g"
        refine w_ite (fun _ => ?_) (fun _ => hU _ _ ⟨_, rfl, by omega, D8.mono (by omega), o7.trans o8⟩)
        walk_at "g"
        refine w_draw D8 (by have : 3 + 100 * k + 2 < 10000 := by omega
                             omega) (by decide) (by decide) fun r3 H9 hr3 D9 o9 => ?_
        walk_at "g"
        exact hU _ _ ⟨_, rfl, by omega, D9, o7.trans (o8.trans o9)⟩
    · rintro σ H6 ⟨ns, ps, last, y7, y8, y9, rfl, D6, el1, el2, hps, hlen, S, hlast, hl1', hpl, k6⟩
      walk_at "g"
      refine w_tupL (.of el1) fun t1 H7 ht1 e7 k7 => ?_
      have el2' := k7 _ _ el2
      walk_at "g"
      refine w_tupL (.of el2') fun t2 H8 ht2 e8 k8 => ?_
      walk_at "g"
      refine w_new fun t3 H9 ht3 e9 k9 => ?_
      have ks := Same.trans k7 (Same.trans k8 k9)
      refine q H9 t3 ns ps ((D6.kp (M := []) (Kp.of ks) (by simp) (by simp)).mono (by omega)) (k6.trans (Kp.of ks)) ⟨t1, t2, e9, k9 _ _ (k8 _ _ e7), k9 _ _ e8, fun q hq => ks _ _ (hps q hq)⟩ S (by omega) (by omega)
end
/-! ### what is below what -/
inductive Bel (ls : List (Int × Int)) : Int → Int → Prop where
  | refl (v : Int) : Bel ls v v
  | step {v p x : Int} (h : (v, p) ∈ ls) (r : Bel ls p x) : Bel ls v x
theorem Bel.mem {vs : List Int} {ls : List (Int × Int)} (S : ShOk vs ls) {v x : Int} (h : Bel ls v x) (hv : v ∈ vs) : x ∈ vs := by
  induction h with
  | refl v => exact hv
  | step h r ih => exact ih (S.lm _ h).2.1
theorem Bel.le {vs : List Int} {ls : List (Int × Int)} (S : ShOk vs ls) {v x : Int} (h : Bel ls v x) : x ≤ v := by
  induction h with
  | refl v => omega
  | step h r ih => have := (S.lm _ h).2.2; dsimp only at this; omega
theorem Bel.trans {ls : List (Int × Int)} {a b c : Int} (h : Bel ls a b) (r : Bel ls b c) : Bel ls a c := by
  induction h with
  | refl v => exact r
  | step h _ ih => exact .step h (ih r)
theorem Bel.iff {ls : List (Int × Int)} {v x : Int} : Bel ls v x ↔ x = v ∨ ∃ p, (v, p) ∈ ls ∧ Bel ls p x := by
  constructor
  · intro h
    cases h with
    | refl => exact .inl rfl
    | step h r => exact .inr ⟨_, h, r⟩
  · rintro (rfl | ⟨p, h, r⟩)
    · exact .refl _
    · exact .step h r
theorem rise_ext : ∀ (xs ys : List Int), xs.Pairwise (· < ·) → ys.Pairwise (· < ·) → (∀ x, x ∈ xs ↔ x ∈ ys) → xs = ys
  | [], [], _, _, _ => rfl
  | [], y :: ys, _, _, h => by have := (h y).mpr (by simp); simp at this
  | x :: xs, [], _, _, h => by have := (h x).mp (by simp); simp at this
  | x :: xs, y :: ys, h1, h2, h => by
    rw [List.pairwise_cons] at h1 h2
    have e : x = y := by
      have a := (h x).mp (by simp)
      have b := (h y).mpr (by simp)
      rcases List.mem_cons.mp a with a | a
      · exact a
      · rcases List.mem_cons.mp b with b | b
        · exact b.symm
        · have := h2.1 x a
          have := h1.1 y b
          omega
    subst e
    rw [rise_ext xs ys h1.2 h2.2 fun z => ?_]
    constructor
    · intro hz
      rcases List.mem_cons.mp ((h z).mp (by simp [hz])) with e | e
      · have := h1.1 z hz
        omega
      · exact e
    · intro hz
      rcases List.mem_cons.mp ((h z).mpr (by simp [hz])) with e | e
      · have := h2.1 z hz
        omega
      · exact e
structure RowOk (ls : List (Int × Int)) (v : Int) (ys : List Int) : Prop where
  rise : ys.Pairwise (· < ·)
  mem : ∀ x, x ∈ ys ↔ Bel ls v x
theorem RowOk.uniq {ls : List (Int × Int)} {v : Int} {ys zs : List Int} (a : RowOk ls v ys) (b : RowOk ls v zs) : ys = zs :=
  rise_ext _ _ a.rise b.rise fun x => (a.mem x).trans (b.mem x).symm
/-- a rising order of unlike numbers is strictly rising -/
theorem strict_of {ys ks : List Int} (p : ys.Perm ks) (s : ys.Pairwise (· ≤ ·)) (n : ks.Nodup) : ys.Pairwise (· < ·) := by
  have h : ys.Nodup := p.nodup_iff.mpr n
  have h2 : ys.Pairwise (fun a b => a ≤ b ∧ a ≠ b) := s.and h
  exact h2.imp fun {a b} z => by omega
def addK (ks : List Int) (x : Int) : List Int := if x ∈ ks then ks else ks ++ [x]
theorem mem_addK {ks : List Int} {x y : Int} : y ∈ addK ks x ↔ y ∈ ks ∨ y = x := by
  unfold addK
  by_cases h : x ∈ ks
  · rw [if_pos h]
    constructor
    · exact .inl
    · rintro (a | rfl)
      · exact a
      · exact h
  · rw [if_neg h]
    simp
theorem nd_addK {ks : List Int} {x : Int} (h : ks.Nodup) : (addK ks x).Nodup := by
  unfold addK
  by_cases e : x ∈ ks
  · rw [if_pos e]; exact h
  · rw [if_neg e]
    exact List.nodup_append.mpr ⟨h, by simp, fun a ha b hb => by
      have : b = x := by simpa using hb
      subst this
      exact fun z => e (z ▸ ha)⟩
theorem putK_keys {fk : List (Key × V)} {ks : List Int} {x : Int} {v : V} (h : fk.map (·.1) = ks.map (Sum.inl : Int → Key)) : (putK fk (Sum.inl x) v).map (·.1) = (addK ks x).map (Sum.inl : Int → Key) := by
  have he : (fk.any fun kv => decide (kv.1 = (Sum.inl x : Key))) = true ↔ x ∈ ks := by
    rw [List.any_eq_true]
    constructor
    · rintro ⟨kv, hk, e⟩
      have m : (Sum.inl x : Key) ∈ ks.map Sum.inl := by
        rw [← h, ← of_decide_eq_true e]
        exact List.mem_map_of_mem hk
      obtain ⟨y, hy, e2⟩ := List.mem_map.mp m
      exact Sum.inl.inj e2 ▸ hy
    · intro hx
      have m : (Sum.inl x : Key) ∈ fk.map (·.1) := by
        rw [h]
        exact List.mem_map_of_mem hx
      obtain ⟨kv, hk, e⟩ := List.mem_map.mp m
      exact ⟨kv, hk, decide_eq_true e⟩
  unfold putK addK
  by_cases e : x ∈ ks
  · rw [if_pos (he.mpr e), if_pos e, ← h, List.map_map]
    apply List.map_congr_left
    intro kv _
    show (if kv.1 = Sum.inl x then (kv.1, v) else kv).1 = kv.1
    by_cases q : kv.1 = (Sum.inl x : Key)
    · rw [if_pos q]
    · rw [if_neg q]
  · rw [if_neg (fun z => e (he.mp z)), if_neg e, List.map_append, List.map_append, h]
    rfl
theorem nodup_le : ∀ (ks vs : List Int), ks.Nodup → (∀ x ∈ ks, x ∈ vs) → ks.length ≤ vs.length
  | [], _, _, _ => Nat.zero_le _
  | k :: ks, vs, h, hs => by
    rw [List.nodup_cons] at h
    have hk := hs k (by simp)
    have ih := nodup_le ks (vs.erase k) h.2 fun x hx => (List.mem_erase_of_ne (fun z => h.1 (by rw [← z]; exact hx))).mpr (hs x (by simp [hx]))
    rw [List.length_erase_of_mem hk] at ih
    have : 0 < vs.length := List.length_pos_of_mem hk
    rw [List.length_cons]
    omega
structure FoundAt (H : Hp) (f : Addr) (ks : List Int) : Prop where
  at' : ∃ fk, H f = some (.dK fk) ∧ fk.map (·.1) = ks.map (Sum.inl : Int → Key)
  nd : ks.Nodup
theorem FoundAt.put {H1 : Hp} {f : Addr} {ks : List Int} {fk : List (Key × V)} {x : Int} {v : V} (hk : fk.map (·.1) = ks.map (Sum.inl : Int → Key)) (nd : ks.Nodup) (e : H1 f = some (.dK (putK fk (Sum.inl x) v))) : FoundAt H1 f (addK ks x) := ⟨⟨_, e, putK_keys hk⟩, nd_addK nd⟩
/-- the rows so far: of the versions done; each row a list that stood not in H0 -/
def RowsAt (H0 H : Hp) (R : Addr) (ls : List (Int × Int)) (dn : List Int) : Prop := ∃ kvs, H R = some (.dK kvs) ∧ kvs.map (·.1) = dn.map (Sum.inl : Int → Key) ∧ (∀ n, n ∉ dn → valV kvs (Sum.inl n) = none) ∧
  ∀ v ∈ dn, ∃ a ys, valV kvs (Sum.inl v) = some (.ref a) ∧ H a = some (.lst (ys.map V.int)) ∧ RowOk ls v ys ∧ H0 a = none
/-- what keeps lists and dicts but at p -/
theorem RowsAt.kp {H0 H H' : Hp} {R : Addr} {ls : List (Int × Int)} {dn : List Int} {M : List Addr} (h : RowsAt H0 H R ls dn) (k : Kp M H H') (hR : R ∉ M) (hM : ∀ b ∈ M, ∀ xs, H b ≠ some (.lst xs)) : RowsAt H0 H' R ls dn := by
  obtain ⟨kvs, e, hl, hn, hv⟩ := h
  refine ⟨kvs, k _ _ hR e, hl, hn, fun v hv' => ?_⟩
  obtain ⟨a, ys, e1, e2, r, n⟩ := hv v hv'
  exact ⟨a, ys, e1, k _ _ (fun z => hM a z _ e2) e2, r, n⟩
theorem RowsAt.put {H0 H H' : Hp} {R p : Addr} {ls : List (Int × Int)} {dn : List Int} {v : Int} {ys : List Int} {kvs : List (Key × V)} (e : H R = some (.dK kvs)) (hl : kvs.map (·.1) = dn.map (Sum.inl : Int → Key)) (nv : v ∉ dn) (hn : ∀ n, n ∉ dn → valV kvs (Sum.inl n) = none)
    (hv : ∀ v ∈ dn, ∃ a ys, valV kvs (Sum.inl v) = some (.ref a) ∧ H a = some (.lst (ys.map V.int)) ∧ RowOk ls v ys ∧ H0 a = none) (e' : H' R = some (.dK (putK kvs (Sum.inl v) (.ref p)))) (o : Off R H H') (hp : H p = some (.lst (ys.map V.int))) (r : RowOk ls v ys) (h0 : H0 p = none) : RowsAt H0 H' R ls (dn ++ [v]) := by
  have nl : ∀ b xs, H b = some (.lst xs) → b ≠ R := fun b xs z => ne_of z e (fun q => nomatch q)
  refine ⟨_, e', ?_, fun n hn' => ?_, fun x hx => ?_⟩
  · rw [putK_keys hl]
    unfold addK
    rw [if_neg nv]
  · rw [valV_put, if_neg (fun z => hn' (by rw [Sum.inl.inj z]; simp))]
    exact hn n fun z => hn' (List.mem_append_left _ z)
  · rw [valV_put]
    by_cases q : x = v
    · subst q
      rw [if_pos rfl]
      exact ⟨p, ys, rfl, o.get (nl _ _ hp) hp, r, h0⟩
    · rw [if_neg (fun z => q (Sum.inl.inj z))]
      rcases List.mem_append.mp hx with a | a
      · obtain ⟨a, zs, e1, e2, r', n⟩ := hv x a
        exact ⟨a, zs, e1, o.get (nl _ _ e2) e2, r', n⟩
      · exact absurd (by simpa using a) q
/-- the rows as they are read: the lists' addresses are none of M -/
def RowsK (M : List Addr) (H : Hp) (R : Addr) (ls : List (Int × Int)) (dn : List Int) : Prop := ∃ kvs, H R = some (.dK kvs) ∧ kvs.map (·.1) = dn.map (Sum.inl : Int → Key) ∧ (∀ n, n ∉ dn → valV kvs (Sum.inl n) = none) ∧ ∀ v ∈ dn, ∃ a ys, valV kvs (Sum.inl v) = some (.ref a) ∧ H a = some (.lst (ys.map V.int)) ∧ RowOk ls v ys ∧ a ∉ M
theorem RowsK.kp {M N : List Addr} {H H' : Hp} {R : Addr} {ls : List (Int × Int)} {dn : List Int} (h : RowsK M H R ls dn) (k : Kp N H H') (hN : ∀ x ∈ N, x ∈ M) (hR : R ∉ N) : RowsK M H' R ls dn := by
  obtain ⟨kvs, e, hl, hn, hv⟩ := h
  refine ⟨kvs, k _ _ hR e, hl, hn, fun v hv' => ?_⟩
  obtain ⟨a, ys, e1, e2, r, n⟩ := hv v hv'
  exact ⟨a, ys, e1, k _ _ (fun z => n (hN a z)) e2, r, n⟩
theorem RowsK.off {M : List Addr} {H H' : Hp} {R p : Addr} {ls : List (Int × Int)} {dn : List Int} {xs : List V} (h : RowsK M H R ls dn) (o : Off p H H') (hp : p ∈ M) (e : H p = some (.lst xs)) : RowsK M H' R ls dn := by
  obtain ⟨kvs, eR, _⟩ := id h
  exact h.kp (N := [p]) (o.kp (by simp)) (by simpa using hp) (by simpa using ne_of eR e (fun z => nomatch z))
def par (ls : List (Int × Int)) (v : Int) : List Int := (ls.filter fun q => decide (q.1 = v)).map (·.2)
theorem mem_par {ls : List (Int × Int)} {v p : Int} : p ∈ par ls v ↔ (v, p) ∈ ls := by
  unfold par
  rw [List.mem_map]
  constructor
  · rintro ⟨q, hq, rfl⟩
    obtain ⟨h1, h2⟩ := List.mem_filter.mp hq
    have e : q.1 = v := of_decide_eq_true h2
    rw [← e]
    exact h1
  · intro h
    exact ⟨(v, p), List.mem_filter.mpr ⟨h, decide_eq_true rfl⟩, rfl⟩
theorem par_snoc {ls : List (Int × Int)} {v w p : Int} : par (ls ++ [(v, p)]) w = if v = w then par ls w ++ [p] else par ls w := by
  unfold par
  rw [List.filter_append, List.map_append]
  by_cases e : v = w
  · rw [if_pos e]
    simp [e]
  · rw [if_neg e]
    simp [e]
def StepsAt (H0 H : Hp) (S : Addr) (ls : List (Int × Int)) : Prop := ∃ (kvs : List (Key × V)) (A : Int → Addr), H S = some (.dK kvs) ∧ kvs.length ≤ ls.length ∧
  (∀ v, par ls v = [] → valV kvs (Sum.inl v) = none) ∧ (∀ v, par ls v ≠ [] → valV kvs (Sum.inl v) = some (.ref (A v)) ∧ H (A v) = some (.lst ((par ls v).map V.int)) ∧ H0 (A v) = none) ∧
  ∀ v w, par ls v ≠ [] → par ls w ≠ [] → v ≠ w → A v ≠ A w
def spSpans : Sp := fun vs H Q _ => ∃ (t : Addr) (ns : List Int) (ps : List (Addr × Int × Int)), vs = [.ref t] ∧ ShAt H t ns ps ∧ ShOk ns (ps.map (·.2)) ∧ ns.length < 64 ∧ ps.length ≤ 100000 ∧
  ∀ H' D, Same H H' → H D = none → RowsAt H H' D (ps.map (·.2)) ns → Q (.ref D) H'
section
variable {P : Program} {w : World} {K : PySem.W.Frag} {mg : Str → Option Value} {base : Heap}
theorem ok_spans {f : Addr} {fd : FuncData} (T : Txt K mg) (F : Fun K "spans" "spans" s_spans f fd) : FnOk P w K mg base CX0 1 f fd ["shape"] spSpans := by
  refine F.ok sc_spans (fun vs H Q E h => ?_) (fun cdv A outer s H vs Q E hr h => ?_)
  · obtain ⟨t, ns, ps, rfl, _⟩ := h
    rfl
  · obtain ⟨t, ns, ps, rfl, ⟨a, b, e1, e2, e3⟩, S, hl, hl2, q⟩ := h
    have hu := hu_of hr
    have e3' := e3.1
    refine ⟨_,
      (pss_cons
        (ps_set (i := 1) sc_spans.nd rfl (.inl rfl) pe_dnewK)
      (pss_cons
        (ps_set (i := 2) sc_spans.nd rfl (.inl rfl) pe_dnewK)
      (pss_cons
        (ps_for PassesOwn.never rfl (pi_tup (pe_ix (r := rIxT K) ix_tup (pv 0) pe_int (fun _ _ => rfl))) (pg_tup rfl (pgs_cons (pg_name (i := 3) sc_spans.nd rfl (.inl rfl)) (pgs_cons (pg_name (i := 4) sc_spans.nd rfl (.inl rfl)) pgs_nil)))
          (pss_one
            (ps_expr (pe_bm PySem.F.plainAttrs_list PySem.F.slot_list_append PySem.F.type_list_append mt_append (pe_dsetd (pv 2) (pv 3) (pe_lst pa_nil) ⟨rfl, rfl, rfl, rfl⟩) (pa_cons (pv 4) pa_nil)))))
      (pss_cons
        (ps_for PassesOwn.never rfl (pi_tup (pe_ix (r := rIxT K) ix_tup (pv 0) pe_int (fun _ _ => rfl))) (pg_name (i := 3) sc_spans.nd rfl (.inl rfl))
          (pss_cons
            (ps_set (i := 5) sc_spans.nd rfl (.inl rfl) (pe_disp (pps_cons (pv 3) pe_bl pps_nil) (by rfl) (by rfl) (fun z => by cases z) (by decide)))
          (pss_cons
            (ps_for PassesOwn.never rfl (pi_list (pe_dget2 hu (pv 2) (pv 3) (pe_lst pa_nil) ⟨rfl, rfl, rfl, rfl⟩)) (pg_name (i := 4) sc_spans.nd rfl (.inl rfl))
              (pss_one
                (ps_for PassesOwn.never rfl (pi_list (pe_dget hu (pv 1) (pv 4) (fun _ _ => rfl))) (pg_name (i := 6) sc_spans.nd rfl (.inl rfl))
                  (pss_one
                    (ps_dput hu (pv 5) (pv 6) pe_bl rfl)))))
          (pss_one
            (ps_dput hu (pv 1) (pv 3) (pe_callB (c_sortD rfl) (by rfl) T.n_sorted (by decide +kernel) (pa_cons (pv 5) pa_nil)) rfl)))))
      (pss_one
        (ps_ret (pv 1)))))))
      , ?_⟩
    rw [show L2.start N_spans [V.ref t] = [some (.ref t), none, none, none, none, none, none] from rfl]
    walk_at "x"
    refine w_new fun R H1 hR eR k1 => ?_
    walk_at "g"
    refine w_new fun S' H2 hS eS k2 => ?_
    have nRS : R ≠ S' := ne_of_none eR hS
    have hS0 : H S' = none := k1.free hS
    have e1' := k2 _ _ (k1 _ _ e1)
    have e2' : H2 a = some (.tup (ns.map V.int)) := k2 _ _ (k1 _ _ e2)
    have eb' := k2 _ _ (k1 _ _ e3')
    walk_at "g"
    refine lp_tup (xs := ps.map fun q => .ref q.1) (fun i σ H' => ∃ (y3 y4 : Option V), σ = [some (.ref t), some (.ref R), some (.ref S'), y3, y4, none, none] ∧ Same H H' ∧ H' R = some (.dK []) ∧ StepsAt H H' S' ((ps.take i).map (·.2))) ?_ ?_ ?_ ?_
    · exact ⟨none, none, rfl, Same.trans k1 k2, k2 _ _ eR, [], fun _ => 0, eS, Nat.le_refl _, fun _ _ => rfl, fun v h => absurd rfl h, fun v _ h => absurd rfl h⟩
    · rintro i σ H3 _ ⟨_, _, _, k3, _⟩
      exact .of (k3 _ _ e3')
    · rintro i y σ H3 hy ⟨y3, y4, rfl, k3, eR3, kvs, A3, eS3, hlen, hn, hv, hinj⟩
      obtain ⟨x, hx, rfl⟩ := map_at hy
      have ex := k3 _ _ (e3.2 x (List.mem_of_getElem? hx))
      have hil : i < ps.length := (List.getElem?_eq_some_iff.mp hx).1
      walk_at "g"
      refine w_new fun z H4 hz ez k4 => ?_
      have eS4 := k4 _ _ eS3
      have eR4 := k4 _ _ eR3
      have nzS : S' ≠ z := ne_of_none eS3 hz
      have hz0 : H z = none := k3.free hz
      have tk : (ps.take (i + 1)).map (·.2) = (ps.take i).map (·.2) ++ [x.2] := by
        rw [List.take_add_one, hx, List.map_append]
        rfl
      have hlen2 : kvs.length ≤ i := Nat.le_trans hlen (by rw [List.length_map, List.length_take]; omega)
      refine w_dsetdI eS4 (Nat.lt_of_le_of_lt (Nat.le_trans hlen2 (by omega)) (show 100000 < sizeLine by decide)) (fun u hu' => ?_) (fun hno H5 e5 o5 => ?_)
      · -- there is a list of its own already
        have hp : par ((ps.take i).map (·.2)) x.2.1 ≠ [] := fun z0 => by
          rw [hn _ z0] at hu'
          cases hu'
        obtain ⟨v1, v2, v3⟩ := hv _ hp
        rw [v1] at hu'
        cases hu'
        have v2' := k4 _ _ v2
        walk_at "g"
        refine w_app v2' ?_ fun H5 e5 o5 => ?_
        · rw [List.length_map]
          unfold par
          rw [List.length_map]
          refine Nat.lt_of_le_of_lt (List.length_filter_le _ _) ?_
          rw [List.length_map, List.length_take]
          exact Nat.lt_of_le_of_lt (show min i ps.length ≤ 100000 by omega) (by decide)
        · have nl : ∀ c kv, H4 c = some (.dK kv) → c ≠ A3 x.2.1 := fun c kv e => ne_of e v2' (fun z => nomatch z)
          have ne' : ∀ w, par ((ps.take (i + 1)).map (·.2)) w ≠ [] → par ((ps.take i).map (·.2)) w ≠ [] := fun w hw => by
            rw [tk, par_snoc] at hw
            by_cases q1 : x.2.1 = w
            · rw [← q1]; exact hp
            · rw [if_neg q1] at hw; exact hw
          refine ⟨_, _, rfl, fun c o e => o5.get (ne_of_none e v3) (k4 _ _ (k3 _ _ e)), o5.get (nl _ _ eR4) eR4, kvs, A3, o5.get (nl _ _ eS4) eS4, by rw [tk, List.length_append]; omega, fun w hw => ?_, fun w hw => ?_, fun v w' h1 h2 => hinj v w' (ne' v h1) (ne' w' h2)⟩
          · rw [tk, par_snoc] at hw
            by_cases q1 : x.2.1 = w
            · rw [if_pos q1] at hw
              simp at hw
            · rw [if_neg q1] at hw
              exact hn w hw
          · have hw' := ne' w hw
            obtain ⟨u1, u2, u3⟩ := hv w hw'
            refine ⟨u1, ?_, u3⟩
            rw [tk, par_snoc]
            by_cases q1 : x.2.1 = w
            · rw [if_pos q1, ← q1, e5, List.map_append]
              rfl
            · rw [if_neg q1]
              exact o5.get (fun z0 => hinj w x.2.1 hw' hp (fun z1 => q1 z1.symm) z0) (k4 _ _ u2)
      · -- a new list
        have ez5 := o5.get (Ne.symm nzS) ez
        have hp0 : par ((ps.take i).map (·.2)) x.2.1 = [] := by
          cases hq : par ((ps.take i).map (·.2)) x.2.1 with
          | nil => rfl
          | cons u r =>
            have := (hv x.2.1 (by rw [hq]; simp)).1
            rw [this] at hno
            cases hno
        walk_at "g"
        refine w_app ez5 (by decide) fun H6 e6 o6 => ?_
        have nz : ∀ c o, H3 c = some o → c ≠ z := fun c o e => ne_of_none e hz
        have nS : ∀ c xs, H4 c = some (.lst xs) → c ≠ S' := fun c xs e => ne_of e eS4 (fun z => nomatch z)
        refine ⟨_, _, rfl, fun c o e => o6.get (nz _ _ (k3 _ _ e)) (o5.get (ne_of_none e hS0) (k4 _ _ (k3 _ _ e))), o6.get (nz _ _ eR3) (o5.get nRS eR4), _, fun w => if w = x.2.1 then z else A3 w, o6.get nzS e5, ?_, fun w hw => ?_, fun w hw => ?_, fun v w' h1 h2 hne => ?_⟩
        · have := putK_len' kvs (Sum.inl x.2.1) (V.ref z)
          rw [tk, List.length_append]
          simp only [List.length_cons, List.length_nil]
          omega
        · rw [tk, par_snoc] at hw
          by_cases q1 : x.2.1 = w
          · rw [if_pos q1] at hw
            simp at hw
          · rw [if_neg q1] at hw
            rw [valV_put, if_neg (fun z0 => q1 (Sum.inl.inj z0).symm)]
            exact hn w hw
        · rw [tk, par_snoc] at hw ⊢
          rw [valV_put]
          by_cases q1 : x.2.1 = w
          · rw [if_pos (congrArg Sum.inl q1.symm)]
            simp only [if_pos q1, if_pos q1.symm]
            refine ⟨trivial, ?_, hz0⟩
            rw [← q1, hp0, e6]
            rfl
          · rw [if_neg q1] at hw
            rw [if_neg (fun z0 => q1 (Sum.inl.inj z0).symm)]
            simp only [if_neg q1, if_neg (Ne.symm q1)]
            obtain ⟨u1, u2, u3⟩ := hv w hw
            exact ⟨u1, o6.get (nz _ _ u2) (o5.get (nS _ _ (k4 _ _ u2)) (k4 _ _ u2)), u3⟩
        · rw [tk, par_snoc] at h1 h2
          by_cases q1 : x.2.1 = v
          · have q2 : ¬ x.2.1 = w' := fun z0 => hne (q1.symm.trans z0)
            rw [if_neg q2] at h2
            simp only [if_pos q1.symm, if_neg (Ne.symm q2)]
            exact Ne.symm (nz _ _ (hv w' h2).2.1)
          · rw [if_neg q1] at h1
            by_cases q2 : x.2.1 = w'
            · simp only [if_neg (Ne.symm q1), if_pos q2.symm]
              exact nz _ _ (hv v h1).2.1
            · rw [if_neg q2] at h2
              simp only [if_neg (Ne.symm q1), if_neg (Ne.symm q2)]
              exact hinj v w' h1 h2 hne
    · -- the second loop
      rintro σ H3 ⟨y3, y4, rfl, k3, eR3, T3⟩
      rw [List.length_map, List.take_length] at T3
      have e1'' := k3 _ _ e1
      have e2'' : H3 a = some (.tup (ns.map V.int)) := k3 _ _ e2
      have nRS3 : R ≠ S' := nRS
      walk_at "g"
      refine lp_tup (xs := ns.map V.int) (fun i σ H' => ∃ (y3 y4 y5 y6 : Option V), σ = [some (.ref t), some (.ref R), some (.ref S'), y3, y4, y5, y6] ∧ Kp [R] H3 H' ∧ Same H H' ∧ RowsAt H H' R (ps.map (·.2)) (ns.take i)) ?_ ?_ ?_ ?_
      · exact ⟨_, _, _, _, rfl, Kp.refl, k3, [], eR3, rfl, fun _ _ => rfl, by simp⟩
      · rintro i σ H4 _ ⟨_, _, _, _, _, _, k4, _⟩
        exact .of (k4 _ _ e2)
      · rintro i y σ H4 hy ⟨y3, y4, y5, y6, rfl, k4, s4, RA⟩
        obtain ⟨v, hv, rfl⟩ := map_at hy
        have hvm : v ∈ ns := List.mem_of_getElem? hv
        obtain ⟨skv, A3, eS3, slen, sn, sv, sinj⟩ := T3
        have eS4 := k4 _ _ (by simpa using Ne.symm nRS) eS3
        walk_at "g"
        refine w_disp fun fo H5 hfo efo k5 => ?_
        walk_at "g"
        refine w_dispE [(Sum.inl v, V.bl true)] efo rfl (by simp) fun H6 e6 o6 => ?_
        have k6 : Same H4 H6 := fun c o e => o6.get (ne_of_none e hfo) (k5 _ _ e)
        have eS6 := k6 _ _ eS4
        walk_at "g"
        refine w_new fun z H7 hz ez k7 => ?_
        have eS7 := k7 _ _ eS6
        have s7 : Same H4 H7 := Same.trans k6 k7
        have kp3 : Kp [R] H3 H7 := k4.trans (Kp.of s7)
        obtain ⟨pa, epa, hpa⟩ : ∃ pa, (valV skv (Sum.inl v)).getD (.ref z) = .ref pa ∧ H7 pa = some (.lst ((par (ps.map (·.2)) v).map V.int)) := by
          cases hq : par (ps.map (·.2)) v with
          | nil => exact ⟨z, by rw [sn v hq]; rfl, ez⟩
          | cons u r =>
            have hne : par (ps.map (·.2)) v ≠ [] := by rw [hq]; simp
            obtain ⟨u1, u2, u3⟩ := sv v hne
            refine ⟨A3 v, by rw [u1]; rfl, ?_⟩
            rw [← hq]
            exact kp3 _ _ (by simpa using ne_of u2 eR3 (fun z => nomatch z)) u2
        refine w_dget2I eS7 ?_
        rw [epa]
        walk_at "g"
        obtain ⟨kvs, eR4, rl, rn, rv⟩ := RA
        have nRf : R ≠ fo := ne_of_none eR4 hfo
        have eR7 := s7 _ _ eR4
        have efo7 : H7 fo = some (.dK (mergeK [] [(Sum.inl v, V.bl true)])) := k7 _ _ e6
        have hlt : ∀ p, p ∈ par (ps.map (·.2)) v → p ∈ ns.take i := fun p hp => by
          obtain ⟨m1, m2, m3⟩ := S.lm _ (mem_par.mp hp)
          obtain ⟨j, hj, ej⟩ := List.getElem_of_mem m2
          have hj2 : ns[j]? = some p := by rw [List.getElem?_eq_getElem hj, ej]
          have hji : j < i := by
            rcases Nat.lt_or_ge j i with h | h
            · exact h
            · rcases Nat.eq_or_lt_of_le h with h | h
              · subst h
                rw [hv] at hj2
                have := Option.some.inj hj2
                dsimp only at m3
                omega
              · have hiv : i < ns.length := (List.getElem?_eq_some_iff.mp hv).1
                have := (List.pairwise_iff_getElem.mp S.vr) i j hiv hj h
                have ev : ns[i] = v := (List.getElem?_eq_some_iff.mp hv).2
                rw [ev, ej] at this
                dsimp only at m3
                omega
          exact List.mem_take_iff_getElem.mpr ⟨j, by omega, ej⟩
        have inN : ∀ p ∈ par (ps.map (·.2)) v, ∀ x, Bel (ps.map (·.2)) p x → x ∈ ns := fun p hp x hx => hx.mem S (S.lm _ (mem_par.mp hp)).2.1
        refine lp_list (xs := (par (ps.map (·.2)) v).map V.int) (fun j σ H' => ∃ (ks : List Int) (y4 y6 : Option V), σ = [some (.ref t), some (.ref R), some (.ref S'), some (.int v), y4, some (.ref fo), y6] ∧ Kp [fo] H7 H' ∧ FoundAt H' fo ks ∧ ∀ x, x ∈ ks ↔ x = v ∨ ∃ p ∈ (par (ps.map (·.2)) v).take j, Bel (ps.map (·.2)) p x) ?_ ?_ ?_ ?_
        · exact ⟨[v], _, _, rfl, Kp.refl, ⟨⟨_, efo7, rfl⟩, by simp⟩, fun x => by simp⟩
        · rintro j σ H8 _ ⟨ks, _, _, _, k8, _⟩
          exact .of (k8 _ _ (by simpa using ne_of hpa efo7 (fun z => nomatch z)) hpa)
        · rintro j y σ H8 hy ⟨ks, w4, w6, rfl, k8, F8, hks⟩
          obtain ⟨p, hp, rfl⟩ := map_at hy
          have hpm : p ∈ par (ps.map (·.2)) v := List.mem_of_getElem? hp
          obtain ⟨ap, ys, r1, r2, r3, r4⟩ := rv p (hlt p hpm)
          have eR8 := k8 _ _ (by simpa using nRf) eR7
          have r28 : H8 ap = some (.lst (ys.map V.int)) := k8 _ _ (by simpa using ne_of (s7 _ _ r2) efo7 (fun z => nomatch z)) (s7 _ _ r2)
          walk_at "g"
          refine lp_list (xs := ys.map V.int) (fun m σ H' => ∃ (ks' : List Int) (y6 : Option V), σ = [some (.ref t), some (.ref R), some (.ref S'), some (.int v), some (.int p), some (.ref fo), y6] ∧ Kp [fo] H7 H' ∧ FoundAt H' fo ks' ∧ ∀ x, x ∈ ks' ↔ x ∈ ks ∨ x ∈ ys.take m) ?_ ?_ ?_ ?_
          · exact ⟨ks, _, rfl, k8, F8, fun x => by simp⟩
          · rintro m σ H9 _ ⟨ks', _, _, k9, _⟩
            exact .of (k9 _ _ (by simpa using ne_of (s7 _ _ r2) efo7 (fun z => nomatch z)) (s7 _ _ r2))
          · rintro m y σ H9 hy ⟨ks', w6', rfl, k9, ⟨⟨fk, ef, hfk⟩, nd9⟩, hks'⟩
            obtain ⟨x, hx, rfl⟩ := map_at hy
            have hlen : fk.length < sizeLine := by
              have h1 : fk.length = ks'.length := by
                have := congrArg List.length hfk
                simpa using this
              have h2 : ks'.length ≤ ns.length := nodup_le ks' ns nd9 fun u hu' => by
                rcases (hks' u).mp hu' with a | a
                · rcases (hks u).mp a with rfl | ⟨p', hp', b⟩
                  · exact hvm
                  · exact inN p' (List.mem_of_mem_take hp') u b
                · exact inN p hpm u ((r3.mem u).mp (List.mem_of_mem_take a))
              exact small1000 (by omega)
            walk_at "g"
            refine w_dputI ef hlen fun H10 e10 o10 => ?_
            refine ⟨addK ks' x, _, rfl, k9.trans (o10.kp (by simp)), FoundAt.put hfk nd9 e10, fun u => ?_⟩
            rw [mem_addK, hks', List.take_add_one, hx]
            simp only [Option.toList_some, List.mem_append, List.mem_singleton]
            rw [or_assoc]
          · rintro σ H9 ⟨ks', w6', rfl, k9, F9, hks'⟩
            rw [List.length_map, List.take_length] at hks'
            refine ⟨ks', _, _, rfl, k9, F9, fun x => ?_⟩
            rw [hks', hks, List.take_add_one, hp, r3.mem]
            simp only [Option.toList_some, List.mem_append, List.mem_singleton]
            constructor
            · rintro ((a | ⟨p', b, c⟩) | a)
              · exact .inl a
              · exact .inr ⟨p', .inl b, c⟩
              · exact .inr ⟨p, .inr rfl, a⟩
            · rintro (a | ⟨p', b | rfl, c⟩)
              · exact .inl (.inl a)
              · exact .inl (.inr ⟨p', b, c⟩)
              · exact .inr c
        · rintro σ H8 ⟨ks, w4, w6, rfl, k8, ⟨⟨fk, ef, hfk⟩, nd8⟩, hks⟩
          rw [List.length_map, List.take_length] at hks
          have hsub : ∀ u ∈ ks, u ∈ ns := fun u hu' => by
            rcases (hks u).mp hu' with rfl | ⟨p', hp', b⟩
            · exact hvm
            · exact inN p' hp' u b
          have hkl := nodup_le ks ns nd8 hsub
          walk_at "g"
          refine w_sortD ef hfk (by omega) fun ys L H9 hperm hsort hL eL k9 => ?_
          have eR8 := k8 _ _ (by simpa using nRf) eR7
          have eR9 := k9 _ _ eR8
          have hrow : RowOk (ps.map (·.2)) v ys := ⟨strict_of hperm hsort nd8, fun x => by
            rw [hperm.mem_iff, hks, Bel.iff]
            constructor
            · rintro (a | ⟨p', b, c⟩)
              · exact .inl a
              · exact .inr ⟨p', mem_par.mp b, c⟩
            · rintro (a | ⟨p', b, c⟩)
              · exact .inl a
              · exact .inr ⟨p', mem_par.mpr b, c⟩⟩
          have hL0 : H L = none := by
            cases hq : H L with
            | none => rfl
            | some o =>
              have z1 := s4 _ _ hq
              have z2 : H8 L = some o := k8 _ _ (by simpa using ne_of_none z1 hfo) (s7 _ _ z1)
              rw [hL] at z2
              cases z2
          have rl' : kvs.length = (ns.take i).length := by
            have := congrArg List.length rl
            simpa using this
          have hkv : kvs.length < sizeLine := small1000 (Nat.le_trans (Nat.le_of_eq rl') (by rw [List.length_take]; omega))
          have nvt : v ∉ ns.take i := fun z => by
            have := take_lt S.vr hv z
            omega
          walk_at "g"
          refine w_dputI eR9 hkv fun H10 e10 o10 => ?_
          have kk : Kp [R] H4 H9 := fun c o nR e => k9 _ _ (k8 _ _ (by simpa using ne_of_none e hfo) (s7 _ _ e))
          have kS : Same H H9 := fun c o e => by
            have := s4 _ _ e
            exact k9 _ _ (k8 _ _ (by simpa using ne_of_none this hfo) (s7 _ _ this))
          refine ⟨_, _, _, _, rfl, k4.trans (kk.trans (o10.kp (by simp))), fun c o e => o10.get (ne_of_none e hR) (kS _ _ e), ?_⟩
          rw [List.take_add_one, hv]
          refine RowsAt.put (kvs := kvs) eR9 rl nvt rn (fun v' hv' => ?_) e10 o10 eL hrow hL0
          obtain ⟨a', zs, g1, g2, g3, g4⟩ := rv v' hv'
          exact ⟨a', zs, g1, kk _ _ (by simpa using ne_of g2 eR4 (fun z => nomatch z)) g2, g3, g4⟩
      · rintro σ H4 ⟨y3, y4, y5, y6, rfl, k4, s4, RA⟩
        rw [List.length_map, List.take_length] at RA
        walk_at "g"
        exact q H4 R s4 (by exact hR) RA
end
section
variable {P : Program} {w : World} {K : PySem.W.Frag} {mg : Str → Option Value} {base : Heap}
theorem ok_lspans {f : Addr} {fd : FuncData} (T : Txt K mg) (F : Fun K "_law_spans" "_law_spans" s_law_spans f fd) : FnOk P w K mg base CX0 1 f fd ["_law_web"] spSpans := by
  refine F.ok sc_law_spans (fun vs H Q E h => ?_) (fun cdv A outer s H vs Q E hr h => ?_)
  · obtain ⟨t, ns, ps, rfl, _⟩ := h
    rfl
  · obtain ⟨t, ns, ps, rfl, ⟨a, b, e1, e2, e3⟩, S, hl, hl2, q⟩ := h
    have hu := hu_of hr
    have e3' := e3.1
    refine ⟨_,
      (pss_cons
        (ps_set (i := 1) sc_law_spans.nd rfl (.inl rfl) pe_dnewK)
      (pss_cons
        (ps_for PassesOwn.never rfl (pi_tup (pe_ix (r := rIxT K) ix_tup (pv 0) pe_int (fun _ _ => rfl))) (pg_name (i := 2) sc_law_spans.nd rfl (.inl rfl))
          (pss_cons
            (ps_set (i := 3) sc_law_spans.nd rfl (.inl rfl) (pe_disp (pps_cons (pv 2) pe_bl pps_nil) (by rfl) (by rfl) (fun z => by cases z) (by decide)))
          (pss_cons
            (ps_for PassesOwn.never rfl (pi_tup (pe_ix (r := rIxT K) ix_tup (pv 0) pe_int (fun _ _ => rfl))) (pg_name (i := 4) sc_law_spans.nd rfl (.inl rfl))
              (pss_one
                (ps_if (pt_cmpR op_eq (pe_ix (r := rIxT K) ix_tup (pv 4) pe_int (fun _ _ => rfl)) (pv 2) (nomark _))
                  (pss_one
                    (ps_for PassesOwn.never rfl (pi_list (pe_dget hu (pv 1) (pe_ix (r := rIxT K) ix_tup (pv 4) pe_int (fun _ _ => rfl)) (fun _ _ => rfl))) (pg_name (i := 5) sc_law_spans.nd rfl (.inl rfl))
                      (pss_one
                        (ps_dput hu (pv 3) (pv 5) pe_bl rfl))))
                  pss_nil)))
          (pss_one
            (ps_dput hu (pv 1) (pv 2) (pe_callB (c_sortD rfl) (by rfl) T.n_sorted (by decide +kernel) (pa_cons (pv 3) pa_nil)) rfl)))))
      (pss_one
        (ps_ret (pv 1)))))
      , ?_⟩
    rw [show L2.start N_law_spans [V.ref t] = [some (.ref t), none, none, none, none, none] from rfl]
    walk_at "x"
    refine w_new fun R H3 hR eR3 k3 => ?_
    have e1' := k3 _ _ e1
    have e2' : H3 a = some (.tup (ns.map V.int)) := k3 _ _ e2
    walk_at "g"
    refine lp_tup (xs := ns.map V.int) (fun i σ H' => ∃ (y2 y3 y4 y5 : Option V), σ = [some (.ref t), some (.ref R), y2, y3, y4, y5] ∧ Same H H' ∧ RowsAt H H' R (ps.map (·.2)) (ns.take i)) ?_ ?_ ?_ ?_
    · exact ⟨_, _, _, _, rfl, k3, [], eR3, rfl, fun _ _ => rfl, by simp⟩
    · rintro i σ H4 _ ⟨_, _, _, _, _, k4, _⟩
      exact .of (k4 _ _ e2)
    · rintro i y σ H4 hy ⟨y3, y4, y5, y6, rfl, s4, RA⟩
      obtain ⟨v, hv, rfl⟩ := map_at hy
      have hvm : v ∈ ns := List.mem_of_getElem? hv
      walk_at "g"
      refine w_disp fun fo H5 hfo efo k5 => ?_
      walk_at "g"
      refine w_dispE [(Sum.inl v, V.bl true)] efo rfl (by simp) fun H6 e6 o6 => ?_
      have k6 : Same H4 H6 := fun c o e => o6.get (ne_of_none e hfo) (k5 _ _ e)
      have e1'' := k6 _ _ (s4 _ _ e1)
      walk_at "g"
      obtain ⟨kvs, eR4, rl, rn, rv⟩ := RA
      have nRf : R ≠ fo := ne_of_none eR4 hfo
      have eR6 := k6 _ _ eR4
      have hlt : ∀ p, (v, p) ∈ ps.map (·.2) → p ∈ ns.take i := fun p hp => by
        obtain ⟨m1, m2, m3⟩ := S.lm _ hp
        obtain ⟨j, hj, ej⟩ := List.getElem_of_mem m2
        have hj2 : ns[j]? = some p := by rw [List.getElem?_eq_getElem hj, ej]
        have hji : j < i := by
          rcases Nat.lt_or_ge j i with h | h
          · exact h
          · rcases Nat.eq_or_lt_of_le h with h | h
            · subst h
              rw [hv] at hj2
              have := Option.some.inj hj2
              dsimp only at m3
              omega
            · have hiv : i < ns.length := (List.getElem?_eq_some_iff.mp hv).1
              have := (List.pairwise_iff_getElem.mp S.vr) i j hiv hj h
              have ev : ns[i] = v := (List.getElem?_eq_some_iff.mp hv).2
              rw [ev, ej] at this
              dsimp only at m3
              omega
        exact List.mem_take_iff_getElem.mpr ⟨j, by omega, ej⟩
      have inN : ∀ p, (v, p) ∈ ps.map (·.2) → ∀ x, Bel (ps.map (·.2)) p x → x ∈ ns := fun p hp x hx => hx.mem S (S.lm _ hp).2.1
      have eb6 := k6 _ _ (s4 _ _ e3')
      walk_at "g"
      refine lp_tup (xs := ps.map fun q => .ref q.1) (fun j σ H' => ∃ (ks : List Int) (y4 y5 : Option V), σ = [some (.ref t), some (.ref R), some (.int v), some (.ref fo), y4, y5] ∧ Kp [fo] H6 H' ∧ FoundAt H' fo ks ∧ ∀ x, x ∈ ks ↔ x = v ∨ ∃ p, (v, p) ∈ (ps.take j).map (·.2) ∧ Bel (ps.map (·.2)) p x) ?_ ?_ ?_ ?_
      · exact ⟨[v], _, _, rfl, Kp.refl, ⟨⟨_, e6, rfl⟩, by simp⟩, fun x => by simp⟩
      · rintro j σ H8 _ ⟨ks, _, _, _, k8, _⟩
        exact .of (k8 _ _ (by simpa using ne_of eb6 e6 (fun z => nomatch z)) eb6)
      · rintro j y σ H8 hy ⟨ks, w4, w5, rfl, k8, F8, hks⟩
        obtain ⟨x, hx, rfl⟩ := map_at hy
        have hxm : x ∈ ps := List.mem_of_getElem? hx
        have hxl : x.2 ∈ ps.map (·.2) := List.mem_map_of_mem hxm
        have ex6 := k6 _ _ (s4 _ _ (e3.2 x hxm))
        have ex : H8 x.1 = some (.tup [.int x.2.1, .int x.2.2]) := k8 _ _ (by simpa using ne_of ex6 e6 (fun z => nomatch z)) ex6
        have tk : (ps.take (j + 1)).map (·.2) = (ps.take j).map (·.2) ++ [x.2] := by
          rw [List.take_add_one, hx, List.map_append]
          rfl
        have eR8 := k8 _ _ (by simpa using nRf) eR6
        walk_at "g"
        refine w_ite (fun hxv => ?_) (fun hxv => ?_)
        · have hp : (v, x.2.2) ∈ ps.map (·.2) := by rw [← hxv]; exact hxl
          obtain ⟨ap, ys, r1, r2, r3, r4⟩ := rv x.2.2 (hlt _ hp)
          have r28 : H8 ap = some (.lst (ys.map V.int)) := k8 _ _ (by simpa using ne_of (k6 _ _ r2) e6 (fun z => nomatch z)) (k6 _ _ r2)
          walk_at "g"
          refine lp_list (xs := ys.map V.int) (fun m σ H' => ∃ (ks' : List Int) (y5 : Option V), σ = [some (.ref t), some (.ref R), some (.int v), some (.ref fo), some (.ref x.1), y5] ∧ Kp [fo] H6 H' ∧ FoundAt H' fo ks' ∧ ∀ u, u ∈ ks' ↔ u ∈ ks ∨ u ∈ ys.take m) ?_ ?_ ?_ ?_
          · exact ⟨ks, _, rfl, k8, F8, fun x => by simp⟩
          · rintro m σ H9 _ ⟨ks', _, _, k9, _⟩
            exact .of (k9 _ _ (by simpa using ne_of (k6 _ _ r2) e6 (fun z => nomatch z)) (k6 _ _ r2))
          · rintro m y σ H9 hy ⟨ks', w6', rfl, k9, ⟨⟨fk, ef, hfk⟩, nd9⟩, hks'⟩
            obtain ⟨u, hu', rfl⟩ := map_at hy
            have hlen : fk.length < sizeLine := by
              have h1 : fk.length = ks'.length := by
                have := congrArg List.length hfk
                simpa using this
              have h2 : ks'.length ≤ ns.length := nodup_le ks' ns nd9 fun z hz => by
                rcases (hks' z).mp hz with a | a
                · rcases (hks z).mp a with rfl | ⟨p', hp', b⟩
                  · exact hvm
                  · exact inN p' (by
                      obtain ⟨q', hq', e'⟩ := List.mem_map.mp hp'
                      exact List.mem_map.mpr ⟨q', List.mem_of_mem_take hq', e'⟩) z b
                · exact inN _ hp z ((r3.mem z).mp (List.mem_of_mem_take a))
              exact small1000 (by omega)
            walk_at "g"
            refine w_dputI ef hlen fun H10 e10 o10 => ?_
            refine ⟨addK ks' u, _, rfl, k9.trans (o10.kp (by simp)), FoundAt.put hfk nd9 e10, fun z => ?_⟩
            rw [mem_addK, hks', List.take_add_one, hu']
            simp only [Option.toList_some, List.mem_append, List.mem_singleton]
            rw [or_assoc]
          · rintro σ H9 ⟨ks', w6', rfl, k9, F9, hks'⟩
            rw [List.length_map, List.take_length] at hks'
            refine ⟨ks', _, _, rfl, k9, F9, fun u => ?_⟩
            rw [hks', hks, tk, r3.mem]
            simp only [List.mem_append, List.mem_singleton]
            constructor
            · rintro ((a | ⟨p', b, c⟩) | a)
              · exact .inl a
              · exact .inr ⟨p', .inl b, c⟩
              · exact .inr ⟨x.2.2, .inr (by rw [← hxv]), a⟩
            · rintro (a | ⟨p', b | b, c⟩)
              · exact .inl (.inl a)
              · exact .inl (.inr ⟨p', b, c⟩)
              · have e' : x.2.2 = p' := by rw [← b]
                exact .inr (by rw [e']; exact c)
        · walk_at "g"
          refine ⟨ks, _, _, rfl, k8, F8, fun u => ?_⟩
          rw [hks, tk]
          simp only [List.mem_append, List.mem_singleton]
          constructor
          · rintro (a | ⟨p', b, c⟩)
            · exact .inl a
            · exact .inr ⟨p', .inl b, c⟩
          · rintro (a | ⟨p', b | b, c⟩)
            · exact .inl a
            · exact .inr ⟨p', b, c⟩
            · exact absurd (by rw [← b]) hxv
      · rintro σ H8 ⟨ks, w4, w6, rfl, k8, ⟨⟨fk, ef, hfk⟩, nd8⟩, hks⟩
        rw [List.length_map, List.take_length] at hks
        have hsub : ∀ u ∈ ks, u ∈ ns := fun u hu' => by
          rcases (hks u).mp hu' with rfl | ⟨p', hp', b⟩
          · exact hvm
          · exact inN p' hp' u b
        have hkl := nodup_le ks ns nd8 hsub
        walk_at "g"
        refine w_sortD ef hfk (by omega) fun ys L H9 hperm hsort hL eL k9 => ?_
        have eR8 := k8 _ _ (by simpa using nRf) eR6
        have eR9 := k9 _ _ eR8
        have hrow : RowOk (ps.map (·.2)) v ys := ⟨strict_of hperm hsort nd8, fun x => by
          rw [hperm.mem_iff, hks, Bel.iff]⟩
        have kS : Same H H9 := fun c o e => by
          have := s4 _ _ e
          exact k9 _ _ (k8 _ _ (by simpa using ne_of_none this hfo) (k6 _ _ this))
        have hL0 : H L = none := by
          cases hq : H L with
          | none => rfl
          | some o =>
            have z1 := s4 _ _ hq
            have z2 : H8 L = some o := k8 _ _ (by simpa using ne_of_none z1 hfo) (k6 _ _ z1)
            rw [hL] at z2
            cases z2
        have rl' : kvs.length = (ns.take i).length := by
          have := congrArg List.length rl
          simpa using this
        have hkv : kvs.length < sizeLine := small1000 (Nat.le_trans (Nat.le_of_eq rl') (by rw [List.length_take]; omega))
        have nvt : v ∉ ns.take i := fun z => by
          have := take_lt S.vr hv z
          omega
        walk_at "g"
        refine w_dputI eR9 hkv fun H10 e10 o10 => ?_
        refine ⟨_, _, _, _, rfl, fun c o e => o10.get (ne_of_none e hR) (kS _ _ e), ?_⟩
        rw [List.take_add_one, hv]
        refine RowsAt.put (kvs := kvs) eR9 rl nvt rn (fun v' hv' => ?_) e10 o10 eL hrow hL0
        obtain ⟨a', zs, g1, g2, g3, g4⟩ := rv v' hv'
        exact ⟨a', zs, g1, k9 _ _ (k8 _ _ (by simpa using ne_of_none g2 hfo) (k6 _ _ g2)), g3, g4⟩
    · rintro σ H4 ⟨y3, y4, y5, y6, rfl, s4, RA⟩
      rw [List.length_map, List.take_length] at RA
      walk_at "g"
      exact q H4 R s4 hR RA
end
/-- the rows as they are read, the dict's own place left out -/
def RowsV (M : List Addr) (H : Hp) (kvs : List (Key × V)) (ls : List (Int × Int)) (dn : List Int) : Prop := ∀ v ∈ dn, ∃ a ys, valV kvs (Sum.inl v) = some (.ref a) ∧ H a = some (.lst (ys.map V.int)) ∧ RowOk ls v ys ∧ a ∉ M
theorem RowsV.kp {M N : List Addr} {H H' : Hp} {kvs : List (Key × V)} {ls : List (Int × Int)} {dn : List Int} (h : RowsV M H kvs ls dn) (k : Kp N H H') (hN : ∀ x ∈ N, x ∈ M) : RowsV M H' kvs ls dn := fun v hv => by
  obtain ⟨a, ys, e1, e2, r, n⟩ := h v hv
  exact ⟨a, ys, e1, k _ _ (fun z => n (hN a z)) e2, r, n⟩
theorem RowsV.off {M : List Addr} {H H' : Hp} {p : Addr} {kvs : List (Key × V)} {ls : List (Int × Int)} {dn : List Int} (h : RowsV M H kvs ls dn) (o : Off p H H') (hp : ∀ xs, H p ≠ some (.lst xs)) : RowsV M H' kvs ls dn := fun v hv => by
  obtain ⟨a, ys, e1, e2, r, n⟩ := h v hv
  exact ⟨a, ys, e1, o.get (fun z => hp _ (z ▸ e2)) e2, r, n⟩
theorem RowsV.len {M : List Addr} {H : Hp} {kvs : List (Key × V)} {ls : List (Int × Int)} {dn vs ys : List Int} {v : Int} (S : ShOk vs ls) (hv : v ∈ vs) (r : RowOk ls v ys) : ys.length ≤ vs.length :=
  nodup_le ys vs (r.rise.imp (fun {a b} h => Int.ne_of_lt h)) fun x hx => ((r.mem x).mp hx).mem S hv
/-! ### pairs along a shape: who stands next above whom -/
/-- strictly below -/
def SB (ls : List (Int × Int)) (u l : Int) : Prop := Bel ls u l ∧ l ≠ u
theorem SB.lt {vs : List Int} {ls : List (Int × Int)} (S : ShOk vs ls) {u l : Int} (h : SB ls u l) : l < u := by
  have := h.1.le S
  have := h.2
  omega
theorem SB.trans {vs : List Int} {ls : List (Int × Int)} (S : ShOk vs ls) {a b c : Int} (h : SB ls a b) (g : SB ls b c) : SB ls a c := ⟨h.1.trans g.1, by have := h.lt S; have := g.lt S; omega⟩
/-- up and lo are one pairing: each low with one strictly above it -/
structure Mt (vs : List Int) (ls : List (Int × Int)) (up lo : Int → Option Int) : Prop where
  iff : ∀ l u, up l = some u ↔ lo u = some l
  ok : ∀ l u, up l = some u → l ∈ vs ∧ u ∈ vs ∧ SB ls u l
def setM (f : Int → Option Int) (x y : Int) : Int → Option Int := fun z => if z = x then some y else f z
theorem setM_same {f : Int → Option Int} {x y : Int} : setM f x y x = some y := if_pos rfl
theorem setM_ne {f : Int → Option Int} {x y z : Int} (h : z ≠ x) : setM f x y z = f z := if_neg h
/-- the same while low is being given another partner -/
structure MtX (vs : List Int) (ls : List (Int × Int)) (up lo : Int → Option Int) (low : Int) : Prop where
  iff : ∀ l u, l ≠ low → (up l = some u ↔ lo u = some l)
  ok : ∀ l u, l ≠ low → up l = some u → l ∈ vs ∧ u ∈ vs ∧ SB ls u l
  no : ∀ u, lo u ≠ some low
theorem Mt.toX {vs : List Int} {ls : List (Int × Int)} {up lo : Int → Option Int} {low : Int} (M : Mt vs ls up lo) (h : up low = none) : MtX vs ls up lo low :=
  ⟨fun l u _ => M.iff l u, fun l u _ => M.ok l u, fun u z => by rw [(M.iff low u).mpr z] at h; cases h⟩
theorem MtX.step {vs : List Int} {ls : List (Int × Int)} {up lo : Int → Option Int} {low u b : Int} (M : MtX vs ls up lo low) (hv : low ∈ vs) (hu : u ∈ vs) (hb : SB ls u low) (e : lo u = some b) : MtX vs ls (setM up low u) (setM lo u low) b := by
  have nb : b ≠ low := fun z => M.no u (by rw [e, z])
  refine ⟨fun l x hl => ?_, fun l x hl h => ?_, fun x z => ?_⟩
  · by_cases h1 : l = low
    · subst h1
      rw [setM_same]
      by_cases h2 : x = u
      · subst h2; rw [setM_same]; exact ⟨fun _ => rfl, fun _ => rfl⟩
      · rw [setM_ne h2]
        constructor
        · intro z; exact absurd (Option.some.inj z).symm h2
        · intro z; exact absurd z (M.no x)
    · rw [setM_ne h1]
      by_cases h2 : x = u
      · subst h2
        rw [setM_same, M.iff l x h1, e]
        constructor
        · intro z; exact absurd (Option.some.inj z).symm hl
        · intro z; exact absurd (Option.some.inj z).symm h1
      · rw [setM_ne h2]
        exact M.iff l x h1
  · by_cases h1 : l = low
    · subst h1
      rw [setM_same] at h
      cases h
      exact ⟨hv, hu, hb⟩
    · rw [setM_ne h1] at h
      exact M.ok l x h1 h
  · by_cases h2 : x = u
    · subst h2
      rw [setM_same] at z
      exact nb (Option.some.inj z).symm
    · rw [setM_ne h2] at z
      have z1 := (M.iff b x nb).mpr z
      have z2 := (M.iff b u nb).mpr e
      rw [z1] at z2
      exact h2 (Option.some.inj z2)
theorem MtX.last {vs : List Int} {ls : List (Int × Int)} {up lo : Int → Option Int} {low u : Int} (M : MtX vs ls up lo low) (hv : low ∈ vs) (hu : u ∈ vs) (hb : SB ls u low) (e : lo u = none) : Mt vs ls (setM up low u) (setM lo u low) := by
  refine ⟨fun l x => ?_, fun l x h => ?_⟩
  · by_cases h1 : l = low
    · subst h1
      rw [setM_same]
      by_cases h2 : x = u
      · subst h2; rw [setM_same]; exact ⟨fun _ => rfl, fun _ => rfl⟩
      · rw [setM_ne h2]
        constructor
        · intro z; exact absurd (Option.some.inj z).symm h2
        · intro z; exact absurd z (M.no x)
    · rw [setM_ne h1]
      by_cases h2 : x = u
      · subst h2
        rw [setM_same, M.iff l x h1, e]
        constructor
        · intro z; cases z
        · intro z; exact absurd (Option.some.inj z).symm h1
      · rw [setM_ne h2]
        exact M.iff l x h1
  · by_cases h1 : l = low
    · subst h1
      rw [setM_same] at h
      cases h
      exact ⟨hv, hu, hb⟩
    · rw [setM_ne h1] at h
      exact M.ok l x h1 h
/-- what is closed: from L one comes to R alone, and from R back to L -/
structure Cl (ls : List (Int × Int)) (up : Int → Option Int) (L R : Int → Prop) : Prop where
  dn : ∀ u, L u → ∀ l, SB ls u l → R l
  bk : ∀ r, R r → ∃ u, up r = some u ∧ L u
/-- how the search came: each low from one above it, which is the first or the partner of one that came ahead -/
structure Came (ls : List (Int × Int)) (up : Int → Option Int) (v : Int) (cs : List (Int × Int)) : Prop where
  nd : (cs.map (·.1)).Nodup
  sb : ∀ q ∈ cs, SB ls q.2 q.1
  fr : ∀ (i : Nat) (q : Int × Int), cs[i]? = some q → q.2 = v ∨ ∃ (j : Nat) (q' : Int × Int), j < i ∧ cs[j]? = some q' ∧ up q'.1 = some q.2
def lookI (cs : List (Int × Int)) (x : Int) : Option Int := (cs.find? fun q => decide (q.1 = x)).map (·.2)
theorem lookI_at {cs : List (Int × Int)} (nd : (cs.map (·.1)).Nodup) {i : Nat} {q : Int × Int} (h : cs[i]? = some q) : lookI cs q.1 = some q.2 := by
  unfold lookI
  induction cs generalizing i with
  | nil => cases h
  | cons p r ih =>
    rw [List.map_cons, List.nodup_cons] at nd
    cases i with
    | zero =>
      have e : p = q := by simpa using h
      subst e
      simp
    | succ i =>
      have h' : r[i]? = some q := by simpa using h
      have ne : p.1 ≠ q.1 := fun z => nd.1 (by rw [z]; exact List.mem_map_of_mem (List.mem_of_getElem? h'))
      rw [List.find?_cons]
      simp only [ne, decide_false]
      exact ih nd.2 h'
theorem lookI_none {cs : List (Int × Int)} {x : Int} : lookI cs x = none ↔ x ∉ cs.map (·.1) := by
  unfold lookI
  rw [Option.map_eq_none_iff, List.find?_eq_none]
  constructor
  · intro h z
    obtain ⟨q, hq, e⟩ := List.mem_map.mp z
    exact h q hq (decide_eq_true e)
  · intro h q hq z
    exact h (List.mem_map.mpr ⟨q, hq, of_decide_eq_true z⟩)
theorem lookI_snoc {cs : List (Int × Int)} {x y : Int} (h : x ∉ cs.map (·.1)) : lookI (cs ++ [(x, y)]) = setM (lookI cs) x y := by
  funext z
  unfold lookI setM
  rw [List.find?_append]
  by_cases e : z = x
  · subst e
    rw [if_pos rfl]
    have : cs.find? (fun q => decide (q.1 = z)) = none := by
      rw [List.find?_eq_none]
      intro q hq w
      exact h (List.mem_map.mpr ⟨q, hq, of_decide_eq_true w⟩)
    rw [this]
    simp
  · rw [if_neg e]
    have : ([(x, y)] : List (Int × Int)).find? (fun q => decide (q.1 = z)) = none := by
      rw [List.find?_eq_none]
      intro q hq w
      have : q = (x, y) := by simpa using hq
      subst this
      exact e (of_decide_eq_true w).symm
    rw [this, Option.or_none]
/-- what holds while the way is given, low the i-th that came -/
structure Giv (vs : List Int) (ls : List (Int × Int)) (up0 lo0 : Int → Option Int) (cs : List (Int × Int)) (i : Nat) (low : Int) (up lo : Int → Option Int) : Prop where
  at' : ∃ u, cs[i]? = some (low, u)
  mx : MtX vs ls up lo low
  ch : ∀ x, lo x ≠ lo0 x → ∃ (j : Nat) (q : Int × Int), i ≤ j ∧ cs[j]? = some q ∧ lo0 x = some q.1
  up' : ∀ x, up x ≠ up0 x → ∃ (j : Nat) (q : Int × Int), i < j ∧ cs[j]? = some q ∧ x = q.1
  dom : ∀ x, (lo x).isSome = (lo0 x).isSome
  cl : ∀ L R, Cl ls up0 L R → ¬ R low ∧ ∀ r, R r → up r = up0 r
theorem Giv.start {vs : List Int} {ls : List (Int × Int)} {up0 lo0 : Int → Option Int} {cs : List (Int × Int)} {i : Nat} {low u : Int} (M : Mt vs ls up0 lo0) (h : up0 low = none) (e : cs[i]? = some (low, u)) : Giv vs ls up0 lo0 cs i low up0 lo0 :=
  ⟨⟨u, e⟩, M.toX h, fun x z => absurd rfl z, fun x z => absurd rfl z, fun _ => rfl, fun L R C => ⟨fun z => (by
    obtain ⟨u', e', _⟩ := C.bk low z
    rw [h] at e'
    cases e'), fun _ _ => rfl⟩⟩
/-- one step: the partner of u gives way, or u is the first -/
theorem Giv.step {vs : List Int} {ls : List (Int × Int)} {up0 lo0 up lo : Int → Option Int} {cs : List (Int × Int)} {i : Nat} {low u v : Int} (M0 : Mt vs ls up0 lo0) (hv0 : lo0 v = none) (hvm : v ∈ vs) (S : ShOk vs ls) (C : Came ls up0 v cs) (G : Giv vs ls up0 lo0 cs i low up lo) (e : cs[i]? = some (low, u)) (hlm : low ∈ vs) :
    (∃ b j, lo u = some b ∧ j < i ∧ b ∈ vs ∧ Giv vs ls up0 lo0 cs j b (setM up low u) (setM lo u low)) ∨ (u = v ∧ lo u = none ∧ Mt vs ls (setM up low u) (setM lo u low) ∧ (∀ x, (setM lo u low x).isSome = true ↔ (lo0 x).isSome = true ∨ x = v) ∧ ∀ L R, Cl ls up0 L R → ∀ r, R r → setM up low u r = up0 r) := by
  have hsb : SB ls u low := C.sb _ (List.mem_of_getElem? e)
  have same : lo u = lo0 u := by
    apply Classical.byContradiction
    intro z
    obtain ⟨j, q, hj, eq, e2⟩ := G.ch u z
    rcases C.fr i _ e with h | ⟨k, q', hk, ek, e3⟩
    · have h' : u = v := h
      subst h'
      rw [hv0] at e2
      cases e2
    · have e3' := (M0.iff q'.1 u).mp e3
      rw [e2] at e3'
      have e4 : q.1 = q'.1 := Option.some.inj e3'
      have n1 : (cs.map (·.1))[j]? = some q.1 := by rw [List.getElem?_map, eq]; rfl
      have n2 : (cs.map (·.1))[k]? = some q.1 := by rw [List.getElem?_map, ek, e4]; rfl
      have lj : j < (cs.map (·.1)).length := (List.getElem?_eq_some_iff.mp n1).1
      have := (List.getElem?_inj lj C.nd).mp (n1.trans n2.symm)
      omega
  have rl : ∀ L R, Cl ls up0 L R → ¬ L u := fun L R c z => (G.cl L R c).1 (c.dn u z low hsb)
  rcases C.fr i _ e with h | ⟨k, q', hk, ek, e3⟩
  · have h' : u = v := h
    subst h'
    refine .inr ⟨rfl, same.trans hv0, G.mx.last hlm hvm hsb (same.trans hv0), fun x => ?_, fun L R c r hr => ?_⟩
    · by_cases hx : x = u
      · subst hx; rw [setM_same]; simp
      · rw [setM_ne hx, G.dom]; simp [hx]
    · rw [setM_ne (show r ≠ low from fun z => (G.cl L R c).1 (by rw [← z]; exact hr))]
      exact (G.cl L R c).2 r hr
  · have e3' : lo0 u = some q'.1 := (M0.iff q'.1 u).mp e3
    have elo : lo u = some q'.1 := same.trans e3'
    obtain ⟨m1, m2, m3⟩ := M0.ok _ _ e3
    refine .inl ⟨q'.1, k, elo, hk, m1, ⟨⟨q'.2, ek⟩, G.mx.step hlm m2 hsb elo, fun x z => ?_, fun x z => ?_, fun x => ?_, fun L R c => ⟨fun z => ?_, fun r hr => ?_⟩⟩⟩
    · by_cases hx : x = u
      · subst hx
        exact ⟨k, q', Nat.le_refl _, ek, e3'⟩
      · rw [setM_ne hx] at z
        obtain ⟨j, q, hj, eq, e2⟩ := G.ch x z
        exact ⟨j, q, by omega, eq, e2⟩
    · by_cases hx : x = low
      · exact ⟨i, _, hk, e, hx⟩
      · rw [setM_ne hx] at z
        obtain ⟨j, q, hj, eq, e2⟩ := G.up' x z
        exact ⟨j, q, by omega, eq, e2⟩
    · by_cases hx : x = u
      · subst hx; rw [setM_same, e3']; rfl
      · rw [setM_ne hx, G.dom]
    · obtain ⟨u', eu, hu⟩ := c.bk _ z
      rw [e3] at eu
      cases eu
      exact rl L R c hu
    · rw [setM_ne (show r ≠ low from fun z => (G.cl L R c).1 (by rw [← z]; exact hr))]
      exact (G.cl L R c).2 r hr
/-- the way given, as a relation; it has one end -/
inductive GiveR (cs : List (Int × Int)) : Option Int → (Int → Option Int) → (Int → Option Int) → (Int → Option Int) → (Int → Option Int) → Prop where
  | stop {up lo : Int → Option Int} : GiveR cs none up lo up lo
  | step {low u : Int} {up lo up' lo' : Int → Option Int} (e : lookI cs low = some u) (r : GiveR cs (lo u) (setM up low u) (setM lo u low) up' lo') : GiveR cs (some low) up lo up' lo'
theorem GiveR.det {cs : List (Int × Int)} {o : Option Int} {up lo up1 lo1 up2 lo2 : Int → Option Int} (a : GiveR cs o up lo up1 lo1) (b : GiveR cs o up lo up2 lo2) : up1 = up2 ∧ lo1 = lo2 := by
  induction a with
  | stop => cases b; exact ⟨rfl, rfl⟩
  | step e r ih =>
    cases b with
    | step e2 r2 =>
      rw [e] at e2
      cases e2
      exact ih r2
/-- the search, as a relation -/
inductive PR (rowf : Int → List Int) (up lo : Int → Option Int) : List (Int × Int) → List Int → Option (Int × List Int) → (Int → Option Int) → (Int → Option Int) → Prop where
  | fail {cs : List (Int × Int)} : PR rowf up lo cs [] none up lo
  | pop {cs : List (Int × Int)} {ws ways : List Int} {u : Int} {up' lo' : Int → Option Int} (e : ws = ways ++ [u]) (r : PR rowf up lo cs ways (some (u, rowf u)) up' lo') : PR rowf up lo cs ws none up' lo'
  | skip {cs : List (Int × Int)} {ways rest : List Int} {u low : Int} {up' lo' : Int → Option Int} (e : low ∈ cs.map (·.1)) (r : PR rowf up lo cs ways (some (u, rest)) up' lo') : PR rowf up lo cs ways (some (u, low :: rest)) up' lo'
  | give {cs : List (Int × Int)} {ways rest : List Int} {u low : Int} {up' lo' : Int → Option Int} (e : low ∉ cs.map (·.1)) (e2 : up low = none) (r : GiveR (cs ++ [(low, u)]) (some low) up lo up' lo') : PR rowf up lo cs ways (some (u, low :: rest)) up' lo'
  | push {cs : List (Int × Int)} {ways rest : List Int} {u low w : Int} {up' lo' : Int → Option Int} (e : low ∉ cs.map (·.1)) (e2 : up low = some w) (r : PR rowf up lo (cs ++ [(low, u)]) (ways ++ [w]) (some (u, rest)) up' lo') : PR rowf up lo cs ways (some (u, low :: rest)) up' lo'
  | over {cs : List (Int × Int)} {ways : List Int} {u : Int} {up' lo' : Int → Option Int} (r : PR rowf up lo cs ways none up' lo') : PR rowf up lo cs ways (some (u, [])) up' lo'
theorem PR.det {rowf : Int → List Int} {up lo up1 lo1 up2 lo2 : Int → Option Int} {cs : List (Int × Int)} {ways : List Int} {o : Option (Int × List Int)} (a : PR rowf up lo cs ways o up1 lo1) (b : PR rowf up lo cs ways o up2 lo2) : up1 = up2 ∧ lo1 = lo2 := by
  induction a with
  | fail =>
    cases b with
    | fail => exact ⟨rfl, rfl⟩
    | pop e r => simp at e
  | pop e r ih =>
    cases b with
    | fail => simp at e
    | pop e2 r2 =>
      rw [e] at e2
      obtain ⟨h1, h2⟩ := List.append_inj' e2 rfl
      cases h1
      cases h2
      exact ih r2
  | skip e r ih =>
    cases b with
    | skip e2 r2 => exact ih r2
    | give e2 _ _ => exact absurd e e2
    | push e2 _ _ => exact absurd e e2
  | give e e2 r =>
    cases b with
    | skip e3 r2 => exact absurd e3 e
    | give _ _ r2 => exact r.det r2
    | push _ e3 _ => rw [e2] at e3; cases e3
  | push e e2 r ih =>
    cases b with
    | skip e3 r2 => exact absurd e3 e
    | give _ e3 r2 => rw [e2] at e3; cases e3
    | push _ e3 r2 =>
      rw [e2] at e3
      cases e3
      exact ih r2
  | over r ih =>
    cases b with
    | over r2 => exact ih r2
/-- all of them in turn -/
inductive FR (rowf : Int → List Int) : List Int → (Int → Option Int) → (Int → Option Int) → (Int → Option Int) → (Int → Option Int) → Prop where
  | nil {up lo : Int → Option Int} : FR rowf [] up lo up lo
  | snoc {vs : List Int} {v : Int} {up lo up1 lo1 up2 lo2 : Int → Option Int} (r : FR rowf vs up lo up1 lo1) (p : PR rowf up1 lo1 [] [v] none up2 lo2) : FR rowf (v :: vs) up lo up2 lo2
theorem FR.det {rowf : Int → List Int} {vs : List Int} {up lo up1 lo1 up2 lo2 : Int → Option Int} (a : FR rowf vs up lo up1 lo1) (b : FR rowf vs up lo up2 lo2) : up1 = up2 ∧ lo1 = lo2 := by
  induction a generalizing up2 lo2 with
  | nil => cases b; exact ⟨rfl, rfl⟩
  | snoc r p ih =>
    cases b with
    | snoc r2 p2 =>
      obtain ⟨rfl, rfl⟩ := ih r2
      exact p.det p2
/-- the lows of u, the greatest first -/
noncomputable def lowsF (ls : List (Int × Int)) (u : Int) : List Int := (Classical.epsilon fun ys => RowOk ls u ys).dropLast.reverse
theorem lowsF_is {ls : List (Int × Int)} {u : Int} {ys : List Int} (r : RowOk ls u ys) : lowsF ls u = ys.dropLast.reverse := by
  unfold lowsF
  rw [(Classical.epsilon_spec (p := fun ys => RowOk ls u ys) ⟨ys, r⟩).uniq r]
theorem val_keys {kvs : List (Key × V)} {ks : List Int} (h : kvs.map (·.1) = ks.map (Sum.inl : Int → Key)) (x : Int) : (valV kvs (Sum.inl x)).isSome = decide (x ∈ ks) := by
  rw [Bool.eq_iff_iff, decide_eq_true_iff]
  constructor
  · intro z
    obtain ⟨v, e⟩ := Option.isSome_iff_exists.mp z
    have m := valV_in e
    rw [h] at m
    obtain ⟨y, hy, e2⟩ := List.mem_map.mp m
    exact Sum.inl.inj e2 ▸ hy
  · intro z
    cases e : valV kvs (Sum.inl x) with
    | some v => rfl
    | none => exact absurd (by rw [h]; exact List.mem_map_of_mem z) (valV_not e)
/-- a dict of ints, as a function; its keys are of vs -/
def MapAt (H : Hp) (p : Addr) (vs : List Int) (f : Int → Option Int) : Prop := ∃ (kvs : List (Key × V)) (ks : List Int), H p = some (.dK kvs) ∧ kvs.map (·.1) = ks.map (Sum.inl : Int → Key) ∧ ks.Nodup ∧ (∀ x ∈ ks, x ∈ vs) ∧ ∀ x, valV kvs (Sum.inl x) = (f x).map V.int
theorem MapAt.kp {M : List Addr} {H H' : Hp} {p : Addr} {vs : List Int} {f : Int → Option Int} (h : MapAt H p vs f) (k : Kp M H H') (hp : p ∉ M) : MapAt H' p vs f := by
  obtain ⟨kvs, ks, e, r⟩ := h
  exact ⟨kvs, ks, k _ _ hp e, r⟩
theorem MapAt.len {p : Addr} {vs : List Int} {kvs : List (Key × V)} {ks : List Int} (h1 : kvs.map (·.1) = ks.map (Sum.inl : Int → Key)) (h2 : ks.Nodup) (h3 : ∀ x ∈ ks, x ∈ vs) : kvs.length ≤ vs.length := by
  have e : kvs.length = ks.length := by
    have := congrArg List.length h1
    simpa using this
  rw [e]
  exact nodup_le ks vs h2 h3
theorem MapAt.put {H1 : Hp} {p : Addr} {vs : List Int} {f : Int → Option Int} {kvs : List (Key × V)} {ks : List Int} {x y : Int} (h1 : kvs.map (·.1) = ks.map (Sum.inl : Int → Key)) (h2 : ks.Nodup) (h3 : ∀ x ∈ ks, x ∈ vs) (h4 : ∀ x, valV kvs (Sum.inl x) = (f x).map V.int) (hx : x ∈ vs) (e : H1 p = some (.dK (putK kvs (Sum.inl x) (.int y)))) : MapAt H1 p vs (setM f x y) := by
  refine ⟨_, addK ks x, e, putK_keys h1, nd_addK h2, fun z hz => ?_, fun z => ?_⟩
  · rcases mem_addK.mp hz with a | rfl
    · exact h3 z a
    · exact hx
  · rw [valV_put]
    by_cases e : z = x
    · subst e
      rw [if_pos rfl, setM_same]
      rfl
    · rw [if_neg (fun q => e (Sum.inl.inj q)), setM_ne e]
      exact h4 z
theorem MapAt.in {vs : List Int} {f : Int → Option Int} {kvs : List (Key × V)} (h4 : ∀ x, valV kvs (Sum.inl x) = (f x).map V.int) (x : Int) : (valV kvs (Sum.inl x)).isSome = (f x).isSome := by
  rw [h4]
  cases f x <;> rfl
/-- what a low's partner is behind a way given from v -/
structure Given (vs : List Int) (ls : List (Int × Int)) (v : Int) (up0 lo0 up lo : Int → Option Int) : Prop where
  m : Mt vs ls up lo
  dom : ∀ x, (lo x).isSome = true ↔ (lo0 x).isSome = true ∨ x = v
  cl : ∀ L R, Cl ls up0 L R → ∀ r, R r → up r = up0 r
def spGive : Sp := fun as H Q _ => ∃ (low v u : Int) (i : Nat) (C U D : Addr) (vs : List Int) (ls cs : List (Int × Int)) (up lo : Int → Option Int), as = [.int low, .ref C, .ref U, .ref D] ∧ C ≠ U ∧ C ≠ D ∧ U ≠ D ∧ MapAt H C vs (lookI cs) ∧ MapAt H U vs up ∧ MapAt H D vs lo ∧
  ShOk vs ls ∧ vs.length < 64 ∧ Mt vs ls up lo ∧ lo v = none ∧ v ∈ vs ∧ Came ls up v cs ∧ cs[i]? = some (low, u) ∧ up low = none ∧ low ∈ vs ∧
  ∀ H' up' lo', Kp [U, D] H H' → MapAt H' U vs up' → MapAt H' D vs lo' → Given vs ls v up lo up' lo' → GiveR cs (some low) up lo up' lo' → Q .non H'
section
variable {P : Program} {w : World} {K : PySem.W.Frag} {mg : Str → Option Value} {base : Heap}
theorem ok_give {f : Addr} {fd : FuncData} (T : Txt K mg) (F : Fun K "give_way" "give_way" s_give_way f fd) : FnOk P w K mg base CX0 1 f fd ["low", "came", "uppers", "lowers"] spGive := by
  refine F.ok sc_give_way (fun vs H Q E h => ?_) (fun cdv A outer s H vs Q E hr h => ?_)
  · obtain ⟨low, v, u, i, C, U, D, vs, ls, cs, up, lo, rfl, _⟩ := h
    rfl
  · obtain ⟨low0, v, u0, i0, C, U, D, vs, ls, cs, up0, lo0, rfl, nCU, nCD, nUD, mC, mU, mD, S, hl, M, hv0, hv, Cm, e0, un0, lm0, q⟩ := h
    have hu := hu_of hr
    refine ⟨_,
      (pss_one
        (ps_while PassesOwn.never (pt_cmpR o_notN (pv 0) pe_non (nomark _))
          (pss_cons
            (ps_set (i := 4) sc_give_way.nd rfl (.inl rfl) (pe_dget hu (pv 1) (pv 0) (fun _ _ => rfl)))
          (pss_cons
            (ps_set (i := 5) sc_give_way.nd rfl (.inl rfl) (pe_dget1 hu (pv 3) (pv 4) ⟨rfl, rfl, rfl, rfl⟩))
          (pss_cons
            (ps_dput hu (pv 2) (pv 0) (pv 4) rfl)
          (pss_cons
            (ps_dput hu (pv 3) (pv 4) (pv 0) rfl)
          (pss_one
            (ps_set (i := 0) sc_give_way.nd rfl (.inl rfl) (pv 5)))))))))
      , ?_⟩
    rw [show L2.start N_give_way [V.int low0, V.ref C, V.ref U, V.ref D] = [some (.int low0), some (.ref C), some (.ref U), some (.ref D), none, none] from rfl]
    try dsimp only [cxOf, Cx.nox, Cx.wish]
    refine w_whileN (fun m σ H' => (∃ (low : Int) (i : Nat) (up lo : Int → Option Int) (y4 y5 : Option V), σ = [some (.int low), some (.ref C), some (.ref U), some (.ref D), y4, y5] ∧ m = i + 1 ∧ low ∈ vs ∧ Giv vs ls up0 lo0 cs i low up lo ∧ (∀ up' lo', GiveR cs (some low) up lo up' lo' → GiveR cs (some low0) up0 lo0 up' lo') ∧ Kp [U, D] H H' ∧ MapAt H' U vs up ∧ MapAt H' D vs lo) ∨
      (∃ (up lo : Int → Option Int) (y4 y5 : Option V), σ = [some .non, some (.ref C), some (.ref U), some (.ref D), y4, y5] ∧ Given vs ls v up0 lo0 up lo ∧ GiveR cs (some low0) up0 lo0 up lo ∧ Kp [U, D] H H' ∧ MapAt H' U vs up ∧ MapAt H' D vs lo)) (i0 + 1) (.inl ⟨low0, i0, up0, lo0, _, _, rfl, rfl, lm0, Giv.start M un0 e0, fun _ _ z => z, Kp.refl, mU, mD⟩) ?_
    rintro m σ H1 (⟨low, i, up, lo, y4, y5, rfl, rfl, lm, G, gr, k1, mU1, mD1⟩ | ⟨up, lo, y4, y5, rfl, G, gr, k1, mU1, mD1⟩)
    · walk_at "g"
      refine w_nno (fun z => nomatch z) (w_turn ?_)
      obtain ⟨u, eu⟩ := G.at'
      have mC1 := mC.kp k1 (by simp [nCU, nCD])
      obtain ⟨ck, cks, eC, c2, c3, c4, c5⟩ := mC1
      obtain ⟨uk, uks, eU, u2, u3, u4, u5⟩ := mU1
      obtain ⟨dk, dks, eD, d2, d3, d4, d5⟩ := mD1
      have el : valV ck (Sum.inl low) = some (.int u) := by rw [c5, lookI_at Cm.nd eu]; rfl
      walk_at "g"
      have lU : uk.length < sizeLine := small1000 (by have := MapAt.len (p := U) u2 u3 u4; omega)
      have lD : dk.length < sizeLine := small1000 (by have := MapAt.len (p := D) d2 d3 d4; omega)
      have um : u ∈ vs := by
        rcases Cm.fr i _ eu with h | ⟨k, q', hk, ek, e3⟩
        · have h' : u = v := h
          rw [h']
          exact hv
        · exact (M.ok _ _ e3).2.1
      refine w_dputI eU lU fun H2 e2 o2 => ?_
      have eD2 := o2.get nUD.symm eD
      walk_at "g"
      refine w_dputI eD2 lD fun H3 e3 o3 => ?_
      have mU3 : MapAt H3 U vs (setM up low u) := MapAt.put u2 u3 u4 u5 lm (o3.get nUD e2)
      have mD3 : MapAt H3 D vs (setM lo u low) := MapAt.put d2 d3 d4 d5 um e3
      have k3 : Kp [U, D] H H3 := k1.trans ((o2.kp (by simp)).trans (o3.kp (by simp)))
      walk_at "g"
      rcases Giv.step M hv0 hv S Cm G eu lm with ⟨b, j, eb, hj, hbm, G'⟩ | ⟨rfl, eb, M', dm, cl'⟩
      · rw [show (valV dk (Sum.inl u)).getD V.non = .int b by rw [d5, eb]; rfl]
        exact ⟨j + 1, by omega, .inl ⟨b, j, _, _, _, _, rfl, rfl, hbm, G', fun up' lo' z => gr _ _ (.step (lookI_at Cm.nd eu) (by rw [eb]; exact z)), k3, mU3, mD3⟩⟩
      · rw [show (valV dk (Sum.inl u)).getD V.non = .non by rw [d5, eb]; rfl]
        exact ⟨0, by omega, .inr ⟨_, _, _, _, rfl, ⟨M', dm, cl'⟩, gr _ _ (.step (lookI_at Cm.nd eu) (by rw [eb]; exact .stop)), k3, mU3, mD3⟩⟩
    · walk_at "g"
      refine w_nyes rfl ?_
      exact q H1 up lo k1 mU1 mD1 G gr
end
theorem row_drop {vs : List Int} {ls : List (Int × Int)} (S : ShOk vs ls) {u : Int} {ys : List Int} (r : RowOk ls u ys) (x : Int) : x ∈ ys.dropLast ↔ SB ls u x := by
  have hu : u ∈ ys := (r.mem u).mpr (.refl u)
  have hne : ys ≠ [] := List.ne_nil_of_mem hu
  have e := List.dropLast_concat_getLast hne
  have hp := r.rise
  rw [← e, List.pairwise_append] at hp
  obtain ⟨_, _, h3⟩ := hp
  have hlast : ys.getLast hne = u := by
    have m1 : ys.getLast hne ≤ u := ((r.mem _).mp (List.getLast_mem hne)).le S
    rw [← e] at hu
    rcases List.mem_append.mp hu with a | a
    · have := h3 u a (ys.getLast hne) (by simp)
      omega
    · exact (by simpa using a : u = _).symm
  rw [hlast] at h3 e
  constructor
  · intro h
    have := h3 x h u (by simp)
    exact ⟨(r.mem x).mp (by rw [← e]; exact List.mem_append_left _ h), by omega⟩
  · rintro ⟨h1, h2⟩
    have m := (r.mem x).mpr h1
    rw [← e] at m
    rcases List.mem_append.mp m with a | a
    · exact a
    · exact absurd (by simpa using a) h2
theorem Came.snoc {ls : List (Int × Int)} {up : Int → Option Int} {v u low : Int} {cs : List (Int × Int)} (C : Came ls up v cs) (hn : low ∉ cs.map (·.1)) (hs : SB ls u low) (hu : u = v ∨ ∃ q ∈ cs, up q.1 = some u) : Came ls up v (cs ++ [(low, u)]) := by
  refine ⟨?_, fun q hq => ?_, fun i q hq => ?_⟩
  · rw [List.map_append, List.nodup_append]
    exact ⟨C.nd, by simp, fun a ha b hb z => hn (by
      have : b = low := by simpa using hb
      rw [← this, ← z]
      exact ha)⟩
  · rcases List.mem_append.mp hq with a | a
    · exact C.sb q a
    · have : q = (low, u) := by simpa using a
      subst this
      exact hs
  · by_cases hi : i < cs.length
    · rw [List.getElem?_append_left hi] at hq
      rcases C.fr i q hq with h | ⟨j, q', hj, ej, e⟩
      · exact .inl h
      · exact .inr ⟨j, q', hj, by rw [List.getElem?_append_left (by omega)]; exact ej, e⟩
    · have hi2 : i = cs.length := by
        have := (List.getElem?_eq_some_iff.mp hq).1
        simp at this
        omega
      subst hi2
      have : q = (low, u) := by simpa using hq.symm
      subst this
      rcases hu with h | ⟨q', hq', e⟩
      · exact .inl h
      · obtain ⟨j, hj, ej⟩ := List.getElem_of_mem hq'
        exact .inr ⟨j, q', hj, by rw [List.getElem?_append_left hj, List.getElem?_eq_getElem hj, ej], e⟩
/-- whom the search has come to -/
def Vis (up : Int → Option Int) (v : Int) (cs : List (Int × Int)) (w : Int) : Prop := w = v ∨ ∃ q ∈ cs, up q.1 = some w
structure Srch (vs : List Int) (ls : List (Int × Int)) (up : Int → Option Int) (v : Int) (cs : List (Int × Int)) (ways : List Int) (ex : Int → Prop) : Prop where
  came : Came ls up v cs
  mem : ∀ q ∈ cs, q.1 ∈ vs
  mt : ∀ q ∈ cs, (up q.1).isSome = true
  wy : ∀ u ∈ ways, u ∈ vs ∧ Vis up v cs u
  dn : ∀ w, Vis up v cs w → w ∉ ways → ¬ ex w → ∀ l, SB ls w l → l ∈ cs.map (·.1)
theorem Srch.start {vs : List Int} {ls : List (Int × Int)} {up : Int → Option Int} {v : Int} (hv : v ∈ vs) : Srch vs ls up v [] [v] (fun _ => False) :=
  ⟨⟨List.nodup_nil, by simp, fun i q h => by simp at h⟩, by simp, by simp, fun u hu => by
    have : u = v := by simpa using hu
    subst this
    exact ⟨hv, .inl rfl⟩, fun w hw hn => by
    rcases hw with h | ⟨q, hq, _⟩
    · exact absurd (by simpa using h) hn
    · simp at hq⟩
theorem Srch.pop {vs : List Int} {ls : List (Int × Int)} {up : Int → Option Int} {v u : Int} {cs : List (Int × Int)} {ways : List Int} (s : Srch vs ls up v cs (ways ++ [u]) (fun _ => False)) : Srch vs ls up v cs ways (fun w => w = u) ∧ u ∈ vs ∧ Vis up v cs u :=
  ⟨⟨s.came, s.mem, s.mt, fun w hw => s.wy w (List.mem_append_left _ hw), fun w hw hn hne => s.dn w hw (fun z => by
    rcases List.mem_append.mp z with a | a
    · exact hn a
    · exact hne (by simpa using a)) (fun z => z)⟩, s.wy u (by simp)⟩
theorem Srch.add {vs : List Int} {ls : List (Int × Int)} {up lo : Int → Option Int} {v u low w : Int} {cs : List (Int × Int)} {ways : List Int} (M : Mt vs ls up lo) (s : Srch vs ls up v cs ways (fun w => w = u)) (hu : Vis up v cs u) (hn : low ∉ cs.map (·.1)) (hs : SB ls u low) (hm : low ∈ vs) (e : up low = some w) :
    Srch vs ls up v (cs ++ [(low, u)]) (ways ++ [w]) (fun w => w = u) ∧ Vis up v (cs ++ [(low, u)]) u := by
  have more : ∀ {x}, Vis up v cs x → Vis up v (cs ++ [(low, u)]) x := fun {x} h => by
    rcases h with h | ⟨q, hq, e⟩
    · exact .inl h
    · exact .inr ⟨q, List.mem_append_left _ hq, e⟩
  refine ⟨⟨s.came.snoc hn hs hu, fun q hq => ?_, fun q hq => ?_, fun x hx => ?_, fun x hx hx2 hne l hl => ?_⟩, more hu⟩
  · rcases List.mem_append.mp hq with a | a
    · exact s.mem q a
    · have : q = (low, u) := by simpa using a
      subst this
      exact hm
  · rcases List.mem_append.mp hq with a | a
    · exact s.mt q a
    · have : q = (low, u) := by simpa using a
      subst this
      rw [e]
      rfl
  · rcases List.mem_append.mp hx with a | a
    · exact ⟨(s.wy x a).1, more (s.wy x a).2⟩
    · have : x = w := by simpa using a
      subst this
      exact ⟨(M.ok _ _ e).2.1, .inr ⟨(low, u), by simp, e⟩⟩
  · have old : Vis up v cs x := by
      rcases hx with h | ⟨q, hq, e2⟩
      · exact .inl h
      · rcases List.mem_append.mp hq with a | a
        · exact .inr ⟨q, a, e2⟩
        · have : q = (low, u) := by simpa using a
          subst this
          rw [e] at e2
          cases e2
          exact absurd (by simp) hx2
    rw [List.map_append]
    exact List.mem_append_left _ (s.dn x old (fun z => hx2 (List.mem_append_left _ z)) hne l hl)
theorem Srch.done {vs : List Int} {ls : List (Int × Int)} {up : Int → Option Int} {v u : Int} {cs : List (Int × Int)} {ways : List Int} (s : Srch vs ls up v cs ways (fun w => w = u)) (h : ∀ l, SB ls u l → l ∈ cs.map (·.1)) : Srch vs ls up v cs ways (fun _ => False) :=
  ⟨s.came, s.mem, s.mt, s.wy, fun w hw hn _ l hl => by
    by_cases e : w = u
    · subst e; exact h l hl
    · exact s.dn w hw hn e l hl⟩
theorem Srch.fail {vs : List Int} {ls : List (Int × Int)} {up : Int → Option Int} {v : Int} {cs : List (Int × Int)} (s : Srch vs ls up v cs [] (fun _ => False)) : Cl ls up (Vis up v cs) (fun r => r ∈ cs.map (·.1)) :=
  ⟨fun u hu l hl => s.dn u hu (by simp) (fun z => z) l hl, fun r hr => by
    obtain ⟨q, hq, rfl⟩ := List.mem_map.mp hr
    obtain ⟨u, e⟩ := Option.isSome_iff_exists.mp (s.mt q hq)
    exact ⟨u, e, .inr ⟨q, hq, e⟩⟩⟩
theorem Srch.len {vs : List Int} {ls : List (Int × Int)} {up : Int → Option Int} {v : Int} {cs : List (Int × Int)} {ways : List Int} {ex : Int → Prop} (s : Srch vs ls up v cs ways ex) : cs.length ≤ vs.length := by
  have := nodup_le (cs.map (·.1)) vs s.came.nd fun x hx => by
    obtain ⟨q, hq, rfl⟩ := List.mem_map.mp hx
    exact s.mem q hq
  simpa using this
/-- what a search does to the pairs -/
structure Prd (vs : List Int) (ls : List (Int × Int)) (v : Int) (up0 lo0 up lo : Int → Option Int) : Prop where
  m : Mt vs ls up lo
  d1 : ∀ x, (lo x).isSome = true → (lo0 x).isSome = true ∨ x = v
  d2 : ∀ x, (lo0 x).isSome = true → (lo x).isSome = true
  hit : (lo v).isSome = true ∨ ∃ L R, Cl ls up L R ∧ L v
  cl : ∀ L R, Cl ls up0 L R → Cl ls up L R
theorem Prd.failed {vs : List Int} {ls : List (Int × Int)} {up lo : Int → Option Int} {v : Int} {cs : List (Int × Int)} (M : Mt vs ls up lo) (s : Srch vs ls up v cs [] (fun _ => False)) : Prd vs ls v up lo up lo :=
  ⟨M, fun x h => .inl h, fun x h => h, .inr ⟨_, _, s.fail, .inl rfl⟩, fun L R c => c⟩
theorem Prd.given {vs : List Int} {ls : List (Int × Int)} {up0 lo0 up lo : Int → Option Int} {v : Int} (G : Given vs ls v up0 lo0 up lo) : Prd vs ls v up0 lo0 up lo :=
  ⟨G.m, fun x h => (G.dom x).mp h, fun x h => (G.dom x).mpr (.inl h), .inl ((G.dom v).mpr (.inr rfl)), fun L R c => ⟨c.dn, fun r hr => by rw [G.cl L R c r hr]; exact c.bk r hr⟩⟩
def spPair : Sp := fun as H Q _ => ∃ (v : Int) (R U D : Addr) (kvs : List (Key × V)) (vs : List Int) (ls : List (Int × Int)) (up lo : Int → Option Int), as = [.int v, .ref R, .ref U, .ref D] ∧ U ≠ D ∧ H R = some (.dK kvs) ∧ R ≠ U ∧ R ≠ D ∧ RowsV [] H kvs ls vs ∧ MapAt H U vs up ∧ MapAt H D vs lo ∧
  ShOk vs ls ∧ vs.length < 64 ∧ Mt vs ls up lo ∧ lo v = none ∧ v ∈ vs ∧
  ∀ H' up' lo', Kp [U, D] H H' → MapAt H' U vs up' → MapAt H' D vs lo' → Prd vs ls v up lo up' lo' → PR (lowsF ls) up lo [] [v] none up' lo' → Q .non H'
section
variable {P : Program} {w : World} {K : PySem.W.Frag} {mg : Str → Option Value} {base : Heap}
theorem ok_pair {f fG : Addr} {fd fdG : FuncData} (T : Txt K mg) (F : Fun K "pair_up" "pair_up" s_pair_up f fd) (D_give_way : Df K mg "give_way" s_give_way ["low", "came", "uppers", "lowers"] fG fdG) : FnOk P w K mg base CX0 2 f fd ["version", "rows", "uppers", "lowers"] spPair := by
  have G_give_way : FnOk P w K mg base CX0 1 fG fdG ["low", "came", "uppers", "lowers"] spGive := ok_give T D_give_way.fn
  refine F.ok sc_pair_up (fun vs H Q E h => ?_) (fun cdv A outer s H vs Q E hr h => ?_)
  · obtain ⟨v, R, U, D, kvs, vs, ls, up, lo, rfl, _⟩ := h
    rfl
  · obtain ⟨v, R, U, D, kvs, vs, ls, up, lo, rfl, nUD, eR, nRU, nRD, rv, mU, mD, S, hl, M, hv0, hv, q⟩ := h
    have hu := hu_of hr
    refine ⟨_,
      (pss_cons
        (ps_set (i := 4) sc_pair_up.nd rfl (.inl rfl) pe_dnewK)
      (pss_cons
        (ps_set (i := 5) sc_pair_up.nd rfl (.inl rfl) (pe_lst (pa_cons (pv 0) pa_nil)))
      (pss_one
        (ps_while PassesOwn.never (p_truth (pv 5) (by intro _; rfl))
          (pss_cons
            (ps_set (i := 6) sc_pair_up.nd rfl (.inl rfl) (pe_bm0 PySem.F.plainAttrs_list PySem.F.slot_list_pop PySem.F.type_list_pop mt_pop (pv 5)))
          (pss_one
            (ps_for PassesOwn.never rfl (pi_reversed (by rfl) T.n_reversed (pa_cons (pe_slice sl_list (pe_dget hu (pv 1) (pv 6) (fun _ _ => rfl)) po_none (po_some (pe_un un_neg pe_int))) pa_nil)) (pg_name (i := 7) sc_pair_up.nd rfl (.inl rfl))
              (pss_one
                (ps_if (pt_cmp (pc_dnotin hu (pv 7) (pv 4)))
                  (pss_cons
                    (ps_dput hu (pv 4) (pv 7) (pv 6) rfl)
                  (pss_cons
                    (ps_if (pt_cmp (pc_dnotin hu (pv 7) (pv 2)))
                      (pss_cons
                        (ps_expr (pe_call G_give_way (hr.mono (by omega)) (by rfl) D_give_way.g D_give_way.fn.kp D_give_way.b .nil pass0 (pa_cons (pv 7) (pa_cons (pv 4) (pa_cons (pv 2) (pa_cons (pv 3) pa_nil))))))
                      (pss_one
                        ps_retN))
                      pss_nil)
                  (pss_one
                    (ps_expr (pe_bm PySem.F.plainAttrs_list PySem.F.slot_list_append PySem.F.type_list_append mt_append (pv 5) (pa_cons (pe_dget hu (pv 2) (pv 7) (fun _ _ => rfl)) pa_nil))))))
                  pss_nil)))))))))
      , ?_⟩
    rw [show L2.start N_pair_up [V.int v, V.ref R, V.ref U, V.ref D] = [some (.int v), some (.ref R), some (.ref U), some (.ref D), none, none, none, none] from rfl]
    walk_at "x"
    refine w_new fun C H1 hC eC k1 => ?_
    walk_at "g"
    refine w_new fun Wy H2 hW eW k2 => ?_
    have k02 : Same H H2 := Same.trans k1 k2
    have hW0 : H Wy = none := k1.free hW
    have nCW : C ≠ Wy := ne_of_none eC hW
    obtain ⟨uk, uks, eU, u2, u3, u4, u5⟩ := id mU
    obtain ⟨dk, dks, eD, d2, d3, d4, d5⟩ := id mD
    have nCU : C ≠ U := (ne_of_none eU hC).symm
    have nCD : C ≠ D := (ne_of_none eD hC).symm
    have nCR : C ≠ R := (ne_of_none eR hC).symm
    have nWU : Wy ≠ U := (ne_of_none eU hW0).symm
    have nWD : Wy ≠ D := (ne_of_none eD hW0).symm
    have nWR : Wy ≠ R := (ne_of_none eR hW0).symm
    have mU2 : MapAt H2 U vs up := mU.kp (M := []) (Kp.of k02) (by simp)
    have mD2 : MapAt H2 D vs lo := mD.kp (M := []) (Kp.of k02) (by simp)
    have eR2 := k02 _ _ eR
    have rv2 : RowsV [C, Wy] H2 kvs ls vs := fun x hx => by
      obtain ⟨a, ys, v1, v2, v3, _⟩ := rv x hx
      exact ⟨a, ys, v1, k02 _ _ v2, v3, by simp [ne_of_none v2 hC, ne_of_none v2 hW0]⟩
    walk_at "g"
    refine w_whileN (fun m σ H' => ∃ (cs : List (Int × Int)) (ways : List Int) (y6 y7 : Option V), σ = [some (.int v), some (.ref R), some (.ref U), some (.ref D), some (.ref C), some (.ref Wy), y6, y7] ∧ m = ways.length + 2 * (vs.length - cs.length) ∧ ways.length + 2 * (vs.length - cs.length) ≤ 1 + 2 * vs.length ∧ Srch vs ls up v cs ways (fun _ => False) ∧ (∀ up' lo', PR (lowsF ls) up lo cs ways none up' lo' → PR (lowsF ls) up lo [] [v] none up' lo') ∧ Kp [C, Wy] H2 H' ∧ MapAt H' C vs (lookI cs) ∧ H' Wy = some (.lst (ways.map V.int))) (1 + 2 * vs.length)
      ⟨[], [v], _, _, rfl, rfl, Nat.le_refl _, Srch.start hv, fun _ _ z => z, Kp.refl, ⟨[], [], k2 _ _ eC, rfl, List.nodup_nil, by simp, fun _ => rfl⟩, eW⟩ ?_
    rintro m σ H3 ⟨cs, ways, y6, y7, rfl, rfl, hwl0, sr, pr, k3, mC, e3⟩
    walk_at "g"
    rcases List.eq_nil_or_concat ways with rfl | ⟨rest, u, rfl⟩
    · -- none is left
      walk_at "g"
      have k03 : Kp [U, D] H H3 := fun b o _ e => k3 _ _ (by simp [ne_of_none e hC, ne_of_none e hW0]) (k02 _ _ e)
      exact q H3 up lo k03 (mU2.kp k3 (by simp [nCU.symm, nWU.symm])) (mD2.kp k3 (by simp [nCD.symm, nWD.symm])) (Prd.failed M sr) (pr _ _ .fail)
    · rw [List.concat_eq_append] at sr e3 hwl0 pr ⊢
      have hwl1 : rest.length + 2 * (vs.length - cs.length) ≤ 2 * vs.length := by
        rw [List.length_append] at hwl0
        simp only [List.length_cons, List.length_nil] at hwl0
        omega
      rw [show (!((rest ++ [u]).map V.int).isEmpty) = true by simp]
      refine iteT (w_turn ?_)
      obtain ⟨sr1, hum, hvis⟩ := sr.pop
      rw [List.map_append] at e3
      have e3' : H3 Wy = some (.lst (rest.map V.int ++ [.int u])) := e3
      walk_at "g"
      refine w_pop e3' fun H4 e4 o4 => ?_
      obtain ⟨a, ys, v1, v2, v3, v4⟩ := rv2 u hum
      have k4 : Kp [C, Wy] H2 H4 := k3.trans (o4.kp (by simp))
      have eR4 := k4 _ _ (by simp [nCR.symm, nWR.symm]) eR2
      have v2' := k4 _ _ v4 v2
      have mC4 : MapAt H4 C vs (lookI cs) := mC.kp (o4.kp (M := [Wy]) (by simp)) (by simpa using nCW)
      walk_at "g"
      refine w_slL (.of v2') fun Z H5 hZ eZ k5 => ?_
      rw [cut_last, ← List.map_dropLast] at eZ
      have k5' : Kp [C, Wy] H2 H5 := k4.trans (Kp.of k5)
      have mC5 : MapAt H5 C vs (lookI cs) := mC4.kp (M := []) (Kp.of k5) (by simp)
      have e5 := k5 _ _ e4
      obtain ⟨ck4, cks4, eC4, _⟩ := id mC4
      have nZC : Z ≠ C := (ne_of_none eC4 hZ).symm
      have nZW : Z ≠ Wy := (ne_of_none e4 hZ).symm
      walk_at "g"
      refine lp_rev (xs := ys.dropLast.map V.int) (fun i σ H' => ∃ (cs' : List (Int × Int)) (ways' : List Int) (y7 : Option V), σ = [some (.int v), some (.ref R), some (.ref U), some (.ref D), some (.ref C), some (.ref Wy), some (.int u), y7] ∧ ways'.length + 2 * (vs.length - cs'.length) ≤ rest.length + 2 * (vs.length - cs.length) ∧ Srch vs ls up v cs' ways' (fun w => w = u) ∧ Vis up v cs' u ∧ (∀ up' lo', PR (lowsF ls) up lo cs' ways' (some (u, ys.dropLast.reverse.drop i)) up' lo' → PR (lowsF ls) up lo [] [v] none up' lo') ∧ (∀ l ∈ ys.dropLast.drop (ys.dropLast.length - i), l ∈ cs'.map (·.1)) ∧ Kp [C, Wy] H5 H' ∧ MapAt H' C vs (lookI cs') ∧ H' Wy = some (.lst (ways'.map V.int))) ?_ ?_ ?_ ?_
      · exact ⟨cs, rest, _, rfl, Nat.le_refl _, sr1, hvis, fun _ _ z => pr _ _ (.pop rfl (by rw [lowsF_is v3]; exact z)), fun l hl' => (by rw [Nat.sub_zero, List.drop_length] at hl'; cases hl'), Kp.refl, mC5, e5⟩
      · rintro i σ H' _ ⟨_, _, _, _, _, _, _, _, _, k6, _⟩
        exact .of (k6 _ _ (by simp [nZC, nZW]) eZ)
      · rintro i x σ H6 hi hx ⟨cs', ways', y7, rfl, hm, sr', hvis', pr', hdone, k6, mC6, e6⟩
        rw [List.length_map] at hi hx
        obtain ⟨low, hlow, rfl⟩ := map_at hx
        have hlm : low ∈ ys.dropLast := List.mem_of_getElem? hlow
        have hrd : ys.dropLast.reverse.drop i = low :: ys.dropLast.reverse.drop (i + 1) := drop_of (by rw [List.getElem?_reverse hi]; exact hlow)
        rw [hrd] at pr'
        have hsb : SB ls u low := (row_drop S v3 low).mp hlm
        have hlv : low ∈ vs := hsb.1.mem S hum
        obtain ⟨ck, cks, eC6, c2, c3, c4, c5⟩ := mC6
        have k26 : Kp [C, Wy] H2 H6 := k5'.trans k6
        have mU6 : MapAt H6 U vs up := mU2.kp k26 (by simp [nCU.symm, nWU.symm])
        have mD6 : MapAt H6 D vs lo := mD2.kp k26 (by simp [nCD.symm, nWD.symm])
        have dstep : ∀ l ∈ ys.dropLast.drop (ys.dropLast.length - (i + 1)), l = low ∨ l ∈ ys.dropLast.drop (ys.dropLast.length - i) := fun l hl' => by
          have e1 : ys.dropLast.length - (i + 1) = ys.dropLast.length - 1 - i := by omega
          rw [e1, drop_of hlow] at hl'
          rcases List.mem_cons.mp hl' with a | a
          · exact .inl a
          · exact .inr (by
              have e2 : ys.dropLast.length - 1 - i + 1 = ys.dropLast.length - i := by omega
              rw [e2] at a
              exact a)
        walk_at "g"
        rw [MapAt.in (vs := vs) c5 low]
        refine w_itNB (fun hc => ?_) (fun hc => ?_)
        · -- not come to yet
          have hnin : low ∉ cs'.map (·.1) := lookI_none.mp (by
            cases h : lookI cs' low with
            | none => rfl
            | some z => rw [h] at hc; cases hc)
          have lC : ck.length < sizeLine := small1000 (by have := MapAt.len (p := C) c2 c3 c4; omega)
          walk_at "g"
          refine w_dputI eC6 lC fun H7 e7 o7 => ?_
          have mC7 : MapAt H7 C vs (lookI (cs' ++ [(low, u)])) := by
            rw [lookI_snoc hnin]
            exact MapAt.put c2 c3 c4 c5 hlv e7
          have k7 : Kp [C, Wy] H2 H7 := k26.trans (o7.kp (by simp))
          have mU7 : MapAt H7 U vs up := mU2.kp k7 (by simp [nCU.symm, nWU.symm])
          have mD7 : MapAt H7 D vs lo := mD2.kp k7 (by simp [nCD.symm, nWD.symm])
          obtain ⟨uk7, uks7, eU7, w2, w3, w4, w5⟩ := id mU7
          refine w_seq ?_
          walk_at "g"
          rw [MapAt.in (vs := vs) w5 low]
          refine w_itNB (fun hf => ?_) (fun hf => ?_)
          · -- it is free: the way is given
            have hfree : up low = none := by
              cases h : up low with
              | none => rfl
              | some z => rw [h] at hf; cases hf
            walk_at "g"
            refine ⟨low, v, u, cs'.length, C, U, D, vs, ls, cs' ++ [(low, u)], up, lo, rfl, nCU, nCD, nUD, mC7, mU7, mD7, S, hl, M, hv0, hv, sr'.came.snoc hnin hsb hvis', by simp, hfree, hlv, fun H8 up' lo' k8 mU8 mD8 G gr => ?_⟩
            walk_at "g"
            refine q H8 up' lo' (fun b o hb e => ?_) mU8 mD8 (Prd.given G) (pr' _ _ (.give hnin hfree gr))
            exact k8 _ _ hb (k7 _ _ (by simp [ne_of_none e hC, ne_of_none e hW0]) (k02 _ _ e))
          · obtain ⟨w', ew⟩ := Option.isSome_iff_exists.mp hf
            have evw : valV uk7 (Sum.inl low) = some (.int w') := by rw [w5, ew]; rfl
            have e6' := o7.get nCW.symm e6
            have hwl : ways'.length ≤ 1000 := by
              have := sr'.len
              have := sr.len
              omega
            walk_at "g"
            refine w_app e6' (by rw [List.length_map]; exact small1000 (by omega)) fun H8 e8 o8 => ?_
            obtain ⟨sr8, vis8⟩ := sr'.add M hvis' hnin hsb hlv ew
            refine ⟨cs' ++ [(low, u)], ways' ++ [w'], _, rfl, ?_, sr8, vis8, fun _ _ z => pr' _ _ (.push hnin ew z), fun l hl' => ?_, k6.trans ((o7.kp (by simp)).trans (o8.kp (by simp))), mC7.kp (o8.kp (M := [Wy]) (by simp)) (by simpa using nCW), by rw [e8, List.map_append]; rfl⟩
            · have := sr8.len
              rw [List.length_append, List.length_append]
              rw [List.length_append] at this
              simp only [List.length_cons, List.length_nil] at this ⊢
              omega
            · rw [List.map_append]
              rcases dstep l hl' with h | h
              · exact List.mem_append_right _ (by simp [h])
              · exact List.mem_append_left _ (hdone l h)
        · walk_at "g"
          have hin : low ∈ cs'.map (·.1) := by
            apply Classical.byContradiction
            intro z
            rw [lookI_none.mpr z] at hc
            cases hc
          refine ⟨cs', ways', _, rfl, hm, sr', hvis', fun _ _ z => pr' _ _ (.skip hin z), fun l hl' => ?_, k6, ⟨ck, cks, eC6, c2, c3, c4, c5⟩, e6⟩
          rcases dstep l hl' with h | h
          · rw [h]; exact hin
          · exact hdone l h
      · rintro σ H6 ⟨cs', ways', y7, rfl, hm, sr', hvis', pr', hdone, k6, mC6, e6⟩
        rw [List.length_map, Nat.sub_self, List.drop_zero] at hdone
        refine ⟨ways'.length + 2 * (vs.length - cs'.length), ?_, cs', ways', _, _, rfl, rfl, by omega, sr'.done fun l hl' => hdone l ((row_drop S v3 l).mpr hl'), fun _ _ z => pr' _ _ (by rw [List.drop_of_length_le (by rw [List.length_reverse, List.length_map]; omega)]; exact .over z), k5'.trans k6, mC6, e6⟩
        rw [List.length_append]
        simp only [List.length_cons, List.length_nil]
        omega
end
/-! ### those that stand apart -/
inductive Rch (vs : List Int) (ls : List (Int × Int)) (up lo : Int → Option Int) : Int → Prop where
  | free {x : Int} (h : x ∈ vs) (e : lo x = none) : Rch vs ls up lo x
  | on {u r x : Int} (h : Rch vs ls up lo u) (s : SB ls u r) (e : up r = some x) : Rch vs ls up lo x
def RchR (vs : List Int) (ls : List (Int × Int)) (up lo : Int → Option Int) (r : Int) : Prop := ∃ u, Rch vs ls up lo u ∧ SB ls u r
noncomputable def apartB (vs : List Int) (ls : List (Int × Int)) (up lo : Int → Option Int) (x : Int) : Bool := @decide (Rch vs ls up lo x ∧ ¬ RchR vs ls up lo x) (Classical.propDecidable _)
noncomputable def apartL (vs : List Int) (ls : List (Int × Int)) (up lo : Int → Option Int) : List Int := vs.filter (apartB vs ls up lo)
theorem apartB_iff {vs : List Int} {ls : List (Int × Int)} {up lo : Int → Option Int} {x : Int} : apartB vs ls up lo x = true ↔ Rch vs ls up lo x ∧ ¬ RchR vs ls up lo x := by unfold apartB; exact @decide_eq_true_iff _ (Classical.propDecidable _)
/-- from those that are free one comes to such alone as have a partner -/
def Full (vs : List Int) (ls : List (Int × Int)) (up lo : Int → Option Int) : Prop := ∀ x ∈ vs, (lo x).isSome = true ∨ ∃ L R, Cl ls up L R ∧ L x
theorem Full.reach {vs : List Int} {ls : List (Int × Int)} {up lo : Int → Option Int} (F : Full vs ls up lo) {x : Int} (h : Rch vs ls up lo x) : ∃ L R, Cl ls up L R ∧ L x := by
  induction h with
  | free h e =>
    rcases F _ h with a | a
    · rw [e] at a; cases a
    · exact a
  | on h s e ih =>
    obtain ⟨L, R, c, hl⟩ := ih
    obtain ⟨u, e2, hu⟩ := c.bk _ (c.dn _ hl _ s)
    rw [e] at e2
    cases e2
    exact ⟨L, R, c, hu⟩
theorem Full.some {vs : List Int} {ls : List (Int × Int)} {up lo : Int → Option Int} (F : Full vs ls up lo) {u r : Int} (h : Rch vs ls up lo u) (s : SB ls u r) : ∃ w, up r = some w := by
  obtain ⟨L, R, c, hl⟩ := F.reach h
  obtain ⟨w, e, _⟩ := c.bk _ (c.dn _ hl _ s)
  exact ⟨w, e⟩
structure Apt (vs : List Int) (ls : List (Int × Int)) (up lo : Int → Option Int) (Lk Rk ways : List Int) (ex : Int → Prop) : Prop where
  nl : Lk.Nodup
  nr : Rk.Nodup
  fl : ∀ x ∈ vs, lo x = none → x ∈ Lk
  lm : ∀ x ∈ Lk, x ∈ vs ∧ Rch vs ls up lo x
  rm : ∀ r ∈ Rk, r ∈ vs ∧ RchR vs ls up lo r ∧ ∃ u, up r = some u ∧ u ∈ Lk
  wy : ∀ x ∈ ways, x ∈ Lk
  dn : ∀ x ∈ Lk, x ∉ ways → ¬ ex x → ∀ l, SB ls x l → l ∈ Rk
theorem Apt.pop {vs : List Int} {ls : List (Int × Int)} {up lo : Int → Option Int} {Lk Rk ways : List Int} {u : Int} (a : Apt vs ls up lo Lk Rk (ways ++ [u]) (fun _ => False)) : Apt vs ls up lo Lk Rk ways (fun w => w = u) ∧ u ∈ Lk :=
  ⟨⟨a.nl, a.nr, a.fl, a.lm, a.rm, fun x hx => a.wy x (List.mem_append_left _ hx), fun x hx hn hne => a.dn x hx (fun z => by
    rcases List.mem_append.mp z with h | h
    · exact hn h
    · exact hne (by simpa using h)) (fun z => z)⟩, a.wy u (by simp)⟩
theorem Apt.done {vs : List Int} {ls : List (Int × Int)} {up lo : Int → Option Int} {Lk Rk ways : List Int} {u : Int} (a : Apt vs ls up lo Lk Rk ways (fun w => w = u)) (h : ∀ l, SB ls u l → l ∈ Rk) : Apt vs ls up lo Lk Rk ways (fun _ => False) :=
  ⟨a.nl, a.nr, a.fl, a.lm, a.rm, a.wy, fun x hx hn _ l hl => by
    by_cases e : x = u
    · subst e; exact h l hl
    · exact a.dn x hx hn e l hl⟩
/-- a low that was not come to; its partner is new, or not -/
theorem Apt.add {vs : List Int} {ls : List (Int × Int)} {up lo : Int → Option Int} {Lk Rk ways ways' : List Int} {u low w : Int} (M : Mt vs ls up lo) (a : Apt vs ls up lo Lk Rk ways (fun w => w = u)) (hu : u ∈ Lk) (hn : low ∉ Rk) (hs : SB ls u low) (hm : low ∈ vs) (e : up low = some w)
    (hw : ways' = ways ++ [w] ∨ (w ∈ Lk ∧ ways' = ways)) : Apt vs ls up lo (addK Lk w) (addK Rk low) ways' (fun w => w = u) := by
  have rw' : Rch vs ls up lo w := .on (a.lm u hu).2 hs e
  refine ⟨nd_addK a.nl, nd_addK a.nr, fun x hx h => mem_addK.mpr (.inl (a.fl x hx h)), fun x hx => ?_, fun r hr => ?_, fun x hx => ?_, fun x hx hx2 hne l hl => ?_⟩
  · rcases mem_addK.mp hx with h | rfl
    · exact a.lm x h
    · exact ⟨(M.ok _ _ e).2.1, rw'⟩
  · rcases mem_addK.mp hr with h | rfl
    · obtain ⟨h1, h2, u', h3, h4⟩ := a.rm r h
      exact ⟨h1, h2, u', h3, mem_addK.mpr (.inl h4)⟩
    · exact ⟨hm, ⟨u, (a.lm u hu).2, hs⟩, w, e, mem_addK.mpr (.inr rfl)⟩
  · rcases hw with rfl | ⟨h, rfl⟩
    · rcases List.mem_append.mp hx with h | h
      · exact mem_addK.mpr (.inl (a.wy x h))
      · exact mem_addK.mpr (.inr (by simpa using h))
    · exact mem_addK.mpr (.inl (a.wy x hx))
  · have old : x ∈ Lk ∧ x ∉ ways := by
      rcases hw with rfl | ⟨h, rfl⟩
      · refine ⟨?_, fun z => hx2 (List.mem_append_left _ z)⟩
        rcases mem_addK.mp hx with h | rfl
        · exact h
        · exact absurd (by simp) hx2
      · refine ⟨?_, hx2⟩
        rcases mem_addK.mp hx with h' | rfl
        · exact h'
        · exact h
    exact mem_addK.mpr (.inl (a.dn x old.1 old.2 hne l hl))
theorem Apt.end' {vs : List Int} {ls : List (Int × Int)} {up lo : Int → Option Int} {Lk Rk : List Int} (a : Apt vs ls up lo Lk Rk [] (fun _ => False)) : (∀ x, x ∈ Lk ↔ Rch vs ls up lo x) ∧ ∀ x, x ∈ Rk ↔ RchR vs ls up lo x := by
  have h1 : ∀ x, Rch vs ls up lo x → x ∈ Lk := fun x h => by
    induction h with
    | free h e => exact a.fl _ h e
    | on h s e ih =>
      obtain ⟨_, _, u, e2, hu⟩ := a.rm _ (a.dn _ ih (by simp) (fun z => z) _ s)
      rw [e] at e2
      cases e2
      exact hu
  exact ⟨fun x => ⟨fun h => (a.lm x h).2, h1 x⟩, fun x => ⟨fun h => (a.rm x h).2.1, fun ⟨u, h, s⟩ => a.dn u (h1 u h) (by simp) (fun z => z) x s⟩⟩
def freeL (vs : List Int) (lo : Int → Option Int) : List Int := vs.filter fun x => (lo x).isNone
theorem mem_freeL {vs : List Int} {lo : Int → Option Int} {x : Int} : x ∈ freeL vs lo ↔ x ∈ vs ∧ lo x = none := by
  unfold freeL
  rw [List.mem_filter]
  simp
theorem rise_nodup {xs : List Int} (h : xs.Pairwise (· < ·)) : xs.Nodup := h.imp fun {a b} h => Int.ne_of_lt h
theorem same_len {xs ys : List Int} (h1 : xs.Nodup) (h2 : ys.Nodup) (h : ∀ x, x ∈ xs ↔ x ∈ ys) : xs.length = ys.length :=
  Nat.le_antisymm (nodup_le _ _ h1 fun x hx => (h x).mp hx) (nodup_le _ _ h2 fun x hx => (h x).mpr hx)
structure IsApart (vs : List Int) (ls : List (Int × Int)) (lo : Int → Option Int) (aps : List Int) : Prop where
  rise : aps.Pairwise (· < ·)
  mem : ∀ x ∈ aps, x ∈ vs
  anti : ∀ a ∈ aps, ∀ b ∈ aps, a ≠ b → ¬ Bel ls a b
  len : aps.length = (freeL vs lo).length
theorem apart_is {vs : List Int} {ls : List (Int × Int)} {up lo : Int → Option Int} {Lk Rk : List Int} (S : ShOk vs ls) (M : Mt vs ls up lo) (a : Apt vs ls up lo Lk Rk [] (fun _ => False)) : IsApart vs ls lo (apartL vs ls up lo) := by
  obtain ⟨hL, hR⟩ := a.end'
  have vn := rise_nodup S.vr
  have mem : ∀ x, x ∈ apartL vs ls up lo ↔ x ∈ Lk ∧ x ∉ Rk := fun x => by
    unfold apartL
    rw [List.mem_filter, apartB_iff, hL, hR]
    constructor
    · exact fun h => h.2
    · exact fun h => ⟨(a.lm x ((hL x).mpr h.1)).1, h⟩
  have sub : ∀ r ∈ Rk, r ∈ Lk := fun r hr => by
    obtain ⟨hv, ⟨u, hu, hs⟩, _⟩ := a.rm r hr
    cases e : lo r with
    | none => exact a.fl r hv e
    | some r' =>
      have e2 := (M.iff r' r).mpr e
      have hs2 := hs.trans S (M.ok _ _ e2).2.2
      exact (hL r).mpr (.on hu hs2 e2)
  refine ⟨S.vr.filter _, fun x hx => (List.mem_filter.mp hx).1, fun x hx y hy hne hb => ?_, ?_⟩
  · exact ((mem y).mp hy).2 (a.dn x ((mem x).mp hx).1 (by simp) (fun z => z) y ⟨hb, fun z => hne z.symm⟩)
  · have n1 : (apartL vs ls up lo).Nodup := vn.filter _
    have e1 : Lk.length = (apartL vs ls up lo ++ Rk).length := same_len a.nl (List.nodup_append.mpr ⟨n1, a.nr, fun x hx y hy z => ((mem x).mp hx).2 (by rw [z]; exact hy)⟩) fun x => by
      rw [List.mem_append, mem]
      constructor
      · intro h
        by_cases q : x ∈ Rk
        · exact .inr q
        · exact .inl ⟨h, q⟩
      · rintro (h | h)
        · exact h.1
        · exact sub x h
    have inj : (Rk.map fun r => (up r).getD 0).Nodup := by
      unfold List.Nodup
      rw [List.pairwise_map]
      refine List.Pairwise.imp_of_mem (fun {x y} hx hy hne z => ?_) a.nr
      obtain ⟨_, _, u1, h1, _⟩ := a.rm x hx
      obtain ⟨_, _, u2, h2, _⟩ := a.rm y hy
      rw [h1, h2] at z
      have z' : u1 = u2 := z
      subst z'
      have g1 := (M.iff _ _).mp h1
      have g2 := (M.iff _ _).mp h2
      rw [g1] at g2
      exact hne (Option.some.inj g2)
    have e2 : Lk.length = (freeL vs lo ++ Rk.map fun r => (up r).getD 0).length := same_len a.nl (List.nodup_append.mpr ⟨vn.filter _, inj, fun x hx y hy z => by
        obtain ⟨r, hr, rfl⟩ := List.mem_map.mp hy
        obtain ⟨_, _, u1, h1, _⟩ := a.rm r hr
        rw [h1] at z
        have z' : x = u1 := z
        subst z'
        have g := (M.iff _ _).mp h1
        rw [(mem_freeL.mp hx).2] at g
        cases g⟩) fun x => by
      rw [List.mem_append]
      constructor
      · intro h
        cases e : lo x with
        | none => exact .inl (mem_freeL.mpr ⟨(a.lm x h).1, e⟩)
        | some r =>
          refine .inr (List.mem_map.mpr ⟨r, ?_, ?_⟩)
          · cases (hL x).mp h with
            | free hv e2 => rw [e] at e2; cases e2
            | on hu hs e2 =>
              have g := (M.iff _ _).mp e2
              rw [e] at g
              cases g
              exact a.dn _ ((hL _).mpr hu) (by simp) (fun z => z) _ hs
          · rw [(M.iff r x).mpr e]
            rfl
      · rintro (h | h)
        · exact a.fl x (mem_freeL.mp h).1 (mem_freeL.mp h).2
        · obtain ⟨r, hr, rfl⟩ := List.mem_map.mp h
          obtain ⟨_, _, u1, h1, h2⟩ := a.rm r hr
          rw [h1]
          exact h2
    rw [List.length_append] at e1 e2
    rw [List.length_map] at e2
    omega
theorem merge_found (f : Int → V) : ∀ (ns : List Int) (acc : List (Key × V)) (ks : List Int), acc.map (·.1) = ks.map (Sum.inl : Int → Key) → ks.Nodup → ∃ ks' : List Int, (mergeK acc (ns.map fun i => ((Sum.inl i : Key), f i))).map (·.1) = ks'.map (Sum.inl : Int → Key) ∧ ks'.Nodup ∧ ∀ x, x ∈ ks' ↔ x ∈ ks ∨ x ∈ ns
  | [], acc, ks, h1, h2 => ⟨ks, h1, h2, fun x => by simp⟩
  | n :: r, acc, ks, h1, h2 => by
    obtain ⟨ks', g1, g2, g3⟩ := merge_found f r (putK acc (Sum.inl n) (f n)) (addK ks n) (putK_keys h1) (nd_addK h2)
    refine ⟨ks', g1, g2, fun x => ?_⟩
    rw [g3, mem_addK, List.mem_cons, or_assoc]
def spApart : Sp := fun as H Q _ => ∃ (Vt R U D : Addr) (kvs : List (Key × V)) (vs : List Int) (ls : List (Int × Int)) (up lo : Int → Option Int), as = [.ref Vt, .ref R, .ref U, .ref D] ∧ VL H Vt vs ∧ H R = some (.dK kvs) ∧ RowsV [] H kvs ls vs ∧ MapAt H U vs up ∧ MapAt H D vs lo ∧
  ShOk vs ls ∧ vs.length < 64 ∧ Mt vs ls up lo ∧ Full vs ls up lo ∧ ∀ H' p, Same H H' → VL H' p (apartL vs ls up lo) → IsApart vs ls lo (apartL vs ls up lo) → Q (.ref p) H'
def pickI (p : Int → Bool) (x : Int) : Option V := if p x = true then some (.int x) else none
theorem pickI_yes {p : Int → Bool} {x : Int} (h : p x = true) : pickI p x = some (.int x) := if_pos h
theorem pickI_no {p : Int → Bool} {x : Int} (h : ¬ p x = true) : pickI p x = none := if_neg h
theorem sel_yes {vs : List Int} {i : Nat} {y : Int} {p : Int → Bool} (hy : vs[i]? = some y) (h : p y = true) : vs[i]?.bind (pickI p) = some (.int y) := by
  rw [hy]
  show (if p y = true then some (V.int y) else none) = _
  rw [if_pos h]
theorem sel_no {vs : List Int} {i : Nat} {y : Int} {p : Int → Bool} (hy : vs[i]? = some y) (h : ¬ p y = true) : vs[i]?.bind (pickI p) = none := by
  rw [hy]
  show (if p y = true then some (V.int y) else none) = _
  rw [if_neg h]
theorem pickI_map (p : Int → Bool) : ∀ vs : List Int, vs.filterMap (pickI p) = (vs.filter p).map V.int
  | [] => rfl
  | x :: r => by
    have h := pickI_map p r
    by_cases e : p x = true
    · rw [List.filterMap_cons, List.filter_cons, if_pos e, pickI_yes e]
      show V.int x :: r.filterMap (pickI p) = _
      rw [h]
      rfl
    · rw [List.filterMap_cons, List.filter_cons, if_neg e, pickI_no e]
      exact h
section
variable {P : Program} {w : World} {K : PySem.W.Frag} {mg : Str → Option Value} {base : Heap}
theorem ok_apart {f : Addr} {fd : FuncData} (T : Txt K mg) (F : Fun K "apart_of" "apart_of" s_apart_of f fd) : FnOk P w K mg base CX0 1 f fd ["versions", "rows", "uppers", "lowers"] spApart := by
  refine F.ok sc_apart_of (fun vs H Q E h => ?_) (fun cdv A outer s H vs Q E hr h => ?_)
  · obtain ⟨Vt, R, U, D, kvs, vs, ls, up, lo, rfl, _⟩ := h
    rfl
  · obtain ⟨Vt, R, U, D, kvs, vs, ls, up, lo, rfl, hV, eR, rv, mU, mD, S, hl, M, Fu, q⟩ := h
    have hu := hu_of hr
    have hV' : H Vt = some (.tup (vs.map V.int)) := hV
    obtain ⟨uk, uks, eU, u2, u3, u4, u5⟩ := id mU
    obtain ⟨dk, dks, eD, d2, d3, d4, d5⟩ := id mD
    refine ⟨_,
      (pss_cons
        (ps_setLc (i := 4) (own := [("version", 7)]) (g := (gName 7)) rfl sc_apart_of.nd rfl rfl (sw_true rfl rfl rfl (by decide +kernel)) (pi_tup (pv 0)) (blkOk_by (own := [("version", 7)]) (N := N_apart_of) (sc := defScope s_apart_of) (by decide +kernel)) (fun _ _ _ _ _ => (pg_name (i := 7) sc_apart_of.nd rfl (.inl rfl))) (fun _ _ _ _ _ => (pts_one (pt_cmp (pc_dnotin hu (pv 7) (pv 3))))) (fun _ _ _ _ _ => (pv 7)))
      (pss_cons
        (ps_set (i := 5) sc_apart_of.nd rfl (.inr rfl) (pe_dc (own := [("version", 7)]) (g := (gName 7)) rfl sc_apart_of.nd (pi_list (pv 4)) (blkOk_by (own := [("version", 7)]) (N := N_apart_of) (sc := defScope s_apart_of) (by decide +kernel)) (fun _ _ _ _ _ => (pg_name (i := 7) sc_apart_of.nd rfl (.inl rfl))) (fun _ _ _ _ _ => pts_nil) (fun _ _ _ _ _ => (pv 7)) (fun _ _ _ _ _ => pe_bl)))
      (pss_cons
        (ps_set (i := 6) sc_apart_of.nd rfl (.inr rfl) pe_dnewK)
      (pss_cons
        (ps_while PassesOwn.never (p_truth (pv 4) (by intro _; rfl))
          (pss_cons
            (ps_set (i := 7) sc_apart_of.nd rfl (.inl rfl) (pe_bm0 PySem.F.plainAttrs_list PySem.F.slot_list_pop PySem.F.type_list_pop mt_pop (pv 4)))
          (pss_one
            (ps_for PassesOwn.never rfl (pi_list (pe_slice sl_list (pe_dget hu (pv 1) (pv 7) (fun _ _ => rfl)) po_none (po_some (pe_un un_neg pe_int)))) (pg_name (i := 8) sc_apart_of.nd rfl (.inl rfl))
              (pss_one
                (ps_if (pt_cmp (pc_dnotin hu (pv 8) (pv 6)))
                  (pss_cons
                    (ps_dput hu (pv 6) (pv 8) pe_bl rfl)
                  (pss_one
                    (ps_if (pt_cmp (pc_dnotin hu (pe_dget hu (pv 2) (pv 8) (fun _ _ => rfl)) (pv 5)))
                      (pss_cons
                        (ps_dput hu (pv 5) (pe_dget hu (pv 2) (pv 8) (fun _ _ => rfl)) pe_bl rfl)
                      (pss_one
                        (ps_expr (pe_bm PySem.F.plainAttrs_list PySem.F.slot_list_append PySem.F.type_list_append mt_append (pv 4) (pa_cons (pe_dget hu (pv 2) (pv 8) (fun _ _ => rfl)) pa_nil)))))
                      pss_nil)))
                  pss_nil))))))
      (pss_one
        (ps_ret (pe_callTy (r := rTupOf K) c_tupOf (by rfl) T.n_tuple (by decide +kernel) (pa_cons (pe_lc (own := [("version", 7)]) (g := (gName 7)) rfl sc_apart_of.nd (pi_tup (pv 0)) (blkOk_by (own := [("version", 7)]) (N := N_apart_of) (sc := defScope s_apart_of) (by decide +kernel)) (fun _ _ _ _ _ => (pg_name (i := 7) sc_apart_of.nd rfl (.inl rfl))) (fun _ _ _ _ _ => (pts_one (PW.pt (pw_and (pt_cmp (pc_din hu (pv 7) (pv 5))) (pw_and1 (pt_cmp (pc_dnotin hu (pv 7) (pv 6)))))))) (fun _ _ _ _ _ => (pv 7))) pa_nil))))))))
      , ?_⟩
    rw [show L2.start N_apart_of [V.ref Vt, V.ref R, V.ref U, V.ref D] = [some (.ref Vt), some (.ref R), some (.ref U), some (.ref D), none, none, none, none, none] from rfl]
    walk_at "x"
    refine lcp_sel (walk_tup (K := K) (a := Vt) (xs := vs.map V.int)) [] (fun i => vs[i]?.bind (pickI fun x => (lo x).isNone)) (by rw [List.length_map]; omega) (fun H' k => .of (k _ _ (by simp) hV')) ?_ (by simp) ?_
    · rintro i x H1 H2 Rr R0 hi k1 ⟨rfl, hx⟩ h1 h2
      obtain ⟨y, hy, rfl⟩ := map_at hx
      have eD1 := k1 _ _ (by simp) eD
      refine w_name ⟨rfl, ?_⟩
      walk_at "g"
      rw [MapAt.in (vs := vs) d5 y]
      refine w_itNB (fun hb => ?_) (fun hb => ?_)
      · walk_at "g"
        exact h1 _ _ (sel_yes (p := fun x => (lo x).isNone) hy (by rw [Option.isNone_iff_eq_none]; simpa using hb)) Kp.refl
      · exact h2 _ (sel_no (p := fun x => (lo x).isNone) hy (fun z => by rw [Option.isNone_iff_eq_none] at z; rw [z] at hb; cases hb)) Kp.refl
    · intro Wy H1 hW k1' eW
      rw [List.length_map, range_fm, pickI_map] at eW
      have eW' : H1 Wy = some (.lst ((freeL vs lo).map V.int)) := eW
      have k1 := k1'.same
      have fll : (freeL vs lo).length ≤ vs.length := List.length_filter_le _ _
      walk_at "g"
      refine dcp_map (walk_list (K := K) (a := Wy) (xs := (freeL vs lo).map V.int)) [] ((freeL vs lo).map fun x => ((Sum.inl x : Key), V.bl true)) (by simp) (by rw [List.length_map]; omega) (fun H' k => .of (k _ _ (by simp) eW')) ?_ (by simp) ?_
      · rintro i x H2 H3 Rr hi k2 ⟨rfl, hx⟩ h1
        obtain ⟨y, hy, rfl⟩ := map_at hx
        refine w_name ⟨rfl, ?_⟩
        walk_at "g"
        exact h1 (Sum.inl y, .bl true) _ (by rw [List.getElem?_map, hy]; rfl) Kp.refl
      · intro Ld H2 hL k2' eL
        have k2 := k2'.same
        obtain ⟨Lk0, l1, l2, l3⟩ := merge_found (fun _ => V.bl true) (freeL vs lo) [] [] rfl List.nodup_nil
        walk_at "g"
        refine w_new fun Rd H3 hR eRd k3 => ?_
        have nWL : Wy ≠ Ld := ne_of_none eW hL
        have nWR : Wy ≠ Rd := ne_of_none (k2 _ _ eW) hR
        have nLR : Ld ≠ Rd := ne_of_none eL hR
        have k03 : Same H H3 := Same.trans k1 (Same.trans k2 k3)
        have fW : H Wy = none := hW
        have fL : H Ld = none := k1.free hL
        have fR : H Rd = none := k1.free (k2.free hR)
        have off : ∀ {b : Addr} {o : HO}, H b = some o → b ∉ [Wy, Ld, Rd] := fun {b o} e => by simp [ne_of_none e fW, ne_of_none e fL, ne_of_none e fR]
        have eW3 := k3 _ _ (k2 _ _ eW')
        walk_at "g"
        refine w_whileN (fun m σ H' => ∃ (Lk Rk ways : List Int) (y7 y8 : Option V), σ = [some (.ref Vt), some (.ref R), some (.ref U), some (.ref D), some (.ref Wy), some (.ref Ld), some (.ref Rd), y7, y8] ∧ m = ways.length + (vs.length - Lk.length) ∧ Apt vs ls up lo Lk Rk ways (fun _ => False) ∧ Kp [Wy, Ld, Rd] H3 H' ∧ FoundAt H' Ld Lk ∧ FoundAt H' Rd Rk ∧ H' Wy = some (.lst (ways.map V.int)) ∧ ways.length + (vs.length - Lk.length) ≤ 200) ((freeL vs lo).length + (vs.length - Lk0.length)) ?_ ?_
        · refine ⟨Lk0, [], freeL vs lo, _, _, rfl, rfl, ⟨l2, List.nodup_nil, fun x hx e => (l3 x).mpr (.inr (mem_freeL.mpr ⟨hx, e⟩)), fun x hx => ?_, by simp, fun x hx => (l3 x).mpr (.inr hx), fun x hx hn => ?_⟩, Kp.refl, ⟨⟨_, k3 _ _ eL, l1⟩, l2⟩, ⟨⟨[], eRd, rfl⟩, List.nodup_nil⟩, eW3, by omega⟩
          · rcases (l3 x).mp hx with h | h
            · cases h
            · exact ⟨(mem_freeL.mp h).1, .free (mem_freeL.mp h).1 (mem_freeL.mp h).2⟩
          · rcases (l3 x).mp hx with h | h
            · cases h
            · exact absurd h hn
        · rintro m σ H4 ⟨Lk, Rk, ways, y7, y8, rfl, rfl, ap, k4, FL, FR', e4, hm200⟩
          walk_at "g"
          rcases List.eq_nil_or_concat ways with rfl | ⟨rest, u, rfl⟩
          · obtain ⟨hLi, hRi⟩ := ap.end'
            obtain ⟨⟨lk, eL4, hlk⟩, _⟩ := FL
            obtain ⟨⟨rk, eR4, hrk⟩, _⟩ := FR'
            have eV4 := k4 _ _ (off hV') (k03 _ _ hV')
            refine (iteF ?_ : if false = true then _ else _)
            walk_at "g"
            refine lcp_sel (walk_tup (K := K) (a := Vt) (xs := vs.map V.int)) [] (fun i => vs[i]?.bind (pickI (apartB vs ls up lo))) (by rw [List.length_map]; omega) (fun H' k => .of (k _ _ (by simp) eV4)) ?_ (by simp) ?_
            · rintro i x H5 H6 Rr R0 hi k5 ⟨rfl, hx⟩ h1 h2
              obtain ⟨y, hy, rfl⟩ := map_at hx
              have eL5 := k5 _ _ (by simp) eL4
              have eR5 := k5 _ _ (by simp) eR4
              refine w_name ⟨rfl, ?_⟩
              walk_at "g"
              rw [val_keys hlk y]
              refine w_ite (fun hz => ?_) (fun hz => ?_)
              · walk_at "g"
                rw [val_keys hrk y]
                refine w_itN (fun hz2 => ?_) (fun hz2 => ?_)
                · walk_at "g"
                  exact h1 _ _ (sel_yes hy (apartB_iff.mpr ⟨(hLi y).mp hz, fun z => hz2 ((hRi y).mpr z)⟩)) Kp.refl
                · exact h2 _ (sel_no hy (fun z => (apartB_iff.mp z).2 ((hRi y).mp hz2))) Kp.refl
              · walk_at "g"
                exact h2 _ (sel_no hy (fun z => hz ((hLi y).mpr (apartB_iff.mp z).1))) Kp.refl
            · intro G H5 hG k5' eG
              rw [List.length_map, range_fm, pickI_map] at eG
              have eG' : H5 G = some (.lst ((apartL vs ls up lo).map V.int)) := eG
              walk_at "g"
              refine w_tupL (.of eG') fun p H6 hp ep k6 => ?_
              refine q H6 p (fun b o e => k6 _ _ (k5'.same _ _ (k4 _ _ (off e) (k03 _ _ e)))) ep (apart_is S M ap)
          · rw [List.concat_eq_append] at ap e4 hm200 ⊢
            rw [show (!((rest ++ [u]).map V.int).isEmpty) = true by simp]
            refine iteT (w_turn ?_)
            obtain ⟨ap1, huL⟩ := ap.pop
            have hum : u ∈ vs := (ap.lm u huL).1
            rw [List.map_append] at e4
            have e4' : H4 Wy = some (.lst (rest.map V.int ++ [.int u])) := e4
            walk_at "g"
            refine w_pop e4' fun H5 e5 o5 => ?_
            obtain ⟨a, ys, v1, v2, v3, _⟩ := rv u hum
            have k5 : Kp [Wy, Ld, Rd] H3 H5 := k4.trans (o5.kp (by simp))
            have eR5 := k5 _ _ (off eR) (k03 _ _ eR)
            have v2' := k5 _ _ (off v2) (k03 _ _ v2)
            walk_at "g"
            refine w_slL (.of v2') fun Z H6 hZ eZ k6 => ?_
            rw [cut_last, ← List.map_dropLast] at eZ
            have k6' : Kp [Wy, Ld, Rd] H3 H6 := k5.trans (Kp.of k6)
            obtain ⟨⟨lk, eL4, hlk⟩, nL4⟩ := FL
            obtain ⟨⟨rk, eR4, hrk⟩, nR4⟩ := FR'
            have eL5 := o5.get nWL.symm eL4
            have eRd5 := o5.get nWR.symm eR4
            have nZ : Z ∉ [Wy, Ld, Rd] := by simp [(ne_of_none e5 hZ).symm, (ne_of_none eL5 hZ).symm, (ne_of_none eRd5 hZ).symm]
            have rl : rest.length + 1 + (vs.length - Lk.length) ≤ 200 := by
              rw [List.length_append] at hm200
              simpa using hm200
            walk_at "g"
            refine lp_list (xs := ys.dropLast.map V.int) (fun i σ H' => ∃ (Lk' Rk' ways' : List Int) (y8 : Option V), σ = [some (.ref Vt), some (.ref R), some (.ref U), some (.ref D), some (.ref Wy), some (.ref Ld), some (.ref Rd), some (.int u), y8] ∧ ways'.length + (vs.length - Lk'.length) ≤ rest.length + (vs.length - Lk.length) ∧ Apt vs ls up lo Lk' Rk' ways' (fun w => w = u) ∧ u ∈ Lk' ∧ (∀ l ∈ ys.dropLast.take i, l ∈ Rk') ∧ Kp [Wy, Ld, Rd] H6 H' ∧ FoundAt H' Ld Lk' ∧ FoundAt H' Rd Rk' ∧ H' Wy = some (.lst (ways'.map V.int))) ?_ ?_ ?_ ?_
            · exact ⟨Lk, Rk, rest, _, rfl, Nat.le_refl _, ap1, huL, by simp, Kp.refl, ⟨⟨lk, k6 _ _ eL5, hlk⟩, nL4⟩, ⟨⟨rk, k6 _ _ eRd5, hrk⟩, nR4⟩, k6 _ _ e5⟩
            · rintro i σ H' _ ⟨_, _, _, _, _, _, _, _, _, k7, _⟩
              exact .of (k7 _ _ nZ eZ)
            · rintro i x σ H7 hx ⟨Lk', Rk', ways', y8, rfl, hm, ap', huL', hdone, k7, ⟨⟨lk7, eL7, hlk7⟩, nL7⟩, ⟨⟨rk7, eR7, hrk7⟩, nR7⟩, e7⟩
              obtain ⟨low, hlow, rfl⟩ := map_at hx
              have hsb : SB ls u low := (row_drop S v3 low).mp (List.mem_of_getElem? hlow)
              have hlv : low ∈ vs := hsb.1.mem S hum
              have k37 : Kp [Wy, Ld, Rd] H3 H7 := k6'.trans k7
              have eU7 := k37 _ _ (off eU) (k03 _ _ eU)
              obtain ⟨w', ew⟩ := Fu.some (ap'.lm u huL').2 hsb
              have evw : valV uk (Sum.inl low) = some (.int w') := by rw [u5, ew]; rfl
              have lR : rk7.length < sizeLine := small1000 (by have := MapAt.len (p := Rd) (vs := vs) hrk7 nR7 (fun x hx => (ap'.rm x hx).1); omega)
              have lL : lk7.length < sizeLine := small1000 (by have := MapAt.len (p := Ld) (vs := vs) hlk7 nL7 (fun x hx => (ap'.lm x hx).1); omega)
              have lLk : Lk'.length ≤ vs.length := nodup_le _ _ ap'.nl fun x hx => (ap'.lm x hx).1
              have tk : ∀ l ∈ ys.dropLast.take (i + 1), l ∈ ys.dropLast.take i ∨ l = low := fun l hl' => by
                rw [List.take_add_one, hlow] at hl'
                simpa using hl'
              walk_at "g"
              rw [val_keys hrk7 low]
              refine w_itN (fun hc => ?_) (fun hc => ?_)
              · walk_at "g"
                refine w_dputI eR7 lR fun H8 e8 o8 => ?_
                have eL8 := o8.get nLR eL7
                have eU8 := o8.get (ne_of_none eU fR) eU7
                have e7' := o8.get nWR e7
                walk_at "g"
                rw [val_keys hlk7 w']
                refine w_itN (fun hd => ?_) (fun hd => ?_)
                · walk_at "g"
                  refine w_dputI eL8 lL fun H9 e9 o9 => ?_
                  have eU9 := o9.get (ne_of_none eU fL) eU8
                  have e9' := o9.get nWL e7'
                  walk_at "g"
                  refine w_app e9' (by rw [List.length_map]; exact small1000 (by omega)) fun H10 e10 o10 => ?_
                  have ap10 := ap'.add M huL' hc hsb hlv ew (.inl rfl)
                  have la : (addK Lk' w').length = Lk'.length + 1 := by
                    unfold addK
                    rw [if_neg hd]
                    simp
                  have lb : (addK Lk' w').length ≤ vs.length := nodup_le _ _ ap10.nl fun x hx => (ap10.lm x hx).1
                  refine ⟨addK Lk' w', addK Rk' low, ways' ++ [w'], _, rfl, ?_, ap10, mem_addK.mpr (.inl huL'), fun l hl' => ?_, k7.trans ((o8.kp (by simp)).trans ((o9.kp (by simp)).trans (o10.kp (by simp)))), FoundAt.put hlk7 nL7 (o10.get nWL.symm e9), FoundAt.put hrk7 nR7 (o10.get nWR.symm (o9.get nLR.symm e8)), by rw [e10, List.map_append]; rfl⟩
                  · rw [List.length_append, la]
                    simp only [List.length_cons, List.length_nil]
                    omega
                  · rcases tk l hl' with h | h
                    · exact mem_addK.mpr (.inl (hdone l h))
                    · exact mem_addK.mpr (.inr h)
                · walk_at "g"
                  have ap10 := ap'.add (ways' := ways') M huL' hc hsb hlv ew (.inr ⟨hd, rfl⟩)
                  have la : addK Lk' w' = Lk' := if_pos hd
                  rw [la] at ap10
                  refine ⟨Lk', addK Rk' low, ways', _, rfl, hm, ap10, huL', fun l hl' => ?_, k7.trans (o8.kp (by simp)), ⟨⟨lk7, eL8, hlk7⟩, nL7⟩, FoundAt.put hrk7 nR7 e8, e7'⟩
                  rcases tk l hl' with h | h
                  · exact mem_addK.mpr (.inl (hdone l h))
                  · exact mem_addK.mpr (.inr h)
              · walk_at "g"
                refine ⟨Lk', Rk', ways', _, rfl, hm, ap', huL', fun l hl' => ?_, k7, ⟨⟨lk7, eL7, hlk7⟩, nL7⟩, ⟨⟨rk7, eR7, hrk7⟩, nR7⟩, e7⟩
                rcases tk l hl' with h | h
                · exact hdone l h
                · rw [h]; exact hc
            · rintro σ H7 ⟨Lk', Rk', ways', y8, rfl, hm, ap', huL', hdone, k7, FL7, FR7, e7⟩
              rw [List.length_map, List.take_length] at hdone
              refine ⟨ways'.length + (vs.length - Lk'.length), ?_, Lk', Rk', ways', _, _, rfl, rfl, ap'.done fun l hl' => hdone l ((row_drop S v3 l).mpr hl'), k6'.trans k7, FL7, FR7, e7, by omega⟩
              rw [List.length_append]
              simp only [List.length_cons, List.length_nil]
              omega
end
/-! ### chains -/
inductive Path (up : Int → Option Int) : Int → List Int → Prop where
  | stop {v : Int} (e : up v = none) : Path up v [v]
  | step {v u : Int} {c : List Int} (e : up v = some u) (p : Path up u c) : Path up v (v :: c)
theorem Path.det {up : Int → Option Int} {v : Int} {c d : List Int} (a : Path up v c) (b : Path up v d) : c = d := by
  induction a generalizing d with
  | stop e =>
    cases b with
    | stop _ => rfl
    | step e2 _ => rw [e] at e2; cases e2
  | step e p ih =>
    cases b with
    | stop e2 => rw [e] at e2; cases e2
    | step e2 p2 =>
      rw [e] at e2
      cases e2
      rw [ih p2]
theorem Path.head {up : Int → Option Int} {v : Int} {c : List Int} (a : Path up v c) : ∃ r, c = v :: r := by
  cases a with
  | stop _ => exact ⟨[], rfl⟩
  | step _ _ => exact ⟨_, rfl⟩
theorem Path.in {vs : List Int} {ls : List (Int × Int)} {up lo : Int → Option Int} (M : Mt vs ls up lo) {v : Int} {c : List Int} (a : Path up v c) (hv : v ∈ vs) : ∀ x ∈ c, x ∈ vs := by
  induction a with
  | @stop v e =>
    intro x hx
    have : x = v := by simpa using hx
    rw [this]
    exact hv
  | step e p ih =>
    intro x hx
    rcases List.mem_cons.mp hx with rfl | h
    · exact hv
    · exact ih (M.ok _ _ e).2.1 x h
theorem Path.rise {vs : List Int} {ls : List (Int × Int)} {up lo : Int → Option Int} (S : ShOk vs ls) (M : Mt vs ls up lo) {v : Int} {c : List Int} (a : Path up v c) : c.Pairwise (· < ·) ∧ ∀ x ∈ c, v ≤ x := by
  induction a with
  | stop _ => exact ⟨by simp, fun x hx => by simp at hx; omega⟩
  | step e p ih =>
    have lt := (M.ok _ _ e).2.2.lt S
    refine ⟨List.pairwise_cons.mpr ⟨fun x hx => ?_, ih.1⟩, fun x hx => ?_⟩
    · have := ih.2 x hx
      omega
    · rcases List.mem_cons.mp hx with h | h
      · omega
      · have := ih.2 x h
        omega
theorem Path.link {up : Int → Option Int} {v : Int} {c : List Int} (a : Path up v c) : ∀ (i : Nat) (x y : Int), c[i]? = some x → c[i + 1]? = some y → up x = some y := by
  induction a with
  | stop _ => intro i x y _ h; simp at h
  | @step v u c e p ih =>
    intro i x y h1 h2
    cases i with
    | zero =>
      obtain ⟨r, hr⟩ := p.head
      have z1 : v = x := by simpa using h1
      rw [hr] at h2
      have z2 : u = y := by simpa using h2
      rw [← z1, ← z2]
      exact e
    | succ i =>
      exact ih i x y (by simpa using h1) (by simpa using h2)
theorem Path.succ {up : Int → Option Int} {v : Int} {c : List Int} (a : Path up v c) {y x : Int} (hy : y ∈ c) (e : up y = some x) : x ∈ c := by
  induction a with
  | @stop v e2 =>
    have : y = v := by simpa using hy
    rw [this, e2] at e
    cases e
  | step e2 p ih =>
    rcases List.mem_cons.mp hy with rfl | h
    · rw [e2] at e
      cases e
      obtain ⟨r, hr⟩ := p.head
      rw [hr]
      simp
    · exact List.mem_cons_of_mem _ (ih h)
theorem Path.pred {up : Int → Option Int} {v : Int} {c : List Int} (a : Path up v c) {x : Int} (hx : x ∈ c) : x = v ∨ ∃ y ∈ c, up y = some x := by
  induction a with
  | stop _ => exact .inl (by simpa using hx)
  | @step v u c e p ih =>
    rcases List.mem_cons.mp hx with h | h
    · exact .inl h
    · rcases ih h with h | ⟨y, hy, e2⟩
      · exact .inr ⟨v, by simp, by rw [h]; exact e⟩
      · exact .inr ⟨y, List.mem_cons_of_mem _ hy, e2⟩
theorem Path.uniq {vs : List Int} {ls : List (Int × Int)} {up lo : Int → Option Int} (S : ShOk vs ls) (M : Mt vs ls up lo) {r1 r2 : Int} {c1 c2 : List Int} (a : Path up r1 c1) (b : Path up r2 c2) (h1 : lo r1 = none) (h2 : lo r2 = none) : ∀ (n : Nat) (x : Int), x.toNat ≤ n → x ∈ vs → x ∈ c1 → x ∈ c2 → r1 = r2 := by
  intro n
  induction n with
  | zero =>
    intro x hn hv m1 m2
    rcases a.pred m1 with rfl | ⟨y, hy, e⟩
    · rcases b.pred m2 with h | ⟨z, _, e2⟩
      · exact h
      · rw [(M.iff _ _).mp e2] at h1; cases h1
    · have g := M.ok _ _ e
      have := g.2.2.lt S
      have := S.v0 _ g.1
      omega
  | succ n ih =>
    intro x hn hv m1 m2
    rcases a.pred m1 with rfl | ⟨y, hy, e⟩
    · rcases b.pred m2 with h | ⟨z, _, e2⟩
      · exact h
      · rw [(M.iff _ _).mp e2] at h1; cases h1
    · rcases b.pred m2 with rfl | ⟨z, hz, e2⟩
      · rw [(M.iff _ _).mp e] at h2; cases h2
      · have g1 := (M.iff _ _).mp e
        have g2 := (M.iff _ _).mp e2
        rw [g1] at g2
        cases g2
        have g := M.ok _ _ e
        have := g.2.2.lt S
        have := S.v0 _ g.1
        exact ih y (by omega) g.1 hy hz
theorem Path.root {vs : List Int} {ls : List (Int × Int)} {up lo : Int → Option Int} (S : ShOk vs ls) (M : Mt vs ls up lo) : ∀ (n : Nat) (x : Int), x.toNat ≤ n → x ∈ vs → ∃ r ∈ freeL vs lo, ∀ c, Path up r c → x ∈ c := by
  intro n
  induction n with
  | zero =>
    intro x hn hv
    cases e : lo x with
    | none => exact ⟨x, mem_freeL.mpr ⟨hv, e⟩, fun c p => by obtain ⟨r, rfl⟩ := p.head; simp⟩
    | some y =>
      have g := M.ok _ _ ((M.iff y x).mpr e)
      have := g.2.2.lt S
      have := S.v0 _ g.1
      omega
  | succ n ih =>
    intro x hn hv
    cases e : lo x with
    | none => exact ⟨x, mem_freeL.mpr ⟨hv, e⟩, fun c p => by obtain ⟨r, rfl⟩ := p.head; simp⟩
    | some y =>
      have e2 := (M.iff y x).mpr e
      have g := M.ok _ _ e2
      have := g.2.2.lt S
      have := S.v0 _ g.1
      obtain ⟨r, hr, h⟩ := ih y (by omega) g.1
      exact ⟨r, hr, fun c p => p.succ (h c p) e2⟩
/-- a cover, as the law looks at it -/
structure IsCov (vs : List Int) (ls : List (Int × Int)) (qs : List (Int × List Int)) (aps : List Int) : Prop where
  hd : ∀ q ∈ qs, ∃ r, q.2 = q.1 :: r
  rise : ∀ q ∈ qs, q.2.Pairwise (· < ·)
  link : ∀ q ∈ qs, ∀ (i : Nat) (a b : Int), q.2[i]? = some a → q.2[i + 1]? = some b → Bel ls b a
  first : (qs.map (·.1)).Pairwise (· < ·)
  nd : (qs.map (·.2)).flatten.Nodup
  mem : ∀ x, x ∈ (qs.map (·.2)).flatten ↔ x ∈ vs
  ar : aps.Pairwise (· < ·)
  am : ∀ x ∈ aps, x ∈ vs
  anti : ∀ a ∈ aps, ∀ b ∈ aps, a ≠ b → ¬ Bel ls a b
  al : aps.length = qs.length
/-- what cover tells: one thing alone -/
def CovR (vs : List Int) (ls : List (Int × Int)) (qs : List (Int × List Int)) (aps : List Int) : Prop := ∃ up lo, FR (lowsF ls) vs.reverse (fun _ => none) (fun _ => none) up lo ∧ Mt vs ls up lo ∧ qs.map (·.1) = freeL vs lo ∧ (∀ q ∈ qs, Path up q.1 q.2) ∧ aps = apartL vs ls up lo ∧ IsApart vs ls lo aps
theorem paths_det {up : Int → Option Int} : ∀ (qs rs : List (Int × List Int)), qs.map (·.1) = rs.map (·.1) → (∀ q ∈ qs, Path up q.1 q.2) → (∀ q ∈ rs, Path up q.1 q.2) → qs = rs
  | [], [], _, _, _ => rfl
  | [], _ :: _, h, _, _ => by simp at h
  | _ :: _, [], h, _, _ => by simp at h
  | ⟨a, c⟩ :: qs, ⟨b, d⟩ :: rs, h, h1, h2 => by
    rw [List.map_cons, List.map_cons, List.cons.injEq] at h
    obtain ⟨e, h⟩ := h
    have e' : a = b := e
    subst e'
    have p1 := h1 (a, c) (by simp)
    have p2 := h2 (a, d) (by simp)
    have e3 : c = d := p1.det p2
    subst e3
    rw [paths_det qs rs h (fun q hq => h1 q (List.mem_cons_of_mem _ hq)) (fun q hq => h2 q (List.mem_cons_of_mem _ hq))]
theorem CovR.det {vs : List Int} {ls : List (Int × Int)} {qs rs : List (Int × List Int)} {aps bps : List Int} (a : CovR vs ls qs aps) (b : CovR vs ls rs bps) : qs = rs ∧ aps = bps := by
  obtain ⟨up, lo, f, m, e1, p, e2, _⟩ := a
  obtain ⟨up', lo', f', m', e1', p', e2', _⟩ := b
  obtain ⟨rfl, rfl⟩ := f.det f'
  exact ⟨paths_det qs rs (e1.trans e1'.symm) p p', e2.trans e2'.symm⟩
theorem CovR.is {vs : List Int} {ls : List (Int × Int)} {qs : List (Int × List Int)} {aps : List Int} (S : ShOk vs ls) (a : CovR vs ls qs aps) : IsCov vs ls qs aps := by
  obtain ⟨up, lo, f, M, e1, p, _, A⟩ := a
  have fr : ∀ q ∈ qs, q.1 ∈ vs ∧ lo q.1 = none := fun q hq => mem_freeL.mp (by rw [← e1]; exact List.mem_map_of_mem hq)
  have first : (qs.map (·.1)).Pairwise (· < ·) := by
    rw [e1]
    exact S.vr.filter _
  refine ⟨fun q hq => (p q hq).head, fun q hq => ((p q hq).rise S M).1, fun q hq i a b h1 h2 => (M.ok _ _ ((p q hq).link i a b h1 h2)).2.2.1, first, ?_, fun x => ?_, A.rise, A.mem, A.anti, ?_⟩
  · unfold List.Nodup
    rw [List.pairwise_flatten]
    refine ⟨fun c hc => ?_, ?_⟩
    · obtain ⟨q, hq, rfl⟩ := List.mem_map.mp hc
      exact rise_nodup ((p q hq).rise S M).1
    · rw [List.pairwise_map]
      rw [List.pairwise_map] at first
      refine List.Pairwise.imp_of_mem (fun {q r} hq hr hlt x hx y hy z => ?_) first
      subst z
      have := (p q hq).uniq S M (p r hr) (fr q hq).2 (fr r hr).2 x.toNat x (Nat.le_refl _) ((p q hq).in M (fr q hq).1 x hx) hx hy
      omega
  · rw [List.mem_flatten]
    constructor
    · rintro ⟨c, hc, hx⟩
      obtain ⟨q, hq, rfl⟩ := List.mem_map.mp hc
      exact (p q hq).in M (fr q hq).1 x hx
    · intro hx
      obtain ⟨r, hr, h⟩ := Path.root S M x.toNat x (Nat.le_refl _) hx
      rw [← e1] at hr
      obtain ⟨q, hq, rfl⟩ := List.mem_map.mp hr
      exact ⟨q.2, List.mem_map_of_mem hq, h q.2 (p q hq)⟩
  · rw [A.len, ← e1, List.length_map]
def spCover : Sp := fun as H Q _ => ∃ (t : Addr) (ns : List Int) (ps : List (Addr × Int × Int)), as = [.ref t] ∧ ShAt H t ns ps ∧ ShOk ns (ps.map (·.2)) ∧ ns.length < 64 ∧ ps.length ≤ 100000 ∧
  ∀ H' p a b (css : List (Addr × Int × List Int)) aps, Same H H' → H p = none → H' p = some (.tup [.ref a, .ref b]) → H' a = some (.tup (css.map fun q => .ref q.1)) → (∀ q ∈ css, H' q.1 = some (.tup (q.2.2.map V.int))) → VL H' b aps → CovR ns (ps.map (·.2)) (css.map (·.2)) aps → Q (.ref p) H'
section
variable {P : Program} {w : World} {K : PySem.W.Frag} {mg : Str → Option Value} {base : Heap}
theorem ok_cover {f fS fG fP fA : Addr} {fd fdS fdG fdP fdA : FuncData} (T : Txt K mg) (F : Fun K "cover" "cover" s_cover f fd) (D_spans : Df K mg "spans" s_spans ["shape"] fS fdS) (D_give_way : Df K mg "give_way" s_give_way ["low", "came", "uppers", "lowers"] fG fdG)
    (D_pair_up : Df K mg "pair_up" s_pair_up ["version", "rows", "uppers", "lowers"] fP fdP) (D_apart_of : Df K mg "apart_of" s_apart_of ["versions", "rows", "uppers", "lowers"] fA fdA) : FnOk P w K mg base CX0 3 f fd ["shape"] spCover := by
  have G_spans : FnOk P w K mg base CX0 1 fS fdS ["shape"] spSpans := ok_spans T D_spans.fn
  have G_pair_up : FnOk P w K mg base CX0 2 fP fdP ["version", "rows", "uppers", "lowers"] spPair := ok_pair T D_pair_up.fn D_give_way
  have G_apart_of : FnOk P w K mg base CX0 1 fA fdA ["versions", "rows", "uppers", "lowers"] spApart := ok_apart T D_apart_of.fn
  refine F.ok sc_cover (fun vs H Q E h => ?_) (fun cdv A outer s H vs Q E hr h => ?_)
  · obtain ⟨t, ns, ps, rfl, _⟩ := h
    rfl
  · obtain ⟨t, ns, ps, rfl, hS, S, hl, hl2, q⟩ := h
    have hu := hu_of hr
    obtain ⟨Vt, Lt, et, ev, _⟩ := id hS
    have ev' : H Vt = some (.tup (ns.map V.int)) := ev
    refine ⟨_,
      (pss_cons
        (ps_set (i := 1) sc_cover.nd rfl (.inl rfl) (pe_ix (r := rIxT K) ix_tup (pv 0) pe_int (fun _ _ => rfl)))
      (pss_cons
        (ps_set (i := 2) sc_cover.nd rfl (.inl rfl) (pe_call G_spans (hr.mono (by omega)) (by rfl) D_spans.g D_spans.fn.kp D_spans.b .nil pass0 (pa_cons (pv 0) pa_nil)))
      (pss_cons
        (ps_set (i := 3) sc_cover.nd rfl (.inl rfl) pe_dnewK)
      (pss_cons
        (ps_set (i := 4) sc_cover.nd rfl (.inl rfl) pe_dnewK)
      (pss_cons
        (ps_for PassesOwn.never rfl (pi_tup (pv 1)) (pg_name (i := 5) sc_cover.nd rfl (.inl rfl))
          (pss_one
            (ps_expr (pe_call G_pair_up (hr.mono (by omega)) (by rfl) D_pair_up.g D_pair_up.fn.kp D_pair_up.b .nil pass0 (pa_cons (pv 5) (pa_cons (pv 2) (pa_cons (pv 3) (pa_cons (pv 4) pa_nil))))))))
      (pss_cons
        (ps_set (i := 6) sc_cover.nd rfl (.inl rfl) (pe_lst pa_nil))
      (pss_cons
        (ps_for PassesOwn.never rfl (pi_tup (pv 1)) (pg_name (i := 5) sc_cover.nd rfl (.inl rfl))
          (pss_one
            (ps_if (pt_cmp (pc_dnotin hu (pv 5) (pv 4)))
              (pss_cons
                (ps_set (i := 7) sc_cover.nd rfl (.inl rfl) (pe_lst (pa_cons (pv 5) pa_nil)))
              (pss_cons
                (ps_while PassesOwn.never (pt_cmp (pc_din hu (pe_ix (r := rIxL K) ix_list (pv 7) (pe_un un_neg pe_int) (fun _ _ => rfl)) (pv 3)))
                  (pss_one
                    (ps_expr (pe_bm PySem.F.plainAttrs_list PySem.F.slot_list_append PySem.F.type_list_append mt_append (pv 7) (pa_cons (pe_dget hu (pv 3) (pe_ix (r := rIxL K) ix_list (pv 7) (pe_un un_neg pe_int) (fun _ _ => rfl)) (fun _ _ => rfl)) pa_nil)))))
              (pss_one
                (ps_expr (pe_bm PySem.F.plainAttrs_list PySem.F.slot_list_append PySem.F.type_list_append mt_append (pv 6) (pa_cons (pe_callTy (r := rTupOf K) c_tupOf (by rfl) T.n_tuple (by decide +kernel) (pa_cons (pv 7) pa_nil)) pa_nil))))))
              pss_nil)))
      (pss_one
        (ps_ret (pe_tup (pa_cons (pe_callTy (r := rTupOf K) c_tupOf (by rfl) T.n_tuple (by decide +kernel) (pa_cons (pv 6) pa_nil)) (pa_cons (pe_call G_apart_of (hr.mono (by omega)) (by rfl) D_apart_of.g D_apart_of.fn.kp D_apart_of.b .nil pass0 (pa_cons (pv 1) (pa_cons (pv 2) (pa_cons (pv 3) (pa_cons (pv 4) pa_nil))))) pa_nil))))))))))))
      , ?_⟩
    rw [show L2.start N_cover [V.ref t] = [some (.ref t), none, none, none, none, none, none, none] from rfl]
    walk_at "x"
    refine ⟨t, ns, ps, rfl, hS, S, hl, hl2, fun H1 R k1 hR RA => ?_⟩
    obtain ⟨kvs, eR, hks, _, rv0⟩ := RA
    walk_at "g"
    refine w_new fun U H2 hU eU k2 => ?_
    walk_at "g"
    refine w_new fun D H3 hD eD k3 => ?_
    have nUD : U ≠ D := ne_of_none eU hD
    have k13 : Same H1 H3 := Same.trans k2 k3
    have k03 : Same H H3 := Same.trans k1 k13
    have fD1 : H1 D = none := k2.free hD
    have nRU : R ≠ U := ne_of_none eR hU
    have nRD : R ≠ D := ne_of_none eR fD1
    have rv3 : RowsV [U, D] H3 kvs (ps.map (·.2)) ns := fun v hv => by
      obtain ⟨a, ys, v1, v2, v3, _⟩ := rv0 v hv
      exact ⟨a, ys, v1, k13 _ _ v2, v3, by simp [ne_of_none v2 hU, ne_of_none v2 fD1]⟩
    have fU : H U = none := k1.free hU
    have fD : H D = none := k1.free fD1
    have ev3 := k03 _ _ ev'
    have nV : Vt ∉ [U, D] := by simp [ne_of_none ev' fU, ne_of_none ev' fD]
    walk_at "g"
    refine lp_tup (xs := ns.map V.int) (fun i σ H' => ∃ (y5 : Option V) (up lo : Int → Option Int), σ = [some (.ref t), some (.ref Vt), some (.ref R), some (.ref U), some (.ref D), y5, none, none] ∧ Kp [U, D] H3 H' ∧ MapAt H' U ns up ∧ MapAt H' D ns lo ∧ FR (lowsF (ps.map (·.2))) (ns.take i).reverse (fun _ => none) (fun _ => none) up lo ∧ Mt ns (ps.map (·.2)) up lo ∧ (∀ x, (lo x).isSome = true → x ∈ ns.take i) ∧ ∀ x ∈ ns.take i, (lo x).isSome = true ∨ ∃ L R, Cl (ps.map (·.2)) up L R ∧ L x) ?_ ?_ ?_ ?_
    · exact ⟨_, fun _ => none, fun _ => none, rfl, Kp.refl, ⟨[], [], k3 _ _ eU, rfl, List.nodup_nil, by simp, fun _ => rfl⟩, ⟨[], [], eD, rfl, List.nodup_nil, by simp, fun _ => rfl⟩, .nil, ⟨fun l u => ⟨(fun z => nomatch z), (fun z => nomatch z)⟩, (fun l u z => nomatch z)⟩, (fun x z => nomatch z), by simp⟩
    · rintro i σ H' _ ⟨_, _, _, _, k4, _⟩
      exact .of (k4 _ _ nV ev3)
    · rintro i y σ H4 hy ⟨y5, up, lo, rfl, k4, mU, mD, fr, M, dm, full⟩
      obtain ⟨v, hv, rfl⟩ := map_at hy
      have hvn := List.mem_of_getElem? hv
      have eR4 := k4 _ _ (by simp [nRU, nRD]) (k13 _ _ eR)
      have rv4 : RowsV [] H4 kvs (ps.map (·.2)) ns := fun x hx => by
        obtain ⟨a, ys, v1, v2, v3, v4⟩ := rv3 x hx
        exact ⟨a, ys, v1, k4 _ _ v4 v2, v3, by simp⟩
      have free : lo v = none := by
        cases e : lo v with
        | none => rfl
        | some z =>
          have := take_lt S.vr hv (dm v (by rw [e]; rfl))
          omega
      walk_at "g"
      refine ⟨v, R, U, D, kvs, ns, _, up, lo, rfl, nUD, eR4, nRU, nRD, rv4, mU, mD, S, hl, M, free, hvn, fun H5 up' lo' k5 mU5 mD5 pd pr => ?_⟩
      have tk : ns.take (i + 1) = ns.take i ++ [v] := by rw [List.take_add_one, hv]; rfl
      refine ⟨_, up', lo', rfl, k4.trans k5, mU5, mD5, ?_, pd.m, fun x hx => ?_, fun x hx => ?_⟩
      · rw [tk, List.reverse_append]
        exact .snoc fr pr
      · rw [tk]
        rcases pd.d1 x hx with h | h
        · exact List.mem_append_left _ (dm x h)
        · exact List.mem_append_right _ (by simp [h])
      · rw [tk] at hx
        rcases List.mem_append.mp hx with h | h
        · rcases full x h with h | ⟨L, R', c, hL⟩
          · exact .inl (pd.d2 x h)
          · exact .inr ⟨L, R', pd.cl L R' c, hL⟩
        · have e : x = v := by simpa using h
          subst e
          exact pd.hit
    · rintro σ H4 ⟨y5, up, lo, rfl, k4, mU, mD, fr, M, dm, full⟩
      rw [List.length_map, List.take_length] at fr dm full
      obtain ⟨uk, uks, eU4, u2, u3, u4, u5⟩ := id mU
      obtain ⟨dk, dks, eD4, d2, d3, d4, d5⟩ := id mD
      have ev4 := k4 _ _ nV ev3
      have eR4 := k4 _ _ (by simp [nRU, nRD]) (k13 _ _ eR)
      have rv4 : RowsV [] H4 kvs (ps.map (·.2)) ns := fun x hx => by
        obtain ⟨a, ys, v1, v2, v3, v4⟩ := rv3 x hx
        exact ⟨a, ys, v1, k4 _ _ v4 v2, v3, by simp⟩
      have kH4 : Same H H4 := fun b o e => k4 _ _ (by simp [ne_of_none e fU, ne_of_none e fD]) (k03 _ _ e)
      walk_at "g"
      refine w_new fun Ch H5 hCh eCh k5 => ?_
      have ev5 := k5 _ _ ev4
      walk_at "g"
      refine lp_tup (xs := ns.map V.int) (fun i σ H' => ∃ (y5 y7 : Option V) (css : List (Addr × Int × List Int)), σ = [some (.ref t), some (.ref Vt), some (.ref R), some (.ref U), some (.ref D), y5, some (.ref Ch), y7] ∧ Same H4 H' ∧ css.length ≤ i ∧ H' Ch = some (.lst (css.map fun q => .ref q.1)) ∧ (∀ q ∈ css, H' q.1 = some (.tup (q.2.2.map V.int))) ∧ css.map (·.2.1) = freeL (ns.take i) lo ∧ ∀ q ∈ css, Path up q.2.1 q.2.2) ?_ ?_ ?_ ?_
      · exact ⟨_, _, [], rfl, k5, Nat.le_refl _, eCh, by simp, rfl, by simp⟩
      · rintro i σ H' _ ⟨_, _, _, _, k6, _⟩
        exact .of (k6 _ _ ev4)
      · rintro i y σ H6 hy ⟨y5, y7, css, rfl, k6, hcl, e6, hce, hcf, hcp⟩
        obtain ⟨v, hv, rfl⟩ := map_at hy
        have hvn := List.mem_of_getElem? hv
        have hi : i < ns.length := (List.getElem?_eq_some_iff.mp hv).1
        have tk : freeL (ns.take (i + 1)) lo = if (lo v).isNone = true then freeL (ns.take i) lo ++ [v] else freeL (ns.take i) lo := by
          unfold freeL
          rw [List.take_add_one, hv, List.filter_append]
          by_cases e : (lo v).isNone = true
          · rw [if_pos e]; simp [e]
          · rw [if_neg e]; simp [e]
        have eD6 := k6 _ _ eD4
        walk_at "g"
        rw [MapAt.in (vs := ns) d5 v]
        refine w_itNB (fun hb => ?_) (fun hb => ?_)
        · have isn : (lo v).isNone = true := by rw [Option.isNone_iff_eq_none]; simpa using hb
          rw [if_pos isn] at tk
          walk_at "g"
          refine w_new fun Cn H7 hCn eCn k7 => ?_
          have k47 : Same H4 H7 := Same.trans k6 k7
          have fCn : H4 Cn = none := k6.free hCn
          have nChCn : Ch ≠ Cn := ne_of_none e6 hCn
          refine w_seq ?_
          refine w_whileN (fun m σ H' => ∃ (pre : List Int) (z : Int), σ = [some (.ref t), some (.ref Vt), some (.ref R), some (.ref U), some (.ref D), some (.int v), some (.ref Ch), some (.ref Cn)] ∧ m = ns.length - pre.length ∧ Kp [Cn] H7 H' ∧ H' Cn = some (.lst ((pre ++ [z]).map V.int)) ∧ (∀ x ∈ pre ++ [z], x ∈ ns ∧ x ≤ z) ∧ (pre ++ [z]).Nodup ∧ ∀ c, Path up z c → Path up v (pre ++ c)) ns.length ⟨[], v, rfl, rfl, Kp.refl, eCn, by simp [hvn], by simp, fun c p => p⟩ ?_
          rintro m σ H8 ⟨pre, z, rfl, rfl, k8, e8, hz, hnd, hp⟩
          have k48 : Same H4 H8 := fun b o e => k8 _ _ (by simpa using ne_of_none e fCn) (k47 _ _ e)
          have eU8 := k48 _ _ eU4
          have hlast : atI ((pre ++ [z]).map V.int) (-1) = some (.int z) := by
            rw [List.map_append]
            exact atI_last _ _
          have hplen : pre.length + 1 ≤ ns.length := by
            have := nodup_le _ ns hnd fun x hx => (hz x hx).1
            simpa using this
          walk_at "g"
          rw [MapAt.in (vs := ns) u5 z]
          refine w_itB (fun hc => w_turn ?_) (fun hc => ?_)
          · obtain ⟨u, eu⟩ := Option.isSome_iff_exists.mp hc
            have evu : valV uk (Sum.inl z) = some (.int u) := by rw [u5, eu]; rfl
            have g := M.ok _ _ eu
            have lt := g.2.2.lt S
            walk_at "g"
            refine w_app e8 (by rw [List.length_map, List.length_append]; exact small1000 (by simp; omega)) fun H9 e9 o9 => ?_
            refine ⟨ns.length - (pre ++ [z]).length, by rw [List.length_append]; simp; omega, pre ++ [z], u, rfl, rfl, k8.trans (o9.kp (by simp)), by rw [e9, List.map_append (l₂ := [u])]; rfl, fun x hx => ?_, ?_, fun c p => by rw [List.append_assoc]; exact hp _ (.step eu p)⟩
            · rcases List.mem_append.mp hx with h | h
              · have := hz x h
                exact ⟨this.1, by omega⟩
              · have e : x = u := by simpa using h
                subst e
                exact ⟨g.2.1, by omega⟩
            · refine List.nodup_append.mpr ⟨hnd, by simp, fun x hx y hy e => ?_⟩
              have e2 : y = u := by simpa using hy
              have := (hz x hx).2
              omega
          · have hnone : up z = none := by simpa using hc
            have hpath : Path up v (pre ++ [z]) := hp _ (.stop hnone)
            have e6' : H8 Ch = some (.lst (css.map fun q => .ref q.1)) := k8 _ _ (by simpa using nChCn) (k7 _ _ e6)
            walk_at "g"
            refine w_tupL (.of e8) fun p H9 hp9 ep9 k9 => ?_
            have e9 := k9 _ _ e6'
            walk_at "g"
            refine w_app e9 (by rw [List.length_map]; exact small1000 (by omega)) fun H10 e10 o10 => ?_
            have fCh : H4 Ch = none := hCh
            refine ⟨_, _, css ++ [(p, v, pre ++ [z])], rfl, (Off.keep (M := []) (Kp.of (Same.trans k48 k9)) o10 fCh).same, ?_, by rw [e10, List.map_append]; rfl, fun x hx => ?_, ?_, fun x hx => ?_⟩
            · rw [List.length_append]
              simp only [List.length_cons, List.length_nil]
              omega
            · rcases List.mem_append.mp hx with h | h
              · have z1 := hce x h
                have z2 := k7 _ _ z1
                exact o10.tup e9 (k9 _ _ (k8 _ _ (by simpa using ne_of z2 eCn (fun y => nomatch y)) z2))
              · have e : x = (p, v, pre ++ [z]) := by simpa using h
                subst e
                exact o10.tup e9 ep9
            · rw [tk, List.map_append, hcf]
              rfl
            · rcases List.mem_append.mp hx with h | h
              · exact hcp x h
              · have e : x = (p, v, pre ++ [z]) := by simpa using h
                subst e
                exact hpath
        · have isn : ¬ (lo v).isNone = true := fun z => by rw [Option.isNone_iff_eq_none] at z; rw [z] at hb; cases hb
          rw [if_neg isn] at tk
          walk_at "g"
          exact ⟨_, _, css, rfl, k6, by omega, e6, hce, by rw [tk]; exact hcf, hcp⟩
      · rintro σ H6 ⟨y5, y7, css, rfl, k6, hcl, e6, hce, hcf, hcp⟩
        rw [List.length_map, List.take_length] at hcf
        walk_at "g"
        refine w_tupL (.of e6) fun a H7 ha7 ea7 k7 => ?_
        have k47 : Same H4 H7 := Same.trans k6 k7
        walk_at "g"
        refine ⟨Vt, R, U, D, kvs, ns, _, up, lo, rfl, k47 _ _ ev4, k47 _ _ eR4, rv4.kp (N := []) (Kp.of k47) (by simp), mU.kp (M := []) (Kp.of k47) (by simp), mD.kp (M := []) (Kp.of k47) (by simp), S, hl, M, full, fun H8 b k8 eb IA => ?_⟩
        walk_at "g"
        refine w_new fun p H9 hp9 ep9 k9 => ?_
        have k49 : Same H4 H9 := Same.trans k47 (Same.trans k8 k9)
        refine q H9 p a b css _ (Same.trans kH4 k49) (kH4.free ((Same.trans k47 k8).free hp9)) ep9 (k9 _ _ (k8 _ _ ea7)) (fun x hx => k9 _ _ (k8 _ _ (k7 _ _ (hce x hx)))) (eb.kt (KT.of k9)) ⟨up, lo, fr, M, by rw [List.map_map]; exact hcf, fun x hx => ?_, rfl, IA⟩
        obtain ⟨z, hz, rfl⟩ := List.mem_map.mp hx
        exact hcp z hz
end
/-! ### answers -/
def AL (H : Hp) (b : Addr) (an : List (Addr × Int × Bool)) : Prop := H b = some (.tup (an.map fun q => .ref q.1)) ∧ ∀ q ∈ an, H q.1 = some (.tup [.int q.2.1, .bl q.2.2])
theorem AL.kt {H H' : Hp} {a : Addr} {an : List (Addr × Int × Bool)} (h : AL H a an) (k : KT H H') : AL H' a an := ⟨k _ _ h.1, fun q hq => k _ _ (h.2 q hq)⟩
/-- what is held by the answers, what lacks -/
def hasP (ls : List (Int × Int)) (an : List (Int × Bool)) (v : Int) : Prop := ∃ u, (u, true) ∈ an ∧ Bel ls u v
def lackP (ls : List (Int × Int)) (an : List (Int × Bool)) (v : Int) : Prop := ∃ u, (u, false) ∈ an ∧ Bel ls v u
noncomputable def hasB (ls : List (Int × Int)) (an : List (Int × Bool)) (v : Int) : Bool := @decide (hasP ls an v) (Classical.propDecidable _)
noncomputable def lackB (ls : List (Int × Int)) (an : List (Int × Bool)) (v : Int) : Bool := @decide (lackP ls an v) (Classical.propDecidable _)
theorem hasB_iff {ls : List (Int × Int)} {an : List (Int × Bool)} {v : Int} : hasB ls an v = true ↔ hasP ls an v := by unfold hasB; exact @decide_eq_true_iff _ (Classical.propDecidable _)
theorem lackB_iff {ls : List (Int × Int)} {an : List (Int × Bool)} {v : Int} : lackB ls an v = true ↔ lackP ls an v := by unfold lackB; exact @decide_eq_true_iff _ (Classical.propDecidable _)
noncomputable def hasL (ls : List (Int × Int)) (an : List (Int × Bool)) (ns : List Int) : List Int := ns.filter (hasB ls an)
noncomputable def lackL (ls : List (Int × Int)) (an : List (Int × Bool)) (ns : List Int) : List Int := ns.filter fun v => !hasB ls an v && lackB ls an v
noncomputable def leftL (ls : List (Int × Int)) (an : List (Int × Bool)) (ns : List Int) : List Int := ns.filter fun v => !hasB ls an v && !lackB ls an v
def noL (an : List (Addr × Int × Bool)) : List Int := (an.filter fun q => !q.2.2).map (·.2.1)
def yesL (an : List (Addr × Int × Bool)) : List Int := (an.filter fun q => q.2.2).map (·.2.1)
theorem mem_noL {an : List (Addr × Int × Bool)} {x : Int} : x ∈ noL an ↔ (x, false) ∈ an.map (·.2) := by
  unfold noL
  rw [List.mem_map, List.mem_map]
  constructor
  · rintro ⟨q, hq, rfl⟩
    obtain ⟨h1, h2⟩ := List.mem_filter.mp hq
    exact ⟨q, h1, by obtain ⟨a, b, c⟩ := q; cases c with | true => simp at h2 | false => rfl⟩
  · rintro ⟨q, hq, e⟩
    exact ⟨q, List.mem_filter.mpr ⟨hq, by rw [e]; rfl⟩, by rw [e]⟩
theorem mem_yesL {an : List (Addr × Int × Bool)} {x : Int} : x ∈ yesL an ↔ (x, true) ∈ an.map (·.2) := by
  unfold yesL
  rw [List.mem_map, List.mem_map]
  constructor
  · rintro ⟨q, hq, rfl⟩
    obtain ⟨h1, h2⟩ := List.mem_filter.mp hq
    exact ⟨q, h1, by obtain ⟨a, b, c⟩ := q; cases c with | true => rfl | false => simp at h2⟩
  · rintro ⟨q, hq, e⟩
    exact ⟨q, List.mem_filter.mpr ⟨hq, by rw [e]⟩, by rw [e]⟩
def noF (q : Addr × Int × Bool) : Option (Key × V) := if q.2.2 = true then none else some (Sum.inl q.2.1, .bl true)
def yesF (q : Addr × Int × Bool) : Option V := if q.2.2 = true then some (.int q.2.1) else none
theorem noF_map : ∀ an : List (Addr × Int × Bool), an.filterMap noF = (noL an).map fun x => ((Sum.inl x : Key), V.bl true)
  | [] => rfl
  | ⟨a, x, b⟩ :: r => by
    have h := noF_map r
    cases b with
    | true =>
      show r.filterMap noF = _
      rw [h]; rfl
    | false =>
      show ((Sum.inl x : Key), V.bl true) :: r.filterMap noF = _
      rw [h]; rfl
theorem yesF_map : ∀ an : List (Addr × Int × Bool), an.filterMap yesF = (yesL an).map V.int
  | [] => rfl
  | ⟨a, x, b⟩ :: r => by
    have h := yesF_map r
    cases b with
    | true =>
      show V.int x :: r.filterMap yesF = _
      rw [h]; rfl
    | false =>
      show r.filterMap yesF = _
      rw [h]; rfl
theorem yesL_len (an : List (Addr × Int × Bool)) : (yesL an).length ≤ an.length := by
  unfold yesL
  rw [List.length_map]
  exact List.length_filter_le _ _
theorem no_in (an : List (Addr × Int × Bool)) (x : Int) : (valV (mergeK [] ((List.range an.length).filterMap fun i => an[i]?.bind noF)) (Sum.inl x)).isSome = decide (x ∈ noL an) := by
  rw [range_fm, noF_map]
  exact known_in (noL an) (fun _ => .bl true) x
/-- no answer is against another: nothing is raised -/
def Clear (ls : List (Int × Int)) (an : List (Int × Bool)) : Prop := ∀ u l, (u, true) ∈ an → (l, false) ∈ an → ¬ Bel ls u l
def Clash (ls : List (Int × Int)) (an : List (Int × Bool)) (p : Int × Int) : Prop := (p.1, true) ∈ an ∧ (p.2, false) ∈ an ∧ Bel ls p.1 p.2
def LeastC (ls : List (Int × Int)) (an : List (Int × Bool)) (p : Int × Int) : Prop := Clash ls an p ∧ ∀ r, Clash ls an r → ¬ LtP r p
theorem LeastC.uniq {ls : List (Int × Int)} {an : List (Int × Bool)} {p q : Int × Int} (a : LeastC ls an p) (b : LeastC ls an q) : p = q := by
  have h1 := a.2 q b.1
  have h2 := b.2 p a.1
  unfold LtP at h1 h2
  obtain ⟨p1, p2⟩ := p
  obtain ⟨q1, q2⟩ := q
  simp only at h1 h2
  have e1 : p1 = q1 := by omega
  have e2 : p2 = q2 := by omega
  rw [e1, e2]
theorem LeastC.not {ls : List (Int × Int)} {an : List (Int × Bool)} {p : Int × Int} (a : LeastC ls an p) : ¬ Clear ls an := fun h => h p.1 p.2 a.1.1 a.1.2.1 a.1.2.2
theorem take_le {ys : List Int} (h : ys.Pairwise (· ≤ ·)) {i : Nat} {u x : Int} (hu : ys[i]? = some u) (hx : x ∈ ys) (hlt : x < u) : x ∈ ys.take i := by
  have e : ys = ys.take i ++ u :: ys.drop (i + 1) := by rw [← drop_of hu, List.take_append_drop]
  have hd : (ys.drop i).Pairwise (· ≤ ·) := h.drop
  rw [drop_of hu, List.pairwise_cons] at hd
  rw [e] at hx
  rcases List.mem_append.mp hx with z | z
  · exact z
  · rcases List.mem_cons.mp z with rfl | z
    · omega
    · have := hd.1 x z
      omega
def spNoClashX (C : Addr) : Sp := fun vs H Q E => ∃ (R A : Addr) (kvs : List (Key × V)) (ls : List (Int × Int)) (ns : List Int) (an : List (Addr × Int × Bool)), vs = [.ref R, .ref A] ∧ H R = some (.dK kvs) ∧ RowsV [] H kvs ls ns ∧ AL H A an ∧ an.length < 64 ∧ (∀ q ∈ an, q.2.1 ∈ ns) ∧
  (Clear ls (an.map (·.2)) → ∀ H', Same H H' → Q .non H') ∧ ∀ p d H', LeastC ls (an.map (·.2)) p → Same H H' → H d = none → H' d = some (.xd [("lower", .int p.2), ("upper", .int p.1)]) → E (.ref C) (some d) H'
section
variable {P : Program} {w : World} {K : PySem.W.Frag} {mg : Str → Option Value} {base : Heap}
theorem ok_cinit {f C : Addr} {fd : FuncData} (F : Fun K "__init__" "Contrary.__init__" s_Contrary___init__ f fd) (XT : OexC K C) (n1 : PySem.W.findIn K (.ref C) "upper" = some none) (n2 : PySem.W.findIn K (.ref C) "lower" = some none) : FnOk P w K mg base CX0 1 f fd ["self", "upper", "lower"] (spInit2 K C "upper" "lower") := by
  refine F.ok sc_Contrary___init__ (fun vs H Q E h => ?_) (fun cdv A outer s H vs Q E hr h => ?_)
  · obtain ⟨a, x, y, rfl, _⟩ := h
    rfl
  · obtain ⟨a, x, y, rfl, e, q⟩ := h
    refine ⟨_,
      (pss_cons
        (ps_ost (pv 0) (pv 1))
      (pss_one
        (ps_ost (pv 0) (pv 2))))
      , ?_⟩
    rw [show L2.start N_Contrary___init__ [V.ref a, x, y] = [some (.ref a), some x, some y] from rfl]
    refine w_seq (w_ost ?_)
    walk_at "x"
    refine ⟨a, C, rfl, XT, n1, .inl ⟨e, fun dx hd hne => ?_⟩⟩
    refine w_ost ?_
    walk_at "g"
    exact ⟨a, C, rfl, XT, n2, .inr ⟨dx, _, upd_same, by rw [upd_ne hne, upd_same], by simp, q dx hd hne⟩⟩
theorem ok_noclashX {f fI C_Contrary : Addr} {fd fdI : FuncData} (T : Txt K mg) (F : Fun K "no_clash" "no_clash" s_no_clash f fd) (FI : Fun K "__init__" "Contrary.__init__" s_Contrary___init__ fI fdI) (X_Contrary : ExnI K mg "Contrary" C_Contrary fI fdI ["self", "upper", "lower"] ["upper", "lower"]) : FnOk P w K mg base (L2.CX P w) 3 f fd ["rows", "answers"] (spNoClashX C_Contrary) := by
  have G_Contrary___init__ : FnOk P w K mg base CX0 1 fI fdI ["self", "upper", "lower"] (spInit2 K C_Contrary "upper" "lower") := ok_cinit FI X_Contrary.T (X_Contrary.nf "upper" (by simp)) (X_Contrary.nf "lower" (by simp))
  refine F.okX sc_no_clash (fun vs H Q E h => ?_) (fun cdv A outer s H vs Q E hr h => ?_)
  · obtain ⟨R, A, kvs, ls, ns, an, rfl, _⟩ := h
    rfl
  · obtain ⟨R, Aa, kvs, ls, ns, an, rfl, eR, rv, ⟨hA, hAe⟩, hl, hm, q, qx⟩ := h
    have hu := hu_of hr
    refine ⟨_,
      (pss_cons
        (ps_setDc (i := 2) (own := [("version", 5), ("truth", 6)]) (g := (gTup K 2 (gCons (gName 5) (gCons (gName 6) gNil)))) rfl sc_no_clash.nd rfl rfl (sw_trueD rfl rfl rfl (by decide +kernel)) (pi_tup (pv 1)) (blkOk_by (own := [("version", 5), ("truth", 6)]) (N := N_no_clash) (sc := defScope s_no_clash) (by decide +kernel)) (fun _ _ _ _ _ => (pg_tup rfl (pgs_cons (pg_name (i := 5) sc_no_clash.nd rfl (.inl rfl)) (pgs_cons (pg_name (i := 6) sc_no_clash.nd rfl (.inl rfl)) pgs_nil)))) (fun _ _ _ _ _ => (pts_one (pt_not (pt_val (pv 6))))) (fun _ _ _ _ _ => (pv 5)) (fun _ _ _ _ _ => pe_bl))
      (pss_one
        (ps_for (passes_of rfl) rfl (pi_list (pe_callB (r := rSorted K) cr_sorted (by rfl) T.n_sorted (by decide +kernel) (pa_cons (pe_lc (own := [("version", 5), ("truth", 6)]) (g := (gTup K 2 (gCons (gName 5) (gCons (gName 6) gNil)))) rfl sc_no_clash.nd (pi_tup (pv 1)) (blkOk_by (own := [("version", 5), ("truth", 6)]) (N := N_no_clash) (sc := defScope s_no_clash) (by decide +kernel)) (fun _ _ _ _ _ => (pg_tup rfl (pgs_cons (pg_name (i := 5) sc_no_clash.nd rfl (.inl rfl)) (pgs_cons (pg_name (i := 6) sc_no_clash.nd rfl (.inl rfl)) pgs_nil)))) (fun _ _ _ _ _ => (pts_one (pt_val (pv 6)))) (fun _ _ _ _ _ => (pv 5))) pa_nil))) (pg_name (i := 3) sc_no_clash.nd rfl (.inl rfl))
          (pss_one
            (ps_for (passes_of rfl) rfl (pi_list (pe_dget hu (pv 0) (pv 3) (fun _ _ => rfl))) (pg_name (i := 4) sc_no_clash.nd rfl (.inl rfl))
              (pss_one
                (ps_if (pt_cmp (pc_din hu (pv 4) (pv 2)))
                  (pss_one
                    (ps_raise rfl (takes_of rfl rfl rfl rfl) (pmk_oex X_Contrary.T X_Contrary.i X_Contrary.t G_Contrary___init__ (hr.mono (by omega)) X_Contrary.b .nil pass0 (by rfl) X_Contrary.g (pa_cons (pv 3) (pa_cons (pv 4) pa_nil)))))
                  pss_nil)))))))
      , ?_⟩
    rw [show L2.start N_no_clash [V.ref R, V.ref Aa] = [some (.ref R), some (.ref Aa), none, none, none, none, none] from rfl]
    walk_at "x"
    refine dcp_sel (walk_tup (K := K) (a := Aa) (xs := an.map fun q => .ref q.1)) [] (fun i => an[i]?.bind noF) (by rw [List.length_map]; omega) (fun H' k => .of (k _ _ (by simp) hA)) ?_ (by simp) ?_
    · rintro i x H1 H2 Rr R0 hi k1 ⟨rfl, hx⟩ h1 h2
      obtain ⟨y, hy, rfl⟩ := map_at hx
      have ey := k1 _ _ (by simp) (hAe y (List.mem_of_getElem? hy))
      walk_at "g"
      refine ⟨rfl, ?_⟩
      walk_at "g"
      refine w_itNB (fun hb => ?_) (fun hb => ?_)
      · walk_at "g"
        exact h1 (Sum.inl y.2.1, .bl true) _ (by rw [hy]; show noF y = _; unfold noF; rw [hb]; rfl) Kp.refl
      · exact h2 _ (by rw [hy]; show noF y = _; unfold noF; rw [hb]; rfl) Kp.refl
    · intro N H1 hN k1 eN
      rw [List.length_map] at eN
      have k1' := k1.same
      have eR1 := k1' _ _ eR
      have hA1 := k1' _ _ hA
      have rv1 := rv.kp (N := []) k1 (by simp)
      walk_at "g"
      refine lcp_sel (walk_tup (K := K) (a := Aa) (xs := an.map fun q => .ref q.1)) [] (fun i => an[i]?.bind yesF) (by rw [List.length_map]; omega) (fun H' k => .of (k _ _ (by simp) hA1)) ?_ (by simp) ?_
      · rintro i x H2 H3 Rr R0 hi k2 ⟨rfl, hx⟩ h1 h2
        obtain ⟨y, hy, rfl⟩ := map_at hx
        have ey := k2 _ _ (by simp) (k1' _ _ (hAe y (List.mem_of_getElem? hy)))
        walk_at "g"
        refine ⟨rfl, ?_⟩
        walk_at "g"
        refine w_itB (fun hb => ?_) (fun hb => ?_)
        · walk_at "g"
          exact h1 _ _ (by rw [hy]; show yesF y = _; unfold yesF; rw [hb]; rfl) Kp.refl
        · exact h2 _ (by rw [hy]; show yesF y = _; unfold yesF; rw [hb]; rfl) Kp.refl
      · intro L H2 hL k2 eL
        rw [List.length_map, range_fm, yesF_map] at eL
        walk_at "g"
        refine w_sorted (.of eL) (by have := yesL_len an; omega) fun ys S H3 hp hs hS eS k3 => ?_
        have kk : Same H1 H3 := Same.trans k2.same k3
        walk_at "g"
        refine lp_list (xs := ys.map V.int) (fun i σ H' => ∃ (y3 y4 : Option V), σ = [some (.ref R), some (.ref Aa), some (.ref N), y3, y4, none, none] ∧ H' = H3 ∧ ∀ u ∈ ys.take i, ∀ l, ¬ Clash ls (an.map (·.2)) (u, l)) ⟨_, _, rfl, rfl, by simp⟩ ?_ ?_ ?_
        · rintro i σ H' _ ⟨_, _, _, rfl, _⟩
          exact .of eS
        · rintro i y σ H' hy ⟨y3, y4, rfl, rfl, hno⟩
          obtain ⟨u, hu', rfl⟩ := map_at hy
          have huy : (u, true) ∈ an.map (·.2) := mem_yesL.mp (hp.mem_iff.mp (List.mem_of_getElem? hu'))
          have hun : u ∈ ns := by
            obtain ⟨z, hz, e⟩ := List.mem_map.mp huy
            have := hm z hz
            rw [e] at this
            exact this
          obtain ⟨a, zs, v1, v2, v3, v4⟩ := rv1 u hun
          have eR3 := kk _ _ eR1
          have v2' := kk _ _ v2
          have eN3 := kk _ _ eN
          walk_at "g"
          refine lp_list (xs := zs.map V.int) (fun j σ H'' => ∃ (y4 : Option V), σ = [some (.ref R), some (.ref Aa), some (.ref N), some (.int u), y4, none, none] ∧ H'' = H' ∧ ∀ l ∈ zs.take j, l ∉ noL an) ⟨_, rfl, rfl, by simp⟩ ?_ ?_ ?_
          · rintro j σ H'' _ ⟨_, _, rfl, _⟩
            exact .of v2'
          · rintro j y σ H'' hy' ⟨y4, rfl, rfl, hj⟩
            obtain ⟨l, hl', rfl⟩ := map_at hy'
            have hlm := List.mem_of_getElem? hl'
            walk_at "g"
            rw [no_in]
            refine w_ite (fun hin => ?_) (fun hin => ?_)
            · have cl : Clash ls (an.map (·.2)) (u, l) := ⟨huy, mem_noL.mp hin, (v3.mem l).mp hlm⟩
              have least : LeastC ls (an.map (·.2)) (u, l) := by
                refine ⟨cl, fun r hr' hlt => ?_⟩
                rcases hlt with h | ⟨h1, h2⟩
                · exact hno r.1 (take_le hs hu' (hp.mem_iff.mpr (mem_yesL.mpr hr'.1)) h) r.2 hr'
                · have hb : Bel ls u r.2 := by
                    have := hr'.2.2
                    rw [h1] at this
                    exact this
                  exact hj r.2 (take_le (v3.rise.imp Int.le_of_lt) hl' ((v3.mem r.2).mpr hb) h2) (mem_noL.mpr hr'.2.1)
              refine w_mkO ?_
              walk_at "g"
              refine ⟨by simp, fun a ha => mk2_same ha fun d H4 k4 hd e4 => ?_⟩
              exact qx (u, l) d H4 least (Same.trans k1' (Same.trans kk k4)) ((Same.trans k1' kk).free hd) e4
            · walk_at "g"
              refine ⟨_, rfl, rfl, fun x hx => ?_⟩
              rw [List.take_add_one, hl'] at hx
              rcases List.mem_append.mp hx with h | h
              · exact hj x h
              · have e : x = l := by simpa using h
                rw [e]
                exact hin
          · rintro σ H'' ⟨y4, rfl, rfl, hj⟩
            rw [List.length_map, List.take_length] at hj
            refine ⟨_, _, rfl, rfl, fun x hx l hcl => ?_⟩
            rw [List.take_add_one, hu'] at hx
            rcases List.mem_append.mp hx with h | h
            · exact hno x h l hcl
            · have e : x = u := by simpa using h
              subst e
              exact hj l ((v3.mem l).mpr hcl.2.2) (mem_noL.mpr hcl.2.1)
        · rintro σ H' ⟨y3, y4, rfl, rfl, hno⟩
          rw [List.length_map, List.take_length] at hno
          exact q (fun u l h1 h2 h3 => hno u (hp.mem_iff.mpr (mem_yesL.mpr h1)) l ⟨h1, h2, h3⟩) _ (Same.trans k1' kk)
end
def spSettledX (C : Addr) : Sp := fun vs H Q E => ∃ (t A : Addr) (ns : List Int) (ps : List (Addr × Int × Int)) (an : List (Addr × Int × Bool)), vs = [.ref t, .ref A] ∧ ShAt H t ns ps ∧ ShOk ns (ps.map (·.2)) ∧ ns.length < 64 ∧ ps.length ≤ 100000 ∧ AL H A an ∧ an.length < 64 ∧ (∀ q ∈ an, q.2.1 ∈ ns) ∧
  (Clear (ps.map (·.2)) (an.map (·.2)) → ∀ H' r a1 a2 a3, Same H H' → H' r = some (.tup [.ref a1, .ref a2, .ref a3]) → VL H' a1 (hasL (ps.map (·.2)) (an.map (·.2)) ns) → VL H' a2 (lackL (ps.map (·.2)) (an.map (·.2)) ns) → VL H' a3 (leftL (ps.map (·.2)) (an.map (·.2)) ns) → Q (.ref r) H') ∧ ∀ p d H', LeastC (ps.map (·.2)) (an.map (·.2)) p → Same H H' → H d = none → H' d = some (.xd [("lower", .int p.2), ("upper", .int p.1)]) → E (.ref C) (some d) H'
theorem hasP.mem {ns : List Int} {ls : List (Int × Int)} {an : List (Int × Bool)} {v : Int} (S : ShOk ns ls) (hm : ∀ q ∈ an, q.1 ∈ ns) (h : hasP ls an v) : v ∈ ns := by
  obtain ⟨u, hu, b⟩ := h
  exact b.mem S (hm _ hu)
theorem filter_snoc {p : Int → Bool} {ns : List Int} {i : Nat} {v : Int} (h : ns[i]? = some v) : (ns.take (i + 1)).filter p = if p v = true then (ns.take i).filter p ++ [v] else (ns.take i).filter p := by
  rw [List.take_add_one, h, List.filter_append]
  by_cases e : p v = true
  · rw [if_pos e]; simp [e]
  · rw [if_neg e]; simp [e]
theorem hasL_snoc {ls : List (Int × Int)} {an : List (Int × Bool)} {ns : List Int} {i : Nat} {v : Int} (h : ns[i]? = some v) : hasL ls an (ns.take (i + 1)) = if hasB ls an v = true then hasL ls an (ns.take i) ++ [v] else hasL ls an (ns.take i) := filter_snoc h
theorem lackL_snoc {ls : List (Int × Int)} {an : List (Int × Bool)} {ns : List Int} {i : Nat} {v : Int} (h : ns[i]? = some v) : lackL ls an (ns.take (i + 1)) = if (!hasB ls an v && lackB ls an v) = true then lackL ls an (ns.take i) ++ [v] else lackL ls an (ns.take i) := filter_snoc h
theorem leftL_snoc {ls : List (Int × Int)} {an : List (Int × Bool)} {ns : List Int} {i : Nat} {v : Int} (h : ns[i]? = some v) : leftL ls an (ns.take (i + 1)) = if (!hasB ls an v && !lackB ls an v) = true then leftL ls an (ns.take i) ++ [v] else leftL ls an (ns.take i) := filter_snoc h
section
variable {P : Program} {w : World} {K : PySem.W.Frag} {mg : Str → Option Value} {base : Heap}
theorem ok_settledX {f fS fN fI C_Contrary : Addr} {fd fdS fdN fdI : FuncData} (T : Txt K mg) (F : Fun K "settled" "settled" s_settled f fd) (D_spans : Df K mg "spans" s_spans ["shape"] fS fdS) (D_no_clash : Df K mg "no_clash" s_no_clash ["rows", "answers"] fN fdN)
    (FI : Fun K "__init__" "Contrary.__init__" s_Contrary___init__ fI fdI) (X_Contrary : ExnI K mg "Contrary" C_Contrary fI fdI ["self", "upper", "lower"] ["upper", "lower"]) : FnOk P w K mg base (L2.CX P w) 4 f fd ["shape", "answers"] (spSettledX C_Contrary) := by
  have G_spans : FnOk P w K mg base CX0 1 fS fdS ["shape"] spSpans := ok_spans T D_spans.fn
  have G_no_clash : FnOk P w K mg base (L2.CX P w) 3 fN fdN ["rows", "answers"] (spNoClashX C_Contrary) := ok_noclashX T D_no_clash.fn FI X_Contrary
  refine F.okX sc_settled (fun vs H Q E h => ?_) (fun cdv A outer s H vs Q E hr h => ?_)
  · obtain ⟨t, A, ns, ps, an, rfl, _⟩ := h
    rfl
  · obtain ⟨t, Aa, ns, ps, an, rfl, hS, S, hl, hl2, hA, hal, ham, q, qx⟩ := h
    have hu := hu_of hr
    refine ⟨_,
      (pss_cons
        (ps_set (i := 2) sc_settled.nd rfl (.inr rfl) (pe_call G_spans (hr.mono (by omega)) (by rfl) D_spans.g D_spans.fn.kp D_spans.b .nil pass0 (pa_cons (pv 0) pa_nil)))
      (pss_cons
        (ps_expr (pe_call G_no_clash (hr.mono (by omega)) (by rfl) D_no_clash.g D_no_clash.fn.kp D_no_clash.b .nil (passes_call (takes_of rfl rfl rfl rfl) (fun _ _ _ _ h => h)) (pa_cons (pv 2) (pa_cons (pv 1) pa_nil))))
      (pss_cons
        (ps_set (i := 3) sc_settled.nd rfl (.inr rfl) (pe_dc (own := [("version", 8), ("truth", 9)]) (g := (gTup K 2 (gCons (gName 8) (gCons (gName 9) gNil)))) rfl sc_settled.nd (pi_tup (pv 1)) (blkOk_by (own := [("version", 8), ("truth", 9)]) (N := N_settled) (sc := defScope s_settled) (by decide +kernel)) (fun _ _ _ _ _ => (pg_tup rfl (pgs_cons (pg_name (i := 8) sc_settled.nd rfl (.inl rfl)) (pgs_cons (pg_name (i := 9) sc_settled.nd rfl (.inl rfl)) pgs_nil)))) (fun _ _ _ _ _ => (pts_one (pt_not (pt_val (pv 9))))) (fun _ _ _ _ _ => (pv 8)) (fun _ _ _ _ _ => pe_bl)))
      (pss_cons
        (ps_setDc2 (i := 4) (own := [("version", 8), ("truth", 9), ("low", 10)]) (us := [10]) (ga := (gTup K 2 (gCons (gName 8) (gCons (gName 9) gNil)))) (gb := (gName 10)) rfl sc_settled.nd rfl rfl (sw_trueD rfl rfl rfl (by decide +kernel)) (pi_tup (pv 1)) (blkOk_by (own := [("version", 8), ("truth", 9), ("low", 10)]) (N := N_settled) (sc := defScope s_settled) (by decide +kernel)) (by decide) (fun _ _ _ _ _ => (pg_tup rfl (pgs_cons (pg_name (i := 8) sc_settled.nd rfl (.inl rfl)) (pgs_cons (pg_name (i := 9) sc_settled.nd rfl (.inl rfl)) pgs_nil)))) (fun _ _ _ _ _ => (pts_one (pt_val (pv 9)))) (fun _ _ _ _ _ => (pi_listK (K := K) rfl (pe_dget hu (pv 2) (pv 8) (fun _ _ => rfl)))) (fun _ _ _ _ _ => (pg_name (i := 10) sc_settled.nd rfl (.inl rfl))) (fun _ _ _ _ _ => pts_nil) (fun _ _ _ _ _ => (pv 10)) (fun _ _ _ _ _ => pe_bl))
      (pss_cons
        (ps_set (i := 5) sc_settled.nd rfl (.inl rfl) (pe_lst pa_nil))
      (pss_cons
        (ps_set (i := 6) sc_settled.nd rfl (.inl rfl) (pe_lst pa_nil))
      (pss_cons
        (ps_set (i := 7) sc_settled.nd rfl (.inl rfl) (pe_lst pa_nil))
      (pss_cons
        (ps_for (passes_of rfl) rfl (pi_tup (pe_ix (r := rIxT K) ix_tup (pv 0) pe_int (fun _ _ => rfl))) (pg_name (i := 8) sc_settled.nd rfl (.inl rfl))
          (pss_one
            (ps_if (pt_cmp (pc_din hu (pv 8) (pv 4)))
              (pss_one
                (ps_expr (pe_bm PySem.F.plainAttrs_list PySem.F.slot_list_append PySem.F.type_list_append mt_append (pv 5) (pa_cons (pv 8) pa_nil))))
              (pss_one
                (ps_if (pt_val (pe_callB (r := rAny K) (cr_any rfl) (by rfl) T.n_any (by decide +kernel) (pa_cons (pe_lc (own := [("low", 10)]) (g := (gName 10)) rfl sc_settled.nd (pi_list (pe_dget hu (pv 2) (pv 8) (fun _ _ => rfl))) (blkOk_by (own := [("low", 10)]) (N := N_settled) (sc := defScope s_settled) (by decide +kernel)) (fun _ _ _ _ _ => (pg_name (i := 10) sc_settled.nd rfl (.inl rfl))) (fun _ _ _ _ _ => pts_nil) (fun _ _ _ _ _ => (pe_cmp (pc_din hu (pv 10) (pv 3))))) pa_nil)))
                  (pss_one
                    (ps_expr (pe_bm PySem.F.plainAttrs_list PySem.F.slot_list_append PySem.F.type_list_append mt_append (pv 6) (pa_cons (pv 8) pa_nil))))
                  (pss_one
                    (ps_expr (pe_bm PySem.F.plainAttrs_list PySem.F.slot_list_append PySem.F.type_list_append mt_append (pv 7) (pa_cons (pv 8) pa_nil)))))))))
      (pss_one
        (ps_ret (pe_tup (pa_cons (pe_callTy (r := rTupOf K) c_tupOf (by rfl) T.n_tuple (by decide +kernel) (pa_cons (pv 5) pa_nil)) (pa_cons (pe_callTy (r := rTupOf K) c_tupOf (by rfl) T.n_tuple (by decide +kernel) (pa_cons (pv 6) pa_nil)) (pa_cons (pe_callTy (r := rTupOf K) c_tupOf (by rfl) T.n_tuple (by decide +kernel) (pa_cons (pv 7) pa_nil)) pa_nil))))))))))))))
      , ?_⟩
    rw [show L2.start N_settled [V.ref t, V.ref Aa] = [some (.ref t), some (.ref Aa), none, none, none, none, none, none, none, none, none] from rfl]
    walk_at "x"
    refine ⟨t, ns, ps, rfl, hS, S, hl, hl2, fun H1 R k1 hR RA => ?_⟩
    obtain ⟨kvs, eR, hks, _, rv0⟩ := RA
    have rv : RowsV [] H1 kvs (ps.map (·.2)) ns := fun v hv => by
      obtain ⟨a, ys, v1, v2, v3, v4⟩ := rv0 v hv
      exact ⟨a, ys, v1, v2, v3, by simp⟩
    have hA1 := hA.kt (KT.of k1)
    walk_at "g"
    refine ⟨R, Aa, kvs, _, ns, an, rfl, eR, rv, hA1, hal, ham, fun hc H2 k2 => ?_, fun p d H2 hp k2 hd e => qx p d H2 hp (Same.trans k1 k2) (k1.free hd) e⟩
    have eR2 := k2 _ _ eR
    have rv2 := rv.kp (N := []) (Kp.of k2) (by simp)
    obtain ⟨hAt, hAe⟩ := hA1.kt (KT.of k2)
    walk_at "g"
    refine dcp_sel (walk_tup (K := K) (a := Aa) (xs := an.map fun q => .ref q.1)) [] (fun i => an[i]?.bind noF) (by rw [List.length_map]; omega) (fun H' k => .of (k _ _ (by simp) hAt)) ?_ (by simp) ?_
    · rintro i x H3 H4 Rr R0 hi k3 ⟨rfl, hx⟩ h1 h2
      obtain ⟨y, hy, rfl⟩ := map_at hx
      have ey := k3 _ _ (by simp) (hAe y (List.mem_of_getElem? hy))
      walk_at "g"
      refine ⟨rfl, ?_⟩
      walk_at "g"
      refine w_itNB (fun hb => ?_) (fun hb => ?_)
      · walk_at "g"
        exact h1 (Sum.inl y.2.1, .bl true) _ (by rw [hy]; show noF y = _; unfold noF; rw [hb]; rfl) Kp.refl
      · exact h2 _ (by rw [hy]; show noF y = _; unfold noF; rw [hb]; rfl) Kp.refl
    · intro N H3 hN k3' eN
      rw [List.length_map] at eN
      have k3 := k3'.same
      have eR3 := k3 _ _ eR2
      have rv3 := rv2.kp (N := []) k3' (by simp)
      have hAt3 := k3 _ _ hAt
      walk_at "g"
      refine dc2_it (walk_tup (K := K) (a := Aa) (xs := an.map fun q => .ref q.1)) (fun D i H' => Same H3 H' ∧ ∃ (ks : List Int), FoundAt H' D ks ∧ ∀ x, x ∈ ks ↔ hasP (ps.map (·.2)) ((an.take i).map (·.2)) x) ?_ ?_ ?_ ?_
      · intro D hD
        refine ⟨Same.new hD, [], ⟨⟨[], upd_same, rfl⟩, List.nodup_nil⟩, fun x => ?_⟩
        constructor
        · intro z; cases z
        · rintro ⟨u, hu', _⟩
          simp at hu'
      · rintro D i H' _ ⟨k4, _⟩
        exact .of (k4 _ _ hAt3)
      · rintro D i x H4 H5 hD hi ⟨k4, ks, FA, hin⟩ ⟨rfl, hx⟩
        obtain ⟨y, hy, rfl⟩ := map_at hx
        have hym := List.mem_of_getElem? hy
        have ey := k4 _ _ (k3 _ _ (hAe y hym))
        have tk : (an.take (i + 1)).map (·.2) = (an.take i).map (·.2) ++ [y.2] := by
          rw [List.take_add_one, hy, List.map_append]
          rfl
        have hmt : ∀ z ∈ (an.take i).map (·.2), z.1 ∈ ns := fun z hz => by
          obtain ⟨z', hz', rfl⟩ := List.mem_map.mp hz
          exact ham _ (List.mem_of_mem_take hz')
        walk_at "g"
        refine ⟨rfl, ?_⟩
        walk_at "g"
        refine w_itB (fun hb => ?_) (fun hb => ?_)
        · obtain ⟨a, zs, v1, v2, v3, _⟩ := rv3 y.2.1 (ham y hym)
          have eR5 := k4 _ _ eR3
          have v2' := k4 _ _ v2
          walk_at "g"
          refine inner_it (walk_list (K := K) (a := a) (xs := zs.map V.int)) (fun j H' => Same H3 H' ∧ ∃ (ks : List Int), FoundAt H' D ks ∧ ∀ x, x ∈ ks ↔ hasP (ps.map (·.2)) ((an.take i).map (·.2)) x ∨ x ∈ zs.take j) ?_ ?_ ?_ ?_
          · exact ⟨k4, ks, FA, fun x => by rw [hin]; simp⟩
          · rintro j H' _ ⟨k5, _⟩
            exact .of (k5 _ _ v2)
          · rintro j x H6 H7 hj ⟨k6, ks6, ⟨⟨fk, ef, hfk⟩, nd6⟩, hin6⟩ ⟨rfl, hx6⟩
            obtain ⟨u, hu', rfl⟩ := map_at hx6
            refine w_name ⟨rfl, ?_⟩
            walk_at "g"
            have hlen : fk.length < sizeLine := by
              have h1 : fk.length = ks6.length := by
                have := congrArg List.length hfk
                simpa using this
              have h2 : ks6.length ≤ ns.length := nodup_le ks6 ns nd6 fun z hz => by
                rcases (hin6 z).mp hz with a | a
                · exact a.mem S hmt
                · exact ((v3.mem z).mp (List.mem_of_mem_take a)).mem S (ham y hym)
              exact small1000 (by omega)
            refine ⟨fk, Sum.inl u, rfl, ef, hlen, ?_, addK ks6 u, FoundAt.put hfk nd6 upd_same, fun z => ?_⟩
            · exact (Kp.mutN (M := []) (Kp.of k6) hD).same
            · rw [mem_addK, hin6, List.take_add_one, hu']
              simp only [Option.toList_some, List.mem_append, List.mem_singleton]
              rw [or_assoc]
          · rintro H6 ⟨k6, ks6, FA6, hin6⟩
            rw [List.length_map, List.take_length] at hin6
            refine ⟨k6, ks6, FA6, fun z => ?_⟩
            rw [hin6, tk, v3.mem]
            constructor
            · rintro (⟨u, h1, h2⟩ | h1)
              · exact ⟨u, List.mem_append_left _ h1, h2⟩
              · exact ⟨y.2.1, List.mem_append_right _ (by rw [← hb]; simp), h1⟩
            · rintro ⟨u, h1, h2⟩
              rcases List.mem_append.mp h1 with h1 | h1
              · exact .inl ⟨u, h1, h2⟩
              · have e : (u, true) = y.2 := by simpa using h1
                rw [← e]
                exact .inr h2
        · refine ⟨k4, ks, FA, fun z => ?_⟩
          rw [hin, tk]
          constructor
          · rintro ⟨u, h1, h2⟩
            exact ⟨u, List.mem_append_left _ h1, h2⟩
          · rintro ⟨u, h1, h2⟩
            rcases List.mem_append.mp h1 with h1 | h1
            · exact ⟨u, h1, h2⟩
            · have e : (u, true) = y.2 := by simpa using h1
              rw [← e] at hb
              cases hb
      · rintro D H4 hD ⟨k4, ks, ⟨⟨fk, ef, hfk⟩, nd4⟩, hin⟩
        rw [List.length_map, List.take_length] at hin
        have hinB : ∀ x, (valV fk (Sum.inl x)).isSome = hasB (ps.map (·.2)) (an.map (·.2)) x := fun x => by
          rw [val_keys hfk, Bool.eq_iff_iff, decide_eq_true_iff, hin, hasB_iff]
        walk_at "g"
        refine w_new fun a1 H5 h1 e1 k5 => ?_
        walk_at "g"
        refine w_new fun a2 H6 h2 e2 k6 => ?_
        walk_at "g"
        refine w_new fun a3 H7 h3 e3 k7 => ?_
        have n12 : a1 ≠ a2 := ne_of_none e1 h2
        have n13 : a1 ≠ a3 := ne_of_none (k6 _ _ e1) h3
        have n23 : a2 ≠ a3 := ne_of_none e2 h3
        have k47 : Same H4 H7 := Same.trans k5 (Same.trans k6 k7)
        have k37 : Same H3 H7 := Same.trans k4 k47
        have kk : Same H H7 := Same.trans k1 (Same.trans k2 (Same.trans k3 k37))
        obtain ⟨ta, tb, et, ea, eb⟩ := hS.kt (KT.of kk)
        have ea' : H7 ta = some (.tup (ns.map V.int)) := ea
        have f1 : H4 a1 = none := h1
        have f2 : H4 a2 = none := k5.free h2
        have f3 : H4 a3 = none := k5.free (k6.free h3)
        walk_at "g"
        refine lp_tup (xs := ns.map V.int) (fun i σ H' => ∃ (y8 : Option V), σ = [some (.ref t), some (.ref Aa), some (.ref R), some (.ref N), some (.ref D), some (.ref a1), some (.ref a2), some (.ref a3), y8, none, none] ∧ Same H4 H' ∧ H' a1 = some (.lst ((hasL (ps.map (·.2)) (an.map (·.2)) (ns.take i)).map V.int)) ∧ H' a2 = some (.lst ((lackL (ps.map (·.2)) (an.map (·.2)) (ns.take i)).map V.int)) ∧ H' a3 = some (.lst ((leftL (ps.map (·.2)) (an.map (·.2)) (ns.take i)).map V.int))) ?_ ?_ ?_ ?_
        · exact ⟨_, rfl, k47, k7 _ _ (k6 _ _ e1), k7 _ _ e2, e3⟩
        · rintro i σ H' _ ⟨_, _, k8, _⟩
          refine .of (k8 _ _ ?_)
          have z := hS.kt (KT.of (Same.trans k1 (Same.trans k2 (Same.trans k3 k4))))
          obtain ⟨ta', tb', et', ea2, _⟩ := z
          have z2 := k47 _ _ et'
          rw [et] at z2
          cases z2
          exact ea2
        · rintro i y σ H8 hy ⟨y8, rfl, k8, g1, g2, g3⟩
          obtain ⟨v, hv, rfl⟩ := map_at hy
          have hvn := List.mem_of_getElem? hv
          have sz : ∀ p : Int → Bool, (List.filter p (ns.take i)).length < sizeLine := fun p => small1000 (Nat.le_trans (List.length_filter_le _ _) (by rw [List.length_take]; omega))
          have ef8 := k8 _ _ ef
          have s1 := hasL_snoc (ls := ps.map (·.2)) (an := an.map (·.2)) hv
          have s2 := lackL_snoc (ls := ps.map (·.2)) (an := an.map (·.2)) hv
          have s3 := leftL_snoc (ls := ps.map (·.2)) (an := an.map (·.2)) hv
          walk_at "g"
          rw [hinB]
          refine w_itB (fun hb => ?_) (fun hb => ?_)
          · walk_at "g"
            refine w_app g1 (by rw [List.length_map]; exact sz _) fun H9 e9 o9 => ?_
            refine ⟨_, rfl, (Off.keep (M := []) (Kp.of k8) o9 f1).same, ?_, ?_, ?_⟩
            · rw [e9, s1, if_pos hb, List.map_append]; rfl
            · rw [o9.get n12.symm g2, s2, if_neg (by rw [hb]; simp)]
            · rw [o9.get n13.symm g3, s3, if_neg (by rw [hb]; simp)]
          · obtain ⟨a, zs, v1, v2, v3, _⟩ := rv3 v hvn
            have eR8 := k8 _ _ (k4 _ _ eR3)
            have v2' := k8 _ _ (k4 _ _ v2)
            have eN8 := k8 _ _ (k4 _ _ eN)
            have zl : zs.length ≤ ns.length := RowsV.len (M := []) (H := H3) (kvs := kvs) (dn := ns) S hvn v3
            walk_at "g"
            refine lcp_map (walk_list (K := K) (a := a) (xs := zs.map V.int)) [] ((zs.map fun x => decide (x ∈ noL an)).map V.bl) (by simp) (by rw [List.length_map]; omega) (fun H' k => .of (k _ _ (by simp) v2')) ?_ (by simp) ?_
            · rintro j x H9 H10 Rr hj k9 ⟨rfl, hx⟩ hR
              obtain ⟨u, hu', rfl⟩ := map_at hx
              have eN9 := k9 _ _ (by simp) eN8
              refine w_name ⟨rfl, ?_⟩
              walk_at "g"
              rw [no_in]
              exact hR _ _ (by rw [List.getElem?_map, List.getElem?_map, hu']; rfl) Kp.refl
            · intro L H9 hL k9' eL
              have k9 := k9'.same
              have g1' := k9 _ _ g1
              have g2' := k9 _ _ g2
              have g3' := k9 _ _ g3
              have eany : (zs.map fun x => decide (x ∈ noL an)).any id = lackB (ps.map (·.2)) (an.map (·.2)) v := by
                rw [Bool.eq_iff_iff, lackB_iff, List.any_eq_true]
                constructor
                · rintro ⟨b, hb1, hb2⟩
                  obtain ⟨u, hu1, rfl⟩ := List.mem_map.mp hb1
                  exact ⟨u, mem_noL.mp (of_decide_eq_true hb2), (v3.mem u).mp hu1⟩
                · rintro ⟨u, hu1, hu2⟩
                  exact ⟨true, List.mem_map.mpr ⟨u, (v3.mem u).mpr hu2, decide_eq_true (mem_noL.mpr hu1)⟩, rfl⟩
              walk_at "g"
              rw [eany]
              refine w_itB (fun hc' => ?_) (fun hc' => ?_)
              · walk_at "g"
                refine w_app g2' (by rw [List.length_map]; exact sz _) fun H10 e10 o10 => ?_
                refine ⟨_, rfl, (Off.keep (M := []) (Kp.of (Same.trans k8 k9)) o10 f2).same, ?_, ?_, ?_⟩
                · rw [o10.get n12 g1', s1, if_neg (by rw [hb]; simp)]
                · rw [e10, s2, if_pos (by rw [hb, hc']; rfl), List.map_append]; rfl
                · rw [o10.get n23.symm g3', s3, if_neg (by rw [hb, hc']; simp)]
              · walk_at "g"
                refine w_app g3' (by rw [List.length_map]; exact sz _) fun H10 e10 o10 => ?_
                refine ⟨_, rfl, (Off.keep (M := []) (Kp.of (Same.trans k8 k9)) o10 f3).same, ?_, ?_, ?_⟩
                · rw [o10.get n13 g1', s1, if_neg (by rw [hb]; simp)]
                · rw [o10.get n23 g2', s2, if_neg (by rw [hb, hc']; simp)]
                · rw [e10, s3, if_pos (by rw [hb, hc']; rfl), List.map_append]; rfl
        · rintro σ H8 ⟨y8, rfl, k8, g1, g2, g3⟩
          rw [List.length_map, List.take_length] at g1 g2 g3
          walk_at "g"
          refine w_tupL (.of g1) fun b1 H9 hb1 eb1 k9 => ?_
          have g2' := k9 _ _ g2
          have g3' := k9 _ _ g3
          walk_at "g"
          refine w_tupL (.of g2') fun b2 H10 hb2 eb2 k10 => ?_
          have g3'' := k10 _ _ g3'
          walk_at "g"
          refine w_tupL (.of g3'') fun b3 H11 hb3 eb3 k11 => ?_
          walk_at "g"
          refine w_new fun r H12 hr12 e12 k12 => ?_
          refine q hc H12 r b1 b2 b3 ?_ e12 (k12 _ _ (k11 _ _ (k10 _ _ eb1))) (k12 _ _ (k11 _ _ eb2)) (k12 _ _ eb3)
          exact Same.trans k1 (Same.trans k2 (Same.trans k3 (Same.trans k4 (Same.trans k8 (Same.trans k9 (Same.trans k10 (Same.trans k11 k12)))))))
end
/-- a holding that has with each version all below it -/
def spLower : Sp := fun vs H Q _ => ∃ (d c R : Addr) (n : Nat) (kvs : List (Key × V)) (ls : List (Int × Int)) (ns : List Int), vs = [.ref d, .ref R] ∧ Deck H d c n ∧ n + 64 ≤ MOSTD ∧ H R = some (.dK kvs) ∧ kvs.map (·.1) = ns.map (Sum.inl : Int → Key) ∧ RowsV [d] H kvs ls ns ∧ ShOk ns ls ∧ ns.length < 64 ∧
  ∀ H' l (hs : List Int), Deck H' d c (n + 64) → Kp [d] H H' → H l = none → H' l = some (.lst (hs.map V.int)) → (∀ x ∈ hs, x ∈ ns) → (∀ x ∈ hs, ∀ y, Bel ls x y → y ∈ hs) → hs.Pairwise (· < ·) → Q (.ref l) H'
section
variable {P : Program} {w : World} {K : PySem.W.Frag} {mg : Str → Option Value} {base : Heap}
theorem ok_lower {f fM fD : Addr} {fd fdM fdD : FuncData} (T : Txt K mg) (F : Fun K "_law_lower" "_law_lower" s_law_lower f fd) (D_law_mixed : Df K mg "_law_mixed" s_law_mixed ["_law_cell", "_law_turn"] fM fdM)
    (D_law_draw : Df K mg "_law_draw" s_law_draw ["_law_deck_here", "_law_many"] fD fdD) : FnOk P w K mg base CX0 3 f fd ["_law_deck_here", "_law_rows"] spLower := by
  have G_law_draw : FnOk P w K mg base CX0 2 fD fdD ["_law_deck_here", "_law_many"] spDraw := ok_draw T D_law_draw.fn D_law_mixed
  refine F.ok sc_law_lower (fun vs H Q E h => ?_) (fun cdv A outer s H vs Q E hr h => ?_)
  · obtain ⟨d, c, R, n, kvs, ls, ns, rfl, _⟩ := h
    rfl
  · obtain ⟨d, c, R, n, kvs, ls, ns, rfl, D0, hn, eR, hks, rv, S, hl, q⟩ := h
    have hu := hu_of hr
    refine ⟨_,
      (pss_cons
        (ps_set (i := 2) sc_law_lower.nd rfl (.inl rfl) pe_dnewK)
      (pss_cons
        (ps_lock (ps_for PassesOwn.never rfl (pi_keys (pv 1)) (pg_name (i := 3) sc_law_lower.nd rfl (.inl rfl))
          (pss_one
            (ps_if (pt_cmpR op_eq (pe_call G_law_draw (hr.mono (by omega)) (by rfl) D_law_draw.g D_law_draw.fn.kp D_law_draw.b .nil pass0 (pa_cons (pv 0) (pa_cons pe_int pa_nil))) pe_int (nomark _))
              (pss_one
                (ps_for PassesOwn.never rfl (pi_list (pe_dget hu (pv 1) (pv 3) (fun _ _ => rfl))) (pg_name (i := 4) sc_law_lower.nd rfl (.inl rfl))
                  (pss_one
                    (ps_dput hu (pv 2) (pv 4) pe_bl rfl))))
              pss_nil))))
      (pss_one
        (ps_ret (pe_callB (c_sortD rfl) (by rfl) T.n_sorted (by decide +kernel) (pa_cons (pv 2) pa_nil))))))
      , ?_⟩
    rw [show L2.start N_law_lower [V.ref d, V.ref R] = [some (.ref d), some (.ref R), none, none, none] from rfl]
    walk_at "x"
    refine w_new fun g H1 hg eg k1 => ?_
    have D1 := D0.kp (M := []) (Kp.of k1) (by simp) (by simp)
    obtain ⟨⟨xs, ed⟩, ys, ec⟩ := D1.at
    have eR1 := k1 _ _ eR
    have nRd : R ≠ d := ne_of eR1 ed (fun z => nomatch z)
    have nRc : R ≠ c := ne_of eR1 ec (fun z => nomatch z)
    have nRg : R ≠ g := ne_of_none eR hg
    obtain ⟨ngd, ngc⟩ := D0.ne1 hg
    refine w_seq ?_
    refine w_lock eR1 fun od H2 eR2 o2 => ?_
    have D2 : Deck H2 d c n := D1.kp (M := [R]) (o2.kp (by simp)) (by simpa using nRd.symm) (by simpa using nRc.symm)
    have rv2 : RowsV [d] H2 kvs ls ns := (rv.kp (N := []) (Kp.of k1) (by simp)).off o2 (fun xs z => by rw [eR1] at z; cases z)
    walk_at "g"
    refine lp_keys hks (fun i σ H' => ∃ (y3 y4 : Option V) (ks : List Int), σ = [some (.ref d), some (.ref R), some (.ref g), y3, y4] ∧ Deck H' d c (n + i) ∧ Kp [d, g] H2 H' ∧ FoundAt H' g ks ∧ (∀ x ∈ ks, x ∈ ns) ∧ ∀ x ∈ ks, ∀ y, Bel ls x y → y ∈ ks) ?_ ?_ ?_ ?_
    · exact ⟨_, _, [], rfl, D2, Kp.refl, ⟨⟨[], o2.get nRg.symm eg, rfl⟩, List.nodup_nil⟩, by simp, by simp⟩
    · rintro i σ H' _ ⟨_, _, _, _, _, k, _⟩
      exact k _ _ (by simp [nRd, nRg]) eR2
    · rintro i v σ H3 hv ⟨y3, y4, ks, rfl, D3, k3, FA, hsub, hdn⟩
      have hvn := List.mem_of_getElem? hv
      have hi : i < ns.length := (List.getElem?_eq_some_iff.mp hv).1
      obtain ⟨⟨zs, ed3⟩, _⟩ := D3.at
      obtain ⟨fk, ef, hfk⟩ := FA.at'
      walk_at "g"
      refine w_draw D3 (by omega) (by decide) (by decide) fun r H4 hr4 D4 o4 => ?_
      have k4 : Kp [d, g] H2 H4 := k3.trans (o4.kp (by simp))
      have FA4 : FoundAt H4 g ks := ⟨⟨fk, o4.get ngd ef, hfk⟩, FA.nd⟩
      walk_at "g"
      refine w_ite (fun hr0 => ?_) (fun hr0 => ?_)
      · obtain ⟨a, us, v1, v2, v3, v4⟩ := rv2 v hvn
        have nag : a ≠ g := ne_of v2 (o2.get nRg.symm eg) (fun z => nomatch z)
        have v2' := k4 _ _ (by simp [nag]; simpa using v4) v2
        have eR4 := k4 _ _ (by simp [nRd, nRg]) eR2
        walk_at "g"
        refine lp_list (xs := us.map V.int) (fun j σ H' => ∃ (y4 : Option V) (ks' : List Int), σ = [some (.ref d), some (.ref R), some (.ref g), some (.int v), y4] ∧ Kp [g] H4 H' ∧ FoundAt H' g ks' ∧ ∀ x, x ∈ ks' ↔ x ∈ ks ∨ x ∈ us.take j) ?_ ?_ ?_ ?_
        · exact ⟨_, ks, rfl, Kp.refl, FA4, by simp⟩
        · rintro j σ H' _ ⟨_, _, _, k5, _⟩
          exact .of (k5 _ _ (by simpa using nag) v2')
        · rintro j y σ H5 hy ⟨y4, ks', rfl, k5, ⟨⟨fk5, ef5, hfk5⟩, nd5⟩, hks5⟩
          obtain ⟨u, hu', rfl⟩ := map_at hy
          have hlen : fk5.length < sizeLine := by
            have h1 : fk5.length = ks'.length := by
              have := congrArg List.length hfk5
              simpa using this
            have h2 : ks'.length ≤ ns.length := nodup_le ks' ns nd5 fun z hz => by
              rcases (hks5 z).mp hz with a | a
              · exact hsub z a
              · exact ((v3.mem z).mp (List.mem_of_mem_take a)).mem S hvn
            exact small1000 (by omega)
          walk_at "g"
          refine w_dputI ef5 hlen fun H6 e6 o6 => ?_
          refine ⟨_, addK ks' u, rfl, k5.trans (o6.kp (by simp)), FoundAt.put hfk5 nd5 e6, fun z => ?_⟩
          rw [mem_addK, hks5, List.take_add_one, hu']
          simp only [Option.toList_some, List.mem_append, List.mem_singleton]
          rw [or_assoc]
        · rintro σ H5 ⟨y4, ks', rfl, k5, F5, hks5⟩
          rw [List.length_map, List.take_length] at hks5
          refine ⟨_, _, ks', rfl, (D4.kp (M := [g]) k5 (by simpa using ngd.symm) (by simpa using ngc.symm)), k4.trans (k5.mono (by simp)), F5, fun x hx => ?_, fun x hx y hy => ?_⟩
          · rcases (hks5 x).mp hx with a | a
            · exact hsub x a
            · exact ((v3.mem x).mp a).mem S hvn
          · rcases (hks5 x).mp hx with a | a
            · exact (hks5 y).mpr (.inl (hdn x a y hy))
            · exact (hks5 y).mpr (.inr ((v3.mem y).mpr (((v3.mem x).mp a).trans hy)))
      · walk_at "g"
        exact ⟨_, _, ks, rfl, D4, k4, FA4, hsub, hdn⟩
    · rintro σ H3 ⟨y3, y4, ks, rfl, D3, k3, ⟨⟨fk, ef, hfk⟩, nd3⟩, hsub, hdn⟩
      refine unlock (k3 _ _ (by simp [nRd, nRg]) eR2) fun H4 eR4 o4 => ?_
      have ef4 := o4.get nRg.symm ef
      walk_at "g"
      refine w_sortD ef4 hfk (by have := nodup_le ks ns nd3 hsub; omega) fun hs L H5 hperm hsort hL eL k5 => ?_
      have kk : Kp [d] H H4 := fun b o hb e => by
        by_cases hbR : b = R
        · subst hbR
          rw [eR] at e
          cases e
          exact eR4
        · have z1 := o2.get hbR (k1 _ _ e)
          exact o4.get hbR (k3 _ _ (by
            have : b ≠ g := ne_of_none e hg
            simpa [this] using hb) z1)
      have D4 : Deck H4 d c (n + ns.length) := D3.kp (M := [R]) (o4.kp (by simp)) (by simpa using nRd.symm) (by simpa using nRc.symm)
      obtain ⟨⟨ws, ed4⟩, _⟩ := D4.at
      refine q H5 L hs ((D4.kp (M := []) (Kp.of k5) (by simp) (by simp)).mono (by omega)) (kk.trans (Kp.of k5)) ?_ eL (fun x hx => hsub x (hperm.mem_iff.mp hx)) (fun x hx y hy => hperm.mem_iff.mpr (hdn x (hperm.mem_iff.mp hx) y hy)) (List.Pairwise.imp (fun {x y} (h : x ≤ y ∧ x ≠ y) => by show x < y; omega) (hsort.and (hperm.nodup_iff.mpr nd3)))
      refine nofree kk ?_ hL
      simpa using (ne_of_none ed4 hL).symm
end
def midS (L : Int → Bool) (few : Int) (as c : List Int) : List Int := if c.filter L ≠ [] ∧ (as.length : Int) < few then as ++ [(c.filter L).getD ((c.filter L).length / 2) 0] else as
def midF (L : Int → Bool) (few : Int) (cs : List (List Int)) : List Int := cs.foldl (midS L few) []
theorem midF_snoc {L : Int → Bool} {few : Int} {cs : List (List Int)} {i : Nat} {c : List Int} (h : cs[i]? = some c) : midF L few (cs.take (i + 1)) = midS L few (midF L few (cs.take i)) c := by
  unfold midF
  rw [List.take_add_one, h, List.foldl_append]
  rfl
theorem midF_len {L : Int → Bool} {few : Int} : ∀ (cs : List (List Int)), (midF L few cs).length ≤ cs.length := by
  have key : ∀ (cs : List (List Int)) (as : List Int), (cs.foldl (midS L few) as).length ≤ as.length + cs.length := by
    intro cs
    induction cs with
    | nil => intro as; simp
    | cons c cs ih =>
      intro as
      have h1 := ih (midS L few as c)
      have h2 : (midS L few as c).length ≤ as.length + 1 := by
        unfold midS
        split
        · simp
        · omega
      simp only [List.foldl_cons, List.length_cons]
      omega
  intro cs
  show (cs.foldl (midS L few) []).length ≤ cs.length
  have := key cs []
  simpa using this
theorem mid_at {c : List Int} (h : c ≠ []) : atI (c.map V.int) ((c.length : Int) / 2) = some (.int (c.getD (c.length / 2) 0)) := by
  have hl : 0 < c.length := List.length_pos_iff.mpr h
  have e : ((c.length : Int) / 2) = ((c.length / 2 : Nat) : Int) := by omega
  rw [e]
  refine atI_nat ?_
  have h2 : c.length / 2 < c.length := by omega
  rw [List.getElem?_map, List.getElem?_eq_getElem h2, List.getD_eq_getElem?_getD, List.getElem?_eq_getElem h2]
  rfl
def ChsAt (H : Hp) (css : List (Addr × List Int)) : Prop := ∀ q ∈ css, H q.1 = some (.tup (q.2.map V.int)) ∧ q.2.length ≤ 1000
def spNext : Sp := fun vs H Q E => ∃ (t A cv ca : Addr) (u : V) (few : Int) (ns : List Int) (ps : List (Addr × Int × Int)) (an : List (Addr × Int × Bool)) (css : List (Addr × List Int)), vs = [.ref t, .ref cv, .ref A, .int few] ∧ ShAt H t ns ps ∧ ShOk ns (ps.map (·.2)) ∧ ns.length < 64 ∧ ps.length ≤ 100000 ∧ AL H A an ∧ an.length < 64 ∧ (∀ q ∈ an, q.2.1 ∈ ns) ∧
  Clear (ps.map (·.2)) (an.map (·.2)) ∧ H cv = some (.tup [.ref ca, u]) ∧ H ca = some (.tup (css.map fun q => .ref q.1)) ∧ ChsAt H css ∧ css.length ≤ 1000 ∧ ∀ H' r, Same H H' → VL H' r (midF (fun v => decide (v ∈ leftL (ps.map (·.2)) (an.map (·.2)) ns)) few (css.map (·.2))) → Q (.ref r) H'
section
variable {P : Program} {w : World} {K : PySem.W.Frag} {mg : Str → Option Value} {base : Heap}
theorem ok_next {f fS fN fT fI C_Contrary : Addr} {fd fdS fdN fdT fdI : FuncData} (T : Txt K mg) (D : DfK K mg "next_asks" s_next_asks ["shape", "cover", "answers", "few"] [("few", .int 4)] [.int 4] f fd) (D_spans : Df K mg "spans" s_spans ["shape"] fS fdS) (D_no_clash : Df K mg "no_clash" s_no_clash ["rows", "answers"] fN fdN) (D_settled : Df K mg "settled" s_settled ["shape", "answers"] fT fdT)
    (FI : Fun K "__init__" "Contrary.__init__" s_Contrary___init__ fI fdI) (X_Contrary : ExnI K mg "Contrary" C_Contrary fI fdI ["self", "upper", "lower"] ["upper", "lower"]) : FnOk P w K mg base (L2.CX P w) 5 f fd ["shape", "cover", "answers", "few"] spNext := by
  have G_settled : FnOk P w K mg base (L2.CX P w) 4 fT fdT ["shape", "answers"] (spSettledX C_Contrary) := ok_settledX T D_settled.fn D_spans D_no_clash FI X_Contrary
  refine D.fn.ok sc_next_asks (fun vs H Q E h => ?_) (fun cdv A outer s H vs Q E hr h => ?_)
  · obtain ⟨t, A, cv, ca, u, few, ns, ps, an, css, rfl, _⟩ := h
    rfl
  · obtain ⟨t, Aa, cv, ca, u, few, ns, ps, an, css, rfl, hS, S, hl, hl2, hA, hal, ham, hcl, ecv, eca, hch, hcn, q⟩ := h
    have hu := hu_of hr
    refine ⟨_,
      (pss_cons
        (ps_set (i := 4) sc_next_asks.nd rfl (.inr rfl) (pe_ix (r := rIxT K) ix_tup (pe_call G_settled (hr.mono (by omega)) (by rfl) D_settled.g D_settled.fn.kp D_settled.b .nil (passes_call (takes_of rfl rfl rfl rfl) (fun _ _ _ _ h => h)) (pa_cons (pv 0) (pa_cons (pv 2) pa_nil))) pe_int (fun _ _ => rfl)))
      (pss_cons
        (ps_set (i := 5) sc_next_asks.nd rfl (.inl rfl) (pe_lst pa_nil))
      (pss_cons
        (ps_for (passes_of rfl) rfl (pi_tup (pe_ix (r := rIxT K) ix_tup (pv 1) pe_int (fun _ _ => rfl))) (pg_name (i := 6) sc_next_asks.nd rfl (.inl rfl))
          (pss_cons
            (ps_setLc (i := 7) (own := [("version", 8)]) (g := (gName 8)) rfl sc_next_asks.nd rfl rfl (sw_true rfl rfl rfl (by decide +kernel)) (pi_tup (pv 6)) (blkOk_by (own := [("version", 8)]) (N := N_next_asks) (sc := defScope s_next_asks) (by decide +kernel)) (fun _ _ _ _ _ => (pg_name (i := 8) sc_next_asks.nd rfl (.inl rfl))) (fun _ _ _ _ _ => (pts_one (pt_cmpR (r := rIn K false) op_in_seq (pv 8) (pv 4) rfl))) (fun _ _ _ _ _ => (pv 8)))
          (pss_one
            (ps_if (PW.pt (pw_and (p_truth (pv 7) (by intro _; rfl)) (pw_and1 (pt_cmpR op_lt (pe_callB (r := rLen K) c_len (by rfl) T.n_len (by decide +kernel) (pa_cons (pv 5) pa_nil)) (pv 3) (nomark _)))))
              (pss_one
                (ps_expr (pe_bm PySem.F.plainAttrs_list PySem.F.slot_list_append PySem.F.type_list_append mt_append (pv 5) (pa_cons (pe_ix (r := rIxL K) ix_list (pv 7) (pe_op op_fdivW (pe_callB (r := rLen K) c_len (by rfl) T.n_len (by decide +kernel) (pa_cons (pv 7) pa_nil)) pe_int) (fun _ _ => rfl)) pa_nil))))
              pss_nil))))
      (pss_one
        (ps_ret (pe_callTy (r := rTupOf K) c_tupOf (by rfl) T.n_tuple (by decide +kernel) (pa_cons (pv 5) pa_nil)))))))
      , ?_⟩
    rw [show L2.start N_next_asks [V.ref t, V.ref cv, V.ref Aa, V.int few] = [some (.ref t), some (.ref cv), some (.ref Aa), some (.int few), none, none, none, none, none] from rfl]
    walk_at "x"
    refine ⟨t, Aa, ns, ps, an, rfl, hS, S, hl, hl2, hA, hal, ham, fun _ H1 r a1 a2 a3 k1 er v1 v2 v3 => ?_, fun p' d H' hp' => absurd hcl hp'.not⟩
    have v3' : H1 a3 = some (.tup ((leftL (ps.map (·.2)) (an.map (·.2)) ns).map V.int)) := v3
    generalize hlf : leftL (ps.map (·.2)) (an.map (·.2)) ns = lf at q v3'
    walk_at "g"
    refine w_new fun b H2 hb eb k2 => ?_
    have k02 : Same H H2 := Same.trans k1 k2
    have ecv2 := k02 _ _ ecv
    have eca2 := k02 _ _ eca
    have off : ∀ {x : Addr} {o : HO}, H1 x = some o → x ∉ [b] := fun {x o} e => by simpa using ne_of_none e hb
    walk_at "g"
    refine lp_tup (xs := css.map fun q => .ref q.1) (fun i σ H' => ∃ (y6 y7 y8 : Option V), σ = [some (.ref t), some (.ref cv), some (.ref Aa), some (.int few), some (.ref a3), some (.ref b), y6, y7, y8] ∧ Kp [b] H2 H' ∧ H' b = some (.lst ((midF (fun v => decide (v ∈ lf)) few ((css.map (·.2)).take i)).map V.int))) ?_ ?_ ?_ ?_
    · exact ⟨_, _, _, rfl, Kp.refl, eb⟩
    · rintro i σ H' _ ⟨_, _, _, _, k3, _⟩
      exact .of (k3 _ _ (off (k1 _ _ eca)) eca2)
    · rintro i y σ H3 hy ⟨y6, y7, y8, rfl, k3, e3⟩
      obtain ⟨c, hc, rfl⟩ := map_at hy
      have hil : i < css.length := (List.getElem?_eq_some_iff.mp hc).1
      obtain ⟨ec, hcl'⟩ := hch c (List.mem_of_getElem? hc)
      have ec3 := k3 _ _ (off (k1 _ _ ec)) (k02 _ _ ec)
      have el3 := k3 _ _ (off v3') (k2 _ _ v3')
      have hc2 : (css.map (·.2))[i]? = some c.2 := by rw [List.getElem?_map, hc]; rfl
      walk_at "g"
      refine lcp_sel (walk_tup (K := K) (a := c.1) (xs := c.2.map V.int)) [] (fun i => c.2[i]?.bind (pickI fun v => decide (v ∈ lf))) (by rw [List.length_map]; omega) (fun H' k => .of (k _ _ (by simp) ec3)) ?_ (by simp) ?_
      · rintro j x H4 H5 Rr R0 hj k4 ⟨rfl, hx⟩ h1 h2
        obtain ⟨v, hv, rfl⟩ := map_at hx
        have el4 := k4 _ _ (by simp) el3
        refine w_name ⟨rfl, ?_⟩
        walk_at "g"
        refine w_ite (fun hz => ?_) (fun hz => ?_)
        · walk_at "g"
          exact h1 _ _ (sel_yes hv (decide_eq_true hz)) Kp.refl
        · exact h2 _ (sel_no hv (by simpa using hz)) Kp.refl
      · intro G H4 hG k4 eG
        rw [List.length_map, range_fm, pickI_map] at eG
        have e4 := k4 _ _ (by simp) e3
        have k24 : Kp [b] H2 H4 := k3.trans (Kp.of k4.same)
        have nGb : b ≠ G := ne_of_none e3 hG
        have sn := midF_snoc (L := fun v => decide (v ∈ lf)) (few := few) hc2
        generalize hF : c.2.filter (fun v => decide (v ∈ lf)) = F at eG
        walk_at "g"
        by_cases hF0 : F = []
        · have sn' : midF (fun v => decide (v ∈ lf)) few ((css.map (·.2)).take (i + 1)) = midF (fun v => decide (v ∈ lf)) few ((css.map (·.2)).take i) := by
            rw [sn]
            unfold midS
            rw [hF, if_neg (fun z => z.1 hF0)]
          rw [hF0]
          refine (iteF ?_ : if false = true then _ else _)
          walk_at "g"
          exact ⟨_, _, _, rfl, k24, by rw [sn']; exact e4⟩
        · rw [show (!(F.map V.int).isEmpty) = true by cases F with | nil => exact absurd rfl hF0 | cons _ _ => rfl]
          refine iteT ?_
          walk_at "g"
          refine w_ite (fun hlt => ?_) (fun hge => ?_)
          · rw [List.length_map] at hlt
            have hm := mid_at hF0
            walk_at "g"
            rw [List.length_map]
            refine w_ixL (.of eG) hm ?_
            walk_at "g"
            refine w_app e4 ?_ fun H5 e5 o5 => ?_
            · rw [List.length_map]
              refine small1000 (Nat.le_trans (midF_len _) ?_)
              rw [List.length_take, List.length_map]
              omega
            · refine ⟨_, _, _, rfl, k24.trans (o5.kp (by simp)), ?_⟩
              rw [e5, sn]
              unfold midS
              rw [hF, if_pos ⟨hF0, hlt⟩, List.map_append]
              rfl
          · rw [List.length_map] at hge
            have sn' : midF (fun v => decide (v ∈ lf)) few ((css.map (·.2)).take (i + 1)) = midF (fun v => decide (v ∈ lf)) few ((css.map (·.2)).take i) := by
              rw [sn]
              unfold midS
              rw [hF, if_neg (fun z => hge z.2)]
            walk_at "g"
            exact ⟨_, _, _, rfl, k24, by rw [sn']; exact e4⟩
    · rintro σ H3 ⟨y6, y7, y8, rfl, k3, e3⟩
      rw [List.length_map, show (css.map (·.2)).take css.length = css.map (·.2) by rw [List.take_of_length_le (by simp)]] at e3
      walk_at "g"
      refine w_tupL (.of e3) fun r2 H4 hr2 er2 k4 => ?_
      exact q H4 r2 (fun x o e => k4 _ _ (k3 _ _ (off (k1 _ _ e)) (k02 _ _ e))) er2
end
/-! ### the states of a table, and what asks are enough in each -/
structure RwOk (vs : List Int) (rw : Int → List Int) : Prop where
  up : vs.Pairwise (· < ·)
  rise : ∀ v ∈ vs, (rw v).Pairwise (· < ·)
  sub : ∀ v ∈ vs, ∀ x ∈ rw v, x ∈ vs
  self : ∀ v ∈ vs, v ∈ rw v
def opn (vs : List Int) (q : Sts) : List Int := vs.filter fun v => decide (v ∉ q.1 ∧ v ∉ q.2)
def hiS (vs : List Int) (rw : Int → List Int) (q : Sts) (v : Int) : Sts := (vs.filter fun x => decide (x ∈ q.1 ∨ x ∈ rw v), q.2)
def loS (vs : List Int) (rw : Int → List Int) (q : Sts) (v : Int) : Sts := (q.1, vs.filter fun x => decide (x ∈ q.2 ∨ v ∈ rw x))
theorem mem_hi {vs : List Int} {rw : Int → List Int} {q : Sts} {v x : Int} : x ∈ (hiS vs rw q v).1 ↔ x ∈ vs ∧ (x ∈ q.1 ∨ x ∈ rw v) := by
  show x ∈ vs.filter _ ↔ _
  rw [List.mem_filter, decide_eq_true_iff]
theorem mem_lo {vs : List Int} {rw : Int → List Int} {q : Sts} {v x : Int} : x ∈ (loS vs rw q v).2 ↔ x ∈ vs ∧ (x ∈ q.2 ∨ v ∈ rw x) := by
  show x ∈ vs.filter _ ↔ _
  rw [List.mem_filter, decide_eq_true_iff]
structure StOk (vs : List Int) (q : Sts) : Prop where
  r1 : q.1.Pairwise (· < ·)
  r2 : q.2.Pairwise (· < ·)
  s1 : ∀ x ∈ q.1, x ∈ vs
  s2 : ∀ x ∈ q.2, x ∈ vs
theorem StOk.nil (vs : List Int) : StOk vs ([], []) := ⟨by simp, by simp, by simp, by simp⟩
theorem StOk.hi {vs : List Int} {rw : Int → List Int} {q : Sts} (h : StOk vs q) (up : vs.Pairwise (· < ·)) (v : Int) : StOk vs (hiS vs rw q v) :=
  ⟨up.filter _, h.r2, fun x hx => (List.mem_filter.mp hx).1, h.s2⟩
theorem StOk.lo {vs : List Int} {rw : Int → List Int} {q : Sts} (h : StOk vs q) (up : vs.Pairwise (· < ·)) (v : Int) : StOk vs (loS vs rw q v) :=
  ⟨h.r1, up.filter _, h.s1, fun x hx => (List.mem_filter.mp hx).1⟩
theorem mem_opn {vs : List Int} {q : Sts} {v : Int} : v ∈ opn vs q ↔ v ∈ vs ∧ v ∉ q.1 ∧ v ∉ q.2 := by
  unfold opn
  rw [List.mem_filter, decide_eq_true_iff]
theorem filter_le' {p r : Int → Bool} : ∀ {l : List Int}, (∀ x ∈ l, p x = true → r x = true) → (l.filter p).length ≤ (l.filter r).length
  | [], _ => Nat.le_refl _
  | x :: l, h => by
    have ih := filter_le' (l := l) fun y hy => h y (by simp [hy])
    by_cases hp : p x = true
    · rw [List.filter_cons_of_pos hp, List.filter_cons_of_pos (h x (by simp) hp)]
      simp only [List.length_cons]
      omega
    · rw [List.filter_cons_of_neg hp]
      by_cases hr : r x = true
      · rw [List.filter_cons_of_pos hr]
        simp only [List.length_cons]
        omega
      · rw [List.filter_cons_of_neg hr]
        exact ih
theorem filter_lt' {p r : Int → Bool} {v : Int} : ∀ {l : List Int}, (∀ x ∈ l, p x = true → r x = true) → v ∈ l → r v = true → p v = false → (l.filter p).length < (l.filter r).length
  | [], _, hv, _, _ => by cases hv
  | x :: l, h, hv, hr, hp => by
    rcases List.mem_cons.mp hv with e | hv
    · subst e
      rw [List.filter_cons_of_neg (by rw [hp]; simp), List.filter_cons_of_pos hr]
      have := filter_le' (l := l) fun y hy => h y (by simp [hy])
      simp only [List.length_cons]
      omega
    · have ih := filter_lt' (l := l) (fun y hy => h y (by simp [hy])) hv hr hp
      by_cases hp' : p x = true
      · rw [List.filter_cons_of_pos hp', List.filter_cons_of_pos (h x (by simp) hp')]
        simp only [List.length_cons]
        omega
      · rw [List.filter_cons_of_neg hp']
        by_cases hr' : r x = true
        · rw [List.filter_cons_of_pos hr']
          simp only [List.length_cons]
          omega
        · rw [List.filter_cons_of_neg hr']
          exact ih
theorem opn_hi {vs : List Int} {rw : Int → List Int} (R : RwOk vs rw) {q : Sts} (h : StOk vs q) {v : Int} (hv : v ∈ opn vs q) : (opn vs (hiS vs rw q v)).length < (opn vs q).length := by
  obtain ⟨h1, h2, h3⟩ := mem_opn.mp hv
  refine filter_lt' (v := v) (fun x hx hp => ?_) h1 (by rw [decide_eq_true_iff]; exact ⟨h2, h3⟩) (by
    rw [decide_eq_false_iff_not]
    intro z
    exact z.1 (List.mem_filter.mpr ⟨h1, by rw [decide_eq_true_iff]; exact .inr (R.self v h1)⟩))
  rw [decide_eq_true_iff] at hp ⊢
  exact ⟨fun z => hp.1 (List.mem_filter.mpr ⟨hx, by rw [decide_eq_true_iff]; exact .inl z⟩), hp.2⟩
theorem opn_lo {vs : List Int} {rw : Int → List Int} (R : RwOk vs rw) {q : Sts} (h : StOk vs q) {v : Int} (hv : v ∈ opn vs q) : (opn vs (loS vs rw q v)).length < (opn vs q).length := by
  obtain ⟨h1, h2, h3⟩ := mem_opn.mp hv
  refine filter_lt' (v := v) (fun x hx hp => ?_) h1 (by rw [decide_eq_true_iff]; exact ⟨h2, h3⟩) (by
    rw [decide_eq_false_iff_not]
    intro z
    exact z.2 (List.mem_filter.mpr ⟨h1, by rw [decide_eq_true_iff]; exact .inr (R.self v h1)⟩))
  rw [decide_eq_true_iff] at hp ⊢
  exact ⟨hp.1, fun z => hp.2 (List.mem_filter.mpr ⟨hx, by rw [decide_eq_true_iff]; exact .inl z⟩)⟩
def bestStep (m : Int → Int) (b : Int × Option Int) (v : Int) : Int × Option Int := if b.2 = none ∨ m v < b.1 then (m v, some v) else b
def worst (f : Sts → Int) (vs : List Int) (rw : Int → List Int) (q : Sts) (v : Int) : Int := max (f (hiS vs rw q v)) (f (loS vs rw q v)) + 1
def tV (vs : List Int) (rw : Int → List Int) : Nat → Sts → Int × Option Int
  | 0, _ => (0, none)
  | j + 1, q => (opn vs q).foldl (bestStep (worst (fun s => (tV vs rw j s).1) vs rw q)) (0, none)
def tab (vs : List Int) (rw : Int → List Int) (q : Sts) : Int × Option Int := tV vs rw (opn vs q).length q
theorem foldl_same {α β : Type} {f g : β → α → β} : ∀ {l : List α} {b : β}, (∀ b, ∀ x ∈ l, f b x = g b x) → l.foldl f b = l.foldl g b
  | [], _, _ => rfl
  | x :: l, b, h => by
    rw [List.foldl_cons, List.foldl_cons, h b x (by simp)]
    exact foldl_same fun b y hy => h b y (by simp [hy])
theorem best_same {m m' : Int → Int} {b : Int × Option Int} {v : Int} (h : m v = m' v) : bestStep m b v = bestStep m' b v := by
  unfold bestStep
  rw [h]
theorem tV_same {vs : List Int} {rw : Int → List Int} (R : RwOk vs rw) : ∀ (j j' : Nat) (q : Sts), StOk vs q → (opn vs q).length ≤ j → (opn vs q).length ≤ j' → tV vs rw j q = tV vs rw j' q
  | 0, 0, _, _, _, _ => rfl
  | 0, j' + 1, q, _, h, _ => by
    have e : opn vs q = [] := List.eq_nil_of_length_eq_zero (by omega)
    show _ = (opn vs q).foldl _ _
    rw [e]
    rfl
  | j + 1, 0, q, _, _, h => by
    have e : opn vs q = [] := List.eq_nil_of_length_eq_zero (by omega)
    show (opn vs q).foldl _ _ = _
    rw [e]
    rfl
  | j + 1, j' + 1, q, hq, h, h' => by
    show (opn vs q).foldl _ _ = (opn vs q).foldl _ _
    refine foldl_same fun b v hv => ?_
    have h1 := opn_hi R hq hv
    have h2 := opn_lo R hq hv
    have e1 := tV_same R j j' (hiS vs rw q v) (hq.hi R.up v) (by omega) (by omega)
    have e2 := tV_same R j j' (loS vs rw q v) (hq.lo R.up v) (by omega) (by omega)
    refine best_same ?_
    unfold worst
    dsimp only
    rw [e1, e2]
theorem tab_eq {vs : List Int} {rw : Int → List Int} (R : RwOk vs rw) {q : Sts} (hq : StOk vs q) : tab vs rw q = (opn vs q).foldl (bestStep (worst (fun s => (tab vs rw s).1) vs rw q)) (0, none) := by
  unfold tab
  cases e : (opn vs q).length with
  | zero =>
    have e : opn vs q = [] := List.eq_nil_of_length_eq_zero e
    rw [e]
    rfl
  | succ j =>
    show (opn vs q).foldl _ _ = (opn vs q).foldl _ _
    refine foldl_same fun b v hv => ?_
    have h1 := opn_hi R hq hv
    have h2 := opn_lo R hq hv
    have e1 := tV_same R j (opn vs (hiS vs rw q v)).length (hiS vs rw q v) (hq.hi R.up v) (by omega) (Nat.le_refl _)
    have e2 := tV_same R j (opn vs (loS vs rw q v)).length (loS vs rw q v) (hq.lo R.up v) (by omega) (Nat.le_refl _)
    refine best_same ?_
    unfold worst
    dsimp only
    rw [e1, e2]
theorem take_succ_foldl {α β : Type} {f : β → α → β} {l : List α} {i : Nat} {x : α} {b : β} (h : l[i]? = some x) : (l.take (i + 1)).foldl f b = f ((l.take i).foldl f b) x := by
  rw [List.take_add_one, h, List.foldl_append]
  rfl
inductive RchT (vs : List Int) (rw : Int → List Int) : Sts → Sts → Prop
  | refl (q : Sts) : RchT vs rw q q
  | hi {q s : Sts} {v : Int} (h : v ∈ opn vs q) (r : RchT vs rw (hiS vs rw q v) s) : RchT vs rw q s
  | lo {q s : Sts} {v : Int} (h : v ∈ opn vs q) (r : RchT vs rw (loS vs rw q v) s) : RchT vs rw q s
theorem RchT.le {vs : List Int} {rw : Int → List Int} (R : RwOk vs rw) {q s : Sts} (h : RchT vs rw q s) (hq : StOk vs q) : (opn vs s).length ≤ (opn vs q).length := by
  induction h with
  | refl q => exact Nat.le_refl _
  | hi h _ ih => exact Nat.le_trans (ih (hq.hi R.up _)) (Nat.le_of_lt (opn_hi R hq h))
  | lo h _ ih => exact Nat.le_trans (ih (hq.lo R.up _)) (Nat.le_of_lt (opn_lo R hq h))
theorem RchT.ok {vs : List Int} {rw : Int → List Int} (R : RwOk vs rw) {q s : Sts} (h : RchT vs rw q s) (hq : StOk vs q) : StOk vs s := by
  induction h with
  | refl q => exact hq
  | hi h _ ih => exact ih (hq.hi R.up _)
  | lo h _ ih => exact ih (hq.lo R.up _)
/-- an entry of the table while it is filled -/
structure Ent where
  st : Sts
  n : Int
  ask : Option Int
  ad : Addr
  va : Addr
structure TabOk (vs : List Int) (rw : Int → List Int) (ds : List Ent) : Prop where
  nd : (ds.map (·.st)).Nodup
  ok : ∀ d ∈ ds, StOk vs d.st ∧ (d.n, d.ask) = tab vs rw d.st
  cl : ∀ d ∈ ds, ∀ v ∈ opn vs d.st, hiS vs rw d.st v ∈ ds.map (·.st) ∧ loS vs rw d.st v ∈ ds.map (·.st)
structure TabExt (vs : List Int) (rw : Int → List Int) (q : Sts) (ds ds' : List Ent) : Prop where
  sub : ∀ d ∈ ds, d ∈ ds'
  new : ∀ d ∈ ds', d ∈ ds ∨ RchT vs rw q d.st
theorem TabOk.nil (vs : List Int) (rw : Int → List Int) : TabOk vs rw [] := ⟨by simp, by simp, by simp⟩
theorem TabOk.rch {vs : List Int} {rw : Int → List Int} {ds : List Ent} (T : TabOk vs rw ds) {q s : Sts} (h : RchT vs rw q s) (hq : q ∈ ds.map (·.st)) : s ∈ ds.map (·.st) := by
  induction h with
  | refl q => exact hq
  | @hi q s v h _ ih =>
    obtain ⟨d, hd, e⟩ := List.mem_map.mp hq
    subst e
    exact ih (T.cl d hd v h).1
  | @lo q s v h _ ih =>
    obtain ⟨d, hd, e⟩ := List.mem_map.mp hq
    subst e
    exact ih (T.cl d hd v h).2
theorem TabOk.snoc {vs : List Int} {rw : Int → List Int} {ds : List Ent} (T : TabOk vs rw ds) {d : Ent} (nin : d.st ∉ ds.map (·.st)) (ok : StOk vs d.st) (hv : (d.n, d.ask) = tab vs rw d.st) (cl : ∀ v ∈ opn vs d.st, hiS vs rw d.st v ∈ ds.map (·.st) ∧ loS vs rw d.st v ∈ ds.map (·.st)) : TabOk vs rw (ds ++ [d]) := by
  refine ⟨?_, fun x hx => ?_, fun x hx v hv => ?_⟩
  · rw [List.map_append, List.nodup_append]
    refine ⟨T.nd, by simp, fun a ha b hb e => ?_⟩
    have : b = d.st := by simpa using hb
    rw [e, this] at ha
    exact nin ha
  · rcases List.mem_append.mp hx with h | h
    · exact T.ok x h
    · rw [List.mem_singleton.mp h]
      exact ⟨ok, hv⟩
  · rw [List.map_append]
    rcases List.mem_append.mp hx with h | h
    · exact ⟨List.mem_append_left _ (T.cl x h v hv).1, List.mem_append_left _ (T.cl x h v hv).2⟩
    · rw [List.mem_singleton.mp h] at hv ⊢
      exact ⟨List.mem_append_left _ (cl v hv).1, List.mem_append_left _ (cl v hv).2⟩
/-! how many states there can be -/
def subsL : List Int → List (List Int)
  | [] => [[]]
  | x :: l => subsL l ++ (subsL l).map (x :: ·)
theorem subsL_len : ∀ l : List Int, (subsL l).length = 2 ^ l.length
  | [] => rfl
  | x :: l => by
    show (subsL l ++ (subsL l).map (x :: ·)).length = _
    rw [List.length_append, List.length_map, subsL_len l, List.length_cons, Nat.pow_succ]
    omega
theorem mem_subsL : ∀ {l a : List Int}, l.Pairwise (· < ·) → a.Pairwise (· < ·) → (∀ x ∈ a, x ∈ l) → a ∈ subsL l
  | [], a, _, _, h => by
    cases a with
    | nil => simp [subsL]
    | cons x a => have := h x (by simp); cases this
  | y :: l, a, hl, ha, h => by
    rw [List.pairwise_cons] at hl
    show a ∈ subsL l ++ (subsL l).map (y :: ·)
    rw [List.mem_append]
    cases a with
    | nil => exact .inl (mem_subsL hl.2 (by simp) (by simp))
    | cons x a =>
      rw [List.pairwise_cons] at ha
      have hin : ∀ z ∈ a, z ∈ l := fun z hz => by
        rcases List.mem_cons.mp (h z (by simp [hz])) with e | e
        · subst e
          rcases List.mem_cons.mp (h x (by simp)) with e2 | e2
          · have := ha.1 z hz
            omega
          · have := hl.1 x e2
            have := ha.1 z hz
            omega
        · exact e
      rcases List.mem_cons.mp (h x (by simp)) with e | e
      · subst e
        exact .inr (List.mem_map.mpr ⟨a, mem_subsL hl.2 ha.2 hin, rfl⟩)
      · refine .inl (mem_subsL hl.2 (List.pairwise_cons.mpr ha) fun z hz => ?_)
        rcases List.mem_cons.mp hz with e2 | e2
        · rw [e2]; exact e
        · exact hin z e2
theorem nodup_leS : ∀ (ks vs : List Sts), ks.Nodup → (∀ x ∈ ks, x ∈ vs) → ks.length ≤ vs.length
  | [], _, _, _ => Nat.zero_le _
  | k :: ks, vs, h, hs => by
    rw [List.nodup_cons] at h
    have hk := hs k (by simp)
    have ih := nodup_leS ks (vs.erase k) h.2 fun x hx => (List.mem_erase_of_ne (fun z => h.1 (by rw [← z]; exact hx))).mpr (hs x (by simp [hx]))
    rw [List.length_erase_of_mem hk] at ih
    have : 0 < vs.length := List.length_pos_of_mem hk
    rw [List.length_cons]
    omega
def pairsL (xs ys : List (List Int)) : List Sts := (xs.map fun a => ys.map fun b => (a, b)).flatten
theorem pairsL_len (ys : List (List Int)) : ∀ xs : List (List Int), (pairsL xs ys).length = xs.length * ys.length
  | [] => by simp [pairsL]
  | x :: xs => by
    have ih := pairsL_len ys xs
    unfold pairsL at ih ⊢
    rw [List.map_cons, List.flatten_cons, List.length_append, List.length_map, ih, List.length_cons, Nat.succ_mul]
    omega
theorem mem_pairsL {xs ys : List (List Int)} {q : Sts} (h1 : q.1 ∈ xs) (h2 : q.2 ∈ ys) : q ∈ pairsL xs ys := by
  unfold pairsL
  rw [List.mem_flatten]
  exact ⟨_, List.mem_map.mpr ⟨q.1, h1, rfl⟩, List.mem_map.mpr ⟨q.2, h2, rfl⟩⟩
theorem TabOk.few {vs : List Int} {rw : Int → List Int} {ds : List Ent} (T : TabOk vs rw ds) (up : vs.Pairwise (· < ·)) (h5 : vs.length ≤ 5) : ds.length ≤ 1024 := by
  have h := nodup_leS (ds.map (·.st)) (pairsL (subsL vs) (subsL vs)) T.nd fun x hx => by
    obtain ⟨d, hd, e⟩ := List.mem_map.mp hx
    subst e
    obtain ⟨o, _⟩ := T.ok d hd
    exact mem_pairsL (mem_subsL up o.r1 o.s1) (mem_subsL up o.r2 o.s2)
  rw [List.length_map, pairsL_len, subsL_len] at h
  have h2 : 2 ^ vs.length ≤ 2 ^ 5 := Nat.pow_le_pow_right (by decide) h5
  have h3 : 2 ^ vs.length * 2 ^ vs.length ≤ 2 ^ 5 * 2 ^ 5 := Nat.mul_le_mul h2 h2
  have : (2 : Nat) ^ 5 * 2 ^ 5 = 1024 := by decide
  omega
theorem w_lockE {σ : L2.St} {H : Hp} {Q : VK} {t : TE} {d : Addr} {kvs : List (Key × V)} (e : H d = some (.dK kvs)) (h : ∀ od H1, H1 d = some (.frz od (.dK kvs)) → Off d H H1 → t σ H1 fun v H' => H' d = some (.frz od (.dK kvs)) ∧ Q v (upd H' d (.dK kvs))) : tLockE t σ H Q :=
  ⟨d, _, e, trivial, fun od => h od _ upd_same fun x hx => upd_ne hx⟩
theorem lock_kp {H H1 H2 : Hp} {R : Addr} {kvs : List (Key × V)} {M : List Addr} (e : H R = some (.dK kvs)) (o : Off R H H1) (k : Kp M H1 H2) : Kp M H (upd H2 R (.dK kvs)) := fun b ob hb eb => by
  by_cases h : b = R
  · subst h
    rw [e] at eb
    cases eb
    exact upd_same
  · rw [upd_ne h]
    exact k _ _ hb (o.get h eb)
theorem key_at {kvs : List (Key × V)} {vs : List Int} (hk : kvs.map (·.1) = vs.map (Sum.inl : Int → Key)) {i : Nat} {k : Key} {v : V} (h : kvs[i]? = some (k, v)) : ∃ y, vs[i]? = some y ∧ k = Sum.inl y := by
  have h1 : (kvs.map (·.1))[i]? = some k := by rw [List.getElem?_map, h]; rfl
  rw [hk, List.getElem?_map] at h1
  obtain ⟨y, hy, e⟩ := Option.map_eq_some_iff.mp h1
  exact ⟨y, hy, e.symm⟩
/-! ### states, rows and the table on the heap -/
def opV : Option Int → V
  | none => .non
  | some v => .int v
def QAt (H : Hp) (t : Addr) (q : Sts) : Prop := ∃ a b, H t = some (.tup [.ref a, .ref b]) ∧ H a = some (.tup (q.1.map V.int)) ∧ H b = some (.tup (q.2.map V.int))
theorem QAt.kt {H H' : Hp} {t : Addr} {q : Sts} (h : QAt H t q) (k : KT H H') : QAt H' t q := by
  obtain ⟨a, b, e1, e2, e3⟩ := h
  exact ⟨a, b, k _ _ e1, k _ _ e2, k _ _ e3⟩
theorem nall_ints (H : Hp) : ∀ a : List Int, NAll H (a.map NestedKey.num) (a.map V.int)
  | [] => .nil
  | x :: a => .cons (.int x) (nall_ints H a)
theorem QAt.nat {H : Hp} {t : Addr} {q : Sts} (h : QAt H t q) : NAt H (stK q) (.ref t) := by
  obtain ⟨a, b, e1, e2, e3⟩ := h
  exact .tup e1 (.cons (.tup e2 (nall_ints H _)) (.cons (.tup e3 (nall_ints H _)) .nil))
theorem QAt.inj {H : Hp} {t : Addr} {q q' : Sts} (h : QAt H t q) (h' : QAt H t q') : q = q' := stK_inj (NAt.inj _ _ _ h.nat h'.nat)
def RowsH (H : Hp) (R : Addr) (vs : List Int) (rw : Int → List Int) : Prop := ∃ kvs, H R = some (.dK kvs) ∧ kvs.map (·.1) = vs.map (Sum.inl : Int → Key) ∧ ∀ v ∈ vs, ∃ a, valV kvs (Sum.inl v) = some (.ref a) ∧ H a = some (.lst ((rw v).map V.int))
theorem RowsH.kp {M : List Addr} {H H' : Hp} {R : Addr} {vs : List Int} {rw : Int → List Int} (h : RowsH H R vs rw) (k : Kp M H H') (hR : R ∉ M) (hM : ∀ b ∈ M, ∀ xs, H b ≠ some (.lst xs)) : RowsH H' R vs rw := by
  obtain ⟨kvs, e, hk, hv⟩ := h
  refine ⟨kvs, k _ _ hR e, hk, fun v hv' => ?_⟩
  obtain ⟨a, e1, e2⟩ := hv v hv'
  exact ⟨a, e1, k _ _ (fun z => hM a z _ e2) e2⟩
theorem RowsH.same {H H' : Hp} {R : Addr} {vs : List Int} {rw : Int → List Int} (h : RowsH H R vs rw) (k : Same H H') : RowsH H' R vs rw := h.kp (M := []) (Kp.of k) (by simp) (by simp)
noncomputable def rwB (vs : List Int) (ls : List (Int × Int)) (v : Int) : List Int := by
  classical exact vs.filter fun x => decide (Bel ls v x)
theorem mem_rwB {vs : List Int} {ls : List (Int × Int)} {v x : Int} : x ∈ rwB vs ls v ↔ x ∈ vs ∧ Bel ls v x := by
  unfold rwB
  simp only [List.mem_filter, decide_eq_true_eq]
theorem rwB_rise {vs : List Int} {ls : List (Int × Int)} {v : Int} (up : vs.Pairwise (· < ·)) : (rwB vs ls v).Pairwise (· < ·) := by
  unfold rwB
  exact up.filter _
theorem rwB_ok {vs : List Int} {ls : List (Int × Int)} (S : ShOk vs ls) : RwOk vs (rwB vs ls) :=
  ⟨S.vr, fun v _ => rwB_rise S.vr, fun v _ x hx => (mem_rwB.mp hx).1, fun v hv => mem_rwB.mpr ⟨hv, .refl v⟩⟩
theorem RowsAt.toH {H0 H : Hp} {R : Addr} {vs : List Int} {ls : List (Int × Int)} (S : ShOk vs ls) (h : RowsAt H0 H R ls vs) : RowsH H R vs (rwB vs ls) := by
  obtain ⟨kvs, e, hl, hn, hv⟩ := h
  refine ⟨kvs, e, hl, fun v hv' => ?_⟩
  obtain ⟨a, ys, e1, e2, r, n⟩ := hv v hv'
  refine ⟨a, e1, ?_⟩
  rw [e2, rise_ext ys (rwB vs ls v) r.rise (rwB_rise S.vr) fun x => by rw [r.mem, mem_rwB]; exact ⟨fun h => ⟨h.mem S hv', h⟩, And.right⟩]
def entN (d : Ent) : NEnt := (stK d.st, d.ad, V.ref d.va)
structure KnAt (P : Program) (w : World) (H : Hp) (kn : Addr) (ds : List Ent) : Prop where
  at' : NDict P w H kn (ds.map entN)
  en : ∀ d ∈ ds, QAt H d.ad d.st ∧ H d.va = some (.tup [.int d.n, opV d.ask])
theorem KT.kpn {P : Program} {w : World} {kn : Addr} {H H' : Hp} {xs : List NEnt} (k : Kp [kn] H H') (d : NDict P w H kn xs) : KT H H' := ⟨fun b ys eb => k b _ (fun z => by rw [List.mem_singleton.mp z, d.at'] at eb; cases eb) eb, fun b o ys eb => k b _ (fun z => by rw [List.mem_singleton.mp z, d.at'] at eb; cases eb) eb⟩
theorem KnAt.kp {P : Program} {w : World} {M : List Addr} {H H' : Hp} {kn : Addr} {ds : List Ent} (h : KnAt P w H kn ds) (k : Kp M H H') (t : KT H H') (hn : kn ∉ M) : KnAt P w H' kn ds :=
  ⟨h.at'.kp k t hn, fun d hd => ⟨(h.en d hd).1.kt t, t _ _ (h.en d hd).2⟩⟩
theorem KnAt.same {P : Program} {w : World} {H H' : Hp} {kn : Addr} {ds : List Ent} (h : KnAt P w H kn ds) (k : Same H H') : KnAt P w H' kn ds := h.kp (M := []) (Kp.of k) (KT.of k) (by simp)
theorem nval_find : ∀ (ds : List Ent) (q : Sts), NVal (ds.map entN) (stK q) = (ds.find? fun d => decide (d.st = q)).map fun d => V.ref d.va
  | [], _ => rfl
  | d :: ds, q => by
    have ih := nval_find ds q
    unfold NVal at ih ⊢
    rw [List.map_cons]
    by_cases h : d.st = q
    · rw [List.find?_cons_of_pos (by show decide (stK d.st = stK q) = true; rw [h]; exact decide_eq_true rfl), List.find?_cons_of_pos (by rw [h]; exact decide_eq_true rfl)]
      rfl
    · rw [List.find?_cons_of_neg (by show ¬ decide (stK d.st = stK q) = true; rw [decide_eq_true_iff]; exact fun z => h (stK_inj z)), List.find?_cons_of_neg (by rw [decide_eq_true_iff]; exact h)]
      exact ih
theorem nval_in (ds : List Ent) (q : Sts) : (NVal (ds.map entN) (stK q)).isSome = decide (q ∈ ds.map (·.st)) := by
  rw [nval_find, Option.isSome_map]
  by_cases h : q ∈ ds.map (·.st)
  · rw [decide_eq_true h, List.find?_isSome]
    obtain ⟨d, hd, e⟩ := List.mem_map.mp h
    exact ⟨d, hd, decide_eq_true e⟩
  · rw [decide_eq_false h]
    cases e : (ds.find? fun d => decide (d.st = q)) with
    | none => rfl
    | some d =>
      have h1 := List.mem_of_find?_eq_some e
      have h2 := List.find?_some e
      exact absurd (List.mem_map.mpr ⟨d, h1, of_decide_eq_true h2⟩) h
theorem nval_at {ds : List Ent} (nd : (ds.map (·.st)).Nodup) {d : Ent} (hd : d ∈ ds) : NVal (ds.map entN) (stK d.st) = some (.ref d.va) := by
  rw [nval_find]
  have : ds.find? (fun x => decide (x.st = d.st)) = some d := by
    induction ds with
    | nil => cases hd
    | cons x ds ih =>
      rw [List.map_cons, List.nodup_cons] at nd
      rcases List.mem_cons.mp hd with e | h
      · subst e
        exact List.find?_cons_of_pos (decide_eq_true rfl)
      · rw [List.find?_cons_of_neg (by rw [decide_eq_true_iff]; exact fun z => nd.1 (by rw [z]; exact List.mem_map_of_mem h))]
        exact ih nd.2 h
  rw [this]
  rfl
theorem nput_new {ds : List Ent} {d : Ent} (h : d.st ∉ ds.map (·.st)) : NPut (ds.map entN) (stK d.st) d.ad (.ref d.va) = (ds ++ [d]).map entN := by
  unfold NPut
  rw [nval_in, decide_eq_false h]
  rw [if_neg Bool.false_ne_true, List.map_append]
  rfl
theorem KnAt.put {P : Program} {w : World} {H H' : Hp} {kn : Addr} {ds : List Ent} (h : KnAt P w H kn ds) {d : Ent} (hq : QAt H d.ad d.st) (hv : H d.va = some (.tup [.int d.n, opV d.ask])) (nin : d.st ∉ ds.map (·.st)) (e : NDict P w H' kn (NPut (ds.map entN) (stK d.st) d.ad (.ref d.va))) (o : Off kn H H') : KnAt P w H' kn (ds ++ [d]) := by
  have t : KT H H' := KT.kpn (o.kp (by simp)) h.at'
  refine ⟨by rw [← nput_new nin]; exact e, fun x hx => ?_⟩
  rcases List.mem_append.mp hx with g | g
  · exact ⟨(h.en x g).1.kt t, t _ _ (h.en x g).2⟩
  · rw [List.mem_singleton.mp g]
    exact ⟨hq.kt t, t _ _ hv⟩
/-! ### where_held, where_lacking, open_ones -/
def spHeldQ : Sp := fun vs H Q _ => ∃ (R t : Addr) (ns : List Int) (rw : Int → List Int) (q : Sts) (v : Int), vs = [.ref R, .ref t, .int v] ∧ RowsH H R ns rw ∧ RwOk ns rw ∧ ns.length < 64 ∧ QAt H t q ∧ StOk ns q ∧ v ∈ ns ∧ ∀ H' t', Same H H' → QAt H' t' (hiS ns rw q v) → Q (.ref t') H'
def spLackQ : Sp := fun vs H Q _ => ∃ (R t : Addr) (ns : List Int) (rw : Int → List Int) (q : Sts) (v : Int), vs = [.ref R, .ref t, .int v] ∧ RowsH H R ns rw ∧ RwOk ns rw ∧ ns.length < 64 ∧ QAt H t q ∧ StOk ns q ∧ v ∈ ns ∧ ∀ H' t', Same H H' → QAt H' t' (loS ns rw q v) → Q (.ref t') H'
def spOpenQ : Sp := fun vs H Q _ => ∃ (R t : Addr) (ns : List Int) (rw : Int → List Int) (q : Sts), vs = [.ref R, .ref t] ∧ RowsH H R ns rw ∧ RwOk ns rw ∧ ns.length < 64 ∧ QAt H t q ∧ ∀ H' L, Same H H' → H L = none → H' L = some (.lst ((opn ns q).map V.int)) → Q (.ref L) H'
theorem RwOk.len {vs : List Int} {rw : Int → List Int} (R : RwOk vs rw) {v : Int} (hv : v ∈ vs) : (rw v).length ≤ vs.length := nodup_le _ vs ((R.rise v hv).imp fun {a b} h => Int.ne_of_lt h) (R.sub v hv)
theorem StOk.len1 {vs : List Int} {q : Sts} (h : StOk vs q) : q.1.length ≤ vs.length := nodup_le _ vs (h.r1.imp fun {a b} h => Int.ne_of_lt h) h.s1
theorem StOk.len2 {vs : List Int} {q : Sts} (h : StOk vs q) : q.2.length ≤ vs.length := nodup_le _ vs (h.r2.imp fun {a b} h => Int.ne_of_lt h) h.s2
section
variable {P : Program} {w : World} {K : PySem.W.Frag} {mg : Str → Option Value} {base : Heap}
theorem ok_heldq {f : Addr} {fd : FuncData} (T : Txt K mg) (F : Fun K "where_held" "where_held" s_where_held f fd) : FnOk P w K mg base CX0 1 f fd ["rows", "state", "version"] spHeldQ := by
  refine F.ok sc_where_held (fun vs H Q E h => ?_) (fun cdv A outer s H vs Q E hr h => ?_)
  · obtain ⟨R, t, ns, rw', q, v, rfl, _⟩ := h
    rfl
  · obtain ⟨R, t, ns, rw', q, v, rfl, ⟨kvs, eR, hk, hv⟩, RO, hl, ⟨a, b, et, ea, eb⟩, SO, hvn, qq⟩ := h
    have hu := hu_of hr
    refine ⟨_,
      (pss_one
        (ps_ret (pe_tup (pa_cons (pe_callTy (r := rTupOf K) c_tupOf (by rfl) T.n_tuple (by decide +kernel) (pa_cons (pe_callB (r := rSortS w) (c_sortS rfl) (by rfl) T.n_sorted (by decide +kernel) (pa_cons (pe_op (r := rSetOr w) op_setOr (pe_callTy (r := rSetT K w) (c_setT rfl) (by rfl) T.n_set (by decide +kernel) (pa_cons (pe_ix (r := rIxT K) ix_tup (pv 1) pe_int (fun _ _ => rfl)) pa_nil)) (pe_callTy (r := rSetL K w) (c_setL rfl) (by rfl) T.n_set (by decide +kernel) (pa_cons (pe_dget hu (pv 0) (pv 2) (fun _ _ => rfl)) pa_nil))) pa_nil)) pa_nil)) (pa_cons (pe_ix (r := rIxT K) ix_tup (pv 1) pe_int (fun _ _ => rfl)) pa_nil)))))
      , ?_⟩
    rw [show L2.start N_where_held [V.ref R, V.ref t, V.int v] = [some (.ref R), some (.ref t), some (.int v)] from rfl]
    obtain ⟨ra, v1, v2⟩ := hv v hvn
    have l1 := RO.len hvn
    have l2 := SO.len1
    walk_at "x"
    refine w_setOfT (.of ea) (by omega) fun p1 c1 H1 hp1 hc1 e1 k1 => ?_
    have eR1 := k1 _ _ eR
    have v21 := k1 _ _ v2
    walk_at "g"
    refine w_setOf (.of v21) (by omega) fun p2 c2 H2 hp2 hc2 e2 k2 => ?_
    have e12 := k2 _ _ e1
    have np : p1 ≠ p2 := ne_of_none e1 hp2
    walk_at "g"
    refine w_setOr np e12 e2 (by omega) fun p3 c3 H3 hp3 hc3 e3 k3 => ?_
    walk_at "g"
    refine w_sortS e3 (by omega) fun ms p4 H4 hup hmem hp4 e4 k4 => ?_
    have em : ms = (hiS ns rw' q v).1 := rise_ext _ _ hup (RO.up.filter _) fun x => by
      rw [hmem, mem_hi, Bool.or_eq_true, decide_eq_true_iff, decide_eq_true_iff]
      constructor
      · rintro (h | h)
        · exact ⟨SO.s1 x h, .inl h⟩
        · exact ⟨RO.sub v hvn x h, .inr h⟩
      · exact And.right
    subst em
    walk_at "g"
    refine w_tupL (.of e4) fun p5 H5 hp5 e5 k5 => ?_
    have s5 : Same H H5 := Same.trans k1 (Same.trans k2 (Same.trans k3 (Same.trans k4 k5)))
    have et5 := s5 _ _ et
    walk_at "g"
    refine w_new fun p6 H6 hp6 e6 k6 => ?_
    exact qq H6 p6 (Same.trans s5 k6) ⟨p5, b, e6, k6 _ _ e5, k6 _ _ (s5 _ _ eb)⟩
theorem ok_openq {f : Addr} {fd : FuncData} (T : Txt K mg) (F : Fun K "open_ones" "open_ones" s_open_ones f fd) : FnOk P w K mg base CX0 1 f fd ["rows", "state"] spOpenQ := by
  refine F.ok sc_open_ones (fun vs H Q E h => ?_) (fun cdv A outer s H vs Q E hr h => ?_)
  · obtain ⟨R, t, ns, rw', q, rfl, _⟩ := h
    rfl
  · obtain ⟨R, t, ns, rw', q, rfl, ⟨kvs, eR, hk, hv⟩, RO, hl, ⟨a, b, et, ea, eb⟩, qq⟩ := h
    have hu := hu_of hr
    have hkl : kvs.length = ns.length := by
      have := congrArg List.length hk
      simpa using this
    refine ⟨_,
      (pss_one
        (ps_ret (pe_lock (pe_lc (own := [("version", 2)]) (g := (gName 2)) rfl sc_open_ones.nd (pi_keys (pv 0)) (blkOk_by (own := [("version", 2)]) (N := N_open_ones) (sc := defScope s_open_ones) (by decide +kernel)) (fun _ _ _ _ _ => (pg_name (i := 2) sc_open_ones.nd rfl (.inl rfl))) (fun _ _ _ _ _ => (pts_one (PW.pt (pw_and (pt_cmpR (r := rIn K true) op_notIn_seq (pv 2) (pe_ix (r := rIxT K) ix_tup (pv 1) pe_int (fun _ _ => rfl)) rfl) (pw_and1 (pt_cmpR (r := rIn K true) op_notIn_seq (pv 2) (pe_ix (r := rIxT K) ix_tup (pv 1) pe_int (fun _ _ => rfl)) rfl)))))) (fun _ _ _ _ _ => (pv 2))))))
      , ?_⟩
    rw [show L2.start N_open_ones [V.ref R, V.ref t] = [some (.ref R), some (.ref t), none] from rfl]
    walk_at "x"
    refine w_lockE eR fun od H1 eR1 o1 => ?_
    have nt : t ≠ R := ne_of et eR (fun z => nomatch z)
    have na : a ≠ R := ne_of ea eR (fun z => nomatch z)
    have nb : b ≠ R := ne_of eb eR (fun z => nomatch z)
    have et1 := o1.get nt et
    have ea1 := o1.get na ea
    have eb1 := o1.get nb eb
    walk_at "g"
    try refine w_keys' eR1 ?_
    refine lcp_sel (walk_keys (d := R) (o := od) (kvs := kvs)) [] (fun i => ns[i]?.bind (pickI fun v => decide (v ∉ q.1 ∧ v ∉ q.2))) (by omega) (fun H' k => k _ _ (by simp) eR1) ?_ (by simp) ?_
    · rintro i x Ha Hb Rr R0 hi ka ⟨rfl, ky, vy, hkv, rfl⟩ h1 h2
      obtain ⟨y, hy, rfl⟩ := key_at hk hkv
      rw [show kV (Sum.inl y : Key) = V.int y from rfl]
      have eta := ka.same _ _ et1
      have eaa := ka.same _ _ ea1
      have eba := ka.same _ _ eb1
      refine w_name ⟨rfl, ?_⟩
      walk_at "g"
      refine w_itNB (fun hb => ?_) (fun hb => ?_)
      · walk_at "g"
        refine w_itNB (fun hc => ?_) (fun hc => ?_)
        · walk_at "g"
          exact h1 _ _ (sel_yes (p := fun v => decide (v ∉ q.1 ∧ v ∉ q.2)) hy (decide_eq_true ⟨of_decide_eq_false hb, of_decide_eq_false hc⟩)) Kp.refl
        · exact h2 _ (sel_no (p := fun v => decide (v ∉ q.1 ∧ v ∉ q.2)) hy (fun z => (of_decide_eq_true z).2 (of_decide_eq_true hc))) Kp.refl
      · exact h2 _ (sel_no (p := fun v => decide (v ∉ q.1 ∧ v ∉ q.2)) hy (fun z => (of_decide_eq_true z).1 (of_decide_eq_true hb))) Kp.refl
    intro L H2 hL k2 eL
    rw [hkl, range_fm, pickI_map] at eL
    have nLR : L ≠ R := fun z => by rw [z, eR1] at hL; cases hL
    refine ⟨k2 _ _ (by simp) eR1, ?_⟩
    have s3 : Same H (upd H2 R (.dK kvs)) := (lock_kp eR o1 k2).same
    have hL0 : H L = none := by
      cases e : H L with
      | none => rfl
      | some o => rw [o1.get nLR e] at hL; cases hL
    exact qq _ L s3 hL0 (by rw [upd_ne nLR]; exact eL)
theorem ok_lackq {f : Addr} {fd : FuncData} (T : Txt K mg) (F : Fun K "where_lacking" "where_lacking" s_where_lacking f fd) : FnOk P w K mg base CX0 1 f fd ["rows", "state", "version"] spLackQ := by
  refine F.ok sc_where_lacking (fun vs H Q E h => ?_) (fun cdv A outer s H vs Q E hr h => ?_)
  · obtain ⟨R, t, ns, rw', q, v, rfl, _⟩ := h
    rfl
  · obtain ⟨R, t, ns, rw', q, v, rfl, ⟨kvs, eR, hk, hv⟩, RO, hl, ⟨a, b, et, ea, eb⟩, SO, hvn, qq⟩ := h
    have hu := hu_of hr
    have hkl : kvs.length = ns.length := by
      have := congrArg List.length hk
      simpa using this
    have l2 := SO.len2
    refine ⟨_,
      (pss_cons
        (ps_lock (ps_setLc (i := 3) (own := [("upper", 4)]) (g := (gName 4)) rfl sc_where_lacking.nd rfl rfl (sw_true rfl rfl rfl (by decide +kernel)) (pi_keys (pv 0)) (blkOk_by (own := [("upper", 4)]) (N := N_where_lacking) (sc := defScope s_where_lacking) (by decide +kernel)) (fun _ _ _ _ _ => (pg_name (i := 4) sc_where_lacking.nd rfl (.inl rfl))) (fun _ _ _ _ _ => (pts_one (pt_cmpR (r := rIn K false) op_in_seq (pv 2) (pe_dget hu (pv 0) (pv 4) (fun _ _ => rfl)) rfl))) (fun _ _ _ _ _ => (pv 4))))
      (pss_one
        (ps_ret (pe_tup (pa_cons (pe_ix (r := rIxT K) ix_tup (pv 1) pe_int (fun _ _ => rfl)) (pa_cons (pe_callTy (r := rTupOf K) c_tupOf (by rfl) T.n_tuple (by decide +kernel) (pa_cons (pe_callB (r := rSortS w) (c_sortS rfl) (by rfl) T.n_sorted (by decide +kernel) (pa_cons (pe_op (r := rSetOr w) op_setOr (pe_callTy (r := rSetT K w) (c_setT rfl) (by rfl) T.n_set (by decide +kernel) (pa_cons (pe_ix (r := rIxT K) ix_tup (pv 1) pe_int (fun _ _ => rfl)) pa_nil)) (pe_callTy (r := rSetL K w) (c_setL rfl) (by rfl) T.n_set (by decide +kernel) (pa_cons (pv 3) pa_nil))) pa_nil)) pa_nil)) pa_nil))))))
      , ?_⟩
    rw [show L2.start N_where_lacking [V.ref R, V.ref t, V.int v] = [some (.ref R), some (.ref t), some (.int v), none, none] from rfl]
    refine w_seq ?_
    walk_at "x"
    refine w_lock eR fun od H1 eR1 o1 => ?_
    walk_at "g"
    try refine w_keys' eR1 ?_
    refine lcp_sel (walk_keys (d := R) (o := od) (kvs := kvs)) [] (fun i => ns[i]?.bind (pickI fun u => decide (v ∈ rw' u))) (by omega) (fun H' k => k _ _ (by simp) eR1) ?_ (by simp) ?_
    · rintro i x Ha Hb Rr R0 hi ka ⟨rfl, ky, vy, hkv, rfl⟩ h1 h2
      obtain ⟨y, hy, rfl⟩ := key_at hk hkv
      rw [show kV (Sum.inl y : Key) = V.int y from rfl]
      have eRa := ka.same _ _ eR1
      obtain ⟨ra, v1, v2⟩ := hv y (List.mem_of_getElem? hy)
      have v2a := ka.same _ _ (o1.get (ne_of v2 eR (fun z => nomatch z)) v2)
      refine w_name ⟨rfl, ?_⟩
      walk_at "g"
      refine w_itB (fun hb => ?_) (fun hb => ?_)
      · walk_at "g"
        exact h1 _ _ (sel_yes (p := fun u => decide (v ∈ rw' u)) hy hb) Kp.refl
      · exact h2 _ (sel_no (p := fun u => decide (v ∈ rw' u)) hy (by rw [hb]; exact Bool.false_ne_true)) Kp.refl
    intro L H2 hL k2 eL
    rw [hkl, range_fm, pickI_map] at eL
    have nLR : L ≠ R := fun z => by rw [z, eR1] at hL; cases hL
    refine ⟨k2 _ _ (by simp) eR1, ?_⟩
    have s3 : Same H (upd H2 R (.dK kvs)) := (lock_kp eR o1 k2).same
    have eL3 : (upd H2 R (.dK kvs)) L = some (.lst ((ns.filter fun u => decide (v ∈ rw' u)).map V.int)) := by rw [upd_ne nLR]; exact eL
    generalize upd H2 R (.dK kvs) = H3 at s3 eL3
    have fll : (ns.filter fun u => decide (v ∈ rw' u)).length ≤ ns.length := List.length_filter_le _ _
    have et3 := s3 _ _ et
    have eb3 := s3 _ _ eb
    walk_at "g"
    refine w_setOfT (.of eb3) (by omega) fun p1 c1 H4 hp1 hc1 e1 k1 => ?_
    have eL4 := k1 _ _ eL3
    walk_at "g"
    refine w_setOf (.of eL4) (by omega) fun p2 c2 H5 hp2 hc2 e2 k2' => ?_
    have e12 := k2' _ _ e1
    have np : p1 ≠ p2 := ne_of_none e1 hp2
    walk_at "g"
    refine w_setOr np e12 e2 (by omega) fun p3 c3 H6 hp3 hc3 e3 k3 => ?_
    walk_at "g"
    refine w_sortS e3 (by omega) fun ms p4 H7 hup hmem hp4 e4 k4 => ?_
    have em : ms = (loS ns rw' q v).2 := rise_ext _ _ hup (RO.up.filter _) fun x => by
      rw [hmem, mem_lo, Bool.or_eq_true, decide_eq_true_iff, decide_eq_true_iff, List.mem_filter, decide_eq_true_iff]
      constructor
      · rintro (h | h)
        · exact ⟨SO.s2 x h, .inl h⟩
        · exact ⟨h.1, .inr h.2⟩
      · rintro ⟨h1, h | h⟩
        · exact .inl h
        · exact .inr ⟨h1, h⟩
    subst em
    walk_at "g"
    refine w_tupL (.of e4) fun p5 H8 hp5 e5 k5 => ?_
    have s8 : Same H H8 := Same.trans s3 (Same.trans k1 (Same.trans k2' (Same.trans k3 (Same.trans k4 k5))))
    walk_at "g"
    refine w_new fun p6 H9 hp6 e6 k6 => ?_
    exact qq H9 p6 (Same.trans s8 k6) ⟨a, p5, e6, k6 _ _ (s8 _ _ ea), k6 _ _ e5⟩
end
/-! ### fill -/
def spFill (P : Program) (w : World) (j : Nat) : Sp := fun vs H Q _ => ∃ (R t kn : Addr) (ns : List Int) (rw : Int → List Int) (q : Sts) (ds : List Ent), vs = [.ref R, .ref t, .ref kn] ∧ RowsH H R ns rw ∧ RwOk ns rw ∧ ns.length ≤ 5 ∧ QAt H t q ∧ StOk ns q ∧ KnAt P w H kn ds ∧ TabOk ns rw ds ∧ (opn ns q).length ≤ j ∧
  ∀ H' ds', KnAt P w H' kn ds' → TabOk ns rw ds' → TabExt ns rw q ds ds' → q ∈ ds'.map (·.st) → Kp [kn] H H' → KT H H' → Q (.int (tab ns rw q).1) H'
theorem fnok_never {P : Program} {w : World} {K : PySem.W.Frag} {mg : Str → Option Value} {base : Heap} {CX : CXT} {k : Nat} {f : Addr} {fd : FuncData} {ps : List Str} : FnOk P w K mg base CX k f fd ps (fun _ _ _ _ => False) := ⟨fun _ _ _ _ h => h.elim, fun _ _ _ _ _ _ _ _ _ _ _ _ _ h => h.elim⟩
theorem small2000 {n : Nat} (h : n ≤ 2000) : n < sizeLine := Nat.lt_of_le_of_lt h (by decide)
theorem TabExt.refl {vs : List Int} {rw : Int → List Int} {q : Sts} {ds : List Ent} : TabExt vs rw q ds ds := ⟨fun _ h => h, fun _ h => .inl h⟩
theorem max_if (a b : Int) : max a b = if b > a then b else a := by
  split <;> omega
theorem opV_none {b : Option Int} (h : opV b = .non) : b = none := by cases b with | none => rfl | some v => cases h
section
variable {P : Program} {w : World} {K : PySem.W.Frag} {mg : Str → Option Value} {base : Heap}
theorem fill_step {f fH fL fO : Addr} {fd fdH fdL fdO : FuncData} {sp : Sp} {j k : Nat} (T : Txt K mg) (D_fill : Df K mg "fill" s_fill ["rows", "state", "known"] f fd) (D_where_held : Df K mg "where_held" s_where_held ["rows", "state", "version"] fH fdH) (D_where_lacking : Df K mg "where_lacking" s_where_lacking ["rows", "state", "version"] fL fdL) (D_open_ones : Df K mg "open_ones" s_open_ones ["rows", "state"] fO fdO) (h1 : 1 ≤ k)
    (G_fill : FnOk P w K mg base CX0 k f fd ["rows", "state", "known"] sp) (hsp : ∀ (H : Hp) (Q : VK) (E : XK) (vs : List V), (∃ i, j = i + 1 ∧ spFill P w i vs H Q E) → sp vs H Q E) : FnOk P w K mg base CX0 (k + 1) f fd ["rows", "state", "known"] (spFill P w j) := by
  have G_where_held : FnOk P w K mg base CX0 1 fH fdH ["rows", "state", "version"] spHeldQ := ok_heldq T D_where_held.fn
  have G_where_lacking : FnOk P w K mg base CX0 1 fL fdL ["rows", "state", "version"] spLackQ := ok_lackq T D_where_lacking.fn
  have G_open_ones : FnOk P w K mg base CX0 1 fO fdO ["rows", "state"] spOpenQ := ok_openq T D_open_ones.fn
  refine D_fill.fn.ok sc_fill (fun vs H Q E h => ?_) (fun cdv A outer s H vs Q E hr h => ?_)
  · obtain ⟨R, t, kn, ns, rw', q, ds, rfl, _⟩ := h
    rfl
  · obtain ⟨R, t, kn, ns, rw', q, ds, rfl, RH, RO, hl, QT, SO, KN, TO, hj, qq⟩ := h
    have hu := hu_of hr
    have eNO := KN.at'.at'
    refine ⟨_,
      (pss_cons
        (ps_if (pt_cmp (pc_nin hr.units (pv 1) (pv 2)))
          (pss_one
            (ps_ret (pe_ix (r := rIxT K) ix_tup (pe_nget hr.units (pv 2) (pv 1) (fun _ _ => rfl)) pe_int (fun _ _ => rfl))))
          pss_nil)
      (pss_cons
        (ps_set (i := 3) sc_fill.nd rfl (.inl rfl) (pe_tup (pa_cons pe_int (pa_cons pe_non pa_nil))))
      (pss_cons
        (ps_for PassesOwn.never rfl (pi_list (pe_call G_open_ones (hr.mono (by omega)) (by rfl) D_open_ones.g D_open_ones.fn.kp D_open_ones.b .nil pass0 (pa_cons (pv 0) (pa_cons (pv 1) pa_nil)))) (pg_name (i := 4) sc_fill.nd rfl (.inl rfl))
          (pss_cons
            (ps_set (i := 5) sc_fill.nd rfl (.inl rfl) (pe_call G_fill (hr.mono (by omega)) (by rfl) D_fill.g D_fill.fn.kp D_fill.b .nil pass0 (pa_cons (pv 0) (pa_cons (pe_call G_where_held (hr.mono (by omega)) (by rfl) D_where_held.g D_where_held.fn.kp D_where_held.b .nil pass0 (pa_cons (pv 0) (pa_cons (pv 1) (pa_cons (pv 4) pa_nil)))) (pa_cons (pv 2) pa_nil)))))
          (pss_cons
            (ps_set (i := 6) sc_fill.nd rfl (.inl rfl) (pe_call G_fill (hr.mono (by omega)) (by rfl) D_fill.g D_fill.fn.kp D_fill.b .nil pass0 (pa_cons (pv 0) (pa_cons (pe_call G_where_lacking (hr.mono (by omega)) (by rfl) D_where_lacking.g D_where_lacking.fn.kp D_where_lacking.b .nil pass0 (pa_cons (pv 0) (pa_cons (pv 1) (pa_cons (pv 4) pa_nil)))) (pa_cons (pv 2) pa_nil)))))
          (pss_one
            (ps_if (PW.pt (pw_or (pt_cmpR o_isN (pe_ix (r := rIxT K) ix_tup (pv 3) pe_int (fun _ _ => rfl)) pe_non (nomark _)) (pw_or1 (pt_cmpR op_lt (pe_op op_add (pe_callB (c_max2 rfl) (by rfl) T.n_max (by decide +kernel) (pa_cons (pv 5) (pa_cons (pv 6) pa_nil))) pe_int) (pe_ix (r := rIxT K) ix_tup (pv 3) pe_int (fun _ _ => rfl)) (nomark _)))))
              (pss_one
                (ps_set (i := 3) sc_fill.nd rfl (.inl rfl) (pe_tup (pa_cons (pe_op op_add (pe_callB (c_max2 rfl) (by rfl) T.n_max (by decide +kernel) (pa_cons (pv 5) (pa_cons (pv 6) pa_nil))) pe_int) (pa_cons (pv 4) pa_nil)))))
              pss_nil)))))
      (pss_cons
        (ps_nput hr.units (pv 2) (pv 1) (pv 3) rfl)
      (pss_one
        (ps_ret (pe_ix (r := rIxT K) ix_tup (pv 3) pe_int (fun _ _ => rfl))))))))
      , ?_⟩
    rw [show L2.start N_fill [V.ref R, V.ref t, V.ref kn] = [some (.ref R), some (.ref t), some (.ref kn), none, none, none, none] from rfl]
    refine w_seq ?_
    walk_at "x"
    refine w_nin' KN.at' QT.nat (stK_depth q) ?_
    rw [nval_in]
    refine ⟨_, rfl, ?_⟩
    refine w_itB (fun hin => ?_) (fun hin => ?_)
    · have hin' := of_decide_eq_true hin
      obtain ⟨d, hd, ed⟩ := List.mem_map.mp hin'
      have hval := nval_at TO.nd hd
      rw [ed] at hval
      have eva := (KN.en d hd).2
      have hn := (TO.ok d hd).2
      rw [ed] at hn
      walk_at "g"
      refine w_nget' KN.at' QT.nat (stK_depth q) hval ?_
      walk_at "g"
      have := qq H ds KN TO .refl hin' Kp.refl KT.refl
      rw [← hn] at this
      exact this
    have hin' := of_decide_eq_false hin
    walk_at "g"
    refine w_new fun pb H1 hpb eb k1 => ?_
    walk_at "g"
    refine ⟨R, t, ns, rw', q, rfl, RH.same k1, RO, by omega, QT.kt (KT.of k1), fun H2 L k2 hL eL => ?_⟩
    have s2 : Same H H2 := Same.trans k1 k2
    have KN2 := KN.same s2
    have oL : L ≠ kn := fun z => by rw [z, k1 _ _ eNO] at hL; cases hL
    have fewo : (opn ns q).length ≤ ns.length := List.length_filter_le _ _
    walk_at "g"
    refine lp_list (xs := (opn ns q).map V.int) (fun i σ H' => ∃ (p : Addr) (y4 y5 y6 : Option V) (ds' : List Ent), σ = [some (.ref R), some (.ref t), some (.ref kn), some (.ref p), y4, y5, y6] ∧
      H' p = some (.tup [.int (((opn ns q).take i).foldl (bestStep (worst (fun s => (tab ns rw' s).1) ns rw' q)) (0, none)).1, opV (((opn ns q).take i).foldl (bestStep (worst (fun s => (tab ns rw' s).1) ns rw' q)) (0, none)).2]) ∧
      KnAt P w H' kn ds' ∧ TabOk ns rw' ds' ∧ (∀ d ∈ ds, d ∈ ds') ∧ (∀ d ∈ ds', d ∈ ds ∨ (RchT ns rw' q d.st ∧ (opn ns d.st).length < (opn ns q).length)) ∧ (∀ v ∈ (opn ns q).take i, hiS ns rw' q v ∈ ds'.map (·.st) ∧ loS ns rw' q v ∈ ds'.map (·.st)) ∧ Kp [kn] H2 H' ∧ KT H2 H') ?_ ?_ ?_ ?_
    · exact ⟨pb, _, _, _, ds, rfl, k2 _ _ eb, KN2, TO, fun _ h => h, fun _ h => .inl h, by simp, Kp.refl, KT.refl⟩
    · rintro i σ H' _ ⟨_, _, _, _, _, _, _, _, _, _, _, _, k3, _⟩
      exact .of (k3 _ _ (by simpa using oL) eL)
    · rintro i y σ H3 hy ⟨p, y4, y5, y6, ds', rfl, ep, KN3, TO3, sub3, new3, chi3, k3, t3⟩
      obtain ⟨v, hv, rfl⟩ := map_at hy
      have hvo := List.mem_of_getElem? hv
      have hvn := (mem_opn.mp hvo).1
      have hjp : 0 < (opn ns q).length := List.length_pos_of_mem hvo
      obtain ⟨j', rfl⟩ : ∃ j', j = j' + 1 := ⟨j - 1, by omega⟩
      have RH3 : RowsH H3 R ns rw' := ((RH.same s2).kp k3 (fun z => by
        obtain ⟨kvs, e, _⟩ := RH
        rw [List.mem_singleton.mp z, eNO] at e
        cases e) (fun b hb xs e => by rw [List.mem_singleton.mp hb, s2 _ _ eNO] at e; cases e))
      have QT3 := QT.kt ((KT.of s2).trans t3)
      have hlt1 := opn_hi RO SO hvo
      have hlt2 := opn_lo RO SO hvo
      walk_at "g"
      refine ⟨R, t, ns, rw', q, v, rfl, RH3, RO, by omega, QT3, SO, hvn, fun H4 th k4 Qh => ?_⟩
      walk_at "g"
      refine hsp _ _ _ _ ⟨j', rfl, R, th, kn, ns, rw', hiS ns rw' q v, ds', rfl, RH3.same k4, RO, hl, Qh, SO.hi RO.up v, KN3.same k4, TO3, by omega, fun H5 ds5 KN5 TO5 X5 in5 k5 t5 => ?_⟩
      have eNO4 := (KN3.same k4).at'.at'
      have RH5 : RowsH H5 R ns rw' := (RH3.same k4).kp k5 (fun z => by
        obtain ⟨kvs, e, _⟩ := RH3.same k4
        rw [List.mem_singleton.mp z, eNO4] at e
        cases e) (fun b hb xs e => by rw [List.mem_singleton.mp hb, eNO4] at e; cases e)
      have QT5 := QT3.kt ((KT.of k4).trans t5)
      walk_at "g"
      refine ⟨R, t, ns, rw', q, v, rfl, RH5, RO, by omega, QT5, SO, hvn, fun H6 tl k6 Ql => ?_⟩
      have eNO6 := (KN5.same k6).at'.at'
      walk_at "g"
      refine hsp _ _ _ _ ⟨j', rfl, R, tl, kn, ns, rw', loS ns rw' q v, ds5, rfl, RH5.same k6, RO, hl, Ql, SO.lo RO.up v, KN5.same k6, TO5, by omega, fun H7 ds7 KN7 TO7 X7 in7 k7 t7 => ?_⟩
      have t37 : KT H3 H7 := (KT.of k4).trans (t5.trans ((KT.of k6).trans t7))
      have k37 : Kp [kn] H3 H7 := (Kp.of k4).trans (k5.trans ((Kp.of k6).trans k7))
      have ep7 := t37 _ _ ep
      generalize hb : ((opn ns q).take i).foldl (bestStep (worst (fun s => (tab ns rw' s).1) ns rw' q)) (0, none) = b at ep ep7
      have tk := take_succ_foldl (f := bestStep (worst (fun s => (tab ns rw' s).1) ns rw' q)) (b := (0, none)) hv
      rw [hb] at tk
      have sub7 : ∀ d ∈ ds, d ∈ ds7 := fun d h => X7.sub _ (X5.sub _ (sub3 d h))
      have new7 : ∀ d ∈ ds7, d ∈ ds ∨ (RchT ns rw' q d.st ∧ (opn ns d.st).length < (opn ns q).length) := fun d h => by
        rcases X7.new d h with h | h
        · rcases X5.new d h with h | h
          · exact new3 d h
          · have := h.le RO (SO.hi RO.up v)
            exact .inr ⟨.hi hvo h, by omega⟩
        · have := h.le RO (SO.lo RO.up v)
          exact .inr ⟨.lo hvo h, by omega⟩
      have chi7 : ∀ u ∈ (opn ns q).take (i + 1), hiS ns rw' q u ∈ ds7.map (·.st) ∧ loS ns rw' q u ∈ ds7.map (·.st) := fun u hu' => by
        have mono : ∀ {s : Sts}, s ∈ ds'.map (·.st) → s ∈ ds7.map (·.st) := fun {s} h => by
          obtain ⟨d, hd, e⟩ := List.mem_map.mp h
          exact List.mem_map.mpr ⟨d, X7.sub _ (X5.sub _ hd), e⟩
        rw [List.take_add_one, hv] at hu'
        rcases List.mem_append.mp hu' with h | h
        · exact ⟨mono (chi3 u h).1, mono (chi3 u h).2⟩
        · have e : u = v := by simpa using h
          subst e
          obtain ⟨d, hd, e⟩ := List.mem_map.mp in5
          exact ⟨List.mem_map.mpr ⟨d, X7.sub _ hd, e⟩, in7⟩
      have k27 : Kp [kn] H2 H7 := k3.trans k37
      have t27 : KT H2 H7 := t3.trans t37
      walk_at "g"
      have wv : worst (fun s => (tab ns rw' s).1) ns rw' q v = (if (tab ns rw' (loS ns rw' q v)).1 > (tab ns rw' (hiS ns rw' q v)).1 then (tab ns rw' (loS ns rw' q v)).1 else (tab ns rw' (hiS ns rw' q v)).1) + 1 := by
        unfold worst
        rw [max_if]
      have take : ∀ {H8 : Hp} {p8 : Addr}, (b.2 = none ∨ worst (fun s => (tab ns rw' s).1) ns rw' q v < b.1) → H8 p8 = some (.tup [.int (worst (fun s => (tab ns rw' s).1) ns rw' q v), .int v]) → H8 p8 = some (.tup [.int (bestStep (worst (fun s => (tab ns rw' s).1) ns rw' q) b v).1, opV (bestStep (worst (fun s => (tab ns rw' s).1) ns rw' q) b v).2]) := fun h e => by
        unfold bestStep
        rw [if_pos h]
        exact e
      refine w_ite (fun hn0 => ?_) (fun hn0 => ?_)
      · rw [if_pos rfl]
        walk_at "g"
        refine w_new fun p8 H8 hp8 e8 k8 => ?_
        rw [tk]
        exact ⟨p8, _, _, _, ds7, rfl, take (.inl (opV_none hn0)) (by rw [wv]; exact e8), KN7.same k8, TO7, sub7, new7, chi7, k27.trans (Kp.of k8), t27.trans (KT.of k8)⟩
      · walk_at "g"
        refine w_ite (fun hlt => ?_) (fun hlt => ?_)
        · walk_at "g"
          refine w_new fun p8 H8 hp8 e8 k8 => ?_
          rw [tk]
          exact ⟨p8, _, _, _, ds7, rfl, take (.inr (by rw [wv]; exact hlt)) (by rw [wv]; exact e8), KN7.same k8, TO7, sub7, new7, chi7, k27.trans (Kp.of k8), t27.trans (KT.of k8)⟩
        · walk_at "g"
          rw [tk]
          refine ⟨p, _, _, _, ds7, rfl, ?_, KN7, TO7, sub7, new7, chi7, k27, t27⟩
          unfold bestStep
          rw [if_neg]
          · exact ep7
          · rintro (z | z)
            · rw [z] at hn0
              exact hn0 rfl
            · rw [wv] at z
              exact hlt z
    · rintro σ H3 ⟨p, y4, y5, y6, ds', rfl, ep, KN3, TO3, sub3, new3, chi3, k3, t3⟩
      rw [List.length_map, List.take_length] at ep chi3
      rw [← tab_eq RO SO] at ep
      have QT3 := QT.kt ((KT.of s2).trans t3)
      have nin3 : q ∉ ds'.map (·.st) := fun z => by
        obtain ⟨d, hd, e⟩ := List.mem_map.mp z
        rcases new3 d hd with h | ⟨_, h⟩
        · exact hin' (List.mem_map.mpr ⟨d, h, e⟩)
        · rw [e] at h
          omega
      have few3 := TO3.few RO.up hl
      walk_at "g"
      refine w_nput' KN3.at' QT3.nat (stK_depth q) (small2000 (by rw [List.length_map]; omega)) fun H4 D4 o4 => ?_
      have KN4 : KnAt P w H4 kn (ds' ++ [⟨q, (tab ns rw' q).1, (tab ns rw' q).2, t, p⟩]) := KN3.put (d := ⟨q, (tab ns rw' q).1, (tab ns rw' q).2, t, p⟩) QT3 ep nin3 D4 o4
      have k4 : Kp [kn] H3 H4 := o4.kp (by simp)
      have t4 := KT.kpn k4 KN3.at'
      have ep4 := t4 _ _ ep
      walk_at "g"
      refine qq H4 _ KN4 (TO3.snoc (d := ⟨q, (tab ns rw' q).1, (tab ns rw' q).2, t, p⟩) nin3 SO rfl chi3) ⟨fun d h => List.mem_append_left _ (sub3 d h), fun d h => ?_⟩ (by rw [List.map_append]; simp) ((Kp.of s2).trans (k3.trans k4)) ((KT.of s2).trans (t3.trans t4))
      rcases List.mem_append.mp h with h | h
      · rcases new3 d h with h | ⟨h, _⟩
        · exact .inl h
        · exact .inr h
      · rw [List.mem_singleton.mp h]
        exact .inr (.refl q)
theorem ok_fill {f fH fL fO : Addr} {fd fdH fdL fdO : FuncData} (T : Txt K mg) (D_fill : Df K mg "fill" s_fill ["rows", "state", "known"] f fd) (D_where_held : Df K mg "where_held" s_where_held ["rows", "state", "version"] fH fdH) (D_where_lacking : Df K mg "where_lacking" s_where_lacking ["rows", "state", "version"] fL fdL) (D_open_ones : Df K mg "open_ones" s_open_ones ["rows", "state"] fO fdO) : ∀ j : Nat, FnOk P w K mg base CX0 (2 + j) f fd ["rows", "state", "known"] (spFill P w j)
  | 0 => fill_step T D_fill D_where_held D_where_lacking D_open_ones (Nat.le_refl 1) (fnok_never (k := 1)) fun H Q E vs ⟨i, h, _⟩ => by omega
  | j + 1 => fill_step (k := 2 + j) T D_fill D_where_held D_where_lacking D_open_ones (by omega) (ok_fill T D_fill D_where_held D_where_lacking D_open_ones j) fun H Q E vs ⟨i, h, g⟩ => by
    have : j = i := by omega
    rw [this]
    exact g
end
/-! ### all_states, table -/
/-- the states of a table in their order -/
structure Sorted (vs : List Int) (rw : Int → List Int) (ss : List Sts) : Prop where
  up : ss.Pairwise stLt
  mem : ∀ q, q ∈ ss ↔ RchT vs rw ([], []) q
theorem Sorted.uniq {vs : List Int} {rw : Int → List Int} {a b : List Sts} (h : Sorted vs rw a) (g : Sorted vs rw b) : a = b := st_uniq h.up g.up fun x => (h.mem x).trans (g.mem x).symm
/-- a table's row at p -/
def TRowAt (H : Hp) (p : Addr) (q : Sts) (n : Int) (z : Option Int) : Prop := ∃ a b, H p = some (.tup [.ref a, .ref b, .int n, opV z]) ∧ H a = some (.tup (q.1.map V.int)) ∧ H b = some (.tup (q.2.map V.int))
theorem TRowAt.kt {H H' : Hp} {p : Addr} {q : Sts} {n : Int} {z : Option Int} (h : TRowAt H p q n z) (k : KT H H') : TRowAt H' p q n z := by
  obtain ⟨a, b, e1, e2, e3⟩ := h
  exact ⟨a, b, k _ _ e1, k _ _ e2, k _ _ e3⟩
def TblAt (H : Hp) (r : Addr) (vs : List Int) (rw : Int → List Int) (ss : List Sts) : Prop := ∃ ps : List (Addr × Sts), ps.map (·.2) = ss ∧ H r = some (.tup (ps.map fun p => V.ref p.1)) ∧ ∀ p ∈ ps, TRowAt H p.1 p.2 (tab vs rw p.2).1 (tab vs rw p.2).2
theorem TblAt.kt {H H' : Hp} {r : Addr} {vs : List Int} {rw : Int → List Int} {ss : List Sts} (h : TblAt H r vs rw ss) (k : KT H H') : TblAt H' r vs rw ss := by
  obtain ⟨ps, e1, e2, e3⟩ := h
  exact ⟨ps, e1, k _ _ e2, fun p hp => (e3 p hp).kt k⟩
def spAll (P : Program) (w : World) (C : Addr) : Sp := fun vs H Q E => ∃ (t : Addr) (ns : List Int) (ps : List (Addr × Int × Int)), vs = [.ref t] ∧ ShAt H t ns ps ∧ ShOk ns (ps.map (·.2)) ∧ ns.length < 64 ∧ ps.length ≤ 100000 ∧
  (ns.length ≤ 5 → ∀ H' kn ds, Same H H' → KnAt P w H' kn ds → TabOk ns (rwB ns (ps.map (·.2))) ds → (∀ q, q ∈ ds.map (·.st) ↔ RchT ns (rwB ns (ps.map (·.2))) ([], []) q) → Q (.ref kn) H') ∧
  (5 < ns.length → E (.ref C) none H)
def spTable (C : Addr) : Sp := fun vs H Q E => ∃ (t : Addr) (ns : List Int) (ps : List (Addr × Int × Int)), vs = [.ref t] ∧ ShAt H t ns ps ∧ ShOk ns (ps.map (·.2)) ∧ ns.length < 64 ∧ ps.length ≤ 100000 ∧
  (ns.length ≤ 5 → ∀ H' r ss, Same H H' → Sorted ns (rwB ns (ps.map (·.2))) ss → ss.length ≤ 1024 → TblAt H' r ns (rwB ns (ps.map (·.2))) ss → Q (.ref r) H') ∧
  (5 < ns.length → E (.ref C) none H)
section
variable {P : Program} {w : World} {K : PySem.W.Frag} {mg : Str → Option Value} {base : Heap}
theorem ok_all {f fS fF fH fL fO C_TooMany : Addr} {fd fdS fdF fdH fdL fdO : FuncData} (T : Txt K mg) (F : Fun K "all_states" "all_states" s_all_states f fd) (D_spans : Df K mg "spans" s_spans ["shape"] fS fdS) (D_fill : Df K mg "fill" s_fill ["rows", "state", "known"] fF fdF) (D_where_held : Df K mg "where_held" s_where_held ["rows", "state", "version"] fH fdH) (D_where_lacking : Df K mg "where_lacking" s_where_lacking ["rows", "state", "version"] fL fdL) (D_open_ones : Df K mg "open_ones" s_open_ones ["rows", "state"] fO fdO) (X_TooMany : Exn K mg "TooMany" C_TooMany) : FnOk P w K mg base (L2.CX P w) 8 f fd ["shape"] (spAll P w C_TooMany) := by
  have G_spans : FnOk P w K mg base CX0 1 fS fdS ["shape"] spSpans := ok_spans T D_spans.fn
  have G_fill : FnOk P w K mg base CX0 7 fF fdF ["rows", "state", "known"] (spFill P w 5) := ok_fill T D_fill D_where_held D_where_lacking D_open_ones 5
  obtain ⟨t_SMALL, g_SMALL⟩ := T.g_SMALL
  refine F.okX sc_all_states (fun vs H Q E h => ?_) (fun cdv A outer s H vs Q E hr h => ?_)
  · obtain ⟨t, ns, ps, rfl, _⟩ := h
    rfl
  · obtain ⟨t, ns, ps, rfl, ⟨a, b, et, ea, eb⟩, S, hl, hl2, q1, q2⟩ := h
    have hu := hu_of hr
    have ea' : H a = some (.tup (ns.map V.int)) := ea
    refine ⟨_,
      (pss_cons
        (ps_if (pt_cmpR op_gt (pe_callB (r := rLen K) c_len (by rfl) T.n_len (by decide +kernel) (pa_cons (pe_ix (r := rIxT K) ix_tup (pv 0) pe_int (fun _ _ => rfl)) pa_nil)) (pe_glob (v := .int 5) rfl g_SMALL ⟨_, rfl⟩) (nomark _))
          (pss_one
            (ps_raise rfl (takes_of rfl rfl rfl rfl) (pmk_own PySem.F.excBase_ValueError X_TooMany.x X_TooMany.g X_TooMany.k (raises_own X_TooMany.b X_TooMany.t) rfl)))
          pss_nil)
      (pss_cons
        (ps_set (i := 1) sc_all_states.nd rfl (.inl rfl) pe_nnew)
      (pss_cons
        (ps_expr (pe_call G_fill (hr.mono (by omega)) (by rfl) D_fill.g D_fill.fn.kp D_fill.b .nil pass0 (pa_cons (pe_call G_spans (hr.mono (by omega)) (by rfl) D_spans.g D_spans.fn.kp D_spans.b .nil pass0 (pa_cons (pv 0) pa_nil)) (pa_cons (pe_tup (pa_cons (pe_tup pa_nil) (pa_cons (pe_tup pa_nil) pa_nil))) (pa_cons (pv 1) pa_nil)))))
      (pss_one
        (ps_ret (pv 1))))))
      , ?_⟩
    rw [show L2.start N_all_states [V.ref t] = [some (.ref t), none] from rfl]
    refine w_seq ?_
    walk_at "x"
    rw [List.length_map]
    refine w_ite (fun h5 => ?_) (fun h5 => ?_)
    · walk_at "g"
      exact q2 (by omega)
    have h5' : ns.length ≤ 5 := by omega
    walk_at "g"
    refine w_nnew fun kn H1 hkn D1 k1 => ?_
    walk_at "g"
    refine ⟨t, ns, ps, rfl, ⟨a, b, k1 _ _ et, VL.kt ea (KT.of k1), PL.kt eb (KT.of k1)⟩, S, hl, hl2, fun H2 R k2 hR RA => ?_⟩
    have RH := RA.toH S
    have RO := rwB_ok S
    walk_at "g"
    refine w_new fun p1 H3 hp1 e1 k3 => ?_
    walk_at "g"
    refine w_new fun p2 H4 hp2 e2 k4 => ?_
    walk_at "g"
    refine w_new fun p3 H5 hp3 e3 k5 => ?_
    have s15 : Same H1 H5 := Same.trans k2 (Same.trans k3 (Same.trans k4 k5))
    have s25 : Same H2 H5 := Same.trans k3 (Same.trans k4 k5)
    have KN5 : KnAt P w H5 kn [] := (KnAt.mk (ds := []) D1 (by simp)).same s15
    have QT : QAt H5 p3 ([], []) := ⟨p1, p2, e3, k5 _ _ (k4 _ _ e1), k5 _ _ e2⟩
    walk_at "g"
    refine ⟨R, p3, kn, ns, _, ([], []), [], rfl, RH.same s25, RO, h5', QT, StOk.nil ns, KN5, TabOk.nil _ _, Nat.le_trans (List.length_filter_le _ _) h5', fun H6 ds KN6 TO6 X6 in6 k6 t6 => ?_⟩
    walk_at "g"
    refine q1 h5' H6 kn ds (fun c o e => k6 _ _ (by simpa using ne_of_none e hkn) (s15 _ _ (k1 _ _ e))) KN6 TO6 fun q => ⟨fun hq => ?_, fun h => TO6.rch h in6⟩
    obtain ⟨d, hd, e⟩ := List.mem_map.mp hq
    rcases X6.new d hd with h | h
    · cases h
    · rw [← e]; exact h
theorem sort_of {ds : List Ent} {ts : List (Sts × Addr)} {vs : List Int} {rw : Int → List Int} (hp : ts.Perm (ds.map fun d => (d.st, d.ad))) (hs : ts.Pairwise (fun x y => stLt x.1 y.1)) (hm : ∀ q, q ∈ ds.map (·.st) ↔ RchT vs rw ([], []) q) : Sorted vs rw (ts.map (·.1)) := by
  refine ⟨by rw [List.pairwise_map]; exact hs, fun q => ?_⟩
  rw [← hm, (hp.map (·.1)).mem_iff, List.map_map]
  rfl
theorem ok_table {f fA fS fF fH fL fO C_TooMany : Addr} {fd fdA fdS fdF fdH fdL fdO : FuncData} (T : Txt K mg) (F : Fun K "table" "table" s_table f fd) (D_all_states : Df K mg "all_states" s_all_states ["shape"] fA fdA) (D_spans : Df K mg "spans" s_spans ["shape"] fS fdS) (D_fill : Df K mg "fill" s_fill ["rows", "state", "known"] fF fdF) (D_where_held : Df K mg "where_held" s_where_held ["rows", "state", "version"] fH fdH) (D_where_lacking : Df K mg "where_lacking" s_where_lacking ["rows", "state", "version"] fL fdL) (D_open_ones : Df K mg "open_ones" s_open_ones ["rows", "state"] fO fdO) (X_TooMany : Exn K mg "TooMany" C_TooMany) : FnOk P w K mg base (L2.CX P w) 9 f fd ["shape"] (spTable C_TooMany) := by
  have G_all_states : FnOk P w K mg base (L2.CX P w) 8 fA fdA ["shape"] (spAll P w C_TooMany) := ok_all T D_all_states.fn D_spans D_fill D_where_held D_where_lacking D_open_ones X_TooMany
  refine F.okX sc_table (fun vs H Q E h => ?_) (fun cdv A outer s H vs Q E hr h => ?_)
  · obtain ⟨t, ns, ps, rfl, _⟩ := h
    rfl
  · obtain ⟨t, ns, ps, rfl, hS, S, hl, hl2, q1, q2⟩ := h
    have hu := hu_of hr
    have RO := rwB_ok S
    refine ⟨_,
      (pss_cons
        (ps_set (i := 1) sc_table.nd rfl (.inr rfl) (pe_call G_all_states (hr.mono (by omega)) (by rfl) D_all_states.g D_all_states.fn.kp D_all_states.b .nil (passes_call (takes_of rfl rfl rfl rfl) (fun _ _ _ _ h => h)) (pa_cons (pv 0) pa_nil)))
      (pss_one
        (ps_ret (pe_callTy (r := rTupOf K) c_tupOf (by rfl) T.n_tuple (by decide +kernel) (pa_cons (pe_lc (own := [("state", 2)]) (g := (gName 2)) rfl sc_table.nd (pi_list (pe_callB (r := rSortN P w) (c_sortN rfl hr.units) (by rfl) T.n_sorted (by decide +kernel) (pa_cons (pv 1) pa_nil))) (blkOk_by (own := [("state", 2)]) (N := N_table) (sc := defScope s_table) (by decide +kernel)) (fun _ _ _ _ _ => (pg_name (i := 2) sc_table.nd rfl (.inl rfl))) (fun _ _ _ _ _ => pts_nil) (fun _ _ _ _ _ => (pe_tup (pa_cons (pe_ix (r := rIxT K) ix_tup (pv 2) pe_int (fun _ _ => rfl)) (pa_cons (pe_ix (r := rIxT K) ix_tup (pv 2) pe_int (fun _ _ => rfl)) (pa_cons (pe_ix (r := rIxT K) ix_tup (pe_ngetK (P := P) (w := w) rfl rfl hr.units (pv 1) (pv 2) (fun _ _ => rfl)) pe_int (fun _ _ => rfl)) (pa_cons (pe_ix (r := rIxT K) ix_tup (pe_ngetK (P := P) (w := w) rfl rfl hr.units (pv 1) (pv 2) (fun _ _ => rfl)) pe_int (fun _ _ => rfl)) pa_nil))))))) pa_nil)))))
      , ?_⟩
    rw [show L2.start N_table [V.ref t] = [some (.ref t), none, none] from rfl]
    walk_at "x"
    refine ⟨t, ns, ps, rfl, hS, S, hl, hl2, fun h5 H1 kn ds k1 KN TO hm => ?_, fun h5 => ?_⟩
    rotate_left
    · walk_at "g"
      exact q2 h5
    have few := TO.few RO.up h5
    walk_at "g"
    refine w_sortN (qs := ds.map fun d => (d.st, d.ad)) KN.at' (by rw [List.map_map, List.map_map]; rfl) (by rw [List.map_map]; exact TO.nd) (by rw [List.length_map]; omega) fun ts L H2 hp hs hL eL k2 => ?_
    have KN2 := KN.same k2
    have SS := sort_of hp hs hm
    walk_at "g"
    refine lcp_rel (walk_list (K := K) (a := L) (xs := ts.map fun q => V.ref q.2)) [] (fun i y H' => ∀ q, ts[i]? = some q → ∃ p, y = .ref p ∧ TRowAt H' p q.1 (tab ns (rwB ns (ps.map (·.2))) q.1).1 (tab ns (rwB ns (ps.map (·.2))) q.1).2) (by rw [List.length_map, hp.length_eq, List.length_map]; omega) (fun i y Ha Hb k h q hq => by
      obtain ⟨p, e, g⟩ := h q hq
      exact ⟨p, e, g.kt k⟩) (fun H' k => .of (k _ _ (by simp) eL)) ?_ (by simp) ?_
    · rintro i x H3 H4 Rr hi k3 t3 ⟨rfl, hx⟩ hR
      rw [List.getElem?_map] at hx
      obtain ⟨⟨q, ad⟩, hq, rfl⟩ := Option.map_eq_some_iff.mp hx
      have hmem : (q, ad) ∈ ds.map fun d => (d.st, d.ad) := hp.mem_iff.mp (List.mem_of_getElem? hq)
      obtain ⟨d, hd, e⟩ := List.mem_map.mp hmem
      have e1 : d.st = q := congrArg Prod.fst e
      have e2 : d.ad = ad := congrArg Prod.snd e
      have KN3 := KN2.same k3.same
      obtain ⟨QT, ev⟩ := KN3.en d hd
      have hval := nval_at TO.nd hd
      have htab := (TO.ok d hd).2
      rw [e1] at QT hval htab
      rw [e2] at QT
      obtain ⟨a, b, et, ea, eb⟩ := id QT
      refine w_name ⟨rfl, ?_⟩
      walk_at "g"
      refine w_nget' KN3.at' QT.nat (stK_depth q) hval ?_
      walk_at "g"
      refine w_nget' KN3.at' QT.nat (stK_depth q) hval ?_
      walk_at "g"
      refine w_new fun p H5 hp5 e5 k5 => ?_
      refine hR _ _ (fun q' hq' => ?_) (Kp.of k5) (KT.of k5)
      rw [hq] at hq'
      cases hq'
      refine ⟨p, rfl, a, b, ?_, k5 _ _ ea, k5 _ _ eb⟩
      rw [e5, ← htab]
    · intro D H3 ys hyl hyp hD k3 t3 eD
      rw [List.length_map] at hyl
      walk_at "g"
      refine w_tupL (.of eD) fun r H4 hr4 er k4 => ?_
      have s4 : Same H H4 := Same.trans k1 (Same.trans k2 (Same.trans k3.same k4))
      obtain ⟨rs, r1, r2, r3⟩ := refs_of (fun p (q : Sts) => TRowAt H3 p q (tab ns (rwB ns (ps.map (·.2))) q).1 (tab ns (rwB ns (ps.map (·.2))) q).2) ys (fun i => ((ts.map (·.1))[i]?).getD ([], [])) fun j y hy => by
        have hj : j < ts.length := by
          have := (List.getElem?_eq_some_iff.mp hy).1
          omega
        obtain ⟨p, e, g⟩ := hyp j y hy ts[j] (List.getElem?_eq_getElem hj)
        refine ⟨p, e, ?_⟩
        rw [List.getElem?_map, List.getElem?_eq_getElem hj]
        exact g
      have r2' : rs.map (·.2) = ts.map (·.1) := by
        rw [r2, hyl]
        apply List.ext_getElem?
        intro i
        rw [List.getElem?_map]
        by_cases hi : i < ts.length
        · rw [List.getElem?_range hi]
          show some (((ts.map (·.1))[i]?).getD ([], [])) = _
          rw [List.getElem?_map, List.getElem?_eq_getElem hi]
          rfl
        · rw [List.getElem?_eq_none (by rw [List.length_range]; omega), List.getElem?_eq_none (by rw [List.length_map]; omega)]
          rfl
      refine q1 h5 H4 r (ts.map (·.1)) s4 SS (by rw [List.length_map, hp.length_eq, List.length_map]; exact few) ⟨rs, r2', ?_, fun p hp' => (r3 p hp').kt (KT.of k4)⟩
      rw [er, r1]
end
def spWholeG : Sp := fun vs H Q _ => ∃ (x : V) (a : String), vs = [x] ∧ Ty H x a ∧ Q (.bl (decide (a = "int"))) H
def RiseV (H : Hp) (x : V) : Prop := ∃ a ns, x = .ref a ∧ VL H a ns ∧ ns.Pairwise (· < ·) ∧ ∀ v ∈ ns, 0 ≤ v
def spRiseG : Sp := fun vs H Q _ => ∃ (x : V) (B : Nat), vs = [x] ∧ Dat B H x ∧ (RiseV H x → Q (.bl true) H) ∧ (¬ RiseV H x → Q (.bl false) H)
theorem int_inj : ∀ {xs ys : List Int}, xs.map V.int = ys.map V.int → xs = ys
  | [], [], _ => rfl
  | [], _ :: _, h => by simp at h
  | _ :: _, [], h => by simp at h
  | x :: xs, y :: ys, h => by
    rw [List.map_cons, List.map_cons, List.cons.injEq] at h
    rw [V.int.inj h.1, int_inj h.2]
/-- links of the versions ns, as a thing of any kind -/
def LinkV (H : Hp) (ns : List Int) (y : V) : Prop := ∃ b ps, y = .ref b ∧ PL H b ps ∧ ps.length ≤ 2000 ∧ (ps.map (·.2)).Pairwise LexL ∧ ∀ q ∈ ps.map (·.2), q.1 ∈ ns ∧ q.2 ∈ ns ∧ q.2 < q.1
def spLinksG : Sp := fun vs H Q _ => ∃ (a : Addr) (ns : List Int) (y : V) (B : Nat), vs = [.ref a, y] ∧ VL H a ns ∧ (∀ v ∈ ns, 0 ≤ v) ∧ ns.length ≤ 400 ∧ Dat B H y ∧ (LinkV H ns y → ∀ H', Same H H' → Q (.bl true) H') ∧ (¬ LinkV H ns y → ∀ H', Same H H' → Q (.bl false) H')
/-- a shape, as a thing of any kind -/
def ShV (H : Hp) (x : V) : Prop := ∃ t a b ns, x = .ref t ∧ H t = some (.tup [.ref a, b]) ∧ VL H a ns ∧ ns.Pairwise (· < ·) ∧ (∀ v ∈ ns, 0 ≤ v) ∧ ns.length ≤ 400 ∧ LinkV H ns b
/-- the pairs that were gone through: i of xs; the last of them is (l1, l2) -/
structure Lnk (H : Hp) (ns : List Int) (xs : List V) (i : Nat) (pre : List (Addr × Int × Int)) (l : Int × Int) : Prop where
  tk : xs.take i = pre.map fun q => .ref q.1
  at' : ∀ q ∈ pre, H q.1 = some (.tup [.int q.2.1, .int q.2.2])
  lex : (pre.map (·.2)).Pairwise LexL
  ok : ∀ q ∈ pre.map (·.2), q.1 ∈ ns ∧ q.2 ∈ ns ∧ q.2 < q.1
  le : ∀ q ∈ pre.map (·.2), q = l ∨ LexL q l
  last : l = (-1, -1) ∨ ∃ (j : Nat) (p : Addr), j < i ∧ xs[j]? = some (.ref p) ∧ H p = some (.tup [.int l.1, .int l.2])
theorem Lnk.zero {H : Hp} {ns : List Int} {xs : List V} : Lnk H ns xs 0 [] (-1, -1) := ⟨rfl, by simp, by simp, by simp, by simp, .inl rfl⟩
theorem LexL.trans {a b c : Int × Int} (h : LexL a b) (g : LexL b c) : LexL a c := by
  unfold LexL at *
  omega
theorem Lnk.add {H : Hp} {ns : List Int} {xs : List V} {i : Nat} {pre : List (Addr × Int × Int)} {l : Int × Int} (h : Lnk H ns xs i pre l) {p : Addr} {x y : Int} (hx : xs[i]? = some (.ref p)) (hp : H p = some (.tup [.int x, .int y])) (h1 : x ∈ ns) (h2 : y ∈ ns) (h3 : y < x) (hl : LexL l (x, y)) : Lnk H ns xs (i + 1) (pre ++ [(p, x, y)]) (x, y) := by
  refine ⟨by rw [List.take_add_one, hx, h.tk, List.map_append]; rfl, fun q hq => ?_, ?_, fun q hq => ?_, fun q hq => ?_, .inr ⟨i, p, by omega, hx, hp⟩⟩
  · rcases List.mem_append.mp hq with a | a
    · exact h.at' q a
    · have e : q = (p, x, y) := by simpa using a
      subst e
      exact hp
  · rw [List.map_append, List.pairwise_append]
    refine ⟨h.lex, by simp, fun a ha b hb => ?_⟩
    have e : b = (x, y) := by simpa using hb
    subst e
    rcases h.le a ha with e | e
    · rw [e]; exact hl
    · exact e.trans hl
  · rw [List.map_append] at hq
    rcases List.mem_append.mp hq with a | a
    · exact h.ok q a
    · have e : q = (x, y) := by simpa using a
      subst e
      exact ⟨h1, h2, h3⟩
  · rw [List.map_append] at hq
    rcases List.mem_append.mp hq with a | a
    · rcases h.le q a with e | e
      · exact .inr (by rw [e]; exact hl)
      · exact .inr (e.trans hl)
    · exact .inl (by simpa using a)
theorem Lnk.full {H : Hp} {ns : List Int} {b : Addr} {xs : List V} {pre : List (Addr × Int × Int)} {l : Int × Int} (hb : H b = some (.tup xs)) (hn : xs.length ≤ 2000) (h : Lnk H ns xs xs.length pre l) : LinkV H ns (.ref b) := by
  have e := h.tk
  rw [List.take_length] at e
  refine ⟨b, pre, rfl, ⟨by rw [hb, e], h.at'⟩, ?_, h.lex, h.ok⟩
  have := congrArg List.length e
  rw [List.length_map] at this
  omega
/-- the i-th thing of links is a pair, and stands where it may stand -/
theorem LinkV.at {H : Hp} {ns : List Int} {b : Addr} {xs : List V} {i : Nat} {z : V} (h : LinkV H ns (.ref b)) (hb : H b = some (.tup xs)) (hz : xs[i]? = some z) : ∃ p x y, z = .ref p ∧ H p = some (.tup [.int x, .int y]) ∧ x ∈ ns ∧ y ∈ ns ∧ y < x ∧ ∀ pre l, Lnk H ns xs i pre l → (∀ v ∈ ns, 0 ≤ v) → LexL l (x, y) := by
  obtain ⟨b', ps, e, ⟨h1, h2⟩, _, h3, h4⟩ := h
  cases e
  rw [hb] at h1
  cases h1
  obtain ⟨q, hq, rfl⟩ := map_at hz
  have hqm := List.mem_of_getElem? hq
  obtain ⟨m1, m2, m3⟩ := h4 q.2 (List.mem_map_of_mem hqm)
  refine ⟨q.1, q.2.1, q.2.2, rfl, h2 q hqm, m1, m2, m3, fun pre l L h0 => ?_⟩
  rcases L.last with e | ⟨j, p, hj, e1, e2⟩
  · subst e
    have := h0 _ m1
    exact .inl (by show (-1 : Int) < _; omega)
  · obtain ⟨r, hr, e3⟩ := map_at e1
    cases e3
    have e4 := h2 r (List.mem_of_getElem? hr)
    rw [e2] at e4
    have e5 : l = r.2 := by
      simp only [Option.some.injEq, HO.tup.injEq, List.cons.injEq, V.int.injEq, and_true] at e4
      obtain ⟨l1, l2⟩ := l
      obtain ⟨_, r1, r2⟩ := r
      simp only at e4
      rw [e4.1, e4.2]
    rw [e5]
    rw [List.pairwise_iff_getElem] at h3
    obtain ⟨jl, je⟩ := List.getElem?_eq_some_iff.mp hr
    obtain ⟨il, ie⟩ := List.getElem?_eq_some_iff.mp hq
    have := h3 j i (by simpa using jl) (by simpa using il) hj
    simpa [je, ie] using this
/-! is it an int, is it a tuple of rising ints: of a thing of any kind (_law_rising) -/
section
variable {P : Program} {w : World} {K : PySem.W.Frag} {mg : Str → Option Value} {base : Heap}
theorem ok_law_intG {f : Addr} {fd : FuncData} (T : Txt K mg) (F : Fun K "_law_int" "_law_int" s_law_int f fd) : FnOk P w K mg base CX0 1 f fd ["_law_thing"] spWholeG := by
  refine F.ok sc_law_int (fun vs H Q E h => ?_) (fun cdv A outer s H vs Q E hr h => ?_)
  · obtain ⟨x, a, rfl, _⟩ := h
    rfl
  · obtain ⟨x, a, rfl, t, q⟩ := h
    refine ⟨_,
      (pss_one
        (ps_ret (pe_and (pe_callB (r := rIsi K) call_isi (by rfl) T.n_isinstance (by decide +kernel) (pa_cons (pv 0) (pa_cons (pe_bltn (v := .ty "int") (u := .type "int") (by rfl) T.n_int (by decide +kernel) rfl) pa_nil))) (pe_one (pe_not (pe_callB (r := rIsi K) call_isi (by rfl) T.n_isinstance (by decide +kernel) (pa_cons (pv 0) (pa_cons (pe_bltn (v := .ty "bool") (u := .type "bool") (by rfl) T.n_bool (by decide +kernel) rfl) pa_nil))))))))
      , ?_⟩
    rw [show L2.start N_law_int [x] = [some x] from rfl]
    walk_at "x"
    refine w_isInt t ?_
    walk_at "g"
    refine w_itB (fun hb => ?_) (fun hb => ?_)
    · walk_at "g"
      refine w_isBool t ?_
      walk_at "g"
      by_cases e : a = "bool"
      · rw [decide_eq_true e]
        rw [decide_eq_false (fun z : a = "int" => by rw [z] at e; exact absurd e (by decide))] at q
        exact q
      · rw [decide_eq_false e]
        rw [decide_eq_false e, Bool.or_false] at hb
        rw [hb] at q
        exact q
    · walk_at "g"
      rw [decide_eq_false (fun z : a = "int" => by rw [decide_eq_true z] at hb; cases hb)] at q
      exact q
theorem ok_law_risingG {f fW : Addr} {fd fdW : FuncData} (T : Txt K mg) (F : Fun K "_law_rising" "_law_rising" s_law_rising f fd) (D_law_int : Df K mg "_law_int" s_law_int ["_law_thing"] fW fdW) : FnOk P w K mg base CX0 2 f fd ["_law_thing"] spRiseG := by
  have G_law_int : FnOk P w K mg base CX0 1 fW fdW ["_law_thing"] spWholeG := ok_law_intG T D_law_int.fn
  refine F.ok sc_law_rising (fun vs H Q E h => ?_) (fun cdv A outer s H vs Q E hr h => ?_)
  · obtain ⟨x, B, rfl, _⟩ := h
    rfl
  · obtain ⟨x, B, rfl, hd, q1, q2⟩ := h
    refine ⟨_,
      (pss_cons
        (ps_if (pt_not (pt_val (pe_callB (r := rIsi K) call_isi (by rfl) T.n_isinstance (by decide +kernel) (pa_cons (pv 0) (pa_cons (pe_bltn (v := .ty "tuple") (u := .type "tuple") (by rfl) T.n_tuple (by decide +kernel) rfl) pa_nil)))))
          (pss_one
            (ps_ret pe_bl))
          pss_nil)
      (pss_cons
        (ps_set (i := 1) sc_law_rising.nd rfl (.inl rfl) (pe_un un_neg pe_int))
      (pss_cons
        (ps_for PassesOwn.never rfl (pi_tup (pv 0)) (pg_name (i := 2) sc_law_rising.nd rfl (.inl rfl))
          (pss_cons
            (ps_if (PW.pt (pw_or (pt_not (pt_val (pe_call G_law_int (hr.mono (by omega)) (by rfl) D_law_int.g D_law_int.fn.kp D_law_int.b .nil pass0 (pa_cons (pv 2) pa_nil)))) (pw_or1 (pt_cmpR op_le (pv 2) (pv 1) (nomark _)))))
              (pss_one
                (ps_ret pe_bl))
              pss_nil)
          (pss_one
            (ps_set (i := 1) sc_law_rising.nd rfl (.inl rfl) (pv 2)))))
      (pss_one
        (ps_ret pe_bl)))))
      , ?_⟩
    rw [show L2.start N_law_rising [x] = [some x, none, none] from rfl]
    refine w_seq ?_
    walk_at "x"
    rcases hd.cases with ⟨a, ta, hne⟩ | ⟨p, xs, rfl, ep, hB, hxs⟩
    · refine w_isTup ta ?_
      rw [decide_eq_false hne]
      walk_at "g"
      refine q2 ?_
      rintro ⟨b, ns, rfl, h, _⟩
      exact hne (ta.ofTup h)
    · walk_at "g"
      refine lp_tup (xs := xs) (fun i σ H' => H' = H ∧ ∃ (pre : List Int) (l : Int) (y : Option V), σ = [some (.ref p), some (.int l), y] ∧ xs.take i = pre.map V.int ∧ pre.Pairwise (· < ·) ∧ (∀ v ∈ pre, 0 ≤ v ∧ v ≤ l) ∧ (l = -1 ∨ l ∈ pre) ∧ -1 ≤ l) ?_ ?_ ?_ ?_
      · exact ⟨rfl, [], -1, none, rfl, rfl, by simp, by simp, .inl rfl, by omega⟩
      · rintro i σ H' _ ⟨rfl, _⟩
        exact .of ep
      · rintro i y σ H' hy ⟨rfl, pre, l, y0, rfl, hpre, hp1, hp2, hp3, hp4⟩
        have hym := List.mem_of_getElem? hy
        obtain ⟨ay, ty⟩ := (hxs y hym).ty
        have tk : xs.take (i + 1) = xs.take i ++ [y] := by rw [List.take_add_one, hy]; rfl
        refine w_seq ?_
        walk_at "g"
        refine ⟨y, ay, rfl, ty, ?_⟩
        walk_at "g"
        have no : (∀ v : Int, y = .int v → v ≤ l) → ¬ RiseV H' (.ref p) := fun hv => by
          rintro ⟨b, ns, e, h, hr1, hr0⟩
          cases e
          have h' : H' p = some (.tup (ns.map V.int)) := h
          rw [ep] at h'
          cases h'
          obtain ⟨v, hv1, rfl⟩ := map_at hy
          have hle := hv v rfl
          have hp5 : pre = ns.take i := int_inj (by rw [← hpre, List.map_take])
          rcases hp3 with h3 | h3
          · have := hr0 v (List.mem_of_getElem? hv1)
            omega
          · rw [hp5] at h3
            have := take_lt hr1 hv1 h3
            omega
        refine w_itN (fun hni => ?_) (fun hi => ?_)
        · walk_at "g"
          exact q2 (no fun v e => by rw [e] at ty; exact absurd ty.ofInt hni)
        · obtain ⟨v, rfl⟩ := ty.isInt hi
          walk_at "g"
          refine w_ite (fun hle => ?_) (fun hgt => ?_)
          · walk_at "g"
            exact q2 (no fun v' e => by cases e; exact hle)
          · walk_at "g"
            refine ⟨rfl, pre ++ [v], v, _, rfl, by rw [tk, hpre, List.map_append]; rfl, List.pairwise_append.mpr ⟨hp1, by simp, fun a ha b hb => ?_⟩, fun z hz => ?_, .inr (by simp), by omega⟩
            · have e : b = v := by simpa using hb
              have := (hp2 a ha).2
              omega
            · rcases List.mem_append.mp hz with h | h
              · have := hp2 z h
                omega
              · have e : z = v := by simpa using h
                omega
      · rintro σ H' ⟨rfl, pre, l, y0, rfl, hpre, hp1, hp2, _⟩
        rw [List.take_length] at hpre
        walk_at "g"
        exact q1 ⟨p, pre, rfl, by rw [hpre] at ep; exact ep, hp1, fun v hv => (hp2 v hv).1⟩
end
/-! ### is_row, right_table of any data -/
def RowQ (H : Hp) (x : V) (q : Sts) (n : Int) (z : Option Int) : Prop := ∃ p, x = .ref p ∧ TRowAt H p q n z ∧ q.1.Pairwise (· < ·) ∧ (∀ v ∈ q.1, 0 ≤ v) ∧ q.2.Pairwise (· < ·) ∧ ∀ v ∈ q.2, 0 ≤ v
def spIsRow : Sp := fun vs H Q _ => ∃ (x : V) (B : Nat), vs = [x] ∧ Dat B H x ∧ (∀ q n z, RowQ H x q n z → Q (.bl true) H) ∧ ((¬ ∃ q n z, RowQ H x q n z) → Q (.bl false) H)
def AskOk (vs : List Int) (rw : Int → List Int) (q : Sts) (n : Int) : Option Int → Prop
  | none => opn vs q = []
  | some v => v ∈ opn vs q ∧ max (tab vs rw (hiS vs rw q v)).1 (tab vs rw (loS vs rw q v)).1 = n - 1
/-- the i-th row is right -/
def RowR (H : Hp) (vs : List Int) (rw : Int → List Int) (y : V) (q : Sts) : Prop := ∃ n z, RowQ H y q n z ∧ n = (tab vs rw q).1 ∧ AskOk vs rw q n z
def RTab (H : Hp) (vs : List Int) (rw : Int → List Int) (ss : List Sts) (x : V) : Prop := ∃ p xs, x = .ref p ∧ H p = some (.tup xs) ∧ xs.length = ss.length ∧ ∀ (i : Nat) (y : V) (q : Sts), xs[i]? = some y → ss[i]? = some q → RowR H vs rw y q
theorem TRowAt.inj {H : Hp} {p : Addr} {q q' : Sts} {n n' : Int} {z z' : Option Int} (h : TRowAt H p q n z) (g : TRowAt H p q' n' z') : q = q' ∧ n = n' ∧ z = z' := by
  obtain ⟨a, b, e1, e2, e3⟩ := h
  obtain ⟨a', b', g1, g2, g3⟩ := g
  rw [e1] at g1
  simp only [Option.some.injEq, HO.tup.injEq, List.cons.injEq, V.ref.injEq, V.int.injEq, and_true] at g1
  obtain ⟨rfl, rfl, hn, hz⟩ := g1
  rw [e2] at g2
  rw [e3] at g3
  have h1 : q.1 = q'.1 := int_inj (by simpa using g2)
  have h2 : q.2 = q'.2 := int_inj (by simpa using g3)
  refine ⟨Prod.ext h1 h2, hn, ?_⟩
  cases z with
  | none =>
    cases z' with
    | none => rfl
    | some v => cases hz
  | some v =>
    cases z' with
    | none => cases hz
    | some v' => rw [V.int.inj hz]
theorem RowQ.inj {H : Hp} {x : V} {q q' : Sts} {n n' : Int} {z z' : Option Int} (h : RowQ H x q n z) (g : RowQ H x q' n' z') : q = q' ∧ n = n' ∧ z = z' := by
  obtain ⟨p, rfl, h, _⟩ := h
  obtain ⟨p', e, g, _⟩ := g
  cases e
  exact h.inj g
theorem dat_back {B : Nat} {H H' : Hp} {p : Addr} {xs : List V} (h : Dat B H (.ref p)) (k : KD H H') (e : H' p = some (.tup xs)) : H p = some (.tup xs) ∧ ∀ y ∈ xs, Dat B H y := by
  rcases h.cases with ⟨a, t, hne⟩ | ⟨p', ys, e1, e2, _, h2⟩
  · exact absurd ((t.kd k).ofTup e) hne
  · cases e1
    have := k.t _ _ e2
    rw [e] at this
    cases this
    exact ⟨e2, h2⟩
theorem RowQ.back {B : Nat} {H H' : Hp} {x : V} {q : Sts} {n : Int} {z : Option Int} (hd : Dat B H x) (k : KD H H') (h : RowQ H' x q n z) : RowQ H x q n z := by
  obtain ⟨p, rfl, ⟨a, b, e1, e2, e3⟩, r⟩ := h
  obtain ⟨f1, d1⟩ := dat_back hd k e1
  obtain ⟨f2, _⟩ := dat_back (d1 (.ref a) (by simp)) k e2
  obtain ⟨f3, _⟩ := dat_back (d1 (.ref b) (by simp)) k e3
  exact ⟨p, rfl, ⟨a, b, f1, f2, f3⟩, r⟩
theorem ints_lay : ∀ ns : List Int, PyData.canLayAll0 (ns.map PyData.int) = true ∧ PyData.depthAll (ns.map PyData.int) ≤ 1
  | [] => ⟨rfl, by decide⟩
  | n :: r => by
    obtain ⟨h1, h2⟩ := ints_lay r
    refine ⟨?_, ?_⟩
    · rw [List.map_cons, PyData.canLayAll0, h1, PyData.canLay0]; rfl
    · rw [List.map_cons, PyData.depthAll, PyData.depth]; omega
theorem dp_ints {K : PySem.W.Frag} {H : Hp} : ∀ ns : List Int, DpAll K H (ns.map V.int) (ns.map PyData.int)
  | [] => .nil
  | n :: r => .cons (.int n) (dp_ints r)
theorem st_shaped (q : Sts) : SeqAt.shaped (encSt q) = true := by
  obtain ⟨a1, a2⟩ := ints_lay q.1
  obtain ⟨b1, b2⟩ := ints_lay q.2
  unfold SeqAt.shaped encSt
  rw [Bool.and_eq_true_iff]
  refine ⟨by rw [PyData.canLay0, PyData.canLayAll0, PyData.canLayAll0, PyData.canLay0, PyData.canLay0, a1, b1]; rfl, decide_eq_true ?_⟩
  have := depth_encSt q
  unfold encSt at this
  omega
theorem dp_st {K : PySem.W.Frag} {H : Hp} {t : Addr} {q : Sts} (h : QAt H t q) : Dp K H (.ref t) (encSt q) := by
  obtain ⟨a, b, e1, e2, e3⟩ := h
  exact .tup (.of e1) (.cons (.tup (.of e2) (dp_ints _)) (.cons (.tup (.of e3) (dp_ints _)) .nil))
theorem eqv_St (p q : Sts) : PyData.eqv (encSt p) (encSt q) = decide (p = q) := by
  have h : PyData.eqv (encSt p) (encSt q) = true ↔ p = q := by
    unfold encSt
    rw [PyData.eqv, PyData.eqvAll, PyData.eqvAll, PyData.eqvAll, Bool.and_true, Bool.and_eq_true, eqv_tints, eqv_tints]
    exact ⟨fun h => Prod.ext h.1 h.2, fun h => by rw [h]; exact ⟨rfl, rfl⟩⟩
  by_cases e : p = q
  · rw [decide_eq_true e, h.mpr e]
  · rw [decide_eq_false e]
    cases g : PyData.eqv (encSt p) (encSt q) with
    | true => exact absurd (h.mp g) e
    | false => rfl
theorem w_neSt {K : PySem.W.Frag} {H : Hp} {Q : VK} {a b : Addr} {p q : Sts} (h1 : QAt H a p) (h2 : QAt H b q) (h : Q (.bl (!decide (p = q))) H) : rNeD K (.ref a) (.ref b) H Q := ⟨_, _, dp_st h1, dp_st h2, st_shaped p, st_shaped q, by rw [eqv_St]; exact h⟩
section
variable {P : Program} {w : World} {K : PySem.W.Frag} {mg : Str → Option Value} {base : Heap}
theorem ok_lopenq {f : Addr} {fd : FuncData} (T : Txt K mg) (F : Fun K "_law_open" "_law_open" s_law_open f fd) : FnOk P w K mg base CX0 1 f fd ["_law_rows", "_law_state"] spOpenQ := by
  refine F.ok sc_law_open (fun vs H Q E h => ?_) (fun cdv A outer s H vs Q E hr h => ?_)
  · obtain ⟨R, t, ns, rw', q, rfl, _⟩ := h
    rfl
  · obtain ⟨R, t, ns, rw', q, rfl, ⟨kvs, eR, hk, hv⟩, RO, hl, ⟨a, b, et, ea, eb⟩, qq⟩ := h
    have hu := hu_of hr
    have hkl : kvs.length = ns.length := by
      have := congrArg List.length hk
      simpa using this
    refine ⟨_,
      (pss_one
        (ps_ret (pe_lock (pe_lc (own := [("_law_version", 2)]) (g := (gName 2)) rfl sc_law_open.nd (pi_keys (pv 0)) (blkOk_by (own := [("_law_version", 2)]) (N := N_law_open) (sc := defScope s_law_open) (by decide +kernel)) (fun _ _ _ _ _ => (pg_name (i := 2) sc_law_open.nd rfl (.inl rfl))) (fun _ _ _ _ _ => (pts_one (PW.pt (pw_and (pt_cmpR (r := rIn K true) op_notIn_seq (pv 2) (pe_ix (r := rIxT K) ix_tup (pv 1) pe_int (fun _ _ => rfl)) rfl) (pw_and1 (pt_cmpR (r := rIn K true) op_notIn_seq (pv 2) (pe_ix (r := rIxT K) ix_tup (pv 1) pe_int (fun _ _ => rfl)) rfl)))))) (fun _ _ _ _ _ => (pv 2))))))
      , ?_⟩
    rw [show L2.start N_law_open [V.ref R, V.ref t] = [some (.ref R), some (.ref t), none] from rfl]
    walk_at "x"
    refine w_lockE eR fun od H1 eR1 o1 => ?_
    have nt : t ≠ R := ne_of et eR (fun z => nomatch z)
    have na : a ≠ R := ne_of ea eR (fun z => nomatch z)
    have nb : b ≠ R := ne_of eb eR (fun z => nomatch z)
    have et1 := o1.get nt et
    have ea1 := o1.get na ea
    have eb1 := o1.get nb eb
    walk_at "g"
    try refine w_keys' eR1 ?_
    refine lcp_sel (walk_keys (d := R) (o := od) (kvs := kvs)) [] (fun i => ns[i]?.bind (pickI fun v => decide (v ∉ q.1 ∧ v ∉ q.2))) (by omega) (fun H' k => k _ _ (by simp) eR1) ?_ (by simp) ?_
    · rintro i x Ha Hb Rr R0 hi ka ⟨rfl, ky, vy, hkv, rfl⟩ h1 h2
      obtain ⟨y, hy, rfl⟩ := key_at hk hkv
      rw [show kV (Sum.inl y : Key) = V.int y from rfl]
      have eta := ka.same _ _ et1
      have eaa := ka.same _ _ ea1
      have eba := ka.same _ _ eb1
      refine w_name ⟨rfl, ?_⟩
      walk_at "g"
      refine w_itNB (fun hb => ?_) (fun hb => ?_)
      · walk_at "g"
        refine w_itNB (fun hc => ?_) (fun hc => ?_)
        · walk_at "g"
          exact h1 _ _ (sel_yes (p := fun v => decide (v ∉ q.1 ∧ v ∉ q.2)) hy (decide_eq_true ⟨of_decide_eq_false hb, of_decide_eq_false hc⟩)) Kp.refl
        · exact h2 _ (sel_no (p := fun v => decide (v ∉ q.1 ∧ v ∉ q.2)) hy (fun z => (of_decide_eq_true z).2 (of_decide_eq_true hc))) Kp.refl
      · exact h2 _ (sel_no (p := fun v => decide (v ∉ q.1 ∧ v ∉ q.2)) hy (fun z => (of_decide_eq_true z).1 (of_decide_eq_true hb))) Kp.refl
    intro L H2 hL k2 eL
    rw [hkl, range_fm, pickI_map] at eL
    have nLR : L ≠ R := fun z => by rw [z, eR1] at hL; cases hL
    refine ⟨k2 _ _ (by simp) eR1, ?_⟩
    have s3 : Same H (upd H2 R (.dK kvs)) := (lock_kp eR o1 k2).same
    have hL0 : H L = none := by
      cases e : H L with
      | none => rfl
      | some o => rw [o1.get nLR e] at hL; cases hL
    exact qq _ L s3 hL0 (by rw [upd_ne nLR]; exact eL)
end
/-! ### the law's own states -/
def spBehind : Sp := fun vs H Q _ => ∃ (R t : Addr) (ns : List Int) (rw : Int → List Int) (q : Sts) (v : Int) (b : Bool), vs = [.ref R, .ref t, .int v, .bl b] ∧ RowsH H R ns rw ∧ RwOk ns rw ∧ ns.length < 64 ∧ QAt H t q ∧ StOk ns q ∧ v ∈ ns ∧ ∀ H' t', Same H H' → QAt H' t' (if b = true then hiS ns rw q v else loS ns rw q v) → Q (.ref t') H'
def spSize : Sp := fun vs H Q _ => ∃ (t : Addr) (q : Sts), vs = [.ref t] ∧ QAt H t q ∧ Q (.int (((q.1.length : Nat) : Int) + ((q.2.length : Nat) : Int))) H
abbrev EnV := Sts × Addr × V
def entV (d : EnV) : NEnt := (stK d.1, d.2.1, d.2.2)
structure KnV (P : Program) (w : World) (H : Hp) (kn : Addr) (ds : List EnV) : Prop where
  at' : NDict P w H kn (ds.map entV)
  en : ∀ d ∈ ds, QAt H d.2.1 d.1
theorem KnV.kp {P : Program} {w : World} {M : List Addr} {H H' : Hp} {kn : Addr} {ds : List EnV} (h : KnV P w H kn ds) (k : Kp M H H') (t : KT H H') (hn : kn ∉ M) : KnV P w H' kn ds :=
  ⟨h.at'.kp k t hn, fun d hd => (h.en d hd).kt t⟩
theorem KnV.same {P : Program} {w : World} {H H' : Hp} {kn : Addr} {ds : List EnV} (h : KnV P w H kn ds) (k : Same H H') : KnV P w H' kn ds := h.kp (M := []) (Kp.of k) (KT.of k) (by simp)
theorem nvalV_find : ∀ (ds : List EnV) (q : Sts), NVal (ds.map entV) (stK q) = (ds.find? fun d => decide (d.1 = q)).map fun d => d.2.2
  | [], _ => rfl
  | d :: ds, q => by
    have ih := nvalV_find ds q
    unfold NVal at ih ⊢
    rw [List.map_cons]
    by_cases h : d.1 = q
    · rw [List.find?_cons_of_pos (by show decide (stK d.1 = stK q) = true; rw [h]; exact decide_eq_true rfl), List.find?_cons_of_pos (by rw [h]; exact decide_eq_true rfl)]
      rfl
    · rw [List.find?_cons_of_neg (by show ¬ decide (stK d.1 = stK q) = true; rw [decide_eq_true_iff]; exact fun z => h (stK_inj z)), List.find?_cons_of_neg (by rw [decide_eq_true_iff]; exact h)]
      exact ih
theorem nvalV_in (ds : List EnV) (q : Sts) : (NVal (ds.map entV) (stK q)).isSome = decide (q ∈ ds.map (·.1)) := by
  rw [nvalV_find, Option.isSome_map]
  by_cases h : q ∈ ds.map (·.1)
  · rw [decide_eq_true h, List.find?_isSome]
    obtain ⟨d, hd, e⟩ := List.mem_map.mp h
    exact ⟨d, hd, decide_eq_true e⟩
  · rw [decide_eq_false h]
    cases e : (ds.find? fun d => decide (d.1 = q)) with
    | none => rfl
    | some d =>
      have h1 := List.mem_of_find?_eq_some e
      have h2 := List.find?_some e
      exact absurd (List.mem_map.mpr ⟨d, h1, of_decide_eq_true h2⟩) h
theorem nvalV_at {ds : List EnV} (nd : (ds.map (·.1)).Nodup) {d : EnV} (hd : d ∈ ds) : NVal (ds.map entV) (stK d.1) = some d.2.2 := by
  rw [nvalV_find]
  have : ds.find? (fun x => decide (x.1 = d.1)) = some d := by
    induction ds with
    | nil => cases hd
    | cons x ds ih =>
      rw [List.map_cons, List.nodup_cons] at nd
      rcases List.mem_cons.mp hd with e | h
      · subst e
        exact List.find?_cons_of_pos (decide_eq_true rfl)
      · rw [List.find?_cons_of_neg (by rw [decide_eq_true_iff]; exact fun z => nd.1 (by rw [z]; exact List.mem_map_of_mem h))]
        exact ih nd.2 h
  rw [this]
  rfl
theorem KnV.put {P : Program} {w : World} {H H' : Hp} {kn : Addr} {ds : List EnV} (h : KnV P w H kn ds) {d : EnV} (hq : QAt H d.2.1 d.1) (nin : d.1 ∉ ds.map (·.1)) (e : NDict P w H' kn (NPut (ds.map entV) (stK d.1) d.2.1 d.2.2)) (o : Off kn H H') : KnV P w H' kn (ds ++ [d]) := by
  have t : KT H H' := KT.kpn (o.kp (by simp)) h.at'
  have en : NPut (ds.map entV) (stK d.1) d.2.1 d.2.2 = (ds ++ [d]).map entV := by
    unfold NPut
    rw [nvalV_in, decide_eq_false nin, if_neg Bool.false_ne_true, List.map_append]
    rfl
  refine ⟨by rw [← en]; exact e, fun x hx => ?_⟩
  rcases List.mem_append.mp hx with g | g
  · exact (h.en x g).kt t
  · rw [List.mem_singleton.mp g]
    exact hq.kt t
theorem sts_few {vs : List Int} {qs : List Sts} (nd : qs.Nodup) (ok : ∀ q ∈ qs, StOk vs q) (up : vs.Pairwise (· < ·)) (h5 : vs.length ≤ 5) : qs.length ≤ 1024 := by
  have h := nodup_leS qs (pairsL (subsL vs) (subsL vs)) nd fun x hx => mem_pairsL (mem_subsL up (ok x hx).r1 (ok x hx).s1) (mem_subsL up (ok x hx).r2 (ok x hx).s2)
  rw [pairsL_len, subsL_len] at h
  have h2 : 2 ^ vs.length ≤ 2 ^ 5 := Nat.pow_le_pow_right (by decide) h5
  have h3 : 2 ^ vs.length * 2 ^ vs.length ≤ 2 ^ 5 * 2 ^ 5 := Nat.mul_le_mul h2 h2
  have : (2 : Nat) ^ 5 * 2 ^ 5 = 1024 := by decide
  omega
theorem RchT.snocH {vs : List Int} {rw : Int → List Int} {q s : Sts} {v : Int} (h : RchT vs rw q s) (hv : v ∈ opn vs s) : RchT vs rw q (hiS vs rw s v) := by
  induction h with
  | refl q => exact .hi hv (.refl _)
  | hi h _ ih => exact .hi h (ih hv)
  | lo h _ ih => exact .lo h (ih hv)
theorem RchT.snocL {vs : List Int} {rw : Int → List Int} {q s : Sts} {v : Int} (h : RchT vs rw q s) (hv : v ∈ opn vs s) : RchT vs rw q (loS vs rw s v) := by
  induction h with
  | refl q => exact .lo hv (.refl _)
  | hi h _ ih => exact .hi h (ih hv)
  | lo h _ ih => exact .lo h (ih hv)
theorem rch_closed {vs : List Int} {rw : Int → List Int} {qs : List Sts} (cl : ∀ s ∈ qs, ∀ v ∈ opn vs s, hiS vs rw s v ∈ qs ∧ loS vs rw s v ∈ qs) {q s : Sts} (h : RchT vs rw q s) (hq : q ∈ qs) : s ∈ qs := by
  induction h with
  | refl q => exact hq
  | hi h _ ih => exact ih (cl _ hq _ h).1
  | lo h _ ih => exact ih (cl _ hq _ h).2
/-- the states so far: in the list L, and as the dict kn's keys -/
structure StsInv (P : Program) (w : World) (H0 H : Hp) (kn L : Addr) (vs : List Int) (rw : Int → List Int) (qs : List (Sts × Addr)) (ds : List EnV) : Prop where
  kp : Kp [kn, L] H0 H
  kt : KT H0 H
  el : H L = some (.lst (qs.map fun q => V.ref q.2))
  qa : ∀ q ∈ qs, QAt H q.2 q.1
  kv : KnV P w H kn ds
  dk : ds.map (·.1) = qs.map (·.1)
  nd : (qs.map (·.1)).Nodup
  rch : ∀ q ∈ qs, RchT vs rw ([], []) q.1
  ne : L ≠ kn
theorem StsInv.same {P : Program} {w : World} {H0 H H' : Hp} {kn L : Addr} {vs : List Int} {rw : Int → List Int} {qs : List (Sts × Addr)} {ds : List EnV} (h : StsInv P w H0 H kn L vs rw qs ds) (k : Same H H') : StsInv P w H0 H' kn L vs rw qs ds :=
  ⟨h.kp.trans (Kp.of k), h.kt.trans (KT.of k), k _ _ h.el, fun q hq => (h.qa q hq).kt (KT.of k), h.kv.same k, h.dk, h.nd, h.rch, h.ne⟩
theorem StsInv.few {P : Program} {w : World} {H0 H : Hp} {kn L : Addr} {vs : List Int} {rw : Int → List Int} {qs : List (Sts × Addr)} {ds : List EnV} (h : StsInv P w H0 H kn L vs rw qs ds) (R : RwOk vs rw) (h5 : vs.length ≤ 5) : qs.length ≤ 1024 := by
  have := sts_few h.nd (fun q hq => by
    obtain ⟨x, hx, e⟩ := List.mem_map.mp hq
    rw [← e]
    exact (h.rch x hx).ok R (StOk.nil vs)) R.up h5
  rwa [List.length_map] at this
def spStates : Sp := fun vs H Q _ => ∃ (R : Addr) (ns : List Int) (rw : Int → List Int), vs = [.ref R] ∧ RowsH H R ns rw ∧ RwOk ns rw ∧ ns.length ≤ 5 ∧
  ∀ H' L (qs : List (Sts × Addr)), Same H H' → H' L = some (.lst (qs.map fun q => V.ref q.2)) → (∀ q ∈ qs, QAt H' q.2 q.1) → (qs.map (·.1)).Nodup → (∀ s, s ∈ qs.map (·.1) ↔ RchT ns rw ([], []) s) → qs.length ≤ 1024 → Q (.ref L) H'
section
variable {P : Program} {w : World} {K : PySem.W.Frag} {mg : Str → Option Value} {base : Heap}
theorem ok_lsize {f : Addr} {fd : FuncData} (T : Txt K mg) (F : Fun K "_law_size" "_law_size" s_law_size f fd) : FnOk P w K mg base CX0 1 f fd ["_law_state"] spSize := by
  refine F.ok sc_law_size (fun vs H Q E h => ?_) (fun cdv A outer s H vs Q E hr h => ?_)
  · obtain ⟨t, q, rfl, _⟩ := h
    rfl
  · obtain ⟨t, q, rfl, ⟨a, b, et, ea, eb⟩, qq⟩ := h
    refine ⟨_,
      (pss_one
        (ps_ret (pe_op op_add (pe_callB (r := rLen K) c_len (by rfl) T.n_len (by decide +kernel) (pa_cons (pe_ix (r := rIxT K) ix_tup (pv 0) pe_int (fun _ _ => rfl)) pa_nil)) (pe_callB (r := rLen K) c_len (by rfl) T.n_len (by decide +kernel) (pa_cons (pe_ix (r := rIxT K) ix_tup (pv 0) pe_int (fun _ _ => rfl)) pa_nil)))))
      , ?_⟩
    rw [show L2.start N_law_size [V.ref t] = [some (.ref t)] from rfl]
    walk_at "x"
    rw [List.length_map, List.length_map]
    exact qq
theorem ok_lbehind {f : Addr} {fd : FuncData} (T : Txt K mg) (F : Fun K "_law_behind" "_law_behind" s_law_behind f fd) : FnOk P w K mg base CX0 1 f fd ["_law_rows", "_law_state", "_law_version", "_law_truth"] spBehind := by
  refine F.ok sc_law_behind (fun vs H Q E h => ?_) (fun cdv A outer s H vs Q E hr h => ?_)
  · obtain ⟨R, t, ns, rw', q, v, b, rfl, _⟩ := h
    rfl
  · obtain ⟨R, t, ns, rw', q, v, tr, rfl, ⟨kvs, eR, hk, hv⟩, RO, hl, ⟨a, b, et, ea, eb⟩, SO, hvn, qq⟩ := h
    have hu := hu_of hr
    have hkl : kvs.length = ns.length := by
      have := congrArg List.length hk
      simpa using this
    obtain ⟨ra, v1, v2⟩ := hv v hvn
    have l1 := RO.len hvn
    have l2 := SO.len1
    have l3 := SO.len2
    refine ⟨_,
      (pss_cons
        (ps_if (pt_val (pv 3))
          (pss_one
            (ps_ret (pe_tup (pa_cons (pe_callTy (r := rTupOf K) c_tupOf (by rfl) T.n_tuple (by decide +kernel) (pa_cons (pe_callB (r := rSortS w) (c_sortS rfl) (by rfl) T.n_sorted (by decide +kernel) (pa_cons (pe_callTy (r := rSetT K w) (c_setT rfl) (by rfl) T.n_set (by decide +kernel) (pa_cons (pe_op op_catA (pe_ix (r := rIxT K) ix_tup (pv 1) pe_int (fun _ _ => rfl)) (pe_callTy (r := rTupOf K) c_tupOf (by rfl) T.n_tuple (by decide +kernel) (pa_cons (pe_dget hu (pv 0) (pv 2) (fun _ _ => rfl)) pa_nil))) pa_nil)) pa_nil)) pa_nil)) (pa_cons (pe_ix (r := rIxT K) ix_tup (pv 1) pe_int (fun _ _ => rfl)) pa_nil)))))
          pss_nil)
      (pss_cons
        (ps_lock (ps_setLc (i := 4) (own := [("_law_upper", 5)]) (g := (gName 5)) rfl sc_law_behind.nd rfl rfl (sw_true rfl rfl rfl (by decide +kernel)) (pi_keys (pv 0)) (blkOk_by (own := [("_law_upper", 5)]) (N := N_law_behind) (sc := defScope s_law_behind) (by decide +kernel)) (fun _ _ _ _ _ => (pg_name (i := 5) sc_law_behind.nd rfl (.inl rfl))) (fun _ _ _ _ _ => (pts_one (pt_cmpR (r := rIn K false) op_in_seq (pv 2) (pe_dget hu (pv 0) (pv 5) (fun _ _ => rfl)) rfl))) (fun _ _ _ _ _ => (pv 5))))
      (pss_one
        (ps_ret (pe_tup (pa_cons (pe_ix (r := rIxT K) ix_tup (pv 1) pe_int (fun _ _ => rfl)) (pa_cons (pe_callTy (r := rTupOf K) c_tupOf (by rfl) T.n_tuple (by decide +kernel) (pa_cons (pe_callB (r := rSortS w) (c_sortS rfl) (by rfl) T.n_sorted (by decide +kernel) (pa_cons (pe_callTy (r := rSetT K w) (c_setT rfl) (by rfl) T.n_set (by decide +kernel) (pa_cons (pe_op op_catA (pe_ix (r := rIxT K) ix_tup (pv 1) pe_int (fun _ _ => rfl)) (pe_callTy (r := rTupOf K) c_tupOf (by rfl) T.n_tuple (by decide +kernel) (pa_cons (pv 4) pa_nil))) pa_nil)) pa_nil)) pa_nil)) pa_nil)))))))
      , ?_⟩
    rw [show L2.start N_law_behind [V.ref R, V.ref t, V.int v, V.bl tr] = [some (.ref R), some (.ref t), some (.int v), some (.bl tr), none, none] from rfl]
    refine w_seq ?_
    walk_at "x"
    cases tr with
    | true =>
      walk_at "g"
      refine w_tupL (.of v2) fun p0 H0 hp0 e0 k0 => ?_
      have ea0 := k0 _ _ ea
      walk_at "g"
      refine w_catAt ea0 e0 (by simp only [List.length_map]; have := sizeLine_eq; omega) fun p1 H1 e1 k1 => ?_
      rw [← List.map_append] at e1
      walk_at "g"
      refine w_setOfT (.of e1) (by rw [List.length_append]; omega) fun p2 c2 H2 hp2 hc2 e2 k2 => ?_
      rw [List.length_append] at hc2
      walk_at "g"
      refine w_sortS e2 (by omega) fun ms p3 H3 hup hmem hp3 e3 k3 => ?_
      have em : ms = (hiS ns rw' q v).1 := rise_ext _ _ hup (RO.up.filter _) fun x => by
        rw [hmem, mem_hi, decide_eq_true_iff, List.mem_append]
        constructor
        · rintro (h | h)
          · exact ⟨SO.s1 x h, .inl h⟩
          · exact ⟨RO.sub v hvn x h, .inr h⟩
        · exact And.right
      subst em
      walk_at "g"
      refine w_tupL (.of e3) fun p4 H4 hp4 e4 k4 => ?_
      have s4 : Same H H4 := Same.trans k0 (Same.trans k1 (Same.trans k2 (Same.trans k3 k4)))
      have et4 := s4 _ _ et
      walk_at "g"
      refine w_new fun p5 H5 hp5 e5 k5 => ?_
      exact qq H5 p5 (Same.trans s4 k5) ⟨p4, b, e5, k5 _ _ e4, k5 _ _ (s4 _ _ eb)⟩
    | false =>
      walk_at "g"
      refine w_seq ?_
      refine w_lock eR fun od H1 eR1 o1 => ?_
      walk_at "g"
      try refine w_keys' eR1 ?_
      refine lcp_sel (walk_keys (d := R) (o := od) (kvs := kvs)) [] (fun i => ns[i]?.bind (pickI fun u => decide (v ∈ rw' u))) (by omega) (fun H' k => k _ _ (by simp) eR1) ?_ (by simp) ?_
      · rintro i x Ha Hb Rr R0 hi ka ⟨rfl, ky, vy, hkv, rfl⟩ h1 h2
        obtain ⟨y, hy, rfl⟩ := key_at hk hkv
        rw [show kV (Sum.inl y : Key) = V.int y from rfl]
        have eRa := ka.same _ _ eR1
        obtain ⟨ra', v1', v2'⟩ := hv y (List.mem_of_getElem? hy)
        have v2a := ka.same _ _ (o1.get (ne_of v2' eR (fun z => nomatch z)) v2')
        refine w_name ⟨rfl, ?_⟩
        walk_at "g"
        refine w_itB (fun hb => ?_) (fun hb => ?_)
        · walk_at "g"
          exact h1 _ _ (sel_yes (p := fun u => decide (v ∈ rw' u)) hy hb) Kp.refl
        · exact h2 _ (sel_no (p := fun u => decide (v ∈ rw' u)) hy (by rw [hb]; exact Bool.false_ne_true)) Kp.refl
      intro L H2 hL k2 eL
      rw [hkl, range_fm, pickI_map] at eL
      have nLR : L ≠ R := fun z => by rw [z, eR1] at hL; cases hL
      refine ⟨k2 _ _ (by simp) eR1, ?_⟩
      have s3 : Same H (upd H2 R (.dK kvs)) := (lock_kp eR o1 k2).same
      have eL3 : (upd H2 R (.dK kvs)) L = some (.lst ((ns.filter fun u => decide (v ∈ rw' u)).map V.int)) := by rw [upd_ne nLR]; exact eL
      generalize upd H2 R (.dK kvs) = H3 at s3 eL3
      have fll : (ns.filter fun u => decide (v ∈ rw' u)).length ≤ ns.length := List.length_filter_le _ _
      have et3 := s3 _ _ et
      have eb3 := s3 _ _ eb
      walk_at "g"
      refine w_tupL (.of eL3) fun p0 H4 hp0 e0 k0 => ?_
      have eb4 := k0 _ _ eb3
      walk_at "g"
      refine w_catAt eb4 e0 (by simp only [List.length_map]; have := sizeLine_eq; omega) fun p1 H5 e1 k1 => ?_
      rw [← List.map_append] at e1
      walk_at "g"
      refine w_setOfT (.of e1) (by rw [List.length_append]; omega) fun p2 c2 H6 hp2 hc2 e2 k2' => ?_
      rw [List.length_append] at hc2
      walk_at "g"
      refine w_sortS e2 (by omega) fun ms p3 H7 hup hmem hp3 e3 k3 => ?_
      have em : ms = (loS ns rw' q v).2 := rise_ext _ _ hup (RO.up.filter _) fun x => by
        rw [hmem, mem_lo, decide_eq_true_iff, List.mem_append, List.mem_filter, decide_eq_true_iff]
        constructor
        · rintro (h | h)
          · exact ⟨SO.s2 x h, .inl h⟩
          · exact ⟨h.1, .inr h.2⟩
        · rintro ⟨h1, h | h⟩
          · exact .inl h
          · exact .inr ⟨h1, h⟩
      subst em
      walk_at "g"
      refine w_tupL (.of e3) fun p4 H8 hp4 e4 k4 => ?_
      have s8 : Same H H8 := Same.trans s3 (Same.trans k0 (Same.trans k1 (Same.trans k2' (Same.trans k3 k4))))
      walk_at "g"
      refine w_new fun p5 H9 hp5 e5 k5 => ?_
      exact qq H9 p5 (Same.trans s8 k5) ⟨a, p4, e5, k5 _ _ (s8 _ _ ea), k5 _ _ e4⟩
end
/-! ### _law_states -/
theorem StsInv.add {P : Program} {w : World} {H0 H1 H2 H3 : Hp} {kn L : Addr} {vs : List Int} {rw : Int → List Int} {qs : List (Sts × Addr)} {ds : List EnV} (h : StsInv P w H0 H1 kn L vs rw qs ds) {q : Sts} {t : Addr} (hq : QAt H1 t q) (nin : q ∉ qs.map (·.1)) (r : RchT vs rw ([], []) q) (e : NDict P w H2 kn (NPut (ds.map entV) (stK q) t (.bl true))) (o : Off kn H1 H2) (e3 : H3 L = some (.lst (qs.map (fun q => V.ref q.2) ++ [.ref t]))) (o3 : Off L H2 H3) (hL2 : H2 L = some (.lst (qs.map fun q => V.ref q.2))) : StsInv P w H0 H3 kn L vs rw (qs ++ [(q, t)]) (ds ++ [(q, t, .bl true)]) := by
  have k12 : Kp [kn] H1 H2 := o.kp (by simp)
  have t12 : KT H1 H2 := KT.kpn k12 h.kv.at'
  have k23 : Kp [L] H2 H3 := o3.kp (by simp)
  have t23 : KT H2 H3 := KT.off o3 hL2
  have kv2 := h.kv.put (d := (q, t, .bl true)) hq (by rw [h.dk]; exact nin) e o
  refine ⟨h.kp.trans ?_, h.kt.trans (t12.trans t23), by rw [e3, List.map_append]; rfl, fun x hx => ?_, kv2.kp k23 t23 (by simpa using h.ne.symm), by rw [List.map_append, List.map_append, h.dk]; rfl, ?_, fun x hx => ?_, h.ne⟩
  · intro c ob hc ec
    simp only [List.mem_cons, List.not_mem_nil, or_false, not_or] at hc
    exact k23 _ _ (by simpa using hc.2) (k12 _ _ (by simpa using hc.1) ec)
  · rcases List.mem_append.mp hx with g | g
    · exact (h.qa x g).kt (t12.trans t23)
    · rw [List.mem_singleton.mp g]
      exact hq.kt (t12.trans t23)
  · rw [List.map_append, List.nodup_append]
    refine ⟨h.nd, by simp, fun a ha b hb z => ?_⟩
    have : b = q := by simpa using hb
    rw [z, this] at ha
    exact nin ha
  · rcases List.mem_append.mp hx with g | g
    · exact h.rch x g
    · rw [List.mem_singleton.mp g]
      exact r
section
variable {P : Program} {w : World} {K : PySem.W.Frag} {mg : Str → Option Value} {base : Heap}
theorem ok_lstates {f fO fB : Addr} {fd fdO fdB : FuncData} (T : Txt K mg) (F : Fun K "_law_states" "_law_states" s_law_states f fd) (D_law_open : Df K mg "_law_open" s_law_open ["_law_rows", "_law_state"] fO fdO) (D_law_behind : Df K mg "_law_behind" s_law_behind ["_law_rows", "_law_state", "_law_version", "_law_truth"] fB fdB) : FnOk P w K mg base CX0 2 f fd ["_law_rows"] spStates := by
  have G_law_open : FnOk P w K mg base CX0 1 fO fdO ["_law_rows", "_law_state"] spOpenQ := ok_lopenq T D_law_open.fn
  have G_law_behind : FnOk P w K mg base CX0 1 fB fdB ["_law_rows", "_law_state", "_law_version", "_law_truth"] spBehind := ok_lbehind T D_law_behind.fn
  refine F.ok sc_law_states (fun vs H Q E h => ?_) (fun cdv A outer s H vs Q E hr h => ?_)
  · obtain ⟨R, ns, rw', rfl, _⟩ := h
    rfl
  · obtain ⟨R, ns, rw', rfl, RH, RO, hl, qq⟩ := h
    have hu := hu_of hr
    refine ⟨_,
      (pss_cons
        (ps_set (i := 1) sc_law_states.nd rfl (.inl rfl) (pe_ndisp hr.units (pps_cons (pe_tup (pa_cons (pe_tup pa_nil) (pa_cons (pe_tup pa_nil) pa_nil))) pe_bl pps_nil) (by rfl) (by rfl) (by rfl)))
      (pss_cons
        (ps_set (i := 2) sc_law_states.nd rfl (.inl rfl) (pe_lst (pa_cons (pe_tup (pa_cons (pe_tup pa_nil) (pa_cons (pe_tup pa_nil) pa_nil))) pa_nil)))
      (pss_cons
        (ps_set (i := 3) sc_law_states.nd rfl (.inl rfl) pe_int)
      (pss_cons
        (ps_while PassesOwn.never (pt_cmpR op_lt (pv 3) (pe_callB (r := rLen K) c_len (by rfl) T.n_len (by decide +kernel) (pa_cons (pv 2) pa_nil)) (nomark _))
          (pss_cons
            (ps_set (i := 4) sc_law_states.nd rfl (.inl rfl) (pe_ix (r := rIxL K) ix_list (pv 2) (pv 3) (fun _ _ => rfl)))
          (pss_cons
            (ps_for PassesOwn.never rfl (pi_list (pe_call G_law_open (hr.mono (by omega)) (by rfl) D_law_open.g D_law_open.fn.kp D_law_open.b .nil pass0 (pa_cons (pv 0) (pa_cons (pv 4) pa_nil)))) (pg_name (i := 5) sc_law_states.nd rfl (.inl rfl))
              (pss_one
                (ps_for PassesOwn.never rfl (pi_tup (pe_tup (pa_cons pe_bl (pa_cons pe_bl pa_nil)))) (pg_name (i := 6) sc_law_states.nd rfl (.inl rfl))
                  (pss_cons
                    (ps_set (i := 7) sc_law_states.nd rfl (.inl rfl) (pe_call G_law_behind (hr.mono (by omega)) (by rfl) D_law_behind.g D_law_behind.fn.kp D_law_behind.b .nil pass0 (pa_cons (pv 0) (pa_cons (pv 4) (pa_cons (pv 5) (pa_cons (pv 6) pa_nil))))))
                  (pss_one
                    (ps_if (pt_cmp (pc_nnotin hr.units (pv 7) (pv 1)))
                      (pss_cons
                        (ps_nput hr.units (pv 1) (pv 7) pe_bl rfl)
                      (pss_one
                        (ps_expr (pe_bm PySem.F.plainAttrs_list PySem.F.slot_list_append PySem.F.type_list_append mt_append (pv 2) (pa_cons (pv 7) pa_nil)))))
                      pss_nil))))))
          (pss_one
            (ps_set (i := 3) sc_law_states.nd rfl (.inl rfl) (pe_op op_add (pv 3) pe_int))))))
      (pss_one
        (ps_ret (pv 2)))))))
      , ?_⟩
    rw [show L2.start N_law_states [V.ref R] = [some (.ref R), none, none, none, none, none, none, none] from rfl]
    walk_at "x"
    refine w_ndisp fun kn H1 hkn dn1 k1 => ?_
    show tTup _ _ _ _
    walk_at "g"
    refine w_new fun u1 H2 hu1 e1 k2 => ?_
    walk_at "g"
    refine w_new fun u2 H3 hu2 e2 k3 => ?_
    walk_at "g"
    refine w_new fun u3 H4 hu3 e3 k4 => ?_
    have s14 : Same H1 H4 := Same.trans k2 (Same.trans k3 k4)
    have Q3 : QAt H4 u3 ([], []) := ⟨u1, u2, e3, k4 _ _ (k3 _ _ e1), k4 _ _ e2⟩
    walk_at "g"
    have dn4 : NDict P w H4 kn [] := dn1.kp (M := []) (Kp.of s14) (KT.of s14) (by simp)
    refine ⟨u3, stK ([], []), .bl true, rfl, dn4, Q3.nat, stK_depth _, ?_⟩
    have dn5 := npair_at (v := .bl true) dn4 Q3.nat (stK_depth _)
    have o5 : Off kn H4 (upd H4 kn (NO P w kn [(stK ([], []), u3, .bl true)])) := fun c hc => upd_ne hc
    generalize (upd H4 kn (NO P w kn [(stK ([], []), u3, .bl true)])) = H5 at dn5 o5 ⊢
    have k15 : Kp [kn] H H5 := (Kp.of (Same.trans k1 s14)).trans (o5.kp (by simp))
    have s5 : Same H H5 := fun c o e => k15 _ _ (by simpa using ne_of_none e hkn) e
    have t45 : KT H4 H5 := KT.kpn (o5.kp (by simp)) dn4
    walk_at "g"
    refine w_new fun u4 H6 hu4 e4 k6 => ?_
    walk_at "g"
    refine w_new fun u5 H7 hu5 e5 k7 => ?_
    walk_at "g"
    refine w_new fun u6 H8 hu6 e6 k8 => ?_
    walk_at "g"
    refine w_new fun L H9 hL eL k9 => ?_
    have s59 : Same H5 H9 := Same.trans k6 (Same.trans k7 (Same.trans k8 k9))
    have s9 : Same H H9 := Same.trans s5 s59
    have Q6 : QAt H9 u6 ([], []) := ⟨u4, u5, k9 _ _ e6, k9 _ _ (k8 _ _ (k7 _ _ e4)), k9 _ _ (k8 _ _ e5)⟩
    have nLk : L ≠ kn := fun z => by
      have := Same.trans k6 (Same.trans k7 k8) _ _ dn5.at'
      rw [z, this] at hL
      cases hL
    have hL0 : H L = none := by
      cases e : H L with
      | none => rfl
      | some o => rw [Same.trans s5 (Same.trans k6 (Same.trans k7 k8)) _ _ e] at hL; cases hL
    have KV9 : KnV P w H9 kn [(([], []), u3, .bl true)] := (KnV.mk (ds := [(([], []), u3, .bl true)]) dn5 (fun d hd => by
      rw [List.mem_singleton.mp hd]
      exact Q3.kt t45)).same s59
    have I9 : StsInv P w H9 H9 kn L ns rw' [(([], []), u6)] [(([], []), u3, .bl true)] := ⟨Kp.refl, KT.refl, eL, fun q hq => by rw [List.mem_singleton.mp hq]; exact Q6, KV9, rfl, by simp, fun q hq => by rw [List.mem_singleton.mp hq]; exact .refl _, nLk⟩
    walk_at "g"
    refine w_whileN (fun m σ H' => ∃ (k : Nat) (y4 y5 y6 y7 : Option V) (qs : List (Sts × Addr)) (ds : List EnV), σ = [some (.ref R), some (.ref kn), some (.ref L), some (.int (k : Int)), y4, y5, y6, y7] ∧ m = 2000 - k ∧ k ≤ qs.length ∧ StsInv P w H9 H' kn L ns rw' qs ds ∧ ([], []) ∈ qs.map (·.1) ∧ ∀ (j : Nat) (q : Sts × Addr), j < k → qs[j]? = some q → ∀ v ∈ opn ns q.1, hiS ns rw' q.1 v ∈ qs.map (·.1) ∧ loS ns rw' q.1 v ∈ qs.map (·.1)) 2000 ⟨0, _, _, _, _, _, _, rfl, rfl, by simp, I9, by simp, fun j q hj => by omega⟩ ?_
    rintro m σ H10 ⟨k, y4, y5, y6, y7, qs, ds, rfl, rfl, hk, I10, h0, cl⟩
    have few := I10.few RO hl
    have eL10 := I10.el
    have same_of : ∀ {H' : Hp}, Kp [kn, L] H9 H' → Same H H' := fun {H'} k c o e => k _ _ (by
      simp only [List.mem_cons, List.not_mem_nil, or_false, not_or]
      exact ⟨ne_of_none e hkn, ne_of_none e hL0⟩) (s9 _ _ e)
    walk_at "g"
    rw [List.length_map]
    refine w_ite (fun hlt => w_turn ?_) (fun hge => ?_)
    rotate_left
    · have ek : k = qs.length := by omega
      walk_at "g"
      refine qq H10 L qs (same_of I10.kp) I10.el I10.qa I10.nd (fun s => ⟨fun hs => ?_, fun hs => rch_closed (fun s hs v hv => ?_) hs h0⟩) few
      · obtain ⟨x, hx, e⟩ := List.mem_map.mp hs
        rw [← e]
        exact I10.rch x hx
      · obtain ⟨x, hx, e⟩ := List.mem_map.mp hs
        obtain ⟨j, hj, ej⟩ := List.getElem_of_mem hx
        subst e
        exact cl j x (by omega) (by rw [List.getElem?_eq_getElem hj, ej]) v hv
    obtain ⟨⟨q, ad⟩, hq⟩ : ∃ q, qs[k]? = some q := ⟨_, List.getElem?_eq_getElem (by omega)⟩
    have hqm := List.mem_of_getElem? hq
    have QT10 := I10.qa _ hqm
    have hr0 := I10.rch _ hqm
    have SO := hr0.ok RO (StOk.nil ns)
    have atk : atI (qs.map fun q => V.ref q.2) (k : Int) = some (.ref ad) := atI_nat (j := k) (by rw [List.getElem?_map, hq]; rfl)
    walk_at "g"
    refine ⟨R, ad, ns, rw', q, rfl, RH.same (same_of I10.kp), RO, by omega, QT10, fun H11 Lo k11 hLo eLo => ?_⟩
    have I11 := I10.same k11
    have eNO11 := I11.kv.at'.at'
    have nLo1 : Lo ≠ kn := fun z => by rw [z, I10.kv.at'.at'] at hLo; cases hLo
    have nLo2 : Lo ≠ L := fun z => by rw [z, I10.el] at hLo; cases hLo
    have fewo : (opn ns q).length ≤ ns.length := List.length_filter_le _ _
    walk_at "g"
    refine lp_list (xs := (opn ns q).map V.int) (fun i σ H' => ∃ (y5 y6 y7 : Option V) (qs' : List (Sts × Addr)) (ds' : List EnV), σ = [some (.ref R), some (.ref kn), some (.ref L), some (.int (k : Int)), some (.ref ad), y5, y6, y7] ∧ StsInv P w H9 H' kn L ns rw' qs' ds' ∧ H' Lo = some (.lst ((opn ns q).map V.int)) ∧ (∃ more, qs' = qs ++ more) ∧ ∀ v ∈ (opn ns q).take i, hiS ns rw' q v ∈ qs'.map (·.1) ∧ loS ns rw' q v ∈ qs'.map (·.1)) ?_ ?_ ?_ ?_
    · exact ⟨_, _, _, qs, ds, rfl, I11, eLo, ⟨[], by simp⟩, by simp⟩
    · rintro i σ H' _ ⟨_, _, _, _, _, _, _, e, _⟩
      exact .of e
    · rintro i y σ H12 hy ⟨y5, y6, y7, qs', ds', rfl, I12, eLo12, ⟨more, em⟩, chi⟩
      obtain ⟨v, hv, rfl⟩ := map_at hy
      have hvo := List.mem_of_getElem? hv
      have hvn := (mem_opn.mp hvo).1
      walk_at "g"
      refine w_new fun tp H13 htp etp k13 => ?_
      have I13 := I12.same k13
      have nt1 : tp ≠ kn := fun z => by rw [z, I12.kv.at'.at'] at htp; cases htp
      have nt2 : tp ≠ L := fun z => by rw [z, I12.el] at htp; cases htp
      walk_at "g"
      refine lp_tup (xs := [V.bl true, V.bl false]) (fun j σ H' => ∃ (y6 y7 : Option V) (qs2 : List (Sts × Addr)) (ds2 : List EnV), σ = [some (.ref R), some (.ref kn), some (.ref L), some (.int (k : Int)), some (.ref ad), some (.int v), y6, y7] ∧ StsInv P w H9 H' kn L ns rw' qs2 ds2 ∧ H' Lo = some (.lst ((opn ns q).map V.int)) ∧ H' tp = some (.tup [.bl true, .bl false]) ∧ (∃ more, qs2 = qs' ++ more) ∧ (1 ≤ j → hiS ns rw' q v ∈ qs2.map (·.1)) ∧ (2 ≤ j → loS ns rw' q v ∈ qs2.map (·.1))) ?_ ?_ ?_ ?_
      · exact ⟨_, _, qs', ds', rfl, I13, k13 _ _ eLo12, etp, ⟨[], by simp⟩, fun h => by omega, fun h => by omega⟩
      · rintro j σ H' _ ⟨_, _, _, _, _, _, _, e, _⟩
        exact .of e
      · rintro j z σ H14 hz ⟨y6, y7, qs2, ds2, rfl, I14, eLo14, etp14, ⟨more2, em2⟩, c1, c2⟩
        obtain ⟨b, rfl, hb⟩ : ∃ b, z = V.bl b ∧ ((j = 0 ∧ b = true) ∨ (j = 1 ∧ b = false)) := by
          match j, hz with
          | 0, hz => exact ⟨true, by simpa using hz.symm, .inl ⟨rfl, rfl⟩⟩
          | 1, hz => exact ⟨false, by simpa using hz.symm, .inr ⟨rfl, rfl⟩⟩
          | j + 2, hz => simp at hz
        have few14 := I14.few RO hl
        have QT14 : QAt H14 ad q := I14.qa (q, ad) (by rw [em2, em]; simp [hqm])
        walk_at "g"
        refine ⟨R, ad, ns, rw', q, v, b, rfl, RH.same (same_of I14.kp), RO, by omega, QT14, SO, hvn, fun H15 t' k15' Q15 => ?_⟩
        have I15 := I14.same k15'
        have r15 : RchT ns rw' ([], []) (if b = true then hiS ns rw' q v else loS ns rw' q v) := by
          split
          · exact hr0.snocH hvo
          · exact hr0.snocL hvo
        generalize hq' : (if b = true then hiS ns rw' q v else loS ns rw' q v) = q' at Q15 r15
        have fin : ∀ {qs3 : List (Sts × Addr)}, (∃ more, qs3 = qs2 ++ more) → q' ∈ qs3.map (·.1) → (1 ≤ j + 1 → hiS ns rw' q v ∈ qs3.map (·.1)) ∧ (2 ≤ j + 1 → loS ns rw' q v ∈ qs3.map (·.1)) := fun {qs3} ⟨m3, e3⟩ hin => by
          have up : ∀ {s}, s ∈ qs2.map (·.1) → s ∈ qs3.map (·.1) := fun {s} h => by rw [e3, List.map_append]; exact List.mem_append_left _ h
          rcases hb with ⟨rfl, rfl⟩ | ⟨rfl, rfl⟩
          · rw [if_pos rfl] at hq'
            refine ⟨fun _ => by rw [hq']; exact hin, fun h => by omega⟩
          · rw [if_neg Bool.false_ne_true] at hq'
            exact ⟨fun _ => up (c1 (Nat.le_refl _)), fun _ => by rw [hq']; exact hin⟩
        walk_at "g"
        refine w_nnotin' I15.kv.at' Q15.nat (stK_depth _) ?_
        rw [nvalV_in, I15.dk]
        refine ⟨_, rfl, ?_⟩
        refine w_itN (fun hnin => ?_) (fun hin => ?_)
        · walk_at "g"
          refine w_nput' I15.kv.at' Q15.nat (stK_depth _) (small2000 (by
            rw [List.length_map]
            have := congrArg List.length I15.dk
            rw [List.length_map, List.length_map] at this
            omega)) fun H16 d16 o16 => ?_
          have eL16 := o16.get I15.ne I15.el
          walk_at "g"
          refine w_app eL16 (small2000 (by rw [List.length_map]; omega)) fun H17 e17 o17 => ?_
          have I17 := I15.add Q15 hnin r15 d16 o16 e17 o17 eL16
          have n3 : H17 Lo = some (.lst ((opn ns q).map V.int)) := o17.get nLo2 (o16.get nLo1 (k15' _ _ eLo14))
          have n4 : H17 tp = some (.tup [.bl true, .bl false]) := o17.get nt2 (o16.get nt1 (k15' _ _ etp14))
          obtain ⟨f1, f2⟩ := fin ⟨[(q', t')], rfl⟩ (by rw [List.map_append]; simp)
          refine ⟨_, _, _, _, rfl, I17, n3, n4, ⟨more2 ++ [(q', t')], by rw [em2, List.append_assoc]⟩, f1, f2⟩
        · walk_at "g"
          obtain ⟨f1, f2⟩ := fin ⟨[], by simp⟩ hin
          exact ⟨_, _, _, _, rfl, I15, k15' _ _ eLo14, k15' _ _ etp14, ⟨more2, em2⟩, f1, f2⟩
      · rintro σ H14 ⟨y6, y7, qs2, ds2, rfl, I14, eLo14, etp14, ⟨more2, em2⟩, c1, c2⟩
        refine ⟨_, _, _, qs2, ds2, rfl, I14, eLo14, ⟨more ++ more2, by rw [em2, em, List.append_assoc]⟩, fun u hu' => ?_⟩
        rw [List.take_add_one, hv] at hu'
        rcases List.mem_append.mp hu' with h | h
        · obtain ⟨g1, g2⟩ := chi u h
          rw [em2, List.map_append]
          exact ⟨List.mem_append_left _ g1, List.mem_append_left _ g2⟩
        · have e : u = v := by simpa using h
          subst e
          exact ⟨c1 (by decide), c2 (by decide)⟩
    · rintro σ H12 ⟨y5, y6, y7, qs', ds', rfl, I12, eLo12, ⟨more, em⟩, chi⟩
      rw [List.length_map, List.take_length] at chi
      walk_at "g"
      have up : ∀ {s}, s ∈ qs.map (·.1) → s ∈ qs'.map (·.1) := fun {s} h => by rw [em, List.map_append]; exact List.mem_append_left _ h
      refine ⟨2000 - (k + 1), by omega, k + 1, some (.ref ad), y5, y6, y7, qs', ds', by simp, rfl, by rw [em, List.length_append]; omega, I12, up h0, fun j x hj hx u hu' => ?_⟩
      rcases Nat.lt_or_ge j k with h | h
      · have hx' : qs[j]? = some x := by
          rw [em, List.getElem?_append_left (by omega)] at hx
          exact hx
        obtain ⟨g1, g2⟩ := cl j x h hx' u hu'
        exact ⟨up g1, up g2⟩
      · have ej : j = k := by omega
        subst ej
        rw [em, List.getElem?_append_left (by omega), hq] at hx
        cases hx
        exact chi u hu'
end
/-! ### _law_leasts -/
theorem best_inv {m : Int → Int} : ∀ {l : List Int} {b : Int × Option Int}, (∀ v ∈ l, 1 ≤ m v) → 0 ≤ b.1 → (b.2 = none ↔ b.1 = 0) → 0 ≤ (l.foldl (bestStep m) b).1 ∧ ((l.foldl (bestStep m) b).2 = none ↔ (l.foldl (bestStep m) b).1 = 0)
  | [], _, _, h0, h1 => ⟨h0, h1⟩
  | v :: l, b, hm, h0, h1 => by
    rw [List.foldl_cons]
    have hv := hm v (by simp)
    refine best_inv (fun u hu => hm u (by simp [hu])) ?_ ?_
    · unfold bestStep
      split
      · show 0 ≤ m v
        omega
      · exact h0
    · unfold bestStep
      split
      · constructor
        · intro z
          cases z
        · intro z
          have z' : m v = 0 := z
          omega
      · exact h1
theorem tV_nn {vs : List Int} {rw : Int → List Int} : ∀ (j : Nat) (q : Sts), 0 ≤ (tV vs rw j q).1
  | 0, _ => Int.le_refl 0
  | j + 1, q => by
    show 0 ≤ ((opn vs q).foldl (bestStep (worst (fun s => (tV vs rw j s).1) vs rw q)) (0, none)).1
    refine (best_inv (fun v _ => ?_) (Int.le_refl 0) (by simp)).1
    have h1 := tV_nn (vs := vs) (rw := rw) j (hiS vs rw q v)
    unfold worst
    dsimp only
    omega
theorem tab_nn {vs : List Int} {rw : Int → List Int} (q : Sts) : 0 ≤ (tab vs rw q).1 := tV_nn _ _
theorem worst_ge {vs : List Int} {rw : Int → List Int} (q : Sts) (v : Int) : 1 ≤ worst (fun s => (tab vs rw s).1) vs rw q v := by
  have h1 := tab_nn (vs := vs) (rw := rw) (hiS vs rw q v)
  unfold worst
  dsimp only
  omega
/-- the best so far, by its number alone -/
def bst (vs : List Int) (rw : Int → List Int) (q : Sts) (i : Nat) : Int := (((opn vs q).take i).foldl (bestStep (worst (fun s => (tab vs rw s).1) vs rw q)) (0, none)).1
theorem bst_zero {vs : List Int} {rw : Int → List Int} {q : Sts} : bst vs rw q 0 = 0 := rfl
theorem bst_succ {vs : List Int} {rw : Int → List Int} {q : Sts} {i : Nat} {v : Int} (h : (opn vs q)[i]? = some v) : bst vs rw q (i + 1) = if bst vs rw q i = 0 ∨ worst (fun s => (tab vs rw s).1) vs rw q v < bst vs rw q i then worst (fun s => (tab vs rw s).1) vs rw q v else bst vs rw q i := by
  unfold bst
  rw [take_succ_foldl h]
  have hi := (best_inv (m := worst (fun s => (tab vs rw s).1) vs rw q) (l := (opn vs q).take i) (b := (0, none)) (fun v _ => worst_ge q v) (Int.le_refl 0) (by simp)).2
  generalize ((opn vs q).take i).foldl (bestStep (worst (fun s => (tab vs rw s).1) vs rw q)) (0, none) = b at hi
  unfold bestStep
  by_cases c : b.1 = 0 ∨ worst (fun s => (tab vs rw s).1) vs rw q v < b.1
  · rw [if_pos c, if_pos (c.imp hi.mpr id)]
  · rw [if_neg c, if_neg (fun z => c (z.imp hi.mp id))]
theorem bst_all {vs : List Int} {rw : Int → List Int} (R : RwOk vs rw) {q : Sts} (hq : StOk vs q) : bst vs rw q (opn vs q).length = (tab vs rw q).1 := by
  unfold bst
  rw [List.take_length, ← tab_eq R hq]
def szQ (q : Sts) : Int := ((q.1.length : Nat) : Int) + ((q.2.length : Nat) : Int)
noncomputable def szV (H : Hp) (y : V) : Int := by
  classical exact if h : ∃ p : Addr × Sts, y = .ref p.1 ∧ QAt H p.1 p.2 then szQ h.choose.2 else 0
theorem szV_at {H : Hp} {a : Addr} {q : Sts} (h : QAt H a q) : szV H (.ref a) = szQ q := by
  unfold szV
  have hex : ∃ p : Addr × Sts, V.ref a = .ref p.1 ∧ QAt H p.1 p.2 := ⟨(a, q), rfl, h⟩
  rw [dif_pos hex]
  obtain ⟨e1, e2⟩ := hex.choose_spec
  have e3 : a = hex.choose.1 := V.ref.inj e1
  rw [← e3] at e2
  rw [e2.inj h]
theorem sz_hi {vs : List Int} {rw : Int → List Int} (R : RwOk vs rw) {q : Sts} (hq : StOk vs q) {v : Int} (hv : v ∈ opn vs q) : szQ q < szQ (hiS vs rw q v) := by
  obtain ⟨h1, h2, h3⟩ := mem_opn.mp hv
  have : q.1.length < (hiS vs rw q v).1.length := by
    have g := nodup_le (v :: q.1) (hiS vs rw q v).1 (List.nodup_cons.mpr ⟨h2, hq.r1.imp fun {a b} h => Int.ne_of_lt h⟩) fun x hx => by
      rcases List.mem_cons.mp hx with e | e
      · rw [e]; exact mem_hi.mpr ⟨h1, .inr (R.self v h1)⟩
      · exact mem_hi.mpr ⟨hq.s1 x e, .inl e⟩
    rw [List.length_cons] at g
    omega
  unfold szQ
  have e2 : (hiS vs rw q v).2 = q.2 := rfl
  rw [e2]
  omega
theorem sz_lo {vs : List Int} {rw : Int → List Int} (R : RwOk vs rw) {q : Sts} (hq : StOk vs q) {v : Int} (hv : v ∈ opn vs q) : szQ q < szQ (loS vs rw q v) := by
  obtain ⟨h1, h2, h3⟩ := mem_opn.mp hv
  have : q.2.length < (loS vs rw q v).2.length := by
    have g := nodup_le (v :: q.2) (loS vs rw q v).2 (List.nodup_cons.mpr ⟨h3, hq.r2.imp fun {a b} h => Int.ne_of_lt h⟩) fun x hx => by
      rcases List.mem_cons.mp hx with e | e
      · rw [e]; exact mem_lo.mpr ⟨h1, .inr (R.self v h1)⟩
      · exact mem_lo.mpr ⟨hq.s2 x e, .inl e⟩
    rw [List.length_cons] at g
    omega
  unfold szQ
  have e2 : (loS vs rw q v).1 = q.1 := rfl
  rw [e2]
  omega
def spLeasts (P : Program) (w : World) : Sp := fun vs H Q _ => ∃ (R : Addr) (ns : List Int) (rw : Int → List Int), vs = [.ref R] ∧ RowsH H R ns rw ∧ RwOk ns rw ∧ ns.length ≤ 5 ∧
  ∀ H' D (ds : List EnV), Same H H' → KnV P w H' D ds → (ds.map (·.1)).Nodup → (∀ s, s ∈ ds.map (·.1) ↔ RchT ns rw ([], []) s) → (∀ d ∈ ds, d.2.2 = .int (tab ns rw d.1).1) → ds.length ≤ 1024 → Q (.ref D) H'
section
variable {P : Program} {w : World} {K : PySem.W.Frag} {mg : Str → Option Value} {base : Heap}
theorem ok_lleasts {f fS fZ fO fB : Addr} {fd fdS fdZ fdO fdB : FuncData} (T : Txt K mg) (F : Fun K "_law_leasts" "_law_leasts" s_law_leasts f fd) (D_law_states : Df K mg "_law_states" s_law_states ["_law_rows"] fS fdS) (D_law_size : Df K mg "_law_size" s_law_size ["_law_state"] fZ fdZ) (D_law_open : Df K mg "_law_open" s_law_open ["_law_rows", "_law_state"] fO fdO) (D_law_behind : Df K mg "_law_behind" s_law_behind ["_law_rows", "_law_state", "_law_version", "_law_truth"] fB fdB) : FnOk P w K mg base CX0 4 f fd ["_law_rows"] (spLeasts P w) := by
  have G_law_open : FnOk P w K mg base CX0 1 fO fdO ["_law_rows", "_law_state"] spOpenQ := ok_lopenq T D_law_open.fn
  have G_law_behind : FnOk P w K mg base CX0 1 fB fdB ["_law_rows", "_law_state", "_law_version", "_law_truth"] spBehind := ok_lbehind T D_law_behind.fn
  have G_law_states : FnOk P w K mg base CX0 2 fS fdS ["_law_rows"] spStates := ok_lstates T D_law_states.fn D_law_open D_law_behind
  have G_law_size : FnOk P w K mg base CX0 1 fZ fdZ ["_law_state"] spSize := ok_lsize T D_law_size.fn
  refine F.ok sc_law_leasts (fun vs H Q E h => ?_) (fun cdv A outer s H vs Q E hr h => ?_)
  · obtain ⟨R, ns, rw', rfl, _⟩ := h
    rfl
  · obtain ⟨R, ns, rw', rfl, RH, RO, hl, qq⟩ := h
    have hu := hu_of hr
    refine ⟨_,
      (pss_cons
        (ps_set (i := 1) sc_law_leasts.nd rfl (.inl rfl) pe_nnew)
      (pss_cons
        (ps_for PassesOwn.never rfl (pi_list (pe_callBK (cr_sortedKR G_law_size (hr.mono (by omega)) D_law_size.b E0) (by rfl) T.n_sorted (by decide +kernel) (pa_cons (pe_call G_law_states (hr.mono (by omega)) (by rfl) D_law_states.g D_law_states.fn.kp D_law_states.b .nil pass0 (pa_cons (pv 0) pa_nil)) pa_nil) (pk_cons (pe_glob (v := .ref _) rfl D_law_size.g rfl) (pk_cons pe_bl pk_nil)))) (pg_name (i := 2) sc_law_leasts.nd rfl (.inl rfl))
          (pss_cons
            (ps_set (i := 3) sc_law_leasts.nd rfl (.inl rfl) pe_int)
          (pss_cons
            (ps_for PassesOwn.never rfl (pi_list (pe_call G_law_open (hr.mono (by omega)) (by rfl) D_law_open.g D_law_open.fn.kp D_law_open.b .nil pass0 (pa_cons (pv 0) (pa_cons (pv 2) pa_nil)))) (pg_name (i := 4) sc_law_leasts.nd rfl (.inl rfl))
              (pss_cons
                (ps_set (i := 5) sc_law_leasts.nd rfl (.inl rfl) (pe_nget hr.units (pv 1) (pe_call G_law_behind (hr.mono (by omega)) (by rfl) D_law_behind.g D_law_behind.fn.kp D_law_behind.b .nil pass0 (pa_cons (pv 0) (pa_cons (pv 2) (pa_cons (pv 4) (pa_cons pe_bl pa_nil))))) (fun _ _ => rfl)))
              (pss_cons
                (ps_set (i := 6) sc_law_leasts.nd rfl (.inl rfl) (pe_nget hr.units (pv 1) (pe_call G_law_behind (hr.mono (by omega)) (by rfl) D_law_behind.g D_law_behind.fn.kp D_law_behind.b .nil pass0 (pa_cons (pv 0) (pa_cons (pv 2) (pa_cons (pv 4) (pa_cons pe_bl pa_nil))))) (fun _ _ => rfl)))
              (pss_one
                (ps_if (PW.pt (pw_or (pt_cmpR op_eq (pv 3) pe_int (nomark _)) (pw_or1 (pt_cmpR op_lt (pe_op op_add (pe_callB (c_max2 rfl) (by rfl) T.n_max (by decide +kernel) (pa_cons (pv 5) (pa_cons (pv 6) pa_nil))) pe_int) (pv 3) (nomark _)))))
                  (pss_one
                    (ps_set (i := 3) sc_law_leasts.nd rfl (.inl rfl) (pe_op op_add (pe_callB (c_max2 rfl) (by rfl) T.n_max (by decide +kernel) (pa_cons (pv 5) (pa_cons (pv 6) pa_nil))) pe_int)))
                  pss_nil)))))
          (pss_one
            (ps_nput hr.units (pv 1) (pv 2) (pv 3) rfl)))))
      (pss_one
        (ps_ret (pv 1)))))
      , ?_⟩
    rw [show L2.start N_law_leasts [V.ref R] = [some (.ref R), none, none, none, none, none, none] from rfl]
    walk_at "x"
    refine w_nnew fun D H1 hD dn1 k1 => ?_
    walk_at "g"
    walk_at "g"
    refine ⟨R, ns, rw', rfl, RH.same k1, RO, hl, fun H2 L qs k2 eL qa nd hm few => ?_⟩
    walk_at "g"
    refine w_sortKR (szV H2) eL (by rw [List.length_map]; omega) (fun y hy => ?_) fun out Lo H3 hp hs hLo eLo k3 => ?_
    · obtain ⟨x, hx, rfl⟩ := List.mem_map.mp hy
      exact ⟨x.2, x.1, rfl, qa x hx, by rw [szV_at (qa x hx)]; rfl, rfl⟩
    obtain ⟨os, hos, rfl⟩ := perm_lift hp qs rfl
    have lo : os.length = qs.length := hos.length_eq
    have hso : ∀ (i j : Nat) (x y : Sts × Addr), i < j → os[i]? = some x → os[j]? = some y → szQ y.1 ≤ szQ x.1 := fun i j x y hij hx hy => by
      obtain ⟨i1, i2⟩ := List.getElem?_eq_some_iff.mp hx
      obtain ⟨j1, j2⟩ := List.getElem?_eq_some_iff.mp hy
      have g := (List.pairwise_iff_getElem.mp hs) i j (by simpa using i1) (by simpa using j1) hij
      rw [if_pos rfl, List.getElem_map, List.getElem_map, i2, j2] at g
      have hx' := qa x (hos.mem_iff.mp (List.mem_of_getElem? hx))
      have hy' := qa y (hos.mem_iff.mp (List.mem_of_getElem? hy))
      rwa [szV_at hx', szV_at hy'] at g
    have s13 : Same H1 H3 := Same.trans k2 k3
    have s3 : Same H H3 := Same.trans k1 s13
    have nos : (os.map (·.1)).Nodup := ((hos.map (·.1)).nodup_iff).mpr nd
    have KV3 : KnV P w H3 D [] := (KnV.mk (ds := []) dn1 (by simp)).same s13
    have same_of : ∀ {H' : Hp}, Kp [D] H3 H' → Same H H' := fun {H'} k c o e => k _ _ (by simpa using ne_of_none e hD) (s3 _ _ e)
    walk_at "g"
    refine lp_list (xs := os.map fun q => V.ref q.2) (fun i σ H' => ∃ (y2 y3 y4 y5 y6 : Option V) (ds : List EnV), σ = [some (.ref R), some (.ref D), y2, y3, y4, y5, y6] ∧ Kp [D] H3 H' ∧ KT H3 H' ∧ KnV P w H' D ds ∧ ds.map (·.1) = (os.take i).map (·.1) ∧ ∀ d ∈ ds, d.2.2 = .int (tab ns rw' d.1).1) ?_ ?_ ?_ ?_
    · exact ⟨_, _, _, _, _, [], rfl, Kp.refl, KT.refl, KV3, rfl, by simp⟩
    · rintro i σ H' _ ⟨_, _, _, _, _, _, _, k4, _⟩
      exact .of (k4 _ _ (by simpa using fun z : Lo = D => by rw [z, (KnV.at' (KnV.same KV3 fun _ _ z => z)).at'] at eLo; cases eLo) eLo)
    · rintro i y σ H4 hy ⟨y2, y3, y4, y5, y6, ds, rfl, k4, t4, KV4, hds, hval⟩
      rw [List.getElem?_map] at hy
      obtain ⟨⟨q, ad⟩, hq, rfl⟩ := Option.map_eq_some_iff.mp hy
      have hqm : (q, ad) ∈ qs := hos.mem_iff.mp (List.mem_of_getElem? hq)
      have QT4 : QAt H4 ad q := (qa _ hqm).kt ((KT.of k3).trans t4)
      have hr0 : RchT ns rw' ([], []) q := (hm q).mp (List.mem_map_of_mem hqm)
      have SO := hr0.ok RO (StOk.nil ns)
      have dnd : (ds.map (·.1)).Nodup := by
        rw [hds]
        exact nos.sublist ((List.take_sublist i os).map _)
      have before : ∀ s, RchT ns rw' ([], []) s → szQ q < szQ s → ∃ d ∈ ds, d.1 = s := fun s hs' hlt => by
        obtain ⟨x, hx, ex⟩ := List.mem_map.mp ((hm s).mpr hs')
        obtain ⟨j, hj, ej⟩ := List.getElem_of_mem (hos.mem_iff.mpr hx)
        have hjx : os[j]? = some x := by rw [List.getElem?_eq_getElem hj, ej]
        have hji : j < i := by
          rcases Nat.lt_or_ge j i with h | h
          · exact h
          · rcases Nat.lt_or_ge i j with h2 | h2
            · have g : szQ x.1 ≤ szQ q := hso i j _ _ h2 hq hjx
              rw [ex] at g
              omega
            · have : j = i := by omega
              subst this
              rw [hq] at hjx
              cases hjx
              have e : q = s := ex
              rw [e] at hlt
              omega
        have : x.1 ∈ ds.map (·.1) := by
          rw [hds]
          exact List.mem_map_of_mem (List.mem_take_iff_getElem.mpr ⟨j, by omega, ej⟩)
        obtain ⟨d, hd, e⟩ := List.mem_map.mp this
        exact ⟨d, hd, e.trans ex⟩
      have hqnin : q ∉ ds.map (·.1) := by
        rw [hds]
        intro z
        obtain ⟨x, hx, ex⟩ := List.mem_map.mp z
        obtain ⟨j, hj, ej⟩ := List.mem_take_iff_getElem.mp hx
        have hi : i < os.length := (List.getElem?_eq_some_iff.mp hq).1
        have hjx : os[j]? = some x := by rw [List.getElem?_eq_getElem (by omega), ej]
        have := (List.getElem?_inj (i := i) (j := j) (by simpa using hi) nos).mp (by rw [List.getElem?_map, List.getElem?_map, hq, hjx]; show some q = some x.1; rw [ex])
        omega
      walk_at "g"
      refine ⟨R, ad, ns, rw', q, rfl, RH.same (same_of k4), RO, by omega, QT4, fun H5 Op k5 hOp eOp => ?_⟩
      have KV5 := KV4.same k5
      have fewo : (opn ns q).length ≤ ns.length := List.length_filter_le _ _
      walk_at "g"
      refine lp_list (xs := (opn ns q).map V.int) (fun a σ H' => ∃ (y4 y5 y6 : Option V), σ = [some (.ref R), some (.ref D), some (.ref ad), some (.int (bst ns rw' q a)), y4, y5, y6] ∧ Same H5 H') ?_ ?_ ?_ ?_
      · exact ⟨_, _, _, by rw [bst_zero], fun _ _ z => z⟩
      · rintro a σ H' _ ⟨_, _, _, _, k6⟩
        exact .of (k6 _ _ eOp)
      · rintro a y σ H6 hy ⟨y4, y5, y6, rfl, k6⟩
        obtain ⟨v, hv, rfl⟩ := map_at hy
        have hvo := List.mem_of_getElem? hv
        have hvn := (mem_opn.mp hvo).1
        have s06 : Same H H6 := Same.trans (same_of k4) (Same.trans k5 k6)
        have QT6 := QT4.kt ((KT.of k5).trans (KT.of k6))
        obtain ⟨dh, hdh, eh⟩ := before _ (hr0.snocH hvo) (sz_hi RO SO hvo)
        obtain ⟨dl, hdl, el⟩ := before _ (hr0.snocL hvo) (sz_lo RO SO hvo)
        have vh := nvalV_at dnd hdh
        have vl := nvalV_at dnd hdl
        rw [hval dh hdh, eh] at vh
        rw [hval dl hdl, el] at vl
        walk_at "g"
        refine ⟨R, ad, ns, rw', q, v, true, rfl, RH.same s06, RO, by omega, QT6, SO, hvn, fun H7 th k7 Qh => ?_⟩
        have KV7 := (KV5.same k6).same k7
        walk_at "g"
        refine w_nget' KV7.at' (k := stK (hiS ns rw' q v)) Qh.nat (stK_depth _) vh ?_
        walk_at "g"
        refine ⟨R, ad, ns, rw', q, v, false, rfl, RH.same (Same.trans s06 k7), RO, by omega, QT6.kt (KT.of k7), SO, hvn, fun H8 tl k8 Ql => ?_⟩
        have KV8 := KV7.same k8
        walk_at "g"
        refine w_nget' KV8.at' (k := stK (loS ns rw' q v)) Ql.nat (stK_depth _) vl ?_
        have s58 : Same H5 H8 := Same.trans k6 (Same.trans k7 k8)
        have wv : worst (fun s => (tab ns rw' s).1) ns rw' q v = (if (tab ns rw' (loS ns rw' q v)).1 > (tab ns rw' (hiS ns rw' q v)).1 then (tab ns rw' (loS ns rw' q v)).1 else (tab ns rw' (hiS ns rw' q v)).1) + 1 := by
          unfold worst
          rw [max_if]
        have bs := bst_succ (rw := rw') hv
        have b1 : (bst ns rw' q a = 0 ∨ worst (fun s => (tab ns rw' s).1) ns rw' q v < bst ns rw' q a) → bst ns rw' q (a + 1) = (if (tab ns rw' (loS ns rw' q v)).1 > (tab ns rw' (hiS ns rw' q v)).1 then (tab ns rw' (loS ns rw' q v)).1 else (tab ns rw' (hiS ns rw' q v)).1) + 1 := fun h => by rw [bs, if_pos h, wv]
        have b2 : ¬ (bst ns rw' q a = 0 ∨ worst (fun s => (tab ns rw' s).1) ns rw' q v < bst ns rw' q a) → bst ns rw' q (a + 1) = bst ns rw' q a := fun h => by rw [bs, if_neg h]
        rw [wv] at b1 b2
        walk_at "g"
        refine w_ite (fun h0 => ?_) (fun h0 => ?_)
        · rw [if_pos rfl]
          walk_at "g"
          rw [b1 (.inl h0)]
          exact ⟨_, _, _, rfl, s58⟩
        · walk_at "g"
          refine w_ite (fun hlt => ?_) (fun hlt => ?_)
          · walk_at "g"
            rw [b1 (.inr hlt)]
            exact ⟨_, _, _, rfl, s58⟩
          · walk_at "g"
            rw [b2 (fun z => z.elim h0 hlt)]
            exact ⟨_, _, _, rfl, s58⟩
      · rintro σ H6 ⟨y4, y5, y6, rfl, k6⟩
        rw [List.length_map, bst_all RO SO]
        have KV6 := KV5.same k6
        have QT6 := QT4.kt ((KT.of k5).trans (KT.of k6))
        walk_at "g"
        refine w_nput' KV6.at' QT6.nat (stK_depth q) (small2000 (by
          rw [List.length_map]
          have := congrArg List.length hds
          rw [List.length_map, List.length_map, List.length_take] at this
          omega)) fun H7 d7 o7 => ?_
        have KV7 := KV6.put (d := (q, ad, .int (tab ns rw' q).1)) QT6 hqnin d7 o7
        have k7 : Kp [D] H6 H7 := o7.kp (by simp)
        have t7 := KT.kpn k7 KV6.at'
        refine ⟨_, _, _, _, _, _, rfl, k4.trans ((Kp.of (Same.trans k5 k6)).trans k7), t4.trans ((KT.of (Same.trans k5 k6)).trans t7), KV7, ?_, fun d hd => ?_⟩
        · rw [List.map_append, hds, List.take_add_one, hq, List.map_append]
          rfl
        · rcases List.mem_append.mp hd with h | h
          · exact hval d h
          · rw [List.mem_singleton.mp h]
    · rintro σ H4 ⟨y2, y3, y4, y5, y6, ds, rfl, k4, t4, KV4, hds, hval⟩
      rw [List.length_map, List.take_length] at hds
      walk_at "g"
      refine qq H4 D ds (same_of k4) KV4 (by rw [hds]; exact nos) (fun s => by rw [hds, (hos.map (·.1)).mem_iff]; exact hm s) hval ?_
      have := congrArg List.length hds
      rw [List.length_map, List.length_map] at this
      omega
end
/-! ### _law_is_table of any data -/
/-- the law's own least asks, as a dict -/
structure LstOk (P : Program) (w : World) (H : Hp) (D : Addr) (vs : List Int) (rw : Int → List Int) (ds : List EnV) : Prop where
  kv : KnV P w H D ds
  nd : (ds.map (·.1)).Nodup
  mem : ∀ s, s ∈ ds.map (·.1) ↔ RchT vs rw ([], []) s
  val : ∀ d ∈ ds, d.2.2 = .int (tab vs rw d.1).1
  few : ds.length ≤ 1024
theorem LstOk.same {P : Program} {w : World} {H H' : Hp} {D : Addr} {vs : List Int} {rw : Int → List Int} {ds : List EnV} (h : LstOk P w H D vs rw ds) (k : Same H H') : LstOk P w H' D vs rw ds := ⟨h.kv.same k, h.nd, h.mem, h.val, h.few⟩
theorem LstOk.get {P : Program} {w : World} {H : Hp} {D : Addr} {vs : List Int} {rw : Int → List Int} {ds : List EnV} (h : LstOk P w H D vs rw ds) {s : Sts} (hs : RchT vs rw ([], []) s) : NVal (ds.map entV) (stK s) = some (.int (tab vs rw s).1) := by
  obtain ⟨d, hd, e⟩ := List.mem_map.mp ((h.mem s).mpr hs)
  have := nvalV_at h.nd hd
  rw [h.val d hd, e] at this
  exact this
def spIsTable (P : Program) (w : World) : Sp := fun vs H Q _ => ∃ (R D : Addr) (ns : List Int) (rw : Int → List Int) (ds : List EnV) (x : V) (B : Nat), vs = [.ref R, .ref D, x] ∧ RowsH H R ns rw ∧ RwOk ns rw ∧ ns.length ≤ 5 ∧ LstOk P w H D ns rw ds ∧ Dat B H x ∧
  (∀ H' ss, Same H H' → Sorted ns rw ss → RTab H ns rw ss x → Q (.bl true) H') ∧ (∀ H' ss, Same H H' → Sorted ns rw ss → ¬ RTab H ns rw ss x → Q (.bl false) H')
theorem sorted_exV {ds : List EnV} {vs : List Int} {rw : Int → List Int} (nd : (ds.map (·.1)).Nodup) (hm : ∀ q, q ∈ ds.map (·.1) ↔ RchT vs rw ([], []) q) : ∃ ss, Sorted vs rw ss ∧ ss.length = ds.length := by
  have h := sorted_St (fun q : Sts => q) (bs := ds.map (·.1)) (by rw [show (fun q : Sts => q) = id from rfl, List.map_id]; exact nd)
  have hp := List.mergeSort_perm (ds.map (·.1)) (PySem.W.dataLe false (fun q : Sts => encSt q))
  refine ⟨_, ⟨h, fun q => by rw [hp.mem_iff]; exact hm q⟩, ?_⟩
  rw [hp.length_eq, List.length_map]
theorem sort_ofV {ds : List EnV} {ts : List (Sts × Addr)} {vs : List Int} {rw : Int → List Int} (hp : ts.Perm (ds.map fun d => (d.1, d.2.1))) (hs : ts.Pairwise (fun x y => stLt x.1 y.1)) (hm : ∀ q, q ∈ ds.map (·.1) ↔ RchT vs rw ([], []) q) : Sorted vs rw (ts.map (·.1)) := by
  refine ⟨by rw [List.pairwise_map]; exact hs, fun q => ?_⟩
  rw [← hm, (hp.map (·.1)).mem_iff, List.map_map]
  rfl
section
variable {P : Program} {w : World} {K : PySem.W.Frag} {mg : Str → Option Value} {base : Heap}
theorem ok_listable {f fO fB fI fR : Addr} {fd fdO fdB fdI fdR : FuncData} (T : Txt K mg) (F : Fun K "_law_is_table" "_law_is_table" s_law_is_table f fd) (D_law_open : Df K mg "_law_open" s_law_open ["_law_rows", "_law_state"] fO fdO) (D_law_behind : Df K mg "_law_behind" s_law_behind ["_law_rows", "_law_state", "_law_version", "_law_truth"] fB fdB) (D_law_int : Df K mg "_law_int" s_law_int ["_law_thing"] fI fdI) (D_law_rising : Df K mg "_law_rising" s_law_rising ["_law_thing"] fR fdR) : FnOk P w K mg base CX0 3 f fd ["_law_rows", "_law_leasts_here", "_law_thing"] (spIsTable P w) := by
  have G_law_open : FnOk P w K mg base CX0 1 fO fdO ["_law_rows", "_law_state"] spOpenQ := ok_lopenq T D_law_open.fn
  have G_law_behind : FnOk P w K mg base CX0 1 fB fdB ["_law_rows", "_law_state", "_law_version", "_law_truth"] spBehind := ok_lbehind T D_law_behind.fn
  have G_law_int : FnOk P w K mg base CX0 1 fI fdI ["_law_thing"] spWholeG := ok_law_intG T D_law_int.fn
  have G_law_rising : FnOk P w K mg base CX0 2 fR fdR ["_law_thing"] spRiseG := ok_law_risingG T D_law_rising.fn D_law_int
  refine F.ok sc_law_is_table (fun vs H Q E h => ?_) (fun cdv A outer s H vs Q E hr h => ?_)
  · obtain ⟨R, D, ns, rw', ds, x, B, rfl, _⟩ := h
    rfl
  · obtain ⟨R, D, ns, rw', ds, x, B, rfl, RH, RO, h5, LO, hd, q1, q3⟩ := h
    have hu := hu_of hr
    obtain ⟨ss, SS, lss⟩ := sorted_exV LO.nd LO.mem
    have few := LO.few
    refine ⟨_,
      (pss_cons
        (ps_if (PW.pt (pw_or (pt_not (pt_val (pe_callB (r := rIsi K) call_isi (by rfl) T.n_isinstance (by decide +kernel) (pa_cons (pv 2) (pa_cons (pe_bltn (v := .ty "tuple") (u := .type "tuple") (by rfl) T.n_tuple (by decide +kernel) rfl) pa_nil))))) (pw_or1 (pt_cmpR op_ne (pe_callB (r := rLen K) c_len (by rfl) T.n_len (by decide +kernel) (pa_cons (pv 2) pa_nil)) (pe_callB (r := rLenN P w) c_lenN (by rfl) T.n_len (by decide +kernel) (pa_cons (pv 1) pa_nil)) (nomark _)))))
          (pss_one
            (ps_ret pe_bl))
          pss_nil)
      (pss_cons
        (ps_set (i := 3) sc_law_is_table.nd rfl (.inl rfl) (pe_callB (r := rSortN P w) (c_sortN rfl hr.units) (by rfl) T.n_sorted (by decide +kernel) (pa_cons (pv 1) pa_nil)))
      (pss_cons
        (ps_for PassesOwn.never rfl (pi_range1 (by rfl) T.n_range (pa_cons (pe_callB (r := rLen K) c_len (by rfl) T.n_len (by decide +kernel) (pa_cons (pv 3) pa_nil)) pa_nil)) (pg_name (i := 4) sc_law_is_table.nd rfl (.inl rfl))
          (pss_cons
            (ps_set (i := 5) sc_law_is_table.nd rfl (.inl rfl) (pe_ix (r := rIxT K) ix_tup (pv 2) (pv 4) (fun _ _ => rfl)))
          (pss_cons
            (ps_if (PW.pt (pw_or (pt_not (pt_val (pe_callB (r := rIsi K) call_isi (by rfl) T.n_isinstance (by decide +kernel) (pa_cons (pv 5) (pa_cons (pe_bltn (v := .ty "tuple") (u := .type "tuple") (by rfl) T.n_tuple (by decide +kernel) rfl) pa_nil))))) (pw_or (pt_cmpR op_ne (pe_callB (r := rLen K) c_len (by rfl) T.n_len (by decide +kernel) (pa_cons (pv 5) pa_nil)) pe_int (nomark _)) (pw_or (pt_not (pt_val (pe_call G_law_rising (hr.mono (by omega)) (by rfl) D_law_rising.g D_law_rising.fn.kp D_law_rising.b .nil pass0 (pa_cons (pe_ix (r := rIxT K) ix_tup (pv 5) pe_int (fun _ _ => rfl)) pa_nil)))) (pw_or1 (pt_not (pt_val (pe_call G_law_rising (hr.mono (by omega)) (by rfl) D_law_rising.g D_law_rising.fn.kp D_law_rising.b .nil pass0 (pa_cons (pe_ix (r := rIxT K) ix_tup (pv 5) pe_int (fun _ _ => rfl)) pa_nil)))))))))
              (pss_one
                (ps_ret pe_bl))
              pss_nil)
          (pss_cons
            (ps_if (PW.pt (pw_or (pt_cmpR (r := rNeD K) (op_neD hr.units) (pe_tup (pa_cons (pe_ix (r := rIxT K) ix_tup (pv 5) pe_int (fun _ _ => rfl)) (pa_cons (pe_ix (r := rIxT K) ix_tup (pv 5) pe_int (fun _ _ => rfl)) pa_nil))) (pe_ix (r := rIxL K) ix_list (pv 3) (pv 4) (fun _ _ => rfl)) (nomark _)) (pw_or (pt_not (pt_val (pe_call G_law_int (hr.mono (by omega)) (by rfl) D_law_int.g D_law_int.fn.kp D_law_int.b .nil pass0 (pa_cons (pe_ix (r := rIxT K) ix_tup (pv 5) pe_int (fun _ _ => rfl)) pa_nil)))) (pw_or1 (pt_cmpR op_ne (pe_ix (r := rIxT K) ix_tup (pv 5) pe_int (fun _ _ => rfl)) (pe_nget hr.units (pv 1) (pe_ix (r := rIxL K) ix_list (pv 3) (pv 4) (fun _ _ => rfl)) (fun _ _ => rfl)) (nomark _))))))
              (pss_one
                (ps_ret pe_bl))
              pss_nil)
          (pss_cons
            (ps_set (i := 6) sc_law_is_table.nd rfl (.inl rfl) (pe_call G_law_open (hr.mono (by omega)) (by rfl) D_law_open.g D_law_open.fn.kp D_law_open.b .nil pass0 (pa_cons (pv 0) (pa_cons (pe_ix (r := rIxL K) ix_list (pv 3) (pv 4) (fun _ _ => rfl)) pa_nil))))
          (pss_cons
            (ps_if (PW.pt (pw_and (pt_cmpR op_eq (pe_callB (r := rLen K) c_len (by rfl) T.n_len (by decide +kernel) (pa_cons (pv 6) pa_nil)) pe_int (nomark _)) (pw_and1 (pt_cmpR o_notN (pe_ix (r := rIxT K) ix_tup (pv 5) pe_int (fun _ _ => rfl)) pe_non (nomark _)))))
              (pss_one
                (ps_ret pe_bl))
              pss_nil)
          (pss_one
            (ps_if (pt_cmpR op_gt (pe_callB (r := rLen K) c_len (by rfl) T.n_len (by decide +kernel) (pa_cons (pv 6) pa_nil)) pe_int (nomark _))
              (pss_cons
                (ps_if (PW.pt (pw_or (pt_not (pt_val (pe_call G_law_int (hr.mono (by omega)) (by rfl) D_law_int.g D_law_int.fn.kp D_law_int.b .nil pass0 (pa_cons (pe_ix (r := rIxT K) ix_tup (pv 5) pe_int (fun _ _ => rfl)) pa_nil)))) (pw_or1 (pt_cmpR (r := rIn K true) op_notIn_seq (pe_ix (r := rIxT K) ix_tup (pv 5) pe_int (fun _ _ => rfl)) (pv 6) rfl))))
                  (pss_one
                    (ps_ret pe_bl))
                  pss_nil)
              (pss_cons
                (ps_set (i := 7) sc_law_is_table.nd rfl (.inl rfl) (pe_nget hr.units (pv 1) (pe_call G_law_behind (hr.mono (by omega)) (by rfl) D_law_behind.g D_law_behind.fn.kp D_law_behind.b .nil pass0 (pa_cons (pv 0) (pa_cons (pe_ix (r := rIxL K) ix_list (pv 3) (pv 4) (fun _ _ => rfl)) (pa_cons (pe_ix (r := rIxT K) ix_tup (pv 5) pe_int (fun _ _ => rfl)) (pa_cons pe_bl pa_nil))))) (fun _ _ => rfl)))
              (pss_one
                (ps_if (pt_cmpR op_ne (pe_op op_add (pe_callB (c_max2 rfl) (by rfl) T.n_max (by decide +kernel) (pa_cons (pv 7) (pa_cons (pe_nget hr.units (pv 1) (pe_call G_law_behind (hr.mono (by omega)) (by rfl) D_law_behind.g D_law_behind.fn.kp D_law_behind.b .nil pass0 (pa_cons (pv 0) (pa_cons (pe_ix (r := rIxL K) ix_list (pv 3) (pv 4) (fun _ _ => rfl)) (pa_cons (pe_ix (r := rIxT K) ix_tup (pv 5) pe_int (fun _ _ => rfl)) (pa_cons pe_bl pa_nil))))) (fun _ _ => rfl)) pa_nil))) pe_int) (pe_ix (r := rIxT K) ix_tup (pv 5) pe_int (fun _ _ => rfl)) (nomark _))
                  (pss_one
                    (ps_ret pe_bl))
                  pss_nil))))
              pss_nil))))))))
      (pss_one
        (ps_ret pe_bl)))))
      , ?_⟩
    rw [show L2.start N_law_is_table [V.ref R, V.ref D, x] = [some (.ref R), some (.ref D), some x, none, none, none, none, none] from rfl]
    refine w_seq ?_
    walk_at "x"
    rcases hd.cases with ⟨ax, tx, hne⟩ | ⟨p, xs, rfl, ep, hB, hxs⟩
    · refine w_isTup tx ?_
      rw [decide_eq_false hne]
      walk_at "g"
      refine q3 H ss (fun _ _ z => z) SS ?_
      rintro ⟨p, xs, rfl, e1, _⟩
      exact hne (tx.ofTup e1)
    walk_at "g"
    refine w_lenN LO.kv.at' ?_
    rw [List.length_map]
    walk_at "g"
    by_cases hlen : xs.length = ds.length
    rotate_left
    · refine w_nno (by omega) ?_
      walk_at "g"
      refine q3 H ss (fun _ _ z => z) SS ?_
      rintro ⟨p', ys, e, e1, e2, _⟩
      cases e
      rw [ep] at e1
      cases e1
      omega
    refine w_nyes (by omega) ?_
    walk_at "g"
    refine w_sortN (qs := ds.map fun d => (d.1, d.2.1)) LO.kv.at' (by rw [List.map_map, List.map_map]; rfl) (by rw [List.map_map]; exact LO.nd) (by rw [List.length_map]; omega) fun ts L H1 hp hs hL eL k1 => ?_
    have SS2 := sort_ofV hp hs LO.mem
    have ess := SS.uniq SS2
    subst ess
    have tl : ts.length = ds.length := by rw [hp.length_eq, List.length_map]
    walk_at "g"
    rw [List.length_map]
    refine w_rng1' (by omega) (by omega) ?_
    rw [Int.toNat_natCast]
    have ep1 := k1 _ _ ep
    refine lp_range (fun i σ H' => ∃ (y4 y5 y6 y7 : Option V), σ = [some (.ref R), some (.ref D), some (.ref p), some (.ref L), y4, y5, y6, y7] ∧ Same H1 H' ∧ ∀ (j : Nat) (y : V) (q : Sts), j < i → xs[j]? = some y → (ts.map (·.1))[j]? = some q → RowR H ns rw' y q) ⟨_, _, _, _, rfl, fun _ _ z => z, fun j y q hj => by omega⟩ ?_ ?_
    · rintro i σ H4 hi ⟨y4, y5, y6, y7, rfl, k4, done⟩
      obtain ⟨⟨q, ad⟩, hq⟩ : ∃ q, ts[i]? = some q := ⟨_, List.getElem?_eq_getElem hi⟩
      obtain ⟨y, hy⟩ : ∃ y, xs[i]? = some y := ⟨_, List.getElem?_eq_getElem (by omega)⟩
      have hqs : (ts.map (·.1))[i]? = some q := by rw [List.getElem?_map, hq]; rfl
      have hmem : (q, ad) ∈ ds.map fun d => (d.1, d.2.1) := hp.mem_iff.mp (List.mem_of_getElem? hq)
      obtain ⟨d, hdm, e⟩ := List.mem_map.mp hmem
      have e1 : d.1 = q := congrArg Prod.fst e
      have e2 : d.2.1 = ad := congrArg Prod.snd e
      have s04 : Same H H4 := Same.trans k1 k4
      have LO4 := LO.same s04
      have RH4 := RH.same s04
      have QT := LO4.kv.en d hdm
      have hr0 : RchT ns rw' ([], []) q := (LO.mem q).mp (by rw [← e1]; exact List.mem_map_of_mem hdm)
      have SO := hr0.ok RO (StOk.nil ns)
      rw [e1, e2] at QT
      have eL4 := k4 _ _ eL
      have ep4 := k4 _ _ ep1
      have aty : atI xs (i : Int) = some y := atI_nat (j := i) hy
      have aty0 : atI xs (0 + (i : Int)) = some y := by rw [Int.zero_add]; exact aty
      have atq0 : atI (ts.map fun t => V.ref t.2) (0 + (i : Int)) = some (.ref ad) := by rw [Int.zero_add]; exact atI_nat (j := i) (by rw [List.getElem?_map, hq]; rfl)
      have hdy := hxs y (List.mem_of_getElem? hy)
      have no : ¬ RowR H ns rw' y q → ∀ H', Same H H' → Q (.bl false) H' := fun h H' k => q3 H' _ k SS (by
        rintro ⟨p', ys, e, g1, g2, g3⟩
        cases e
        rw [ep] at g1
        cases g1
        exact h (g3 i y q hy hqs))
      walk_at "g"
      refine w_seq ?_
      walk_at "g"
      rcases (hdy.kd (KD.of s04)).cases with ⟨ay, ty, hne⟩ | ⟨py, zs, rfl, epy, hBy, hzs⟩
      · refine w_isTup ty ?_
        rw [decide_eq_false hne]
        walk_at "g"
        refine no ?_ _ s04
        rintro ⟨n, z, ⟨p', rfl, ⟨a, b, g1, _⟩, _⟩, _⟩
        exact hne (ty.ofTup (s04 _ _ g1))
      obtain ⟨epy0, hzs0⟩ := dat_back hdy (KD.of s04) epy
      walk_at "g"
      by_cases h4 : zs.length = 4
      rotate_left
      · refine w_nno (by omega) ?_
        walk_at "g"
        refine no ?_ _ s04
        rintro ⟨n, z, ⟨p', e, ⟨a, b, g1, _⟩, _⟩, _⟩
        cases e
        rw [epy0] at g1
        cases g1
        exact h4 rfl
      refine w_nyes (by omega) ?_
      match zs, h4 with
      | [x0, x1, x2, x3], _ =>
        have noF : (∀ n z, ¬ ((x2 = .int n ∧ x3 = opV z) ∧ RowR H ns rw' (.ref py) q)) → ¬ RowR H ns rw' (.ref py) q := fun h hR => by
          obtain ⟨n, z, ⟨p', e, ⟨a, b, g1, _⟩, _⟩, _⟩ := id hR
          cases e
          rw [epy0] at g1
          cases g1
          exact h n z ⟨⟨rfl, rfl⟩, hR⟩
        walk_at "g"
        refine ⟨x0, B, rfl, hzs x0 (by simp), fun hR0 => ?_, fun hR0 => ?_⟩
        rotate_left
        · walk_at "g"
          refine no ?_ _ s04
          rintro ⟨n, z, ⟨p', e, ⟨a, b, g1, g2, g3⟩, r1, r2, r3, r4⟩, _⟩
          cases e
          rw [epy0] at g1
          cases g1
          exact hR0 ⟨a, q.1, rfl, s04 _ _ g2, r1, r2⟩
        walk_at "g"
        refine ⟨x1, B, rfl, hzs x1 (by simp), fun hR1 => ?_, fun hR1 => ?_⟩
        rotate_left
        · walk_at "g"
          refine no ?_ _ s04
          rintro ⟨n, z, ⟨p', e, ⟨a, b, g1, g2, g3⟩, r1, r2, r3, r4⟩, _⟩
          cases e
          rw [epy0] at g1
          cases g1
          exact hR1 ⟨b, q.2, rfl, s04 _ _ g3, r3, r4⟩
        obtain ⟨a, n0, rfl, ha, ra, pa⟩ := hR0
        obtain ⟨b, n1, rfl, hb, rb, pb⟩ := hR1
        obtain ⟨ha0, _⟩ := dat_back (hzs0 (.ref a) (by simp)) (KD.of s04) ha
        obtain ⟨hb0, _⟩ := dat_back (hzs0 (.ref b) (by simp)) (KD.of s04) hb
        obtain ⟨t2, ty2⟩ := (hzs x2 (by simp)).ty
        obtain ⟨t3, ty3⟩ := (hzs x3 (by simp)).ty
        have row : ∀ n z, x2 = .int n → x3 = opV z → RowQ H (.ref py) (n0, n1) n z := fun n z e2 e => ⟨py, rfl, ⟨a, b, by rw [epy0, e, e2], ha0, hb0⟩, ra, pa, rb, pb⟩
        walk_at "g"
        refine w_seq ?_
        walk_at "g"
        refine w_new fun pn H6 hpn e6 k6 => ?_
        have QN : QAt H6 pn (n0, n1) := ⟨a, b, e6, k6 _ _ ha, k6 _ _ hb⟩
        have s06 : Same H H6 := Same.trans s04 k6
        have eL6 := k6 _ _ eL4
        have epy6 := k6 _ _ epy
        walk_at "g"
        refine w_neSt QN (QT.kt (KT.of k6)) ?_
        refine ⟨_, rfl, ?_⟩
        by_cases eq : (n0, n1) = q
        rotate_left
        · rw [decide_eq_false eq]
          walk_at "g"
          refine no (noF fun n z h => ?_) _ s06
          obtain ⟨⟨h2, h3⟩, n', z', h', _⟩ := h
          exact eq ((row n z h2 h3).inj h').1
        subst eq
        rw [decide_eq_true rfl]
        walk_at "g"
        refine ⟨x2, t2, rfl, ty2.kd (KD.of k6), ?_⟩
        walk_at "g"
        refine w_itN (fun hni => ?_) (fun hi2 => ?_)
        · walk_at "g"
          refine no (noF fun n z h => ?_) _ s06
          obtain ⟨⟨h2, h3⟩, _⟩ := h
          rw [h2] at ty2
          exact hni ty2.ofInt
        obtain ⟨n2, rfl⟩ := ty2.isInt hi2
        have LO6 := LO4.same k6
        have QT6 := QT.kt (KT.of k6)
        walk_at "g"
        refine w_nget' LO6.kv.at' QT6.nat (stK_depth _) (LO6.get hr0) ?_
        walk_at "g"
        by_cases en : n2 = (tab ns rw' (n0, n1)).1
        rotate_left
        · rw [decide_eq_false en]
          walk_at "g"
          refine no (noF fun n z h => ?_) _ s06
          obtain ⟨⟨h2, h3⟩, n', z', h', h6, _⟩ := h
          obtain ⟨_, g2, _⟩ := (row n z h2 h3).inj h'
          rw [V.int.inj h2, g2] at en
          exact en h6
        rw [decide_eq_true en]
        have bad : (∀ z, x3 = opV z → ¬ AskOk ns rw' (n0, n1) n2 z) → ∀ H', Same H H' → Q (.bl false) H' := fun h => no (noF fun n z h' => by
          obtain ⟨⟨h2, h3⟩, n', z', h5, h6, h7⟩ := h'
          obtain ⟨_, g2, g3⟩ := (row n z h2 h3).inj h5
          subst g2
          subst g3
          rw [← V.int.inj h2] at h7
          exact h z h3 h7)
        have good : ∀ z, x3 = opV z → AskOk ns rw' (n0, n1) n2 z → ∀ (j : Nat) (y : V) (q : Sts), j < i + 1 → xs[j]? = some y → (ts.map (·.1))[j]? = some q → RowR H ns rw' y q := fun z h3 hA j y0 q0 hj hy0 hq0 => by
          rcases Nat.lt_or_ge j i with h1 | h1
          · exact done j y0 q0 h1 hy0 hq0
          · have e : j = i := by omega
            subst e
            rw [hy] at hy0
            rw [hqs] at hq0
            cases hy0
            cases hq0
            exact ⟨n2, z, row n2 z rfl h3, en, hA⟩
        have RH6 := RH4.same k6
        walk_at "g"
        refine ⟨R, ad, ns, rw', (n0, n1), rfl, RH6, RO, by omega, QT6, fun H7 Lo k7 hLo eLo => ?_⟩
        have s07 : Same H H7 := Same.trans s06 k7
        have epy7 := k7 _ _ epy6
        have eL7 := k7 _ _ eL6
        have fewo : (opn ns (n0, n1)).length ≤ ns.length := List.length_filter_le _ _
        have s17 : Same H1 H7 := Same.trans k4 (Same.trans k6 k7)
        walk_at "g"
        refine w_seq ?_
        walk_at "g"
        rw [List.length_map]
        by_cases ho : opn ns (n0, n1) = []
        · have ho0 : (opn ns (n0, n1)).length = 0 := by rw [ho]; rfl
          refine w_yes (by omega) ?_
          walk_at "g"
          refine w_itN (fun h3 => ?_) (fun h3 => ?_)
          · walk_at "g"
            refine bad (fun z e hA => ?_) _ s07
            cases z with
            | none => exact h3 e
            | some v =>
              have := hA.1
              rw [ho] at this
              cases this
          · walk_at "g"
            rw [List.length_map]
            refine w_no (by omega) ?_
            walk_at "g"
            exact ⟨_, _, _, _, rfl, s17, good none h3 ho⟩
        · have ho0 : 0 < (opn ns (n0, n1)).length := List.length_pos_iff.mpr ho
          refine w_no (by omega) ?_
          walk_at "g"
          rw [List.length_map]
          refine w_yes (by omega) ?_
          walk_at "g"
          refine w_seq ?_
          walk_at "g"
          refine ⟨x3, t3, rfl, ty3.kd ((KD.of k6).trans (KD.of k7)), ?_⟩
          walk_at "g"
          refine w_itN (fun hni => ?_) (fun hi3 => ?_)
          · walk_at "g"
            refine bad (fun z e hA => ?_) _ s07
            cases z with
            | none => exact ho hA
            | some v =>
              rw [e] at ty3
              exact hni ty3.ofInt
          obtain ⟨v, rfl⟩ := ty3.isInt hi3
          walk_at "g"
          refine w_itNB (fun hv => ?_) (fun hv => ?_)
          · walk_at "g"
            refine bad (fun z e hA => ?_) _ s07
            cases z with
            | none => cases e
            | some v' =>
              rw [V.int.inj e] at hv
              exact of_decide_eq_false hv hA.1
          have hvo : v ∈ opn ns (n0, n1) := of_decide_eq_true hv
          have hvn := (mem_opn.mp hvo).1
          have LO7 := LO6.same k7
          have RH7 := RH6.same k7
          have QT7 := QT6.kt (KT.of k7)
          walk_at "g"
          refine ⟨R, ad, ns, rw', (n0, n1), v, true, rfl, RH7, RO, by omega, QT7, SO, hvn, fun H8 th k8 Qh => ?_⟩
          have LO8 := LO7.same k8
          have epy8 := k8 _ _ epy7
          have eL8 := k8 _ _ eL7
          walk_at "g"
          refine w_nget' (k := stK (hiS ns rw' (n0, n1) v)) LO8.kv.at' Qh.nat (stK_depth _) (LO8.get (hr0.snocH hvo)) ?_
          walk_at "g"
          refine ⟨R, ad, ns, rw', (n0, n1), v, false, rfl, RH7.same k8, RO, by omega, QT7.kt (KT.of k8), SO, hvn, fun H9 tl' k9 Ql => ?_⟩
          have LO9 := LO8.same k9
          have epy9 := k9 _ _ epy8
          have s19 : Same H1 H9 := Same.trans s17 (Same.trans k8 k9)
          have s09 : Same H H9 := Same.trans k1 s19
          walk_at "g"
          refine w_nget' (k := stK (loS ns rw' (n0, n1) v)) LO9.kv.at' Ql.nat (stK_depth _) (LO9.get (hr0.snocL hvo)) ?_
          walk_at "g"
          rw [← max_if]
          by_cases hmx : max (tab ns rw' (hiS ns rw' (n0, n1) v)).1 (tab ns rw' (loS ns rw' (n0, n1) v)).1 + 1 = n2
          · rw [decide_eq_true hmx]
            walk_at "g"
            exact ⟨_, _, _, _, rfl, s19, good (some v) rfl ⟨hvo, by omega⟩⟩
          · rw [decide_eq_false hmx]
            walk_at "g"
            refine bad (fun z e hA => ?_) _ s09
            cases z with
            | none => cases e
            | some v' =>
              obtain ⟨_, h2⟩ := hA
              rw [← V.int.inj e] at h2
              omega
    · rintro σ H4 ⟨y4, y5, y6, y7, rfl, k4, done⟩
      walk_at "g"
      refine q1 H4 _ (Same.trans k1 k4) SS ⟨p, xs, rfl, ep, by rw [List.length_map]; omega, fun i y q hy hq => done i y q ?_ hy hq⟩
      have := (List.getElem?_eq_some_iff.mp hy).1
      omega
end
/-! ### a told table is a right one -/
theorem best_pick {m : Int → Int} : ∀ (l : List Int) (b : Int × Option Int), l.foldl (bestStep m) b = b ∨ ∃ v ∈ l, l.foldl (bestStep m) b = (m v, some v)
  | [], _ => .inl rfl
  | v :: l, b => by
    rw [List.foldl_cons]
    rcases best_pick (m := m) l (bestStep m b v) with h | ⟨u, hu, h⟩
    · rw [h]
      unfold bestStep
      split
      · exact .inr ⟨v, by simp, rfl⟩
      · exact .inl rfl
    · exact .inr ⟨u, by simp [hu], h⟩
theorem tab_ask {vs : List Int} {rw : Int → List Int} (R : RwOk vs rw) {q : Sts} (hq : StOk vs q) : AskOk vs rw q (tab vs rw q).1 (tab vs rw q).2 := by
  rw [tab_eq R hq]
  cases e : opn vs q with
  | nil => exact e
  | cons v l =>
    rw [List.foldl_cons]
    have h1 : bestStep (worst (fun s => (tab vs rw s).1) vs rw q) (0, none) v = (worst (fun s => (tab vs rw s).1) vs rw q v, some v) := by
      unfold bestStep
      rw [if_pos (.inl rfl)]
    rw [h1]
    have fin : ∀ u ∈ opn vs q, AskOk vs rw q (worst (fun s => (tab vs rw s).1) vs rw q u) (some u) := fun u hu => ⟨hu, by unfold worst; dsimp only; omega⟩
    rcases best_pick (m := worst (fun s => (tab vs rw s).1) vs rw q) l (worst (fun s => (tab vs rw s).1) vs rw q v, some v) with h | ⟨u, hu, h⟩
    · rw [h]
      exact fin v (by rw [e]; simp)
    · rw [h]
      exact fin u (by rw [e]; simp [hu])
theorem TblAt.right {H : Hp} {r : Addr} {vs : List Int} {rw : Int → List Int} {ss : List Sts} (R : RwOk vs rw) (h0 : ∀ v ∈ vs, 0 ≤ v) (hS : Sorted vs rw ss) (h : TblAt H r vs rw ss) : RTab H vs rw ss (.ref r) := by
  obtain ⟨ps, e1, e2, e3⟩ := h
  refine ⟨r, _, rfl, e2, by rw [List.length_map, ← e1, List.length_map], fun i y q hy hq => ?_⟩
  obtain ⟨p, hp, rfl⟩ := map_at hy
  rw [← e1, List.getElem?_map, hp] at hq
  cases hq
  have hm := List.mem_of_getElem? hp
  have SO := ((hS.mem p.2).mp (by rw [← e1]; exact List.mem_map_of_mem hm)).ok R (StOk.nil vs)
  exact ⟨_, _, ⟨p.1, rfl, e3 p hm, SO.r1, fun v hv => h0 v (SO.s1 v hv), SO.r2, fun v hv => h0 v (SO.s2 v hv)⟩, rfl, tab_ask R SO⟩
theorem dat_opV {B : Nat} {H : Hp} (z : Option Int) : Dat B H (opV z) := by
  cases z with
  | none => exact .leaf .non (by decide)
  | some v => exact Dat.int
theorem TblAt.dat {H : Hp} {r : Addr} {vs : List Int} {rw : Int → List Int} {ss : List Sts} (R : RwOk vs rw) (h5 : vs.length ≤ 5) (hS : Sorted vs rw ss) (few : ss.length ≤ 1024) (h : TblAt H r vs rw ss) : Dat 1024 H (.ref r) := by
  obtain ⟨ps, e1, e2, e3⟩ := h
  have lp : ps.length = ss.length := by rw [← e1, List.length_map]
  refine .tup e2 (by rw [List.length_map]; omega) fun y hy => ?_
  obtain ⟨p, hp, rfl⟩ := List.mem_map.mp hy
  obtain ⟨a, b, g1, g2, g3⟩ := e3 p hp
  have SO := ((hS.mem p.2).mp (by rw [← e1]; exact List.mem_map_of_mem hp)).ok R (StOk.nil vs)
  have l1 := SO.len1
  have l2 := SO.len2
  have allI : ∀ (zs : List Int), ∀ y ∈ zs.map V.int, Dat 1024 H y := fun zs y hy => by
    obtain ⟨i, _, rfl⟩ := List.mem_map.mp hy
    exact Dat.int
  refine .tup g1 (by simp) fun y hy => ?_
  simp only [List.mem_cons, List.not_mem_nil, or_false] at hy
  rcases hy with rfl | rfl | rfl | rfl
  · exact .tup g2 (by rw [List.length_map]; omega) (allI _)
  · exact .tup g3 (by rw [List.length_map]; omega) (allI _)
  · exact Dat.int
  · exact dat_opV _
/-! ### asking and settling: the plain law -/
def bits (n : Nat) : Int := (Builtin.Int.intBits (n : Int) : Nat)
theorem bits_zero : bits 0 = 0 := rfl
theorem bits_half {n : Nat} (h : 0 < n) : bits n = bits (n / 2) + 1 := by
  unfold bits Builtin.Int.intBits
  have e : ∀ m : Nat, ((m : Int) == 0) = decide (m = 0) := fun m => by
    by_cases q : m = 0
    · subst q; rfl
    · rw [decide_eq_false q]; exact beq_false_of_ne (by omega)
  rw [e, e]
  simp only [Int.natAbs_natCast]
  rw [decide_eq_false (show ¬ n = 0 by omega)]
  by_cases h2 : 2 ≤ n
  · rw [decide_eq_false (show ¬ n / 2 = 0 by omega), Nat.log2_def n, if_pos h2]
    simp
  · have e1 : n = 1 := by omega
    subst e1
    rfl
theorem bits_nn (n : Nat) : 0 ≤ bits n := by unfold bits; exact Int.natCast_nonneg _
theorem bits_pos {n : Nat} (h : 0 < n) : 0 < bits n := by
  rw [bits_half h]
  have := bits_nn (n / 2)
  omega
theorem bits_mono : ∀ (m n : Nat), n ≤ m → bits n ≤ bits m := by
  intro m
  induction m using Nat.strongRecOn with
  | ind m ih =>
    intro n h
    by_cases hn : n = 0
    · subst hn
      rw [bits_zero]
      exact bits_nn m
    · rw [bits_half (show 0 < n by omega), bits_half (show 0 < m by omega)]
      have := ih (m / 2) (by omega) (n / 2) (by omega)
      omega
def PhS (L : Int → Bool) (cs : List (List Int)) : Int := (cs.map fun c => bits (c.filter L).length).sum
theorem PhS_cons {L : Int → Bool} {c : List Int} {cs : List (List Int)} : PhS L (c :: cs) = bits (c.filter L).length + PhS L cs := by
  unfold PhS
  rw [List.map_cons, List.sum_cons]
theorem PhS_nn (L : Int → Bool) : ∀ cs : List (List Int), 0 ≤ PhS L cs
  | [] => Int.le_refl _
  | c :: cs => by
    rw [PhS_cons]
    have := bits_nn (c.filter L).length
    have := PhS_nn L cs
    omega
theorem PhS_none {L : Int → Bool} : ∀ {cs : List (List Int)}, PhS L cs ≤ 0 → ∀ c ∈ cs, c.filter L = []
  | [], _, c, hc => by cases hc
  | d :: cs, h, c, hc => by
    rw [PhS_cons] at h
    have h1 := bits_nn (d.filter L).length
    have h2 := PhS_nn L cs
    rcases List.mem_cons.mp hc with rfl | hc
    · refine List.length_eq_zero_iff.mp ?_
      rcases Nat.eq_zero_or_pos (c.filter L).length with z | z
      · exact z
      · have := bits_pos z
        omega
    · exact PhS_none (cs := cs) (by omega) c hc
theorem PhS_some {L : Int → Bool} : ∀ {cs : List (List Int)}, 0 < PhS L cs → ∃ c ∈ cs, c.filter L ≠ []
  | [], h => absurd h (by show ¬ (0 : Int) < 0; decide)
  | d :: cs, h => by
    by_cases e : d.filter L = []
    · rw [PhS_cons, e, List.length_nil, bits_zero] at h
      obtain ⟨c, hc, z⟩ := PhS_some (L := L) (cs := cs) (by omega)
      exact ⟨c, List.mem_cons_of_mem _ hc, z⟩
    · exact ⟨d, by simp, e⟩
theorem PhS_all (L : Int → Bool) : ∀ cs : List (List Int), PhS L cs ≤ (cs.map fun c => bits c.length).sum
  | [] => Int.le_refl _
  | c :: cs => by
    rw [PhS_cons, List.map_cons, List.sum_cons]
    have := bits_mono c.length (c.filter L).length (List.length_filter_le _ _)
    have := PhS_all L cs
    omega
theorem mid_mem {F : List Int} (h : F ≠ []) : F.getD (F.length / 2) 0 ∈ F := by
  have hl : 0 < F.length := List.length_pos_iff.mpr h
  have h2 : F.length / 2 < F.length := by omega
  rw [List.getD_eq_getElem?_getD, List.getElem?_eq_getElem h2]
  exact List.getElem_mem _
theorem fold_mem {L : Int → Bool} {few : Int} : ∀ (cs : List (List Int)) (as : List Int) (x : Int), x ∈ as → x ∈ cs.foldl (midS L few) as
  | [], _, _, h => h
  | c :: cs, as, x, h => fold_mem cs _ x (by
    unfold midS
    split
    · exact List.mem_append_left _ h
    · exact h)
theorem fold_L {L : Int → Bool} {few : Int} : ∀ (cs : List (List Int)) (as : List Int), (∀ x ∈ as, L x = true) → ∀ x ∈ cs.foldl (midS L few) as, L x = true
  | [], _, h => h
  | c :: cs, as, h => fold_L cs _ (by
    unfold midS
    split
    · next g =>
      intro x hx
      rcases List.mem_append.mp hx with z | z
      · exact h x z
      · rw [List.mem_singleton.mp z]
        exact (List.mem_filter.mp (mid_mem g.1)).2
    · exact h)
theorem fold_ne {L : Int → Bool} {few : Int} (hf : 0 < few) : ∀ (cs : List (List Int)), (∃ c ∈ cs, c.filter L ≠ []) → cs.foldl (midS L few) [] ≠ []
  | [], h => by obtain ⟨_, h, _⟩ := h; cases h
  | c :: cs, h => by
    by_cases e : c.filter L = []
    · obtain ⟨d, hd, hn⟩ := h
      have e2 : midS L few [] c = [] := by unfold midS; rw [if_neg (fun z => z.1 e)]
      rw [List.foldl_cons, e2]
      refine fold_ne hf cs ⟨d, ?_, hn⟩
      rcases List.mem_cons.mp hd with rfl | z
      · exact absurd e hn
      · exact z
    · rw [List.foldl_cons]
      have e2 : midS L few [] c = [] ++ [(c.filter L).getD ((c.filter L).length / 2) 0] := by unfold midS; rw [if_pos ⟨e, by simpa using hf⟩]
      rw [e2]
      exact List.ne_nil_of_mem (fold_mem cs _ _ (List.mem_append_right _ (List.mem_singleton.mpr rfl)))
theorem filter_sub {L L' : Int → Bool} (hL : ∀ x, L' x = true → L x = true) (c : List Int) : c.filter L' = (c.filter L).filter L' := by
  rw [List.filter_filter]
  refine List.filter_congr fun x _ => ?_
  cases hx : L' x with
  | false => rfl
  | true => rw [hL x hx]; rfl
theorem fold_sum {L L' : Int → Bool} {few : Int} (hL : ∀ x, L' x = true → L x = true) : ∀ (cs : List (List Int)) (as : List Int), (∀ c ∈ cs, c.filter L ≠ [] → (c.filter L).getD ((c.filter L).length / 2) 0 ∈ cs.foldl (midS L few) as → (c.filter L').length ≤ (c.filter L).length / 2) →
    ((cs.foldl (midS L few) as).length : Int) + PhS L' cs ≤ as.length + PhS L cs
  | [], as, _ => Int.le_refl _
  | c :: cs, as, h => by
    have ih := fold_sum (few := few) hL cs (midS L few as c) (fun d hd hn hm => h d (List.mem_cons_of_mem _ hd) hn hm)
    rw [List.foldl_cons, PhS_cons, PhS_cons]
    have le : (c.filter L').length ≤ (c.filter L).length := by
      rw [filter_sub hL c]
      exact List.length_filter_le _ _
    have key : ((midS L few as c).length : Int) + bits (c.filter L').length ≤ as.length + bits (c.filter L).length := by
      by_cases g : c.filter L ≠ [] ∧ (as.length : Int) < few
      · have e2 : midS L few as c = as ++ [(c.filter L).getD ((c.filter L).length / 2) 0] := by unfold midS; rw [if_pos g]
        have hh := h c (by simp) g.1 (by
          rw [List.foldl_cons, e2]
          exact fold_mem cs _ _ (List.mem_append_right _ (List.mem_singleton.mpr rfl)))
        have b1 := bits_mono _ _ hh
        have b2 := bits_half (List.length_pos_iff.mpr g.1)
        rw [e2, List.length_append]
        simp only [List.length_cons, List.length_nil]
        omega
      · have e2 : midS L few as c = as := by unfold midS; rw [if_neg g]
        rw [e2]
        have := bits_mono _ _ le
        omega
    omega
theorem half_le {ls : List (Int × Int)} {F : List Int} (hp : F.Pairwise (fun a b => Bel ls b a)) (h0 : F ≠ []) {L' : Int → Bool} (h : (∀ x, Bel ls (F.getD (F.length / 2) 0) x → L' x = false) ∨ ∀ x, Bel ls x (F.getD (F.length / 2) 0) → L' x = false) : (F.filter L').length ≤ F.length / 2 := by
  have hl : 0 < F.length := List.length_pos_iff.mpr h0
  have h2 : F.length / 2 < F.length := by omega
  have em : F.getD (F.length / 2) 0 = F[F.length / 2] := by rw [List.getD_eq_getElem?_getD, List.getElem?_eq_getElem h2]; rfl
  rw [em] at h
  have sp : F = F.take (F.length / 2) ++ F[F.length / 2] :: F.drop (F.length / 2 + 1) := by
    conv => lhs; rw [← List.take_append_drop (F.length / 2) F]
    rw [List.drop_eq_getElem_cons h2]
  have hp2 := hp
  rw [sp, List.pairwise_append] at hp2
  obtain ⟨_, p2, p3⟩ := hp2
  have p2' := (List.pairwise_cons.mp p2).1
  generalize hm : F[F.length / 2] = m at *
  rcases h with h | h
  · have z1 : (F.take (F.length / 2)).filter L' = [] := List.filter_eq_nil_iff.mpr fun x hx => by rw [h x (p3 x hx m (by simp))]; simp
    have z2 : L' m = false := h m (.refl m)
    have e : F.filter L' = (F.drop (F.length / 2 + 1)).filter L' := by
      conv => lhs; rw [sp]
      rw [List.filter_append, z1, List.filter_cons, z2]
      rfl
    rw [e]
    refine Nat.le_trans (List.length_filter_le _ _) ?_
    rw [List.length_drop]
    omega
  · have z1 : (F.drop (F.length / 2 + 1)).filter L' = [] := List.filter_eq_nil_iff.mpr fun x hx => by rw [h x (p2' x hx)]; simp
    have z2 : L' m = false := h m (.refl m)
    have e : F.filter L' = (F.take (F.length / 2)).filter L' := by
      conv => lhs; rw [sp]
      rw [List.filter_append, List.filter_cons, z1, z2]
      simp
    rw [e]
    refine Nat.le_trans (List.length_filter_le _ _) ?_
    rw [List.length_take]
    omega
theorem chain_pw {ls : List (Int × Int)} : ∀ {c : List Int}, (∀ (i : Nat) (a b : Int), c[i]? = some a → c[i + 1]? = some b → Bel ls b a) → c.Pairwise (fun a b => Bel ls b a)
  | [], _ => .nil
  | [x], _ => by simp
  | x :: y :: r, h => by
    have ih := chain_pw (c := y :: r) fun i a b h1 h2 => h (i + 1) a b (by simpa using h1) (by simpa using h2)
    have h0 : Bel ls y x := h 0 x y rfl rfl
    refine List.pairwise_cons.mpr ⟨fun z hz => ?_, ih⟩
    rcases List.mem_cons.mp hz with rfl | hz
    · exact h0
    · exact ((List.pairwise_cons.mp ih).1 z hz).trans h0
theorem mem_leftL {ls : List (Int × Int)} {an : List (Int × Bool)} {ns : List Int} {v : Int} : v ∈ leftL ls an ns ↔ v ∈ ns ∧ ¬ hasP ls an v ∧ ¬ lackP ls an v := by
  unfold leftL
  rw [List.mem_filter, Bool.and_eq_true, Bool.not_eq_true', Bool.not_eq_true', ← Bool.not_eq_true, ← Bool.not_eq_true, hasB_iff, lackB_iff]
/-- the answers are right -/
def Told (ns hs : List Int) (an : List (Int × Bool)) : Prop := ∀ q ∈ an, q.1 ∈ ns ∧ q.2 = decide (q.1 ∈ hs)
section
variable {ns hs : List Int} {ls : List (Int × Int)} {an an' : List (Int × Bool)}
theorem Told.clear (h : Told ns hs an) (dn : ∀ x ∈ hs, ∀ y, Bel ls x y → y ∈ hs) : Clear ls an := fun u l hu hl b => by
  have h1 : u ∈ hs := of_decide_eq_true (h _ hu).2.symm
  exact (of_decide_eq_false (h _ hl).2.symm) (dn u h1 l b)
theorem Told.out (h : Told ns hs an) {v : Int} (hv : v ∈ leftL ls an ns) : ∀ b, (v, b) ∉ an := fun b hb => by
  obtain ⟨_, h1, h2⟩ := mem_leftL.mp hv
  cases b with
  | true => exact h1 ⟨v, hb, .refl v⟩
  | false => exact h2 ⟨v, hb, .refl v⟩
/-- what the answers to the asked ones add -/
def Adds (hs as : List Int) (an an' : List (Int × Bool)) : Prop := ∀ x, x ∈ an' ↔ x ∈ an ∨ ∃ v ∈ as, x = (v, decide (v ∈ hs))
theorem Adds.told {as : List Int} (a : Adds hs as an an') (h : Told ns hs an) (m : ∀ v ∈ as, v ∈ ns) : Told ns hs an' := fun q hq => by
  rcases (a q).mp hq with z | ⟨v, hv, rfl⟩
  · exact h q z
  · exact ⟨m v hv, rfl⟩
theorem turn_sum {as : List Int} {few : Int} {cs : List (List Int)} (hcs : ∀ c ∈ cs, c.Pairwise (fun a b => Bel ls b a)) (e : as = midF (fun v => decide (v ∈ leftL ls an ns)) few cs) (a : Adds hs as an an') :
    (as.length : Int) + PhS (fun v => decide (v ∈ leftL ls an' ns)) cs ≤ PhS (fun v => decide (v ∈ leftL ls an ns)) cs := by
  have hL : ∀ x, (fun v => decide (v ∈ leftL ls an' ns)) x = true → (fun v => decide (v ∈ leftL ls an ns)) x = true := fun x hx => by
    obtain ⟨h1, h2, h3⟩ := mem_leftL.mp (of_decide_eq_true hx)
    refine decide_eq_true (mem_leftL.mpr ⟨h1, fun ⟨u, hu, b⟩ => h2 ⟨u, (a _).mpr (.inl hu), b⟩, fun ⟨u, hu, b⟩ => h3 ⟨u, (a _).mpr (.inl hu), b⟩⟩)
  have := fold_sum (few := few) hL cs [] (fun c hc hn hm => by
    rw [filter_sub hL c]
    refine half_le ((hcs c hc).filter _) hn ?_
    have hm' : (c.filter fun v => decide (v ∈ leftL ls an ns)).getD ((c.filter fun v => decide (v ∈ leftL ls an ns)).length / 2) 0 ∈ as := by rw [e]; exact hm
    generalize (c.filter fun v => decide (v ∈ leftL ls an ns)).getD ((c.filter fun v => decide (v ∈ leftL ls an ns)).length / 2) 0 = m at hm'
    have ha := (a (m, decide (m ∈ hs))).mpr (.inr ⟨m, hm', rfl⟩)
    by_cases hmh : m ∈ hs
    · rw [decide_eq_true hmh] at ha
      exact .inl fun x hx => decide_eq_false fun z => (mem_leftL.mp z).2.1 ⟨m, ha, hx⟩
    · rw [decide_eq_false hmh] at ha
      exact .inr fun x hx => decide_eq_false fun z => (mem_leftL.mp z).2.2 ⟨m, ha, hx⟩)
  rw [e]
  unfold midF
  simpa using this
theorem turn_ne {few : Int} {cs : List (List Int)} (hf : 0 < few) {L : Int → Bool} (h : 0 < PhS L cs) : 1 ≤ (midF L few cs).length := by
  have := fold_ne (L := L) hf cs (PhS_some h)
  exact List.length_pos_iff.mpr this
theorem turn_L {L : Int → Bool} {few : Int} {cs : List (List Int)} : ∀ x ∈ midF L few cs, L x = true := fold_L cs [] (by simp)
theorem all_left {cs : List (List Int)} (hm : ∀ x, x ∈ cs.flatten ↔ x ∈ ns) (h : PhS (fun v => decide (v ∈ leftL ls an ns)) cs ≤ 0) : leftL ls an ns = [] := by
  refine List.eq_nil_iff_forall_not_mem.mpr fun v hv => ?_
  have hvn := (mem_leftL.mp hv).1
  obtain ⟨c, hc, hvc⟩ := List.mem_flatten.mp ((hm v).mpr hvn)
  have := PhS_none h c hc
  have hx : v ∈ c.filter fun v => decide (v ∈ leftL ls an ns) := List.mem_filter.mpr ⟨hvc, decide_eq_true hv⟩
  rw [this] at hx
  cases hx
end
def spMost : Sp := fun vs H Q _ => ∃ (t c : Addr) (x : V) (qs : List (Addr × List V)), vs = [.ref t] ∧ H t = some (.tup [.ref c, x]) ∧ H c = some (.tup (qs.map fun q => .ref q.1)) ∧ qs.length ≤ 1000 ∧ (∀ q ∈ qs, H q.1 = some (.tup q.2)) ∧
  ∀ H', Same H H' → Q (.int (qs.map fun q => bits q.2.length).sum) H'
section
variable {P : Program} {w : World} {K : PySem.W.Frag} {mg : Str → Option Value} {base : Heap}
theorem ok_most {f : Addr} {fd : FuncData} (T : Txt K mg) (F : Fun K "most_asks" "most_asks" s_most_asks f fd) : FnOk P w K mg base CX0 1 f fd ["cover"] spMost := by
  refine F.ok sc_most_asks (fun vs H Q E h => ?_) (fun cdv A outer s H vs Q E hr h => ?_)
  · obtain ⟨t, c, x, qs, rfl, _⟩ := h
    rfl
  · obtain ⟨t, c, x, qs, rfl, e1, e2, hl, hq, q⟩ := h
    refine ⟨_,
      (pss_one
        (ps_ret (pe_callB (r := rSum K) (cr_sum rfl) (by rfl) T.n_sum (by decide +kernel) (pa_cons (pe_lc (own := [("chain", 1)]) (g := (gName 1)) rfl sc_most_asks.nd (pi_tup (pe_ix (r := rIxT K) ix_tup (pv 0) pe_int (fun _ _ => rfl))) (blkOk_by (own := [("chain", 1)]) (N := N_most_asks) (sc := defScope s_most_asks) (by decide +kernel)) (fun _ _ _ _ _ => (pg_name (i := 1) sc_most_asks.nd rfl (.inl rfl))) (fun _ _ _ _ _ => pts_nil) (fun _ _ _ _ _ => (pe_bits (pe_callB (r := rLen K) c_len (by rfl) T.n_len (by decide +kernel) (pa_cons (pv 1) pa_nil))))) pa_nil))))
      , ?_⟩
    rw [show L2.start N_most_asks [V.ref t] = [some (.ref t), none] from rfl]
    walk_at "x"
    refine lcp_map (walk_tup (xs := qs.map fun q => .ref q.1)) [] ((qs.map fun q => bits q.2.length).map V.int) (by simp) (by simp; omega) (fun H' k => .of (k _ _ (by simp) e2)) ?_ (by simp) ?_
    · rintro i y H1 H2 R hi k ⟨rfl, hy⟩ hR
      rw [List.getElem?_map] at hy
      obtain ⟨p, hp, rfl⟩ := Option.map_eq_some_iff.mp hy
      have hp1 : H2 p.1 = some (.tup p.2) := k _ _ (by simp) (hq p (List.mem_of_getElem? hp))
      refine w_name ⟨rfl, ?_⟩
      walk_at "g"
      refine hR _ _ ?_ Kp.refl
      rw [List.getElem?_map, List.getElem?_map, hp]
      rfl
    · intro D H' hD k e
      walk_at "g"
      exact q H' k.same
end
theorem w_eqSt {K : PySem.W.Frag} {H : Hp} {Q : VK} {a b : Addr} {p q : Sts} (h1 : QAt H a p) (h2 : QAt H b q) (h : Q (.bl (decide (p = q))) H) : rEqD K (.ref a) (.ref b) H Q := ⟨_, _, dp_st h1, dp_st h2, st_shaped p, st_shaped q, by rw [eqv_St]; exact h⟩
def spRow : Sp := fun vs H Q _ => ∃ (r t : Addr) (ns : List Int) (rw : Int → List Int) (ss : List Sts) (q : Sts), vs = [.ref r, .ref t] ∧ TblAt H r ns rw ss ∧ QAt H t q ∧ q ∈ ss ∧ ∀ H' p, Same H H' → TRowAt H' p q (tab ns rw q).1 (tab ns rw q).2 → Q (.ref p) H'
section
variable {P : Program} {w : World} {K : PySem.W.Frag} {mg : Str → Option Value} {base : Heap}
theorem ok_lrow {f : Addr} {fd : FuncData} (T : Txt K mg) (F : Fun K "_law_row" "_law_row" s_law_row f fd) : FnOk P w K mg base CX0 1 f fd ["_law_found", "_law_state"] spRow := by
  refine F.ok sc_law_row (fun vs H Q E h => ?_) (fun cdv A outer s H vs Q E hr h => ?_)
  · obtain ⟨r, t, ns, rw', ss, q, rfl, _⟩ := h
    rfl
  · obtain ⟨r, t, ns, rw', ss, q, rfl, ⟨ps, e1, e2, e3⟩, QT, hq, qq⟩ := h
    have hu := hu_of hr
    refine ⟨_,
      (pss_cons
        (ps_for PassesOwn.never rfl (pi_tup (pv 0)) (pg_name (i := 2) sc_law_row.nd rfl (.inl rfl))
          (pss_one
            (ps_if (pt_cmpR (r := rEqD K) (op_eqD hr.units) (pe_tup (pa_cons (pe_ix (r := rIxT K) ix_tup (pv 2) pe_int (fun _ _ => rfl)) (pa_cons (pe_ix (r := rIxT K) ix_tup (pv 2) pe_int (fun _ _ => rfl)) pa_nil))) (pv 1) (nomark _))
              (pss_one
                (ps_ret (pv 2)))
              pss_nil)))
      (pss_one
        (ps_ret pe_non)))
      , ?_⟩
    rw [show L2.start N_law_row [V.ref r, V.ref t] = [some (.ref r), some (.ref t), none] from rfl]
    walk_at "x"
    refine lp_tup (xs := ps.map fun p => V.ref p.1) (fun i σ H' => ∃ (y2 : Option V), σ = [some (.ref r), some (.ref t), y2] ∧ Same H H' ∧ q ∉ (ps.take i).map (·.2)) ?_ ?_ ?_ ?_
    · exact ⟨_, rfl, fun _ _ z => z, by simp⟩
    · rintro i σ H' _ ⟨_, _, k, _⟩
      exact .of (k _ _ e2)
    · rintro i y σ H1 hy ⟨y2, rfl, k1, no⟩
      obtain ⟨p, hp, rfl⟩ := map_at hy
      have R1 := (e3 p (List.mem_of_getElem? hp)).kt (KT.of k1)
      obtain ⟨a, b, g1, g2, g3⟩ := id R1
      walk_at "g"
      refine w_new fun tn H2 htn etn k2 => ?_
      walk_at "g"
      refine w_eqSt (p := p.2) ⟨a, b, etn, k2 _ _ g2, k2 _ _ g3⟩ ((QT.kt (KT.of k1)).kt (KT.of k2)) ?_
      refine ⟨_, rfl, ?_⟩
      refine w_ite (fun he => ?_) (fun he => ?_)
      · walk_at "g"
        subst he
        exact qq H2 p.1 (Same.trans k1 k2) (R1.kt (KT.of k2))
      · walk_at "g"
        refine ⟨_, rfl, Same.trans k1 k2, fun z => ?_⟩
        rw [List.take_add_one, hp, List.map_append] at z
        rcases List.mem_append.mp z with h | h
        · exact no h
        · have e : q = p.2 := by simpa using h
          exact he e.symm
    · rintro σ H1 ⟨y2, rfl, k1, no⟩
      rw [List.length_map, List.take_length] at no
      rw [← e1] at hq
      exact absurd hq no
end
/-! ### asking by the table -/
theorem tab_le {vs : List Int} {rw : Int → List Int} (R : RwOk vs rw) : ∀ (j : Nat) (q : Sts), StOk vs q → (opn vs q).length ≤ j → (tab vs rw q).1 ≤ j
  | j, q, hq, hj => by
    have ha := tab_ask R hq
    cases e : (tab vs rw q).2 with
    | none =>
      rw [e] at ha
      have ha' : opn vs q = [] := ha
      have : (tab vs rw q).1 = 0 := by
        rw [tab_eq R hq, ha']
        rfl
      omega
    | some v =>
      rw [e] at ha
      obtain ⟨hv, hm⟩ := ha
      have h1 := opn_hi R hq hv
      have h2 := opn_lo R hq hv
      match j, hj with
      | 0, hj => omega
      | j + 1, hj =>
        have g1 := tab_le R j (hiS vs rw q v) (hq.hi R.up v) (by omega)
        have g2 := tab_le R j (loS vs rw q v) (hq.lo R.up v) (by omega)
        omega
theorem tab_zero {vs : List Int} {rw : Int → List Int} (R : RwOk vs rw) {q : Sts} (hq : StOk vs q) (h : (tab vs rw q).1 ≤ 0) : opn vs q = [] := by
  have ha := tab_ask R hq
  cases e : (tab vs rw q).2 with
  | none => rw [e] at ha; exact ha
  | some v =>
    rw [e] at ha
    obtain ⟨hv, hm⟩ := ha
    have := tab_nn (vs := vs) (rw := rw) (hiS vs rw q v)
    omega
/-- the state agrees with the holding hs -/
structure Agr (hs : List Int) (q : Sts) : Prop where
  i1 : ∀ x ∈ q.1, x ∈ hs
  o2 : ∀ x ∈ q.2, x ∉ hs
theorem Agr.hi {vs hs : List Int} {ls : List (Int × Int)} {q : Sts} (h : Agr hs q) (dn : ∀ x ∈ hs, ∀ y, Bel ls x y → y ∈ hs) {v : Int} (hv : v ∈ hs) : Agr hs (hiS vs (rwB vs ls) q v) :=
  ⟨fun x hx => (mem_hi.mp hx).2.elim (h.i1 x) fun g => dn v hv x (mem_rwB.mp g).2, h.o2⟩
theorem Agr.lo {vs hs : List Int} {ls : List (Int × Int)} {q : Sts} (h : Agr hs q) (dn : ∀ x ∈ hs, ∀ y, Bel ls x y → y ∈ hs) {v : Int} (hv : v ∉ hs) : Agr hs (loS vs (rwB vs ls) q v) :=
  ⟨h.i1, fun x hx => (mem_lo.mp hx).2.elim (h.o2 x) fun g z => hv (dn x z v (mem_rwB.mp g).2)⟩
theorem Agr.fin {vs hs : List Int} {q : Sts} (h : Agr hs q) (hq : StOk vs q) (hr : hs.Pairwise (· < ·)) (hm : ∀ x ∈ hs, x ∈ vs) (h0 : opn vs q = []) : q.1 = hs :=
  rise_ext _ _ hq.r1 hr fun x => ⟨h.i1 x, fun hx => by
    by_cases h1 : x ∈ q.1
    · exact h1
    by_cases h2 : x ∈ q.2
    · exact absurd hx (h.o2 x h2)
    have : x ∈ opn vs q := mem_opn.mpr ⟨hm x hx, h1, h2⟩
    rw [h0] at this
    cases this⟩
/-- the state says what the answers settle -/
structure Sett (vs : List Int) (ls : List (Int × Int)) (an : List (Int × Bool)) (q : Sts) : Prop where
  ok : StOk vs q
  m1 : ∀ x, x ∈ q.1 ↔ x ∈ vs ∧ hasP ls an x
  m2 : ∀ x, x ∈ q.2 ↔ x ∈ vs ∧ lackP ls an x
theorem Sett.nil {vs : List Int} {ls : List (Int × Int)} : Sett vs ls [] ([], []) :=
  ⟨StOk.nil vs, fun x => ⟨(fun h => nomatch h), (fun ⟨_, u, h, _⟩ => nomatch h)⟩, fun x => ⟨(fun h => nomatch h), (fun ⟨_, u, h, _⟩ => nomatch h)⟩⟩
theorem Sett.left {vs : List Int} {ls : List (Int × Int)} {an : List (Int × Bool)} {q : Sts} (h : Sett vs ls an q) {x : Int} : x ∈ leftL ls an vs ↔ x ∈ opn vs q := by
  rw [mem_leftL, mem_opn, h.m1, h.m2]
  constructor
  · rintro ⟨a, b, c⟩
    exact ⟨a, fun z => b z.2, fun z => c z.2⟩
  · rintro ⟨a, b, c⟩
    exact ⟨a, fun z => b ⟨a, z⟩, fun z => c ⟨a, z⟩⟩
theorem Sett.hi {vs : List Int} {ls : List (Int × Int)} {an : List (Int × Bool)} {q : Sts} (h : Sett vs ls an q) (S : ShOk vs ls) {v : Int} (hv : v ∈ vs) : Sett vs ls (an ++ [(v, true)]) (hiS vs (rwB vs ls) q v) := by
  refine ⟨h.ok.hi S.vr v, fun x => ?_, fun x => ?_⟩
  · rw [mem_hi, h.m1, mem_rwB]
    constructor
    · rintro ⟨hx, ⟨_, u, hu, b⟩ | ⟨_, b⟩⟩
      · exact ⟨hx, u, List.mem_append_left _ hu, b⟩
      · exact ⟨hx, v, by simp, b⟩
    · rintro ⟨hx, u, hu, b⟩
      refine ⟨hx, ?_⟩
      rcases List.mem_append.mp hu with g | g
      · exact .inl ⟨hx, u, g, b⟩
      · have e : u = v := by simpa using g
        subst e
        exact .inr ⟨hx, b⟩
  · show x ∈ q.2 ↔ _
    rw [h.m2]
    constructor
    · rintro ⟨hx, u, hu, b⟩
      exact ⟨hx, u, List.mem_append_left _ hu, b⟩
    · rintro ⟨hx, u, hu, b⟩
      rcases List.mem_append.mp hu with g | g
      · exact ⟨hx, u, g, b⟩
      · simp at g
theorem Sett.lo {vs : List Int} {ls : List (Int × Int)} {an : List (Int × Bool)} {q : Sts} (h : Sett vs ls an q) (S : ShOk vs ls) {v : Int} (hv : v ∈ vs) : Sett vs ls (an ++ [(v, false)]) (loS vs (rwB vs ls) q v) := by
  refine ⟨h.ok.lo S.vr v, fun x => ?_, fun x => ?_⟩
  · show x ∈ q.1 ↔ _
    rw [h.m1]
    constructor
    · rintro ⟨hx, u, hu, b⟩
      exact ⟨hx, u, List.mem_append_left _ hu, b⟩
    · rintro ⟨hx, u, hu, b⟩
      rcases List.mem_append.mp hu with g | g
      · exact ⟨hx, u, g, b⟩
      · simp at g
  · rw [mem_lo, h.m2, mem_rwB]
    constructor
    · rintro ⟨hx, ⟨_, u, hu, b⟩ | ⟨_, b⟩⟩
      · exact ⟨hx, u, List.mem_append_left _ hu, b⟩
      · exact ⟨hx, v, by simp, b⟩
    · rintro ⟨hx, u, hu, b⟩
      refine ⟨hx, ?_⟩
      rcases List.mem_append.mp hu with g | g
      · exact .inl ⟨hx, u, g, b⟩
      · have e : u = v := by simpa using g
        subst e
        exact .inr ⟨hv, b⟩
theorem clear_add {vs : List Int} {ls : List (Int × Int)} {an : List (Int × Bool)} {q : Sts} (h : Sett vs ls an q) (C : Clear ls an) {v : Int} (hv : v ∈ opn vs q) (b : Bool) : Clear ls (an ++ [(v, b)]) := by
  obtain ⟨hvn, n1, n2⟩ := mem_opn.mp hv
  intro u l hu hl hb
  rcases List.mem_append.mp hu with gu | gu
  · rcases List.mem_append.mp hl with gl | gl
    · exact C u l gu gl hb
    · have e : l = v ∧ false = b := by simpa using gl
      obtain ⟨rfl, _⟩ := e
      exact n1 ((h.m1 l).mpr ⟨hvn, u, gu, hb⟩)
  · have e : u = v ∧ true = b := by simpa using gu
    obtain ⟨rfl, rfl⟩ := e
    rcases List.mem_append.mp hl with gl | gl
    · exact n2 ((h.m2 u).mpr ⟨hvn, l, gl, hb⟩)
    · simp at gl
theorem midF_one {L : Int → Bool} (cs : List (List Int)) : (midF L 1 cs).length ≤ 1 := by
  have : ∀ (cs : List (List Int)) (as : List Int), as.length ≤ 1 → (cs.foldl (midS L 1) as).length ≤ 1 := by
    intro cs
    induction cs with
    | nil => intro as h; exact h
    | cons c cs ih =>
      intro as h
      rw [List.foldl_cons]
      refine ih _ ?_
      unfold midS
      split
      · next g =>
        rw [List.length_append]
        simp only [List.length_cons, List.length_nil]
        omega
      · exact h
  exact this cs [] (by simp)
theorem best_min {m : Int → Int} : ∀ (l : List Int) (b : Int × Option Int), (b.2 ≠ none → (l.foldl (bestStep m) b).1 ≤ b.1) ∧ ∀ v ∈ l, (l.foldl (bestStep m) b).1 ≤ m v
  | [], b => ⟨fun _ => Int.le_refl _, fun v hv => nomatch hv⟩
  | u :: l, b => by
    rw [List.foldl_cons]
    obtain ⟨h1, h2⟩ := best_min (m := m) l (bestStep m b u)
    have hs : (bestStep m b u).2 ≠ none ∧ (bestStep m b u).1 ≤ m u ∧ (b.2 ≠ none → (bestStep m b u).1 ≤ b.1) := by
      unfold bestStep
      split
      · next g => exact ⟨(fun z => nomatch z), Int.le_refl _, fun z => by
          rcases g with g | g
          · exact absurd g z
          · exact Int.le_of_lt g⟩
      · next g => exact ⟨fun z => g (.inl z), by
          have : ¬ m u < b.1 := fun z => g (.inr z)
          omega, fun _ => Int.le_refl _⟩
    have h3 := h1 hs.1
    refine ⟨fun z => Int.le_trans h3 (hs.2.2 z), fun v hv => ?_⟩
    rcases List.mem_cons.mp hv with e | e
    · rw [e]; exact Int.le_trans h3 hs.2.1
    · exact h2 v e
theorem tab_min {vs : List Int} {rw : Int → List Int} (R : RwOk vs rw) {q : Sts} (hq : StOk vs q) {v : Int} (hv : v ∈ opn vs q) : (tab vs rw q).1 ≤ max (tab vs rw (hiS vs rw q v)).1 (tab vs rw (loS vs rw q v)).1 + 1 := by
  rw [tab_eq R hq]
  exact (best_min (m := worst (fun s => (tab vs rw s).1) vs rw q) (opn vs q) (0, none)).2 v hv
/-- what holds while the asks are answered -/
structure AskInv (vs : List Int) (ls : List (Int × Int)) (cs : List (List Int)) (F most : Int) (an : List (Addr × Int × Bool)) (q : Sts) : Prop where
  st : Sett vs ls (an.map (·.2)) q
  cl : Clear ls (an.map (·.2))
  am : ∀ x ∈ an, x.2.1 ∈ vs
  rch : RchT vs (rwB vs ls) ([], []) q
  fl : F ≤ an.length + (tab vs (rwB vs ls) q).1
  ph : (an.length : Int) + PhS (fun v => decide (v ∈ leftL ls (an.map (·.2)) vs)) cs ≤ most
theorem AskInv.add {vs : List Int} {ls : List (Int × Int)} {cs : List (List Int)} {F most : Int} {an : List (Addr × Int × Bool)} {q : Sts} (S : ShOk vs ls) (h : AskInv vs ls cs F most an q) (pw : ∀ c ∈ cs, c.Pairwise (fun a b => Bel ls b a)) {v : Int} (hM : midF (fun v => decide (v ∈ leftL ls (an.map (·.2)) vs)) 1 cs = [v]) (a : Addr) (tr : Bool)
    (htr : tr = decide ((tab vs (rwB vs ls) (loS vs (rwB vs ls) q v)).1 ≤ (tab vs (rwB vs ls) (hiS vs (rwB vs ls) q v)).1)) : v ∈ opn vs q ∧ AskInv vs ls cs F most (an ++ [(a, v, tr)]) (if tr = true then hiS vs (rwB vs ls) q v else loS vs (rwB vs ls) q v) := by
  have R := rwB_ok S
  have hvL : v ∈ leftL ls (an.map (·.2)) vs := of_decide_eq_true (turn_L (L := fun v => decide (v ∈ leftL ls (an.map (·.2)) vs)) (few := 1) (cs := cs) v (by rw [hM]; simp))
  have hv : v ∈ opn vs q := h.st.left.mp hvL
  have hvn := (mem_opn.mp hv).1
  have hmin := tab_min R h.st.ok hv
  have eq : (an ++ [(a, v, tr)]).map (·.2) = an.map (·.2) ++ [(v, tr)] := by rw [List.map_append]; rfl
  have la : (an ++ [(a, v, tr)]).length = an.length + 1 := by rw [List.length_append]; rfl
  have hfl := h.fl
  have hph := h.ph
  have hadd : Adds (if tr = true then [v] else []) [v] (an.map (·.2)) (an.map (·.2) ++ [(v, tr)]) := fun x => by
    have e1 : decide (v ∈ (if tr = true then [v] else [])) = tr := by cases tr <;> simp
    rw [List.mem_append]
    constructor
    · rintro (g | g)
      · exact .inl g
      · exact .inr ⟨v, by simp, by rw [e1]; simpa using g⟩
    · rintro (g | ⟨u, hu, g⟩)
      · exact .inl g
      · have e2 : u = v := by simpa using hu
        rw [e2, e1] at g
        exact .inr (by simpa using g)
  have hsum := turn_sum (ls := ls) (ns := vs) (few := 1) pw hM.symm hadd
  refine ⟨hv, ?_, ?_, fun x hx => ?_, ?_, ?_, ?_⟩
  · rw [eq]
    cases tr with
    | true => exact h.st.hi S hvn
    | false => exact h.st.lo S hvn
  · rw [eq]
    exact clear_add h.st h.cl hv tr
  · rcases List.mem_append.mp hx with g | g
    · exact h.am x g
    · rw [List.mem_singleton.mp g]
      exact hvn
  · split
    · exact h.rch.snocH hv
    · exact h.rch.snocL hv
  · rw [la]
    cases tr with
    | true =>
      have := of_decide_eq_true htr.symm
      rw [if_pos rfl]
      omega
    | false =>
      have := of_decide_eq_false htr.symm
      rw [if_neg Bool.false_ne_true]
      omega
  · rw [la, eq]
    have : ([v].length : Int) = 1 := rfl
    omega
def spLaw (K : PySem.W.Frag) : Sp := fun vs H Q _ => ∃ (a : Addr) (ns : List Int), vs = [.ref a] ∧ SqL K H a (ns.map V.int) ∧ ns.length ≤ 63 ∧ ∀ H', Q (.bl true) H'
theorem dp_intsL {K : PySem.W.Frag} {H : Hp} : ∀ ns : List Int, DpAll K H (ns.map V.int) (ns.map PyData.int)
  | [] => .nil
  | n :: r => .cons (.int _) (dp_intsL r)
theorem ints_selfE : ∀ ls : List Int, PyData.eqvAll (ls.map PyData.int) (ls.map PyData.int) = true
  | [] => rfl
  | z :: ls => by simp [PyData.eqvAll, PyData.eqv, ints_selfE ls]
theorem ints_layL : ∀ ls : List Int, PyData.canLayAll0 (ls.map PyData.int) = true ∧ PyData.depthAll (ls.map PyData.int) = 0
  | [] => ⟨rfl, rfl⟩
  | z :: ls => by
    obtain ⟨h1, h2⟩ := ints_layL ls
    simp only [List.map_cons, PyData.canLayAll0, PyData.depthAll, PyData.canLay0, PyData.depth, h1, h2]
    exact ⟨rfl, rfl⟩
theorem w_neIL {K : PySem.W.Frag} {H : Hp} {Q : VK} {a b : Addr} {ls : List Int} (h1 : H a = some (.lst (ls.map V.int))) (h2 : H b = some (.lst (ls.map V.int))) (h : Q (.bl false) H) : rNeD K (.ref a) (.ref b) H Q := by
  have sh : SeqAt.shaped (.list (ls.map PyData.int)) = true := by
    obtain ⟨g1, g2⟩ := ints_layL ls
    unfold SeqAt.shaped
    rw [Bool.and_eq_true_iff]
    refine ⟨by rw [PyData.canLay0]; exact g1, decide_eq_true ?_⟩
    rw [PyData.depth]
    omega
  refine ⟨_, _, .lst (.of h1) (dp_intsL ls), .lst (.of h2) (dp_intsL ls), sh, sh, ?_⟩
  rw [show PyData.eqv (.list (ls.map PyData.int)) (.list (ls.map PyData.int)) = true by rw [PyData.eqv]; exact ints_selfE ls]
  exact h
section
variable {P : Program} {w : World} {K : PySem.W.Frag} {mg : Str → Option Value} {base : Heap}
theorem ok_law {f_Contrary___init__ f_spans f_no_clash f_settled f_next_asks f_most_asks f_give_way f_pair_up f_apart_of f_cover f_where_held f_where_lacking f_open_ones f_fill f_all_states f_table f_law_deck f_law_mixed f_law_draw f_law_int f_law_shape f_law_lower f_law_spans f_law_rising f_law_open f_law_behind f_law_states f_law_size f_law_leasts f_law_is_table f_law_row f C_TooMany C_Contrary C_HouseError : Addr} {fd_Contrary___init__ fd_spans fd_no_clash fd_settled fd_next_asks fd_most_asks fd_give_way fd_pair_up fd_apart_of fd_cover fd_where_held fd_where_lacking fd_open_ones fd_fill fd_all_states fd_table fd_law_deck fd_law_mixed fd_law_draw fd_law_int fd_law_shape fd_law_lower fd_law_spans fd_law_rising fd_law_open fd_law_behind fd_law_states fd_law_size fd_law_leasts fd_law_is_table fd_law_row fd : FuncData} (T : Txt K mg)
    (F_Contrary___init__ : Fun K "__init__" "Contrary.__init__" s_Contrary___init__ f_Contrary___init__ fd_Contrary___init__)
    (D_spans : Df K mg "spans" s_spans ["shape"] f_spans fd_spans)
    (D_no_clash : Df K mg "no_clash" s_no_clash ["rows", "answers"] f_no_clash fd_no_clash)
    (D_settled : Df K mg "settled" s_settled ["shape", "answers"] f_settled fd_settled)
    (D_next_asks : DfK K mg "next_asks" s_next_asks ["shape", "cover", "answers", "few"] [("few", V.int 4)] [V.int 4] f_next_asks fd_next_asks)
    (D_most_asks : Df K mg "most_asks" s_most_asks ["cover"] f_most_asks fd_most_asks)
    (D_give_way : Df K mg "give_way" s_give_way ["low", "came", "uppers", "lowers"] f_give_way fd_give_way)
    (D_pair_up : Df K mg "pair_up" s_pair_up ["version", "rows", "uppers", "lowers"] f_pair_up fd_pair_up)
    (D_apart_of : Df K mg "apart_of" s_apart_of ["versions", "rows", "uppers", "lowers"] f_apart_of fd_apart_of)
    (D_cover : Df K mg "cover" s_cover ["shape"] f_cover fd_cover)
    (D_where_held : Df K mg "where_held" s_where_held ["rows", "state", "version"] f_where_held fd_where_held)
    (D_where_lacking : Df K mg "where_lacking" s_where_lacking ["rows", "state", "version"] f_where_lacking fd_where_lacking)
    (D_open_ones : Df K mg "open_ones" s_open_ones ["rows", "state"] f_open_ones fd_open_ones)
    (D_fill : Df K mg "fill" s_fill ["rows", "state", "known"] f_fill fd_fill)
    (D_all_states : Df K mg "all_states" s_all_states ["shape"] f_all_states fd_all_states)
    (D_table : Df K mg "table" s_table ["shape"] f_table fd_table)
    (D_law_deck : Df K mg "_law_deck" s_law_deck ["_law_script"] f_law_deck fd_law_deck)
    (D_law_mixed : Df K mg "_law_mixed" s_law_mixed ["_law_cell", "_law_turn"] f_law_mixed fd_law_mixed)
    (D_law_draw : Df K mg "_law_draw" s_law_draw ["_law_deck_here", "_law_many"] f_law_draw fd_law_draw)
    (D_law_int : Df K mg "_law_int" s_law_int ["_law_thing"] f_law_int fd_law_int)
    (D_law_shape : Df K mg "_law_shape" s_law_shape ["_law_deck_here", "_law_most"] f_law_shape fd_law_shape)
    (D_law_lower : Df K mg "_law_lower" s_law_lower ["_law_deck_here", "_law_rows"] f_law_lower fd_law_lower)
    (D_law_spans : Df K mg "_law_spans" s_law_spans ["_law_web"] f_law_spans fd_law_spans)
    (D_law_rising : Df K mg "_law_rising" s_law_rising ["_law_thing"] f_law_rising fd_law_rising)
    (D_law_open : Df K mg "_law_open" s_law_open ["_law_rows", "_law_state"] f_law_open fd_law_open)
    (D_law_behind : Df K mg "_law_behind" s_law_behind ["_law_rows", "_law_state", "_law_version", "_law_truth"] f_law_behind fd_law_behind)
    (D_law_states : Df K mg "_law_states" s_law_states ["_law_rows"] f_law_states fd_law_states)
    (D_law_size : Df K mg "_law_size" s_law_size ["_law_state"] f_law_size fd_law_size)
    (D_law_leasts : Df K mg "_law_leasts" s_law_leasts ["_law_rows"] f_law_leasts fd_law_leasts)
    (D_law_is_table : Df K mg "_law_is_table" s_law_is_table ["_law_rows", "_law_leasts_here", "_law_thing"] f_law_is_table fd_law_is_table)
    (D_law_row : Df K mg "_law_row" s_law_row ["_law_found", "_law_state"] f_law_row fd_law_row)
    (D_law : Df K mg "law" s_law ["_law_script"] f fd)
    (X_TooMany : Exn K mg "TooMany" C_TooMany)
    (X_Contrary : ExnI K mg "Contrary" C_Contrary f_Contrary___init__ fd_Contrary___init__ ["self", "upper", "lower"] ["upper", "lower"])
    (g_HouseError : mg "HouseError" = some (.ref C_HouseError))
    : FnOk P w K mg base CX0 10 f fd ["_law_script"] (spLaw K) := by
  obtain ⟨ds_next_asks, V_next_asks, B_next_asks⟩ := D_next_asks.b
  obtain ⟨tk_SMALL, g_SMALL⟩ := T.g_SMALL
  obtain ⟨tk_FEW, g_FEW⟩ := T.g_FEW
  have g_TooMany := X_TooMany.g
  have g_Contrary := X_Contrary.g
  obtain ⟨kg_next_asks, KB_next_asks⟩ := D_next_asks.kb
  have G_law_deck : FnOk P w K mg base CX0 1 f_law_deck fd_law_deck ["_law_script"] (spDeck K) := ok_deck T D_law_deck.fn
  have G_law_draw : FnOk P w K mg base CX0 2 f_law_draw fd_law_draw ["_law_deck_here", "_law_many"] spDraw := ok_draw T D_law_draw.fn D_law_mixed
  have G_law_shape : FnOk P w K mg base CX0 3 f_law_shape fd_law_shape ["_law_deck_here", "_law_most"] spShape := ok_shape T D_law_shape.fn D_law_mixed D_law_draw
  have G_law_int : FnOk P w K mg base CX0 1 f_law_int fd_law_int ["_law_thing"] spWholeG := ok_law_intG T D_law_int.fn
  have G_law_spans : FnOk P w K mg base CX0 1 f_law_spans fd_law_spans ["_law_web"] spSpans := ok_lspans T D_law_spans.fn
  have G_law_lower : FnOk P w K mg base CX0 3 f_law_lower fd_law_lower ["_law_deck_here", "_law_rows"] spLower := ok_lower T D_law_lower.fn D_law_mixed D_law_draw
  have G_law_open : FnOk P w K mg base CX0 1 f_law_open fd_law_open ["_law_rows", "_law_state"] spOpenQ := ok_lopenq T D_law_open.fn
  have G_law_behind : FnOk P w K mg base CX0 1 f_law_behind fd_law_behind ["_law_rows", "_law_state", "_law_version", "_law_truth"] spBehind := ok_lbehind T D_law_behind.fn
  have G_law_row : FnOk P w K mg base CX0 1 f_law_row fd_law_row ["_law_found", "_law_state"] spRow := ok_lrow T D_law_row.fn
  have G_law_leasts : FnOk P w K mg base CX0 4 f_law_leasts fd_law_leasts ["_law_rows"] (spLeasts P w) := ok_lleasts T D_law_leasts.fn D_law_states D_law_size D_law_open D_law_behind
  have G_law_is_table : FnOk P w K mg base CX0 3 f_law_is_table fd_law_is_table ["_law_rows", "_law_leasts_here", "_law_thing"] (spIsTable P w) := ok_listable T D_law_is_table.fn D_law_open D_law_behind D_law_int D_law_rising
  have G_table : FnOk P w K mg base (L2.CX P w) 9 f_table fd_table ["shape"] (spTable C_TooMany) := ok_table T D_table.fn D_all_states D_spans D_fill D_where_held D_where_lacking D_open_ones X_TooMany
  have G_cover : FnOk P w K mg base CX0 3 f_cover fd_cover ["shape"] spCover := ok_cover T D_cover.fn D_spans D_give_way D_pair_up D_apart_of
  have G_next_asks : FnOk P w K mg base (L2.CX P w) 5 f_next_asks fd_next_asks ["shape", "cover", "answers", "few"] spNext := ok_next T D_next_asks D_spans D_no_clash D_settled F_Contrary___init__ X_Contrary
  have G_most_asks : FnOk P w K mg base CX0 1 f_most_asks fd_most_asks ["cover"] spMost := ok_most T D_most_asks.fn
  refine D_law.fn.ok sc_law (fun vs H Q E h => ?_) (fun cdv A outer s H vs Q E hr h => ?_)
  · obtain ⟨a, ns, rfl, _⟩ := h
    rfl
  · obtain ⟨a0, ns0, rfl, hS0, hl0, qlaw⟩ := h
    have hu := hu_of hr
    refine ⟨_,
      (pss_cons
        (ps_set (i := 1) sc_law.nd rfl (.inl rfl) (pe_call G_law_deck (hr.mono (by omega)) (by rfl) D_law_deck.g D_law_deck.fn.kp D_law_deck.b .nil pass0 (pa_cons (pv 0) pa_nil)))
      (pss_cons
        (ps_set (i := 2) sc_law.nd rfl (.inl rfl) (pe_call G_law_shape (hr.mono (by omega)) (by rfl) D_law_shape.g D_law_shape.fn.kp D_law_shape.b .nil pass0 (pa_cons (pv 1) (pa_cons pe_int pa_nil))))
      (pss_cons
        (ps_set (i := 3) sc_law.nd rfl (.inl rfl) (pe_call G_law_spans (hr.mono (by omega)) (by rfl) D_law_spans.g D_law_spans.fn.kp D_law_spans.b .nil pass0 (pa_cons (pv 2) pa_nil)))
      (pss_cons
        (ps_set (i := 4) sc_law.nd rfl (.inl rfl) (pe_call G_law_lower (hr.mono (by omega)) (by rfl) D_law_lower.g D_law_lower.fn.kp D_law_lower.b .nil pass0 (pa_cons (pv 1) (pa_cons (pv 3) pa_nil))))
      (pss_cons
        (ps_set (i := 5) sc_law.nd rfl (.inl rfl) (pe_call G_table (hr.mono (by omega)) (by rfl) D_table.g D_table.fn.kp D_table.b .nil passL (pa_cons (pv 2) pa_nil)))
      (pss_cons
        (ps_if (pt_not (pt_val (pe_call G_law_is_table (hr.mono (by omega)) (by rfl) D_law_is_table.g D_law_is_table.fn.kp D_law_is_table.b .nil pass0 (pa_cons (pv 3) (pa_cons (pe_call G_law_leasts (hr.mono (by omega)) (by rfl) D_law_leasts.g D_law_leasts.fn.kp D_law_leasts.b .nil pass0 (pa_cons (pv 3) pa_nil)) (pa_cons (pv 5) pa_nil))))))
          (pss_one
            (ps_ret pe_bl))
          pss_nil)
      (pss_cons
        (ps_set (i := 6) sc_law.nd rfl (.inl rfl) (pe_ix (r := rIxT K) ix_tup (pe_call G_law_row (hr.mono (by omega)) (by rfl) D_law_row.g D_law_row.fn.kp D_law_row.b .nil pass0 (pa_cons (pv 5) (pa_cons (pe_tup (pa_cons (pe_tup pa_nil) (pa_cons (pe_tup pa_nil) pa_nil))) pa_nil))) pe_int (fun _ _ => rfl)))
      (pss_cons
        (ps_set (i := 7) sc_law.nd rfl (.inl rfl) (pe_tup (pa_cons (pe_tup pa_nil) (pa_cons (pe_tup pa_nil) pa_nil))))
      (pss_cons
        (ps_for PassesOwn.never rfl (pi_range1 (by rfl) T.n_range (pa_cons (pv 6) pa_nil)) (pg_name (i := 8) sc_law.nd rfl (.inl rfl))
          (pss_cons
            (ps_set (i := 9) sc_law.nd rfl (.inl rfl) (pe_ix (r := rIxT K) ix_tup (pe_call G_law_row (hr.mono (by omega)) (by rfl) D_law_row.g D_law_row.fn.kp D_law_row.b .nil pass0 (pa_cons (pv 5) (pa_cons (pv 7) pa_nil))) pe_int (fun _ _ => rfl)))
          (pss_one
            (ps_if (pt_cmpR o_notN (pv 9) pe_non (nomark _))
              (pss_one
                (ps_set (i := 7) sc_law.nd rfl (.inl rfl) (pe_call G_law_behind (hr.mono (by omega)) (by rfl) D_law_behind.g D_law_behind.fn.kp D_law_behind.b .nil pass0 (pa_cons (pv 3) (pa_cons (pv 7) (pa_cons (pv 9) (pa_cons (pe_cmpR (r := rIn K false) op_in_seq (pv 9) (pv 4) rfl) pa_nil)))))))
              pss_nil))))
      (pss_cons
        (ps_if (PW.pt (pw_or (pt_cmpR op_gt (pe_callB (r := rLen K) c_len (by rfl) T.n_len (by decide +kernel) (pa_cons (pe_call G_law_open (hr.mono (by omega)) (by rfl) D_law_open.g D_law_open.fn.kp D_law_open.b .nil pass0 (pa_cons (pv 3) (pa_cons (pv 7) pa_nil))) pa_nil)) pe_int (nomark _)) (pw_or1 (pt_cmpR (r := rNeD K) (op_neD hr.units) (pe_callTy (r := rListOf K) c_listOf (by rfl) T.n_list (by decide +kernel) (pa_cons (pe_ix (r := rIxT K) ix_tup (pv 7) pe_int (fun _ _ => rfl)) pa_nil)) (pv 4) (nomark _)))))
          (pss_one
            (ps_ret pe_bl))
          pss_nil)
      (pss_cons
        (ps_set (i := 10) sc_law.nd rfl (.inl rfl) (pe_call G_cover (hr.mono (by omega)) (by rfl) D_cover.g D_cover.fn.kp D_cover.b .nil pass0 (pa_cons (pv 2) pa_nil)))
      (pss_cons
        (ps_set (i := 7) sc_law.nd rfl (.inl rfl) (pe_tup (pa_cons (pe_tup pa_nil) (pa_cons (pe_tup pa_nil) pa_nil))))
      (pss_cons
        (ps_set (i := 11) sc_law.nd rfl (.inl rfl) (pe_tup pa_nil))
      (pss_cons
        (ps_for PassesOwn.never rfl (pi_range1 (by rfl) T.n_range (pa_cons pe_int pa_nil)) (pg_name (i := 8) sc_law.nd rfl (.inl rfl))
          (pss_cons
            (ps_set (i := 12) sc_law.nd rfl (.inl rfl) (pe_callN G_next_asks (hr.mono (by omega)) (by rfl) D_next_asks.g D_next_asks.kp KB_next_asks passL (pa_cons (pv 2) (pa_cons (pv 10) (pa_cons (pv 11) pa_nil))) (pk_cons pe_int pk_nil)))
          (pss_cons
            (ps_if (PW.pt (pw_or (pt_not (pt_val (pe_callB (r := rIsi K) call_isi (by rfl) T.n_isinstance (by decide +kernel) (pa_cons (pv 12) (pa_cons (pe_bltn (v := .ty "tuple") (u := .type "tuple") (by rfl) T.n_tuple (by decide +kernel) rfl) pa_nil))))) (pw_or1 (pt_cmpR op_gt (pe_callB (r := rLen K) c_len (by rfl) T.n_len (by decide +kernel) (pa_cons (pv 12) pa_nil)) pe_int (nomark _)))))
              (pss_one
                (ps_ret pe_bl))
              pss_nil)
          (pss_one
            (ps_for PassesOwn.never rfl (pi_tup (pv 12)) (pg_name (i := 9) sc_law.nd rfl (.inl rfl))
              (pss_cons
                (ps_if (PW.pt (pw_or (pt_not (pt_val (pe_call G_law_int (hr.mono (by omega)) (by rfl) D_law_int.g D_law_int.fn.kp D_law_int.b .nil pass0 (pa_cons (pv 9) pa_nil)))) (pw_or1 (pt_cmpR (r := rIn K true) op_notIn_seq (pv 9) (pe_call G_law_open (hr.mono (by omega)) (by rfl) D_law_open.g D_law_open.fn.kp D_law_open.b .nil pass0 (pa_cons (pv 3) (pa_cons (pv 7) pa_nil))) rfl))))
                  (pss_one
                    (ps_ret pe_bl))
                  pss_nil)
              (pss_cons
                (ps_set (i := 13) sc_law.nd rfl (.inl rfl) (pe_call G_law_behind (hr.mono (by omega)) (by rfl) D_law_behind.g D_law_behind.fn.kp D_law_behind.b .nil pass0 (pa_cons (pv 3) (pa_cons (pv 7) (pa_cons (pv 9) (pa_cons pe_bl pa_nil))))))
              (pss_cons
                (ps_set (i := 14) sc_law.nd rfl (.inl rfl) (pe_call G_law_behind (hr.mono (by omega)) (by rfl) D_law_behind.g D_law_behind.fn.kp D_law_behind.b .nil pass0 (pa_cons (pv 3) (pa_cons (pv 7) (pa_cons (pv 9) (pa_cons pe_bl pa_nil))))))
              (pss_cons
                (ps_set (i := 15) sc_law.nd rfl (.inl rfl) (pe_cmpR op_ge (pe_ix (r := rIxT K) ix_tup (pe_call G_law_row (hr.mono (by omega)) (by rfl) D_law_row.g D_law_row.fn.kp D_law_row.b .nil pass0 (pa_cons (pv 5) (pa_cons (pv 13) pa_nil))) pe_int (fun _ _ => rfl)) (pe_ix (r := rIxT K) ix_tup (pe_call G_law_row (hr.mono (by omega)) (by rfl) D_law_row.g D_law_row.fn.kp D_law_row.b .nil pass0 (pa_cons (pv 5) (pa_cons (pv 14) pa_nil))) pe_int (fun _ _ => rfl)) (nomark _)))
              (pss_cons
                (ps_set (i := 7) sc_law.nd rfl (.inl rfl) (pe_call G_law_behind (hr.mono (by omega)) (by rfl) D_law_behind.g D_law_behind.fn.kp D_law_behind.b .nil pass0 (pa_cons (pv 3) (pa_cons (pv 7) (pa_cons (pv 9) (pa_cons (pv 15) pa_nil))))))
              (pss_one
                (ps_set (i := 11) sc_law.nd rfl (.inl rfl) (pe_op op_catA (pv 11) (pe_tup (pa_cons (pe_tup (pa_cons (pv 9) (pa_cons (pv 15) pa_nil))) pa_nil)))))))))))))))
      (pss_cons
        (ps_set (i := 16) sc_law.nd rfl (.inl rfl) (pe_call G_most_asks (hr.mono (by omega)) (by rfl) D_most_asks.g D_most_asks.fn.kp D_most_asks.b .nil pass0 (pa_cons (pv 10) pa_nil)))
      (pss_one
        (ps_ret (pe_and (pe_cmpR op_eq (pe_callB (r := rLen K) c_len (by rfl) T.n_len (by decide +kernel) (pa_cons (pe_call G_law_open (hr.mono (by omega)) (by rfl) D_law_open.g D_law_open.fn.kp D_law_open.b .nil pass0 (pa_cons (pv 3) (pa_cons (pv 7) pa_nil))) pa_nil)) pe_int (nomark _)) (pe_and (pe_call G_law_int (hr.mono (by omega)) (by rfl) D_law_int.g D_law_int.fn.kp D_law_int.b .nil pass0 (pa_cons (pv 16) pa_nil)) (pe_and (pe_cmpR op_le (pv 6) (pe_callB (r := rLen K) c_len (by rfl) T.n_len (by decide +kernel) (pa_cons (pv 11) pa_nil)) (nomark _)) (pe_one (pe_cmpR op_le (pe_callB (r := rLen K) c_len (by rfl) T.n_len (by decide +kernel) (pa_cons (pv 11) pa_nil)) (pv 16) (nomark _)))))))))))))))))))))))
      , ?_⟩
    rw [show L2.start N_law [V.ref a0] = [some (.ref a0), none, none, none, none, none, none, none, none, none, none, none, none, none, none, none, none] from rfl]
    walk_at "x"
    refine w_deck hS0 fun H1 d c k1 hd hc D1 => ?_
    walk_at "g"
    refine ⟨d, c, _, 5, rfl, D1, by decide, by decide, fun H2 t ns ps D2 k2 hS S h5 hpl => ?_⟩
    have RO := rwB_ok S
    obtain ⟨⟨xs, ed2⟩, _⟩ := D2.at
    walk_at "g"
    refine ⟨t, ns, ps, rfl, hS, S, by omega, by omega, fun H3 R k3 hR RA => ?_⟩
    have hS3 := hS.kt (KT.of k3)
    have D3 := D2.kp (M := []) (Kp.of k3) (by simp) (by simp)
    have RHn := RA.toH S
    obtain ⟨kvs, eR, hks, _, rv0⟩ := id RA
    have rv3 : RowsV [d] H3 kvs (ps.map (·.2)) ns := fun v hv => by
      obtain ⟨b, ys, v1, v2, v3, v4⟩ := rv0 v hv
      exact ⟨b, ys, v1, v2, v3, by simpa using (ne_of_none ed2 v4).symm⟩
    obtain ⟨⟨xs3, ed3⟩, _⟩ := D3.at
    have nRd : R ≠ d := ne_of eR ed3 (fun z => nomatch z)
    walk_at "g"
    refine ⟨d, c, R, _, kvs, _, ns, rfl, D3, by decide, eR, hks, rv3, S, by omega, fun H4 l hs D4 k4 hl4 e4 hsub hdn hrise => ?_⟩
    have hS4 := hS3.kt (KT.kp k4 (by simp [ed3]))
    have eR4 := k4 _ _ (by simpa using nRd) eR
    have RH4 : RowsH H4 R ns (rwB ns (ps.map (·.2))) := by
      refine ⟨kvs, eR4, hks, fun v hv => ?_⟩
      obtain ⟨b, ys, v1, v2, v3, v4⟩ := rv3 v hv
      have v2' := k4 _ _ v4 v2
      refine ⟨b, v1, ?_⟩
      rw [v2', rise_ext ys (rwB ns (ps.map (·.2)) v) v3.rise (rwB_rise S.vr) fun x => by rw [v3.mem, mem_rwB]; exact ⟨fun h => ⟨h.mem S hv, h⟩, And.right⟩]
    walk_at "g"
    refine ⟨t, ns, ps, rfl, hS4, S, by omega, by omega, fun _ H5 r ss k5 SS few TB => ?_, fun h => by omega⟩
    walk_at "g"
    refine w_seq ?_
    walk_at "g"
    refine ⟨R, ns, _, rfl, RH4.same k5, RO, h5, fun H6 D ds k6 KV nd mem val few6 => ?_⟩
    have TB6 := TB.kt (KT.of k6)
    walk_at "g"
    refine ⟨R, D, ns, _, ds, .ref r, 1024, rfl, (RH4.same k5).same k6, RO, h5, ⟨KV, nd, mem, val, few6⟩, TB6.dat RO h5 SS few, fun H7 ss7 k7 SS7 _ => ?_, fun H7 ss7 k7 SS7 hn => ?_⟩
    rotate_left
    · rw [SS7.uniq SS] at hn
      exact absurd (TB6.right RO S.v0 SS) hn
    have s47 : Same H4 H7 := Same.trans k5 (Same.trans k6 k7)
    have TB7 := TB6.kt (KT.of k7)
    have RH7 := RH4.same s47
    have hS7 := hS4.kt (KT.of s47)
    have el7 := s47 _ _ e4
    have inS : ∀ {q : Sts}, RchT ns (rwB ns (ps.map (·.2))) ([], []) q → q ∈ ss := fun {q} h => (SS.mem q).mpr h
    have root := inS (.refl ([], []))
    walk_at "g"
    refine w_new fun u1 H8 hu1 f1 k8 => ?_
    walk_at "g"
    refine w_new fun u2 H9 hu2 f2 k9 => ?_
    walk_at "g"
    refine w_new fun u3 H10 hu3 f3 k10 => ?_
    have s710 : Same H7 H10 := Same.trans k8 (Same.trans k9 k10)
    walk_at "g"
    refine ⟨r, u3, ns, _, ss, ([], []), rfl, TB7.kt (KT.of s710), ⟨u1, u2, f3, k10 _ _ (k9 _ _ f1), k10 _ _ f2⟩, root, fun H11 p0 k11 R0 => ?_⟩
    obtain ⟨pa0, pb0, pe0, _⟩ := R0
    generalize hF : (tab ns (rwB ns (ps.map (·.2))) ([], [])).1 = F at pe0
    have hF0 : 0 ≤ F := by rw [← hF]; exact tab_nn _
    have hF5 : F ≤ 5 := by
      rw [← hF]
      have := tab_le RO 5 ([], []) (StOk.nil ns) (Nat.le_trans (List.length_filter_le _ _) h5)
      omega
    walk_at "g"
    refine w_new fun v1 H12 hv1 g1 k12 => ?_
    walk_at "g"
    refine w_new fun v2 H13 hv2 g2 k13 => ?_
    walk_at "g"
    refine w_new fun v3 H14 hv3 g3 k14 => ?_
    have s714 : Same H7 H14 := Same.trans s710 (Same.trans k11 (Same.trans k12 (Same.trans k13 k14)))
    have RH14 := RH7.same s714
    have TB14 := TB7.kt (KT.of s714)
    have el14 := s714 _ _ el7
    have hS14 := hS7.kt (KT.of s714)
    walk_at "g"
    refine lp_range (fun i σ H' => ∃ (sa : Addr) (q : Sts) (y8 y9 : Option V), σ = [some (.ref a0), some (.ref d), some (.ref t), some (.ref R), some (.ref l), some (.ref r), some (.int F), some (.ref sa), y8, y9, none, none, none, none, none, none, none] ∧ Same H14 H' ∧ QAt H' sa q ∧ RchT ns (rwB ns (ps.map (·.2))) ([], []) q ∧ Agr hs q ∧ (tab ns (rwB ns (ps.map (·.2))) q).1 ≤ F - i) ?_ ?_ ?_
    · exact ⟨v3, ([], []), _, _, rfl, fun _ _ z => z, ⟨v1, v2, g3, k14 _ _ (k13 _ _ g1), k14 _ _ g2⟩, .refl _, ⟨(fun x hx => nomatch hx), (fun x hx => nomatch hx)⟩, by rw [hF]; omega⟩
    · rintro i σ H15 hi ⟨sa, q, y8, y9, rfl, k15, QT, hr, ag, htb⟩
      have SO := hr.ok RO (StOk.nil ns)
      walk_at "g"
      refine ⟨r, sa, ns, _, ss, q, rfl, TB14.kt (KT.of k15), QT, inS hr, fun H16 p k16 R16 => ?_⟩
      have ta := tab_ask RO SO
      have QT16 := QT.kt (KT.of k16)
      have s16 : Same H14 H16 := Same.trans k15 k16
      have el16 := s16 _ _ el14
      obtain ⟨pa, pb, pe, _⟩ := R16
      cases ez : (tab ns (rwB ns (ps.map (·.2))) q).2 with
      | none =>
        rw [ez] at pe ta
        have ta' : opn ns q = [] := ta
        have pe' : H16 p = some (.tup [.ref pa, .ref pb, .int (tab ns (rwB ns (ps.map (·.2))) q).1, .non]) := pe
        clear pe
        walk_at "g"
        refine w_nyes rfl ?_
        walk_at "g"
        have t0 := tab_le RO 0 q SO (by rw [ta']; exact Nat.le_refl 0)
        exact ⟨sa, q, _, _, rfl, s16, QT16, hr, ag, by omega⟩
      | some v =>
        rw [ez] at pe ta
        obtain ⟨hv, hm⟩ := ta
        have hvn := (mem_opn.mp hv).1
        have pe' : H16 p = some (.tup [.ref pa, .ref pb, .int (tab ns (rwB ns (ps.map (·.2))) q).1, .int v]) := pe
        clear pe
        walk_at "g"
        refine w_nno (fun z => nomatch z) ?_
        walk_at "g"
        refine ⟨R, sa, ns, _, q, v, decide (v ∈ hs), rfl, RH14.same s16, RO, by omega, QT16, SO, hvn, fun H17 sb k17 Q17 => ?_⟩
        walk_at "g"
        have s17 : Same H14 H17 := Same.trans s16 k17
        by_cases hvh : v ∈ hs
        · rw [if_pos (decide_eq_true hvh)] at Q17
          exact ⟨sb, _, _, _, rfl, s17, Q17, hr.snocH hv, ag.hi hdn hvh, by omega⟩
        · rw [if_neg (by rw [decide_eq_false hvh]; exact Bool.false_ne_true)] at Q17
          exact ⟨sb, _, _, _, rfl, s17, Q17, hr.snocL hv, ag.lo hdn hvh, by omega⟩
    rintro σ H15 ⟨sa, q, y8, y9, rfl, k15, QT, hr, ag, htb⟩
    have SO := hr.ok RO (StOk.nil ns)
    have h0 := tab_zero RO SO (by omega)
    have qhs := ag.fin SO hrise hsub h0
    have RH15 := RH14.same k15
    have el15 := k15 _ _ el14
    walk_at "g"
    refine w_seq ?_
    walk_at "g"
    refine ⟨R, sa, ns, _, q, rfl, RH15, RO, by omega, QT, fun H16 Lo k16 hLo eLo => ?_⟩
    rw [h0] at eLo
    obtain ⟨qa, qb, qe, qae, qbe⟩ := QT.kt (KT.of k16)
    have el16 := k16 _ _ el15
    walk_at "g"
    refine w_no (by simp) ?_
    walk_at "g"
    refine w_listT (.of qae) fun Lq H17 hLq eLq k17 => ?_
    have el17 := k17 _ _ el16
    rw [qhs] at eLq
    walk_at "g"
    refine w_neIL eLq el17 ?_
    refine ⟨_, rfl, ?_⟩
    rw [if_neg Bool.false_ne_true]
    walk_at "g"
    have s1417 : Same H14 H17 := Same.trans k15 (Same.trans k16 k17)
    have hS17 := hS14.kt (KT.of s1417)
    refine ⟨t, ns, ps, rfl, hS17, S, by omega, by omega, fun H18 cv ca cb css aps k18 hcv ecv eca hcs hcb C0 => ?_⟩
    have C := C0.is S
    walk_at "g"
    refine w_new fun w1 H19 hw1 m1 k19 => ?_
    walk_at "g"
    refine w_new fun w2 H20 hw2 m2 k20 => ?_
    walk_at "g"
    refine w_new fun w3 H21 hw3 m3 k21 => ?_
    walk_at "g"
    refine w_new fun Aa H22 hAa eAa k22 => ?_
    have s1822 : Same H18 H22 := Same.trans k19 (Same.trans k20 (Same.trans k21 k22))
    have s1422 : Same H14 H22 := Same.trans s1417 (Same.trans k18 s1822)
    have RH22 := RH14.same s1422
    have TB22 := TB14.kt (KT.of s1422)
    have hS22 := hS14.kt (KT.of s1422)
    have ecv22 := s1822 _ _ ecv
    have eca22 := s1822 _ _ eca
    have hcs22 : ∀ x ∈ css, H22 x.1 = some (.tup (x.2.2.map V.int)) := fun x hx => s1822 _ _ (hcs x hx)
    have hlen : ∀ x ∈ css, x.2.2.length ≤ 5 := fun x hx => by
      have := nodup_le x.2.2 ns (rise_nodup (C.rise x.2 (List.mem_map_of_mem hx))) fun y hy => (C.mem y).mp (List.mem_flatten.mpr ⟨x.2.2, List.mem_map.mpr ⟨x.2, List.mem_map_of_mem hx, rfl⟩, hy⟩)
      omega
    have cssl : css.length ≤ 5 := by
      have h1 := C.al
      rw [List.length_map] at h1
      have := nodup_le _ _ (rise_nodup C.ar) C.am
      omega
    have pw : ∀ c ∈ css.map (·.2.2), c.Pairwise (fun a b => Bel (ps.map (·.2)) b a) := fun c hc => by
      obtain ⟨x, hx, rfl⟩ := List.mem_map.mp hc
      exact chain_pw (C.link x.2 (List.mem_map_of_mem hx))
    have ecs : (css.map (·.2)).map (·.2) = css.map (·.2.2) := List.map_map ..
    have cm := C.mem
    rw [ecs] at cm
    have e2s : ((css.map fun q => (q.1, q.2.2)) : List (Addr × List Int)).map (·.2) = css.map (·.2.2) := List.map_map ..
    have e1s : (((css.map fun q => (q.1, q.2.2)) : List (Addr × List Int)).map fun q => V.ref q.1) = css.map fun q => V.ref q.1 := List.map_map ..
    have l2s : ((css.map fun q => (q.1, q.2.2)) : List (Addr × List Int)).length = css.length := List.length_map ..
    have ch22 : ChsAt H22 (css.map fun q => (q.1, q.2.2)) := fun x hx => by
      obtain ⟨z, hz, rfl⟩ := List.mem_map.mp hx
      exact ⟨hcs22 z hz, Nat.le_trans (hlen z hz) (by decide)⟩
    rw [← e1s] at eca22
    generalize (css.map fun q => (q.1, q.2.2) : List (Addr × List Int)) = css2 at e2s e1s l2s ch22 eca22
    rw [← e2s] at pw cm
    generalize hmost : (css2.map fun q => bits q.2.length).sum = most
    have Ph0 : PhS (fun v => decide (v ∈ leftL (ps.map (·.2)) [] ns)) (css2.map (·.2)) ≤ most := by
      have := PhS_all (fun v => decide (v ∈ leftL (ps.map (·.2)) [] ns)) (css2.map (·.2))
      rw [List.map_map] at this
      rw [← hmost]
      exact this
    walk_at "g"
    refine lp_range (fun i σ H' => ∃ (sa Ab : Addr) (q : Sts) (an : List (Addr × Int × Bool)) (y8 y9 y12 y13 y14 y15 : Option V), σ = [some (.ref a0), some (.ref d), some (.ref t), some (.ref R), some (.ref l), some (.ref r), some (.int F), some (.ref sa), y8, y9, some (.ref cv), some (.ref Ab), y12, y13, y14, y15, none] ∧ Same H22 H' ∧ QAt H' sa q ∧ AL H' Ab an ∧ AskInv ns (ps.map (·.2)) (css2.map (·.2)) F most an q ∧ an.length ≤ i ∧ (opn ns q = [] ∨ (opn ns q).length + i ≤ 5)) ?_ ?_ ?_
    · exact ⟨w3, Aa, ([], []), [], _, _, _, _, _, _, rfl, fun _ _ z => z, ⟨w1, w2, k22 _ _ m3, k22 _ _ (k21 _ _ (k20 _ _ m1)), k22 _ _ (k21 _ _ m2)⟩, ⟨eAa, by simp⟩, ⟨Sett.nil, (fun u l hu => nomatch hu), by simp, .refl _, by rw [hF]; simp, by simpa using Ph0⟩, Nat.le_refl _, .inr (by have := List.length_filter_le (fun v => decide (v ∉ (([], []) : Sts).1 ∧ v ∉ (([], []) : Sts).2)) ns; unfold opn; omega)⟩
    · rintro i σ H23 hi ⟨sa, Ab, q, an, y8, y9, y12, y13, y14, y15, rfl, k23, QT, hA, AI, hal, hopn⟩
      have s1423 := Same.trans s1422 k23
      have ch23 : ChsAt H23 css2 := fun x hx => ⟨k23 _ _ (ch22 x hx).1, (ch22 x hx).2⟩
      walk_at "g"
      refine w_callN ?_
      walk_at "g"
      have hmid := midF_one (L := fun v => decide (v ∈ leftL (ps.map (·.2)) (an.map (·.2)) ns)) (css2.map (·.2))
      refine ⟨rfl, rfl, t, Ab, cv, ca, _, 1, ns, ps, an, css2, rfl, hS22.kt (KT.of k23), S, by omega, by omega, hA, by omega, AI.am, AI.cl, k23 _ _ ecv22, k23 _ _ eca22, ch23, by omega, fun H24 ra k24 era => ?_⟩
      have era' : H24 ra = some (.tup ((midF (fun v => decide (v ∈ leftL (ps.map (·.2)) (an.map (·.2)) ns)) 1 (css2.map (·.2))).map V.int)) := era
      have hA24 := hA.kt (KT.of k24)
      have QT24 := QT.kt (KT.of k24)
      have s24 : Same H22 H24 := Same.trans k23 k24
      have s1424 := Same.trans s1422 s24
      have RH24 := RH14.same s1424
      have TB24 := TB14.kt (KT.of s1424)
      have SO := AI.st.ok
      walk_at "g"
      refine w_seq ?_
      walk_at "g"
      rw [List.length_map]
      refine w_no (by omega) ?_
      walk_at "g"
      cases hM : midF (fun v => decide (v ∈ leftL (ps.map (·.2)) (an.map (·.2)) ns)) 1 (css2.map (·.2)) with
      | nil =>
        rw [hM] at era'
        have hz : PhS (fun v => decide (v ∈ leftL (ps.map (·.2)) (an.map (·.2)) ns)) (css2.map (·.2)) ≤ 0 := by
          by_cases g : 0 < PhS (fun v => decide (v ∈ leftL (ps.map (·.2)) (an.map (·.2)) ns)) (css2.map (·.2))
          · have := turn_ne (few := 1) (by decide) g
            rw [hM] at this
            simp at this
          · omega
        have hl0 := all_left cm hz
        have ho0 : opn ns q = [] := List.eq_nil_iff_forall_not_mem.mpr fun x hx => by
          have := AI.st.left.mpr hx
          rw [hl0] at this
          cases this
        refine lp_tup (xs := []) (fun j σ H' => σ = [some (.ref a0), some (.ref d), some (.ref t), some (.ref R), some (.ref l), some (.ref r), some (.int F), some (.ref sa), some (.int (0 + (i : Int))), y9, some (.ref cv), some (.ref Ab), some (.ref ra), y13, y14, y15, none] ∧ H' = H24) ⟨rfl, rfl⟩ ?_ ?_ ?_
        · rintro j σ H' _ ⟨_, rfl⟩
          exact .of era'
        · rintro j y σ H' hy _
          simp at hy
        · rintro σ H' ⟨rfl, rfl⟩
          exact ⟨sa, Ab, q, an, _, _, _, _, _, _, rfl, s24, QT24, hA24, AI, by omega, .inl ho0⟩
      | cons v rest =>
        have hM1 : midF (fun v => decide (v ∈ leftL (ps.map (·.2)) (an.map (·.2)) ns)) 1 (css2.map (·.2)) = [v] := by
          have := hmid
          rw [hM] at this
          have l0 : rest.length = 0 := by
            rw [List.length_cons] at this
            omega
          rw [hM, List.eq_nil_of_length_eq_zero l0]
        rw [hM1] at era'
        have era1 : H24 ra = some (.tup [V.int v]) := era'
        obtain ⟨hv, _⟩ := AI.add S pw hM1 0 _ rfl
        have hvn := (mem_opn.mp hv).1
        have hlt1 := opn_hi RO SO hv
        have hlt2 := opn_lo RO SO hv
        have l1 : 1 ≤ (opn ns q).length := List.length_pos_of_mem hv
        refine lp_tup (xs := [V.int v]) (fun j σ H' => (j = 0 → σ = [some (.ref a0), some (.ref d), some (.ref t), some (.ref R), some (.ref l), some (.ref r), some (.int F), some (.ref sa), some (.int (0 + (i : Int))), y9, some (.ref cv), some (.ref Ab), some (.ref ra), y13, y14, y15, none] ∧ H' = H24) ∧ Same H24 H' ∧ (1 ≤ j → ∃ (sb Ac : Addr) (q' : Sts) (an' : List (Addr × Int × Bool)) (y8 y9 y12 y13 y14 y15 : Option V), σ = [some (.ref a0), some (.ref d), some (.ref t), some (.ref R), some (.ref l), some (.ref r), some (.int F), some (.ref sb), y8, y9, some (.ref cv), some (.ref Ac), y12, y13, y14, y15, none] ∧ Same H22 H' ∧ QAt H' sb q' ∧ AL H' Ac an' ∧ AskInv ns (ps.map (·.2)) (css2.map (·.2)) F most an' q' ∧ an'.length ≤ i + 1 ∧ (opn ns q' = [] ∨ (opn ns q').length + (i + 1) ≤ 5))) ⟨fun _ => ⟨rfl, rfl⟩, fun _ _ z => z, fun h => by omega⟩ ?_ ?_ ?_
        · rintro j σ H' _ ⟨_, k, _⟩
          exact .of (k _ _ era1)
        · rintro j y σ H' hy ⟨h0, _, _⟩
          have hj : j = 0 := by
            have := (List.getElem?_eq_some_iff.mp hy).1
            simp at this
            omega
          subst hj
          have ey : y = .int v := by simpa using hy.symm
          subst ey
          obtain ⟨rfl, rfl⟩ := h0 rfl
          walk_at "g"
          refine w_seq ?_
          walk_at "g"
          refine ⟨.int v, "int", rfl, .int _, ?_⟩
          walk_at "g"
          refine w_itN (fun z => absurd rfl z) (fun _ => ?_)
          walk_at "g"
          refine ⟨R, sa, ns, _, q, rfl, RH24, RO, by omega, QT24, fun H25 Lo k25 _ eLo => ?_⟩
          walk_at "g"
          refine w_itN (fun z => absurd hv z) (fun _ => ?_)
          walk_at "g"
          have RH25 := RH24.same k25
          have QT25 := QT24.kt (KT.of k25)
          refine ⟨R, sa, ns, _, q, v, true, rfl, RH25, RO, by omega, QT25, SO, hvn, fun H26 sh k26 QH => ?_⟩
          rw [if_pos rfl] at QH
          walk_at "g"
          refine ⟨R, sa, ns, _, q, v, false, rfl, RH25.same k26, RO, by omega, QT25.kt (KT.of k26), SO, hvn, fun H27 sl k27 QL => ?_⟩
          rw [if_neg Bool.false_ne_true] at QL
          walk_at "g"
          have s2427 := Same.trans k25 (Same.trans k26 k27)
          refine ⟨r, sh, ns, _, ss, _, rfl, TB24.kt (KT.of s2427), QH.kt (KT.of k27), inS (AI.rch.snocH hv), fun H28 p1 k28 T1 => ?_⟩
          obtain ⟨p1a, p1b, p1e, _⟩ := T1
          walk_at "g"
          refine ⟨r, sl, ns, _, ss, _, rfl, TB24.kt (KT.of (Same.trans s2427 k28)), QL.kt (KT.of k28), inS (AI.rch.snocL hv), fun H29 p2 k29 T2 => ?_⟩
          obtain ⟨p2a, p2b, p2e, _⟩ := T2
          walk_at "g"
          have s2429 := Same.trans s2427 (Same.trans k28 k29)
          generalize htr : decide ((tab ns (rwB ns (ps.map (·.2))) (loS ns (rwB ns (ps.map (·.2))) q v)).1 ≤ (tab ns (rwB ns (ps.map (·.2))) (hiS ns (rwB ns (ps.map (·.2))) q v)).1) = tr
          refine ⟨R, sa, ns, _, q, v, tr, rfl, RH24.same s2429, RO, by omega, QT24.kt (KT.of s2429), SO, hvn, fun H30 sb k30 QB => ?_⟩
          walk_at "g"
          refine w_new fun m1 H31 hm1 n1 k31 => ?_
          walk_at "g"
          refine w_new fun m2 H32 hm2 n2 k32 => ?_
          have s2432 := Same.trans s2429 (Same.trans k30 (Same.trans k31 k32))
          have hA32 := hA24.kt (KT.of s2432)
          walk_at "g"
          refine w_catAt hA32.1 n2 (by rw [List.length_map]; simp only [List.length_cons, List.length_nil]; have := sizeLine_eq; omega) fun Ac H33 n3 k33 => ?_
          walk_at "g"
          have s2433 := Same.trans s2432 k33
          obtain ⟨_, AI'⟩ := AI.add S pw hM1 m1 tr htr.symm
          refine ⟨fun z => absurd z (by omega), s2433, fun _ => ⟨sb, Ac, _, an ++ [(m1, v, tr)], _, _, _, _, _, _, rfl, Same.trans s24 s2433, QB.kt (KT.of (Same.trans k31 (Same.trans k32 k33))), ⟨by rw [List.map_append]; exact n3, fun x hx => ?_⟩, AI', by rw [List.length_append]; simp only [List.length_cons, List.length_nil]; omega, ?_⟩⟩
          · rcases List.mem_append.mp hx with g | g
            · exact k33 _ _ (hA32.2 x g)
            · rw [List.mem_singleton.mp g]
              exact k33 _ _ (k32 _ _ n1)
          · right
            have h6 : (opn ns q).length + i ≤ 5 := by
              rcases hopn with g | g
              · rw [g] at l1
                exact absurd l1 (by simp)
              · exact g
            cases tr with
            | true => rw [if_pos rfl]; omega
            | false => rw [if_neg Bool.false_ne_true]; omega
        · rintro σ H' ⟨_, _, h1⟩
          exact h1 (by simp)
    · rintro σ H23 ⟨sa, Ab, q, an, y8, y9, y12, y13, y14, y15, rfl, k23, QT, hA, AI, hal, hopn⟩
      walk_at "g"
      have s1423 := Same.trans s1422 k23
      refine ⟨cv, ca, _, css2.map fun q => (q.1, q.2.map V.int), rfl, k23 _ _ ecv22, by rw [List.map_map]; exact k23 _ _ eca22, by rw [List.length_map]; omega, fun q hq => ?_, fun H24 k24 => ?_⟩
      · obtain ⟨z, hz, rfl⟩ := List.mem_map.mp hq
        exact k23 _ _ (ch22 z hz).1
      have em : ((css2.map fun q => (q.1, q.2.map V.int)).map fun q => bits q.2.length).sum = most := by
        rw [List.map_map, ← hmost]
        congr 1
        exact List.map_congr_left fun q _ => by simp
      rw [em]
      have s1424 := Same.trans s1423 k24
      have SO := AI.st.ok
      have ho0 : opn ns q = [] := by
        rcases hopn with g | g
        · exact g
        · exact List.eq_nil_of_length_eq_zero (by omega)
      have t0 := tab_le RO 0 q SO (by rw [ho0]; exact Nat.le_refl 0)
      have hfl := AI.fl
      have hph := AI.ph
      walk_at "g"
      refine ⟨R, sa, ns, _, q, rfl, RH14.same s1424, RO, by omega, QT.kt (KT.of k24), fun H25 Lo k25 _ eLo => ?_⟩
      rw [ho0] at eLo
      walk_at "g"
      rw [List.map_nil]
      refine w_yes (by simp) ?_
      walk_at "g"
      refine ⟨.int most, "int", rfl, .int _, _, rfl, ?_⟩
      refine w_yes rfl ?_
      walk_at "g"
      refine w_lenT (.of (hA.kt (KT.of (Same.trans k24 k25))).1) ?_
      rw [List.length_map]
      refine w_i0 ?_
      walk_at "g"
      have hfl2 : F ≤ ((an.length : Nat) : Int) := by omega
      have hph2 : ((an.length : Nat) : Int) ≤ most := by
        have := PhS_nn (fun v => decide (v ∈ leftL (ps.map (·.2)) (an.map (·.2)) ns)) (css2.map (·.2))
        omega
      refine w_yes hfl2 ?_
      walk_at "g"
      refine w_lenT (.of (hA.kt (KT.of (Same.trans k24 k25))).1) ?_
      rw [List.length_map]
      walk_at "g"
      rw [decide_eq_true hph2]
      exact qlaw H25
end
theorem all_mk {l : PySem.W.OpenLaw} {w : World} {K : PySem.W.Frag} {h : Heap} {mg : Str → Option Value} {fa f_Contrary___init__ f_spans f_no_clash f_settled f_next_asks f_most_asks f_give_way f_pair_up f_apart_of f_cover f_where_held f_where_lacking f_open_ones f_fill f_all_states f_table f_law_deck f_law_mixed f_law_draw f_law_int f_law_shape f_law_lower f_law_spans f_law_rising f_law_open f_law_behind f_law_states f_law_size f_law_leasts f_law_is_table f_law_row f_law : Addr} (X : K.In h) (G : h.Ns mainGlobals mg) (hfa : mg "law" = some (.ref fa))
    {od_Contrary___init__ an_Contrary___init__ : Option Addr} {sl_Contrary___init__ : Array (Option Value)} {oc_Contrary___init__ kV_Contrary___init__ dc_Contrary___init__ pm_Contrary___init__ cd_Contrary___init__ ct_Contrary___init__ : Value}
    (l_Contrary___init__ : K.lookup f_Contrary___init__ = some ⟨oc_Contrary___init__, od_Contrary___init__, .func (PySem.W.fnOf "__init__" "Contrary.__init__" (defArgs s_Contrary___init__) (defBody s_Contrary___init__) (defScope s_Contrary___init__) .none kV_Contrary___init__ dc_Contrary___init__ pm_Contrary___init__ an_Contrary___init__ cd_Contrary___init__ ct_Contrary___init__), sl_Contrary___init__⟩) (c_Contrary___init__ : PySem.W.codeIn K cd_Contrary___init__ "Contrary.__init__" = true) (k_Contrary___init__ : PySem.W.keepIn K (.ref f_Contrary___init__) = true)
    {od_spans an_spans : Option Addr} {sl_spans : Array (Option Value)} {oc_spans kV_spans dc_spans pm_spans cd_spans ct_spans : Value}
    (a_spans : PySem.W.nsIn K mainGlobals "spans" = some (some (.ref f_spans)))
    (l_spans : K.lookup f_spans = some ⟨oc_spans, od_spans, .func (PySem.W.fnOf "spans" "spans" (defArgs s_spans) (defBody s_spans) (defScope s_spans) .none kV_spans dc_spans pm_spans an_spans cd_spans ct_spans), sl_spans⟩) (c_spans : PySem.W.codeIn K cd_spans "spans" = true) (k_spans : PySem.W.keepIn K (.ref f_spans) = true)
    {od_no_clash an_no_clash : Option Addr} {sl_no_clash : Array (Option Value)} {oc_no_clash kV_no_clash dc_no_clash pm_no_clash cd_no_clash ct_no_clash : Value}
    (a_no_clash : PySem.W.nsIn K mainGlobals "no_clash" = some (some (.ref f_no_clash)))
    (l_no_clash : K.lookup f_no_clash = some ⟨oc_no_clash, od_no_clash, .func (PySem.W.fnOf "no_clash" "no_clash" (defArgs s_no_clash) (defBody s_no_clash) (defScope s_no_clash) .none kV_no_clash dc_no_clash pm_no_clash an_no_clash cd_no_clash ct_no_clash), sl_no_clash⟩) (c_no_clash : PySem.W.codeIn K cd_no_clash "no_clash" = true) (k_no_clash : PySem.W.keepIn K (.ref f_no_clash) = true)
    {od_settled an_settled : Option Addr} {sl_settled : Array (Option Value)} {oc_settled kV_settled dc_settled pm_settled cd_settled ct_settled : Value}
    (a_settled : PySem.W.nsIn K mainGlobals "settled" = some (some (.ref f_settled)))
    (l_settled : K.lookup f_settled = some ⟨oc_settled, od_settled, .func (PySem.W.fnOf "settled" "settled" (defArgs s_settled) (defBody s_settled) (defScope s_settled) .none kV_settled dc_settled pm_settled an_settled cd_settled ct_settled), sl_settled⟩) (c_settled : PySem.W.codeIn K cd_settled "settled" = true) (k_settled : PySem.W.keepIn K (.ref f_settled) = true)
    {od_next_asks an_next_asks : Option Addr} {sl_next_asks : Array (Option Value)} {oc_next_asks  dc_next_asks pm_next_asks cd_next_asks ct_next_asks : Value} {kd_next_asks : Addr}
    (a_next_asks : PySem.W.nsIn K mainGlobals "next_asks" = some (some (.ref f_next_asks)))
    (l_next_asks : K.lookup f_next_asks = some ⟨oc_next_asks, od_next_asks, .func (PySem.W.fnOf "next_asks" "next_asks" (defArgs s_next_asks) (defBody s_next_asks) (defScope s_next_asks) .none (.ref kd_next_asks) dc_next_asks pm_next_asks an_next_asks cd_next_asks ct_next_asks), sl_next_asks⟩) (c_next_asks : PySem.W.codeIn K cd_next_asks "next_asks" = true) (k_next_asks : PySem.W.keepIn K (.ref f_next_asks) = true)
    {tk_next_asks_few : Tok} (kw_next_asks_few : PySem.W.nsIn K kd_next_asks "few" = some (some (.int 4 tk_next_asks_few)))
    {od_most_asks an_most_asks : Option Addr} {sl_most_asks : Array (Option Value)} {oc_most_asks kV_most_asks dc_most_asks pm_most_asks cd_most_asks ct_most_asks : Value}
    (a_most_asks : PySem.W.nsIn K mainGlobals "most_asks" = some (some (.ref f_most_asks)))
    (l_most_asks : K.lookup f_most_asks = some ⟨oc_most_asks, od_most_asks, .func (PySem.W.fnOf "most_asks" "most_asks" (defArgs s_most_asks) (defBody s_most_asks) (defScope s_most_asks) .none kV_most_asks dc_most_asks pm_most_asks an_most_asks cd_most_asks ct_most_asks), sl_most_asks⟩) (c_most_asks : PySem.W.codeIn K cd_most_asks "most_asks" = true) (k_most_asks : PySem.W.keepIn K (.ref f_most_asks) = true)
    {od_give_way an_give_way : Option Addr} {sl_give_way : Array (Option Value)} {oc_give_way kV_give_way dc_give_way pm_give_way cd_give_way ct_give_way : Value}
    (a_give_way : PySem.W.nsIn K mainGlobals "give_way" = some (some (.ref f_give_way)))
    (l_give_way : K.lookup f_give_way = some ⟨oc_give_way, od_give_way, .func (PySem.W.fnOf "give_way" "give_way" (defArgs s_give_way) (defBody s_give_way) (defScope s_give_way) .none kV_give_way dc_give_way pm_give_way an_give_way cd_give_way ct_give_way), sl_give_way⟩) (c_give_way : PySem.W.codeIn K cd_give_way "give_way" = true) (k_give_way : PySem.W.keepIn K (.ref f_give_way) = true)
    {od_pair_up an_pair_up : Option Addr} {sl_pair_up : Array (Option Value)} {oc_pair_up kV_pair_up dc_pair_up pm_pair_up cd_pair_up ct_pair_up : Value}
    (a_pair_up : PySem.W.nsIn K mainGlobals "pair_up" = some (some (.ref f_pair_up)))
    (l_pair_up : K.lookup f_pair_up = some ⟨oc_pair_up, od_pair_up, .func (PySem.W.fnOf "pair_up" "pair_up" (defArgs s_pair_up) (defBody s_pair_up) (defScope s_pair_up) .none kV_pair_up dc_pair_up pm_pair_up an_pair_up cd_pair_up ct_pair_up), sl_pair_up⟩) (c_pair_up : PySem.W.codeIn K cd_pair_up "pair_up" = true) (k_pair_up : PySem.W.keepIn K (.ref f_pair_up) = true)
    {od_apart_of an_apart_of : Option Addr} {sl_apart_of : Array (Option Value)} {oc_apart_of kV_apart_of dc_apart_of pm_apart_of cd_apart_of ct_apart_of : Value}
    (a_apart_of : PySem.W.nsIn K mainGlobals "apart_of" = some (some (.ref f_apart_of)))
    (l_apart_of : K.lookup f_apart_of = some ⟨oc_apart_of, od_apart_of, .func (PySem.W.fnOf "apart_of" "apart_of" (defArgs s_apart_of) (defBody s_apart_of) (defScope s_apart_of) .none kV_apart_of dc_apart_of pm_apart_of an_apart_of cd_apart_of ct_apart_of), sl_apart_of⟩) (c_apart_of : PySem.W.codeIn K cd_apart_of "apart_of" = true) (k_apart_of : PySem.W.keepIn K (.ref f_apart_of) = true)
    {od_cover an_cover : Option Addr} {sl_cover : Array (Option Value)} {oc_cover kV_cover dc_cover pm_cover cd_cover ct_cover : Value}
    (a_cover : PySem.W.nsIn K mainGlobals "cover" = some (some (.ref f_cover)))
    (l_cover : K.lookup f_cover = some ⟨oc_cover, od_cover, .func (PySem.W.fnOf "cover" "cover" (defArgs s_cover) (defBody s_cover) (defScope s_cover) .none kV_cover dc_cover pm_cover an_cover cd_cover ct_cover), sl_cover⟩) (c_cover : PySem.W.codeIn K cd_cover "cover" = true) (k_cover : PySem.W.keepIn K (.ref f_cover) = true)
    {od_where_held an_where_held : Option Addr} {sl_where_held : Array (Option Value)} {oc_where_held kV_where_held dc_where_held pm_where_held cd_where_held ct_where_held : Value}
    (a_where_held : PySem.W.nsIn K mainGlobals "where_held" = some (some (.ref f_where_held)))
    (l_where_held : K.lookup f_where_held = some ⟨oc_where_held, od_where_held, .func (PySem.W.fnOf "where_held" "where_held" (defArgs s_where_held) (defBody s_where_held) (defScope s_where_held) .none kV_where_held dc_where_held pm_where_held an_where_held cd_where_held ct_where_held), sl_where_held⟩) (c_where_held : PySem.W.codeIn K cd_where_held "where_held" = true) (k_where_held : PySem.W.keepIn K (.ref f_where_held) = true)
    {od_where_lacking an_where_lacking : Option Addr} {sl_where_lacking : Array (Option Value)} {oc_where_lacking kV_where_lacking dc_where_lacking pm_where_lacking cd_where_lacking ct_where_lacking : Value}
    (a_where_lacking : PySem.W.nsIn K mainGlobals "where_lacking" = some (some (.ref f_where_lacking)))
    (l_where_lacking : K.lookup f_where_lacking = some ⟨oc_where_lacking, od_where_lacking, .func (PySem.W.fnOf "where_lacking" "where_lacking" (defArgs s_where_lacking) (defBody s_where_lacking) (defScope s_where_lacking) .none kV_where_lacking dc_where_lacking pm_where_lacking an_where_lacking cd_where_lacking ct_where_lacking), sl_where_lacking⟩) (c_where_lacking : PySem.W.codeIn K cd_where_lacking "where_lacking" = true) (k_where_lacking : PySem.W.keepIn K (.ref f_where_lacking) = true)
    {od_open_ones an_open_ones : Option Addr} {sl_open_ones : Array (Option Value)} {oc_open_ones kV_open_ones dc_open_ones pm_open_ones cd_open_ones ct_open_ones : Value}
    (a_open_ones : PySem.W.nsIn K mainGlobals "open_ones" = some (some (.ref f_open_ones)))
    (l_open_ones : K.lookup f_open_ones = some ⟨oc_open_ones, od_open_ones, .func (PySem.W.fnOf "open_ones" "open_ones" (defArgs s_open_ones) (defBody s_open_ones) (defScope s_open_ones) .none kV_open_ones dc_open_ones pm_open_ones an_open_ones cd_open_ones ct_open_ones), sl_open_ones⟩) (c_open_ones : PySem.W.codeIn K cd_open_ones "open_ones" = true) (k_open_ones : PySem.W.keepIn K (.ref f_open_ones) = true)
    {od_fill an_fill : Option Addr} {sl_fill : Array (Option Value)} {oc_fill kV_fill dc_fill pm_fill cd_fill ct_fill : Value}
    (a_fill : PySem.W.nsIn K mainGlobals "fill" = some (some (.ref f_fill)))
    (l_fill : K.lookup f_fill = some ⟨oc_fill, od_fill, .func (PySem.W.fnOf "fill" "fill" (defArgs s_fill) (defBody s_fill) (defScope s_fill) .none kV_fill dc_fill pm_fill an_fill cd_fill ct_fill), sl_fill⟩) (c_fill : PySem.W.codeIn K cd_fill "fill" = true) (k_fill : PySem.W.keepIn K (.ref f_fill) = true)
    {od_all_states an_all_states : Option Addr} {sl_all_states : Array (Option Value)} {oc_all_states kV_all_states dc_all_states pm_all_states cd_all_states ct_all_states : Value}
    (a_all_states : PySem.W.nsIn K mainGlobals "all_states" = some (some (.ref f_all_states)))
    (l_all_states : K.lookup f_all_states = some ⟨oc_all_states, od_all_states, .func (PySem.W.fnOf "all_states" "all_states" (defArgs s_all_states) (defBody s_all_states) (defScope s_all_states) .none kV_all_states dc_all_states pm_all_states an_all_states cd_all_states ct_all_states), sl_all_states⟩) (c_all_states : PySem.W.codeIn K cd_all_states "all_states" = true) (k_all_states : PySem.W.keepIn K (.ref f_all_states) = true)
    {od_table an_table : Option Addr} {sl_table : Array (Option Value)} {oc_table kV_table dc_table pm_table cd_table ct_table : Value}
    (a_table : PySem.W.nsIn K mainGlobals "table" = some (some (.ref f_table)))
    (l_table : K.lookup f_table = some ⟨oc_table, od_table, .func (PySem.W.fnOf "table" "table" (defArgs s_table) (defBody s_table) (defScope s_table) .none kV_table dc_table pm_table an_table cd_table ct_table), sl_table⟩) (c_table : PySem.W.codeIn K cd_table "table" = true) (k_table : PySem.W.keepIn K (.ref f_table) = true)
    {od_law_deck an_law_deck : Option Addr} {sl_law_deck : Array (Option Value)} {oc_law_deck kV_law_deck dc_law_deck pm_law_deck cd_law_deck ct_law_deck : Value}
    (a_law_deck : PySem.W.nsIn K mainGlobals "_law_deck" = some (some (.ref f_law_deck)))
    (l_law_deck : K.lookup f_law_deck = some ⟨oc_law_deck, od_law_deck, .func (PySem.W.fnOf "_law_deck" "_law_deck" (defArgs s_law_deck) (defBody s_law_deck) (defScope s_law_deck) .none kV_law_deck dc_law_deck pm_law_deck an_law_deck cd_law_deck ct_law_deck), sl_law_deck⟩) (c_law_deck : PySem.W.codeIn K cd_law_deck "_law_deck" = true) (k_law_deck : PySem.W.keepIn K (.ref f_law_deck) = true)
    {od_law_mixed an_law_mixed : Option Addr} {sl_law_mixed : Array (Option Value)} {oc_law_mixed kV_law_mixed dc_law_mixed pm_law_mixed cd_law_mixed ct_law_mixed : Value}
    (a_law_mixed : PySem.W.nsIn K mainGlobals "_law_mixed" = some (some (.ref f_law_mixed)))
    (l_law_mixed : K.lookup f_law_mixed = some ⟨oc_law_mixed, od_law_mixed, .func (PySem.W.fnOf "_law_mixed" "_law_mixed" (defArgs s_law_mixed) (defBody s_law_mixed) (defScope s_law_mixed) .none kV_law_mixed dc_law_mixed pm_law_mixed an_law_mixed cd_law_mixed ct_law_mixed), sl_law_mixed⟩) (c_law_mixed : PySem.W.codeIn K cd_law_mixed "_law_mixed" = true) (k_law_mixed : PySem.W.keepIn K (.ref f_law_mixed) = true)
    {od_law_draw an_law_draw : Option Addr} {sl_law_draw : Array (Option Value)} {oc_law_draw kV_law_draw dc_law_draw pm_law_draw cd_law_draw ct_law_draw : Value}
    (a_law_draw : PySem.W.nsIn K mainGlobals "_law_draw" = some (some (.ref f_law_draw)))
    (l_law_draw : K.lookup f_law_draw = some ⟨oc_law_draw, od_law_draw, .func (PySem.W.fnOf "_law_draw" "_law_draw" (defArgs s_law_draw) (defBody s_law_draw) (defScope s_law_draw) .none kV_law_draw dc_law_draw pm_law_draw an_law_draw cd_law_draw ct_law_draw), sl_law_draw⟩) (c_law_draw : PySem.W.codeIn K cd_law_draw "_law_draw" = true) (k_law_draw : PySem.W.keepIn K (.ref f_law_draw) = true)
    {od_law_int an_law_int : Option Addr} {sl_law_int : Array (Option Value)} {oc_law_int kV_law_int dc_law_int pm_law_int cd_law_int ct_law_int : Value}
    (a_law_int : PySem.W.nsIn K mainGlobals "_law_int" = some (some (.ref f_law_int)))
    (l_law_int : K.lookup f_law_int = some ⟨oc_law_int, od_law_int, .func (PySem.W.fnOf "_law_int" "_law_int" (defArgs s_law_int) (defBody s_law_int) (defScope s_law_int) .none kV_law_int dc_law_int pm_law_int an_law_int cd_law_int ct_law_int), sl_law_int⟩) (c_law_int : PySem.W.codeIn K cd_law_int "_law_int" = true) (k_law_int : PySem.W.keepIn K (.ref f_law_int) = true)
    {od_law_shape an_law_shape : Option Addr} {sl_law_shape : Array (Option Value)} {oc_law_shape kV_law_shape dc_law_shape pm_law_shape cd_law_shape ct_law_shape : Value}
    (a_law_shape : PySem.W.nsIn K mainGlobals "_law_shape" = some (some (.ref f_law_shape)))
    (l_law_shape : K.lookup f_law_shape = some ⟨oc_law_shape, od_law_shape, .func (PySem.W.fnOf "_law_shape" "_law_shape" (defArgs s_law_shape) (defBody s_law_shape) (defScope s_law_shape) .none kV_law_shape dc_law_shape pm_law_shape an_law_shape cd_law_shape ct_law_shape), sl_law_shape⟩) (c_law_shape : PySem.W.codeIn K cd_law_shape "_law_shape" = true) (k_law_shape : PySem.W.keepIn K (.ref f_law_shape) = true)
    {od_law_lower an_law_lower : Option Addr} {sl_law_lower : Array (Option Value)} {oc_law_lower kV_law_lower dc_law_lower pm_law_lower cd_law_lower ct_law_lower : Value}
    (a_law_lower : PySem.W.nsIn K mainGlobals "_law_lower" = some (some (.ref f_law_lower)))
    (l_law_lower : K.lookup f_law_lower = some ⟨oc_law_lower, od_law_lower, .func (PySem.W.fnOf "_law_lower" "_law_lower" (defArgs s_law_lower) (defBody s_law_lower) (defScope s_law_lower) .none kV_law_lower dc_law_lower pm_law_lower an_law_lower cd_law_lower ct_law_lower), sl_law_lower⟩) (c_law_lower : PySem.W.codeIn K cd_law_lower "_law_lower" = true) (k_law_lower : PySem.W.keepIn K (.ref f_law_lower) = true)
    {od_law_spans an_law_spans : Option Addr} {sl_law_spans : Array (Option Value)} {oc_law_spans kV_law_spans dc_law_spans pm_law_spans cd_law_spans ct_law_spans : Value}
    (a_law_spans : PySem.W.nsIn K mainGlobals "_law_spans" = some (some (.ref f_law_spans)))
    (l_law_spans : K.lookup f_law_spans = some ⟨oc_law_spans, od_law_spans, .func (PySem.W.fnOf "_law_spans" "_law_spans" (defArgs s_law_spans) (defBody s_law_spans) (defScope s_law_spans) .none kV_law_spans dc_law_spans pm_law_spans an_law_spans cd_law_spans ct_law_spans), sl_law_spans⟩) (c_law_spans : PySem.W.codeIn K cd_law_spans "_law_spans" = true) (k_law_spans : PySem.W.keepIn K (.ref f_law_spans) = true)
    {od_law_rising an_law_rising : Option Addr} {sl_law_rising : Array (Option Value)} {oc_law_rising kV_law_rising dc_law_rising pm_law_rising cd_law_rising ct_law_rising : Value}
    (a_law_rising : PySem.W.nsIn K mainGlobals "_law_rising" = some (some (.ref f_law_rising)))
    (l_law_rising : K.lookup f_law_rising = some ⟨oc_law_rising, od_law_rising, .func (PySem.W.fnOf "_law_rising" "_law_rising" (defArgs s_law_rising) (defBody s_law_rising) (defScope s_law_rising) .none kV_law_rising dc_law_rising pm_law_rising an_law_rising cd_law_rising ct_law_rising), sl_law_rising⟩) (c_law_rising : PySem.W.codeIn K cd_law_rising "_law_rising" = true) (k_law_rising : PySem.W.keepIn K (.ref f_law_rising) = true)
    {od_law_open an_law_open : Option Addr} {sl_law_open : Array (Option Value)} {oc_law_open kV_law_open dc_law_open pm_law_open cd_law_open ct_law_open : Value}
    (a_law_open : PySem.W.nsIn K mainGlobals "_law_open" = some (some (.ref f_law_open)))
    (l_law_open : K.lookup f_law_open = some ⟨oc_law_open, od_law_open, .func (PySem.W.fnOf "_law_open" "_law_open" (defArgs s_law_open) (defBody s_law_open) (defScope s_law_open) .none kV_law_open dc_law_open pm_law_open an_law_open cd_law_open ct_law_open), sl_law_open⟩) (c_law_open : PySem.W.codeIn K cd_law_open "_law_open" = true) (k_law_open : PySem.W.keepIn K (.ref f_law_open) = true)
    {od_law_behind an_law_behind : Option Addr} {sl_law_behind : Array (Option Value)} {oc_law_behind kV_law_behind dc_law_behind pm_law_behind cd_law_behind ct_law_behind : Value}
    (a_law_behind : PySem.W.nsIn K mainGlobals "_law_behind" = some (some (.ref f_law_behind)))
    (l_law_behind : K.lookup f_law_behind = some ⟨oc_law_behind, od_law_behind, .func (PySem.W.fnOf "_law_behind" "_law_behind" (defArgs s_law_behind) (defBody s_law_behind) (defScope s_law_behind) .none kV_law_behind dc_law_behind pm_law_behind an_law_behind cd_law_behind ct_law_behind), sl_law_behind⟩) (c_law_behind : PySem.W.codeIn K cd_law_behind "_law_behind" = true) (k_law_behind : PySem.W.keepIn K (.ref f_law_behind) = true)
    {od_law_states an_law_states : Option Addr} {sl_law_states : Array (Option Value)} {oc_law_states kV_law_states dc_law_states pm_law_states cd_law_states ct_law_states : Value}
    (a_law_states : PySem.W.nsIn K mainGlobals "_law_states" = some (some (.ref f_law_states)))
    (l_law_states : K.lookup f_law_states = some ⟨oc_law_states, od_law_states, .func (PySem.W.fnOf "_law_states" "_law_states" (defArgs s_law_states) (defBody s_law_states) (defScope s_law_states) .none kV_law_states dc_law_states pm_law_states an_law_states cd_law_states ct_law_states), sl_law_states⟩) (c_law_states : PySem.W.codeIn K cd_law_states "_law_states" = true) (k_law_states : PySem.W.keepIn K (.ref f_law_states) = true)
    {od_law_size an_law_size : Option Addr} {sl_law_size : Array (Option Value)} {oc_law_size kV_law_size dc_law_size pm_law_size cd_law_size ct_law_size : Value}
    (a_law_size : PySem.W.nsIn K mainGlobals "_law_size" = some (some (.ref f_law_size)))
    (l_law_size : K.lookup f_law_size = some ⟨oc_law_size, od_law_size, .func (PySem.W.fnOf "_law_size" "_law_size" (defArgs s_law_size) (defBody s_law_size) (defScope s_law_size) .none kV_law_size dc_law_size pm_law_size an_law_size cd_law_size ct_law_size), sl_law_size⟩) (c_law_size : PySem.W.codeIn K cd_law_size "_law_size" = true) (k_law_size : PySem.W.keepIn K (.ref f_law_size) = true)
    {od_law_leasts an_law_leasts : Option Addr} {sl_law_leasts : Array (Option Value)} {oc_law_leasts kV_law_leasts dc_law_leasts pm_law_leasts cd_law_leasts ct_law_leasts : Value}
    (a_law_leasts : PySem.W.nsIn K mainGlobals "_law_leasts" = some (some (.ref f_law_leasts)))
    (l_law_leasts : K.lookup f_law_leasts = some ⟨oc_law_leasts, od_law_leasts, .func (PySem.W.fnOf "_law_leasts" "_law_leasts" (defArgs s_law_leasts) (defBody s_law_leasts) (defScope s_law_leasts) .none kV_law_leasts dc_law_leasts pm_law_leasts an_law_leasts cd_law_leasts ct_law_leasts), sl_law_leasts⟩) (c_law_leasts : PySem.W.codeIn K cd_law_leasts "_law_leasts" = true) (k_law_leasts : PySem.W.keepIn K (.ref f_law_leasts) = true)
    {od_law_is_table an_law_is_table : Option Addr} {sl_law_is_table : Array (Option Value)} {oc_law_is_table kV_law_is_table dc_law_is_table pm_law_is_table cd_law_is_table ct_law_is_table : Value}
    (a_law_is_table : PySem.W.nsIn K mainGlobals "_law_is_table" = some (some (.ref f_law_is_table)))
    (l_law_is_table : K.lookup f_law_is_table = some ⟨oc_law_is_table, od_law_is_table, .func (PySem.W.fnOf "_law_is_table" "_law_is_table" (defArgs s_law_is_table) (defBody s_law_is_table) (defScope s_law_is_table) .none kV_law_is_table dc_law_is_table pm_law_is_table an_law_is_table cd_law_is_table ct_law_is_table), sl_law_is_table⟩) (c_law_is_table : PySem.W.codeIn K cd_law_is_table "_law_is_table" = true) (k_law_is_table : PySem.W.keepIn K (.ref f_law_is_table) = true)
    {od_law_row an_law_row : Option Addr} {sl_law_row : Array (Option Value)} {oc_law_row kV_law_row dc_law_row pm_law_row cd_law_row ct_law_row : Value}
    (a_law_row : PySem.W.nsIn K mainGlobals "_law_row" = some (some (.ref f_law_row)))
    (l_law_row : K.lookup f_law_row = some ⟨oc_law_row, od_law_row, .func (PySem.W.fnOf "_law_row" "_law_row" (defArgs s_law_row) (defBody s_law_row) (defScope s_law_row) .none kV_law_row dc_law_row pm_law_row an_law_row cd_law_row ct_law_row), sl_law_row⟩) (c_law_row : PySem.W.codeIn K cd_law_row "_law_row" = true) (k_law_row : PySem.W.keepIn K (.ref f_law_row) = true)
    {od_law an_law : Option Addr} {sl_law : Array (Option Value)} {oc_law kV_law dc_law pm_law cd_law ct_law : Value}
    (a_law : PySem.W.nsIn K mainGlobals "law" = some (some (.ref f_law)))
    (l_law : K.lookup f_law = some ⟨oc_law, od_law, .func (PySem.W.fnOf "law" "law" (defArgs s_law) (defBody s_law) (defScope s_law) .none kV_law dc_law pm_law an_law cd_law ct_law), sl_law⟩) (c_law : PySem.W.codeIn K cd_law "law" = true) (k_law : PySem.W.keepIn K (.ref f_law) = true)
    (z_len : PySem.W.nsIn K mainGlobals "len" = some none)
    (z_list : PySem.W.nsIn K mainGlobals "list" = some none)
    (z_isinstance : PySem.W.nsIn K mainGlobals "isinstance" = some none)
    (z_int : PySem.W.nsIn K mainGlobals "int" = some none)
    (z_bool : PySem.W.nsIn K mainGlobals "bool" = some none)
    (z_str : PySem.W.nsIn K mainGlobals "str" = some none)
    (z_tuple : PySem.W.nsIn K mainGlobals "tuple" = some none)
    (z_range : PySem.W.nsIn K mainGlobals "range" = some none)
    (z_sorted : PySem.W.nsIn K mainGlobals "sorted" = some none)
    (z_reversed : PySem.W.nsIn K mainGlobals "reversed" = some none)
    (z_any : PySem.W.nsIn K mainGlobals "any" = some none)
    (z_min : PySem.W.nsIn K mainGlobals "min" = some none)
    (z_max : PySem.W.nsIn K mainGlobals "max" = some none)
    (z_sum : PySem.W.nsIn K mainGlobals "sum" = some none)
    (z_set : PySem.W.nsIn K mainGlobals "set" = some none)
    (z_zip : PySem.W.nsIn K mainGlobals "zip" = some none)
    (z_ValueError : PySem.W.nsIn K mainGlobals "ValueError" = some none)
    {t_SMALL : Tok} (y_SMALL : PySem.W.nsIn K mainGlobals "SMALL" = some (some (.int 5 t_SMALL)))
    {t_FEW : Tok} (y_FEW : PySem.W.nsIn K mainGlobals "FEW" = some (some (.int 4 t_FEW)))
    {C_TooMany : Addr} (xa_TooMany : PySem.W.nsIn K mainGlobals "TooMany" = some (some (.ref C_TooMany))) (xx_TooMany : PySem.W.excIn K C_TooMany [.type "ValueError", .type "Exception", .type "BaseException", .type "object"] "ValueError.__new__" = true) (xk_TooMany : PySem.W.keepIn K (.ref C_TooMany) = true) (xb_TooMany : PySem.W.subIn K (.ref C_TooMany) (.type "BaseException") = some true) (xt_TooMany : PySem.W.typeIn K (.ref C_TooMany) = some (.type "type")) (xi_TooMany : PySem.W.isClsIn K C_TooMany = true) (xs_TooMany : PySem.W.subIn K (.ref C_TooMany) (.ref C_TooMany) = some true)
    {C_HouseError : Addr} (ga_HouseError : PySem.W.nsIn K mainGlobals "HouseError" = some (some (.ref C_HouseError))) (hb_HouseError : PySem.W.subIn K (.ref C_HouseError) (.type "BaseException") = some true) (hi_HouseError : PySem.W.isClsIn K C_HouseError = true) (ht_HouseError : PySem.W.typeIn K (.ref C_HouseError) = some (.type "type"))
    {C_Contrary : Addr} {nm_Contrary q_Contrary : Str} {N_Contrary : Addr} {bs_Contrary : List Value} {sn_Contrary : List Str} {sub_Contrary : List Value} {ab_Contrary : Bool} {col_Contrary : Option Bool} {dd_Contrary : Option Addr} {m0_Contrary m1_Contrary m2_Contrary m3_Contrary m5_Contrary : Option Value}
    (ga_Contrary : PySem.W.nsIn K mainGlobals "Contrary" = some (some (.ref C_Contrary))) (xl_Contrary : K.lookup C_Contrary = some (excClassObj nm_Contrary q_Contrary C_Contrary N_Contrary bs_Contrary [.ref C_HouseError, .type "ValueError", .type "Exception", .type "BaseException", .type "object"] true sn_Contrary sub_Contrary ab_Contrary col_Contrary dd_Contrary m0_Contrary m1_Contrary m2_Contrary m3_Contrary m5_Contrary "ValueError.__new__"))
    (hb_Contrary : PySem.W.subIn K (.ref C_Contrary) (.type "BaseException") = some true) (hi_Contrary : PySem.W.isClsIn K C_Contrary = true) (ht_Contrary : PySem.W.typeIn K (.ref C_Contrary) = some (.type "type")) (xk_Contrary : PySem.W.keepIn K (.ref C_Contrary) = true) (sa_Contrary : PySem.W.findIn K (.ref C_Contrary) "__setattr__" = some (some (.builtin "object.__setattr__")))
    (xg_Contrary : PySem.W.findIn K (.ref C_Contrary) "__getattribute__" = some (some (.builtin "BaseException.__getattribute__"))) (xh_Contrary : PySem.W.findIn K (.ref C_Contrary) "__getattr__" = some none) (xd_Contrary : PySem.W.hasDictIn K C_Contrary = true)
    (xo_Contrary : PySem.W.findIn K (.ref C_Contrary) "__class__" = some (some (.builtin "object.__class__"))) (xp_Contrary : PySem.W.specialIn K (.builtin "object.__class__") "__get__" = some (some (.builtin "getset_descriptor.__get__"))) (xq_Contrary : PySem.W.takesIn K (.builtin "object.__class__") = some true) (xr_Contrary : PySem.W.mroIn K C_Contrary (.type "object") = some true)
    (xi_Contrary : PySem.W.findIn K (.ref C_Contrary) "__init__" = some (some (.ref f_Contrary___init__))) (xj_Contrary : PySem.W.typeIn K (.ref f_Contrary___init__) = some (.type "function"))
    (nf_Contrary_upper : PySem.W.findIn K (.ref C_Contrary) "upper" = some none)
    (nf_Contrary_lower : PySem.W.findIn K (.ref C_Contrary) "lower" = some none)
    : ∃ fd : FuncData, (∀ (s : Shared) (v : Value), BindsTo s fd ⟨[v], []⟩ [("_law_script", v)]) ∧ ∀ base : Heap, K.In base → base.Ns mainGlobals mg → FnOk l.prog w K mg base CX0 10 fa fd ["_law_script"] (spLaw K) := by
  have e := hfa.symm.trans (PySem.W.mg_of X G a_law)
  cases e
  have F_Contrary___init__ := fun_mk (st := s_Contrary___init__) l_Contrary___init__ c_Contrary___init__ k_Contrary___init__
  have F_spans := fun_mk (st := s_spans) l_spans c_spans k_spans
  have D_spans : Df K mg "spans" s_spans ["shape"] _ _ := ⟨F_spans, F_spans.binds (ps := ["shape"]) fun _ _ _ _ _ _ us hl => match us, hl with | [_], _ => rfl, PySem.W.mg_of X G a_spans⟩
  have F_no_clash := fun_mk (st := s_no_clash) l_no_clash c_no_clash k_no_clash
  have D_no_clash : Df K mg "no_clash" s_no_clash ["rows", "answers"] _ _ := ⟨F_no_clash, F_no_clash.binds (ps := ["rows", "answers"]) fun _ _ _ _ _ _ us hl => match us, hl with | [_, _], _ => rfl, PySem.W.mg_of X G a_no_clash⟩
  have F_settled := fun_mk (st := s_settled) l_settled c_settled k_settled
  have D_settled : Df K mg "settled" s_settled ["shape", "answers"] _ _ := ⟨F_settled, F_settled.binds (ps := ["shape", "answers"]) fun _ _ _ _ _ _ us hl => match us, hl with | [_, _], _ => rfl, PySem.W.mg_of X G a_settled⟩
  have F_next_asks : FunD K "next_asks" "next_asks" (defArgs s_next_asks) (defBody s_next_asks) (defScope s_next_asks) [] [(("few" : Str), V.int 4)] f_next_asks _ := ⟨⟨_, _, _, _, _, _, _, _, _, _, rfl, l_next_asks, c_next_asks, .inl ⟨rfl, rfl⟩, .inr ⟨_, rfl, fun q hq => by
    have e : q = (("few" : Str), V.int 4) := by simpa using hq
    subst e
    exact ⟨_, kw_next_asks_few, ⟨_, rfl⟩⟩⟩⟩, k_next_asks⟩
  have D_next_asks : DfK K mg "next_asks" s_next_asks ["shape", "cover", "answers", "few"] [(("few" : Str), V.int 4)] [V.int 4] _ _ := ⟨F_next_asks, PySem.W.mg_of X G a_next_asks, k_next_asks, F_next_asks.binds0 (ps := ["shape", "cover", "answers", "few"]) 3 (by simp) rfl fun _ _ _ _ _ _ us ks hu hk => match us, ks, hu, hk with | [_, _, _], [_], _, _ => ⟨_, _, _, _, _, _, rfl, rfl, rfl⟩, by
    obtain ⟨mv, h⟩ := F_next_asks.kbinds0 (ps := ["shape", "cover", "answers", "few"]) 3 ["few"] [] (fun us _ ws => us ++ ws) (by simp) (by simp) (fun r1 _ r3 => r1.append r3) (fun _ _ _ _ _ _ us mv ws hu hm hw => match us, mv, ws, hu, hm, hw with | [_, _, _], [], [_], _, _, _ => rfl)
    exact ⟨_, h⟩⟩
  have F_most_asks := fun_mk (st := s_most_asks) l_most_asks c_most_asks k_most_asks
  have D_most_asks : Df K mg "most_asks" s_most_asks ["cover"] _ _ := ⟨F_most_asks, F_most_asks.binds (ps := ["cover"]) fun _ _ _ _ _ _ us hl => match us, hl with | [_], _ => rfl, PySem.W.mg_of X G a_most_asks⟩
  have F_give_way := fun_mk (st := s_give_way) l_give_way c_give_way k_give_way
  have D_give_way : Df K mg "give_way" s_give_way ["low", "came", "uppers", "lowers"] _ _ := ⟨F_give_way, F_give_way.binds (ps := ["low", "came", "uppers", "lowers"]) fun _ _ _ _ _ _ us hl => match us, hl with | [_, _, _, _], _ => rfl, PySem.W.mg_of X G a_give_way⟩
  have F_pair_up := fun_mk (st := s_pair_up) l_pair_up c_pair_up k_pair_up
  have D_pair_up : Df K mg "pair_up" s_pair_up ["version", "rows", "uppers", "lowers"] _ _ := ⟨F_pair_up, F_pair_up.binds (ps := ["version", "rows", "uppers", "lowers"]) fun _ _ _ _ _ _ us hl => match us, hl with | [_, _, _, _], _ => rfl, PySem.W.mg_of X G a_pair_up⟩
  have F_apart_of := fun_mk (st := s_apart_of) l_apart_of c_apart_of k_apart_of
  have D_apart_of : Df K mg "apart_of" s_apart_of ["versions", "rows", "uppers", "lowers"] _ _ := ⟨F_apart_of, F_apart_of.binds (ps := ["versions", "rows", "uppers", "lowers"]) fun _ _ _ _ _ _ us hl => match us, hl with | [_, _, _, _], _ => rfl, PySem.W.mg_of X G a_apart_of⟩
  have F_cover := fun_mk (st := s_cover) l_cover c_cover k_cover
  have D_cover : Df K mg "cover" s_cover ["shape"] _ _ := ⟨F_cover, F_cover.binds (ps := ["shape"]) fun _ _ _ _ _ _ us hl => match us, hl with | [_], _ => rfl, PySem.W.mg_of X G a_cover⟩
  have F_where_held := fun_mk (st := s_where_held) l_where_held c_where_held k_where_held
  have D_where_held : Df K mg "where_held" s_where_held ["rows", "state", "version"] _ _ := ⟨F_where_held, F_where_held.binds (ps := ["rows", "state", "version"]) fun _ _ _ _ _ _ us hl => match us, hl with | [_, _, _], _ => rfl, PySem.W.mg_of X G a_where_held⟩
  have F_where_lacking := fun_mk (st := s_where_lacking) l_where_lacking c_where_lacking k_where_lacking
  have D_where_lacking : Df K mg "where_lacking" s_where_lacking ["rows", "state", "version"] _ _ := ⟨F_where_lacking, F_where_lacking.binds (ps := ["rows", "state", "version"]) fun _ _ _ _ _ _ us hl => match us, hl with | [_, _, _], _ => rfl, PySem.W.mg_of X G a_where_lacking⟩
  have F_open_ones := fun_mk (st := s_open_ones) l_open_ones c_open_ones k_open_ones
  have D_open_ones : Df K mg "open_ones" s_open_ones ["rows", "state"] _ _ := ⟨F_open_ones, F_open_ones.binds (ps := ["rows", "state"]) fun _ _ _ _ _ _ us hl => match us, hl with | [_, _], _ => rfl, PySem.W.mg_of X G a_open_ones⟩
  have F_fill := fun_mk (st := s_fill) l_fill c_fill k_fill
  have D_fill : Df K mg "fill" s_fill ["rows", "state", "known"] _ _ := ⟨F_fill, F_fill.binds (ps := ["rows", "state", "known"]) fun _ _ _ _ _ _ us hl => match us, hl with | [_, _, _], _ => rfl, PySem.W.mg_of X G a_fill⟩
  have F_all_states := fun_mk (st := s_all_states) l_all_states c_all_states k_all_states
  have D_all_states : Df K mg "all_states" s_all_states ["shape"] _ _ := ⟨F_all_states, F_all_states.binds (ps := ["shape"]) fun _ _ _ _ _ _ us hl => match us, hl with | [_], _ => rfl, PySem.W.mg_of X G a_all_states⟩
  have F_table := fun_mk (st := s_table) l_table c_table k_table
  have D_table : Df K mg "table" s_table ["shape"] _ _ := ⟨F_table, F_table.binds (ps := ["shape"]) fun _ _ _ _ _ _ us hl => match us, hl with | [_], _ => rfl, PySem.W.mg_of X G a_table⟩
  have F_law_deck := fun_mk (st := s_law_deck) l_law_deck c_law_deck k_law_deck
  have D_law_deck : Df K mg "_law_deck" s_law_deck ["_law_script"] _ _ := ⟨F_law_deck, F_law_deck.binds (ps := ["_law_script"]) fun _ _ _ _ _ _ us hl => match us, hl with | [_], _ => rfl, PySem.W.mg_of X G a_law_deck⟩
  have F_law_mixed := fun_mk (st := s_law_mixed) l_law_mixed c_law_mixed k_law_mixed
  have D_law_mixed : Df K mg "_law_mixed" s_law_mixed ["_law_cell", "_law_turn"] _ _ := ⟨F_law_mixed, F_law_mixed.binds (ps := ["_law_cell", "_law_turn"]) fun _ _ _ _ _ _ us hl => match us, hl with | [_, _], _ => rfl, PySem.W.mg_of X G a_law_mixed⟩
  have F_law_draw := fun_mk (st := s_law_draw) l_law_draw c_law_draw k_law_draw
  have D_law_draw : Df K mg "_law_draw" s_law_draw ["_law_deck_here", "_law_many"] _ _ := ⟨F_law_draw, F_law_draw.binds (ps := ["_law_deck_here", "_law_many"]) fun _ _ _ _ _ _ us hl => match us, hl with | [_, _], _ => rfl, PySem.W.mg_of X G a_law_draw⟩
  have F_law_int := fun_mk (st := s_law_int) l_law_int c_law_int k_law_int
  have D_law_int : Df K mg "_law_int" s_law_int ["_law_thing"] _ _ := ⟨F_law_int, F_law_int.binds (ps := ["_law_thing"]) fun _ _ _ _ _ _ us hl => match us, hl with | [_], _ => rfl, PySem.W.mg_of X G a_law_int⟩
  have F_law_shape := fun_mk (st := s_law_shape) l_law_shape c_law_shape k_law_shape
  have D_law_shape : Df K mg "_law_shape" s_law_shape ["_law_deck_here", "_law_most"] _ _ := ⟨F_law_shape, F_law_shape.binds (ps := ["_law_deck_here", "_law_most"]) fun _ _ _ _ _ _ us hl => match us, hl with | [_, _], _ => rfl, PySem.W.mg_of X G a_law_shape⟩
  have F_law_lower := fun_mk (st := s_law_lower) l_law_lower c_law_lower k_law_lower
  have D_law_lower : Df K mg "_law_lower" s_law_lower ["_law_deck_here", "_law_rows"] _ _ := ⟨F_law_lower, F_law_lower.binds (ps := ["_law_deck_here", "_law_rows"]) fun _ _ _ _ _ _ us hl => match us, hl with | [_, _], _ => rfl, PySem.W.mg_of X G a_law_lower⟩
  have F_law_spans := fun_mk (st := s_law_spans) l_law_spans c_law_spans k_law_spans
  have D_law_spans : Df K mg "_law_spans" s_law_spans ["_law_web"] _ _ := ⟨F_law_spans, F_law_spans.binds (ps := ["_law_web"]) fun _ _ _ _ _ _ us hl => match us, hl with | [_], _ => rfl, PySem.W.mg_of X G a_law_spans⟩
  have F_law_rising := fun_mk (st := s_law_rising) l_law_rising c_law_rising k_law_rising
  have D_law_rising : Df K mg "_law_rising" s_law_rising ["_law_thing"] _ _ := ⟨F_law_rising, F_law_rising.binds (ps := ["_law_thing"]) fun _ _ _ _ _ _ us hl => match us, hl with | [_], _ => rfl, PySem.W.mg_of X G a_law_rising⟩
  have F_law_open := fun_mk (st := s_law_open) l_law_open c_law_open k_law_open
  have D_law_open : Df K mg "_law_open" s_law_open ["_law_rows", "_law_state"] _ _ := ⟨F_law_open, F_law_open.binds (ps := ["_law_rows", "_law_state"]) fun _ _ _ _ _ _ us hl => match us, hl with | [_, _], _ => rfl, PySem.W.mg_of X G a_law_open⟩
  have F_law_behind := fun_mk (st := s_law_behind) l_law_behind c_law_behind k_law_behind
  have D_law_behind : Df K mg "_law_behind" s_law_behind ["_law_rows", "_law_state", "_law_version", "_law_truth"] _ _ := ⟨F_law_behind, F_law_behind.binds (ps := ["_law_rows", "_law_state", "_law_version", "_law_truth"]) fun _ _ _ _ _ _ us hl => match us, hl with | [_, _, _, _], _ => rfl, PySem.W.mg_of X G a_law_behind⟩
  have F_law_states := fun_mk (st := s_law_states) l_law_states c_law_states k_law_states
  have D_law_states : Df K mg "_law_states" s_law_states ["_law_rows"] _ _ := ⟨F_law_states, F_law_states.binds (ps := ["_law_rows"]) fun _ _ _ _ _ _ us hl => match us, hl with | [_], _ => rfl, PySem.W.mg_of X G a_law_states⟩
  have F_law_size := fun_mk (st := s_law_size) l_law_size c_law_size k_law_size
  have D_law_size : Df K mg "_law_size" s_law_size ["_law_state"] _ _ := ⟨F_law_size, F_law_size.binds (ps := ["_law_state"]) fun _ _ _ _ _ _ us hl => match us, hl with | [_], _ => rfl, PySem.W.mg_of X G a_law_size⟩
  have F_law_leasts := fun_mk (st := s_law_leasts) l_law_leasts c_law_leasts k_law_leasts
  have D_law_leasts : Df K mg "_law_leasts" s_law_leasts ["_law_rows"] _ _ := ⟨F_law_leasts, F_law_leasts.binds (ps := ["_law_rows"]) fun _ _ _ _ _ _ us hl => match us, hl with | [_], _ => rfl, PySem.W.mg_of X G a_law_leasts⟩
  have F_law_is_table := fun_mk (st := s_law_is_table) l_law_is_table c_law_is_table k_law_is_table
  have D_law_is_table : Df K mg "_law_is_table" s_law_is_table ["_law_rows", "_law_leasts_here", "_law_thing"] _ _ := ⟨F_law_is_table, F_law_is_table.binds (ps := ["_law_rows", "_law_leasts_here", "_law_thing"]) fun _ _ _ _ _ _ us hl => match us, hl with | [_, _, _], _ => rfl, PySem.W.mg_of X G a_law_is_table⟩
  have F_law_row := fun_mk (st := s_law_row) l_law_row c_law_row k_law_row
  have D_law_row : Df K mg "_law_row" s_law_row ["_law_found", "_law_state"] _ _ := ⟨F_law_row, F_law_row.binds (ps := ["_law_found", "_law_state"]) fun _ _ _ _ _ _ us hl => match us, hl with | [_, _], _ => rfl, PySem.W.mg_of X G a_law_row⟩
  have F_law := fun_mk (st := s_law) l_law c_law k_law
  have D_law : Df K mg "law" s_law ["_law_script"] _ _ := ⟨F_law, F_law.binds (ps := ["_law_script"]) fun _ _ _ _ _ _ us hl => match us, hl with | [_], _ => rfl, PySem.W.mg_of X G a_law⟩
  have X_Contrary : ExnI K mg "Contrary" C_Contrary f_Contrary___init__ _ ["self", "upper", "lower"] ["upper", "lower"] := ⟨PySem.W.mg_of X G ga_Contrary, ⟨⟨_, _, _, _, _, _, _, _, _, _, _, _, _, _, _, xl_Contrary, (show PySem.HandSPX.refsVE [.type "ValueError", .type "Exception", .type "BaseException", .type "object"] = true by decide +kernel)⟩, sa_Contrary, hb_Contrary, ht_Contrary, xk_Contrary⟩, xi_Contrary, xj_Contrary, F_Contrary___init__.binds (ps := ["self", "upper", "lower"]) fun _ _ _ _ _ _ us hl => match us, hl with | [_, _, _], _ => rfl, ⟨xg_Contrary, xh_Contrary, hb_Contrary, xd_Contrary⟩, ⟨xg_Contrary, xh_Contrary, hb_Contrary, xd_Contrary, xo_Contrary, xp_Contrary, xq_Contrary, xr_Contrary⟩, fun y hy => by
    rcases (by simpa using hy : y = "upper" ∨ y = "lower") with rfl | rfl
    · exact nf_Contrary_upper
    · exact nf_Contrary_lower⟩
  have T : Txt K mg := ⟨PySem.W.mg_none_of X G z_len, PySem.W.mg_none_of X G z_list, PySem.W.mg_none_of X G z_isinstance, PySem.W.mg_none_of X G z_int, PySem.W.mg_none_of X G z_bool, PySem.W.mg_none_of X G z_str, PySem.W.mg_none_of X G z_tuple, PySem.W.mg_none_of X G z_range, PySem.W.mg_none_of X G z_sorted, PySem.W.mg_none_of X G z_reversed, PySem.W.mg_none_of X G z_any, PySem.W.mg_none_of X G z_min, PySem.W.mg_none_of X G z_max, PySem.W.mg_none_of X G z_sum, PySem.W.mg_none_of X G z_set, PySem.W.mg_none_of X G z_zip, PySem.W.mg_none_of X G z_ValueError, ⟨_, PySem.W.mg_of X G y_SMALL⟩, ⟨_, PySem.W.mg_of X G y_FEW⟩⟩
  have X_TooMany : Exn K mg "TooMany" C_TooMany := ⟨PySem.W.mg_of X G xa_TooMany, xx_TooMany, xk_TooMany, xb_TooMany, xt_TooMany, exm_is xb_TooMany xi_TooMany xt_TooMany xs_TooMany⟩
  exact ⟨PySem.W.fnOf "law" "law" (defArgs s_law) (defBody s_law) (defScope s_law) .none kV_law dc_law pm_law an_law cd_law ct_law, fun s v => .of_eq rfl, fun base _ _ => ok_law T F_Contrary___init__ D_spans D_no_clash D_settled D_next_asks D_most_asks D_give_way D_pair_up D_apart_of D_cover D_where_held D_where_lacking D_open_ones D_fill D_all_states D_table D_law_deck D_law_mixed D_law_draw D_law_int D_law_shape D_law_lower D_law_spans D_law_rising D_law_open D_law_behind D_law_states D_law_size D_law_leasts D_law_is_table D_law_row D_law X_TooMany X_Contrary (PySem.W.mg_of X G ga_HouseError)⟩
end FW
open PySem PySem.W PyProof.Rows
set_option maxRecDepth 100000 in
set_option maxHeartbeats 0 in
theorem PySem.Challenge.cw_fewasks_k28_whole_least_asks_holds : PySem.Challenge.rw_fewasks_k28_whole_least_asks.Holds := by
  w_on; o_law; k_head; (case hw => w_witness2)
  k_fill
  refine L2.walk_of (l := PySem.Challenge.rw_fewasks_k28_whole_least_asks) (n := 63) (k := 10) (x := "_law_script") (CX := fun _ => L2.CX0) (sp := fun w => FW.spLaw _) rfl (by decide) rfl ⟨rfl, by decide, by decide⟩ (fun w h Y => PySem.W.kIn_of Y) ?F (fun _ _ a ns hl _ hS => ⟨a, ns, rfl, hS, hl, fun _ => rfl⟩) (fun _ _ _ _ _ h => h)
  case F =>
    intro w mg fa h KX G hmg
    refine' FW.all_mk KX G hmg ?l_Contrary___init__ ?c_Contrary___init__ ?k_Contrary___init__ ?a_spans ?l_spans ?c_spans ?k_spans ?a_no_clash ?l_no_clash ?c_no_clash ?k_no_clash ?a_settled ?l_settled ?c_settled ?k_settled ?a_next_asks ?l_next_asks ?c_next_asks ?k_next_asks ?kw_next_asks_few ?a_most_asks ?l_most_asks ?c_most_asks ?k_most_asks ?a_give_way ?l_give_way ?c_give_way ?k_give_way ?a_pair_up ?l_pair_up ?c_pair_up ?k_pair_up ?a_apart_of ?l_apart_of ?c_apart_of ?k_apart_of ?a_cover ?l_cover ?c_cover ?k_cover ?a_where_held ?l_where_held ?c_where_held ?k_where_held ?a_where_lacking ?l_where_lacking ?c_where_lacking ?k_where_lacking ?a_open_ones ?l_open_ones ?c_open_ones ?k_open_ones ?a_fill ?l_fill ?c_fill ?k_fill ?a_all_states ?l_all_states ?c_all_states ?k_all_states ?a_table ?l_table ?c_table ?k_table ?a_law_deck ?l_law_deck ?c_law_deck ?k_law_deck ?a_law_mixed ?l_law_mixed ?c_law_mixed ?k_law_mixed ?a_law_draw ?l_law_draw ?c_law_draw ?k_law_draw ?a_law_int ?l_law_int ?c_law_int ?k_law_int ?a_law_shape ?l_law_shape ?c_law_shape ?k_law_shape ?a_law_lower ?l_law_lower ?c_law_lower ?k_law_lower ?a_law_spans ?l_law_spans ?c_law_spans ?k_law_spans ?a_law_rising ?l_law_rising ?c_law_rising ?k_law_rising ?a_law_open ?l_law_open ?c_law_open ?k_law_open ?a_law_behind ?l_law_behind ?c_law_behind ?k_law_behind ?a_law_states ?l_law_states ?c_law_states ?k_law_states ?a_law_size ?l_law_size ?c_law_size ?k_law_size ?a_law_leasts ?l_law_leasts ?c_law_leasts ?k_law_leasts ?a_law_is_table ?l_law_is_table ?c_law_is_table ?k_law_is_table ?a_law_row ?l_law_row ?c_law_row ?k_law_row ?a_law ?l_law ?c_law ?k_law ?z_len ?z_list ?z_isinstance ?z_int ?z_bool ?z_str ?z_tuple ?z_range ?z_sorted ?z_reversed ?z_any ?z_min ?z_max ?z_sum ?z_set ?z_zip ?z_ValueError ?y_SMALL ?y_FEW ?xa_TooMany ?xx_TooMany ?xk_TooMany ?xb_TooMany ?xt_TooMany ?xi_TooMany ?xs_TooMany ?ga_HouseError ?hb_HouseError ?hi_HouseError ?ht_HouseError ?ga_Contrary ?xl_Contrary ?hb_Contrary ?hi_Contrary ?ht_Contrary ?xk_Contrary ?sa_Contrary ?xg_Contrary ?xh_Contrary ?xd_Contrary ?xo_Contrary ?xp_Contrary ?xq_Contrary ?xr_Contrary ?xi_Contrary ?xj_Contrary ?nf_Contrary_upper ?nf_Contrary_lower
    (case ga_Contrary => k_is); (case xi_Contrary => k_is); (case l_Contrary___init__ => k_is); (case c_Contrary___init__ => k_is); (case k_Contrary___init__ => k_is); (case a_spans => k_is); (case l_spans => k_is); (case c_spans => k_is); (case k_spans => k_is); (case a_no_clash => k_is); (case l_no_clash => k_is); (case c_no_clash => k_is); (case k_no_clash => k_is); (case a_settled => k_is); (case l_settled => k_is); (case c_settled => k_is); (case k_settled => k_is); (case a_next_asks => k_is); (case l_next_asks => k_is); (case c_next_asks => k_is); (case k_next_asks => k_is); (case kw_next_asks_few => k_is); (case a_most_asks => k_is); (case l_most_asks => k_is); (case c_most_asks => k_is); (case k_most_asks => k_is); (case a_give_way => k_is); (case l_give_way => k_is); (case c_give_way => k_is); (case k_give_way => k_is); (case a_pair_up => k_is); (case l_pair_up => k_is); (case c_pair_up => k_is); (case k_pair_up => k_is); (case a_apart_of => k_is); (case l_apart_of => k_is); (case c_apart_of => k_is); (case k_apart_of => k_is); (case a_cover => k_is); (case l_cover => k_is); (case c_cover => k_is); (case k_cover => k_is); (case a_where_held => k_is); (case l_where_held => k_is); (case c_where_held => k_is); (case k_where_held => k_is); (case a_where_lacking => k_is); (case l_where_lacking => k_is); (case c_where_lacking => k_is); (case k_where_lacking => k_is); (case a_open_ones => k_is); (case l_open_ones => k_is); (case c_open_ones => k_is); (case k_open_ones => k_is); (case a_fill => k_is); (case l_fill => k_is); (case c_fill => k_is); (case k_fill => k_is); (case a_all_states => k_is); (case l_all_states => k_is); (case c_all_states => k_is); (case k_all_states => k_is); (case a_table => k_is); (case l_table => k_is); (case c_table => k_is); (case k_table => k_is); (case a_law_deck => k_is); (case l_law_deck => k_is); (case c_law_deck => k_is); (case k_law_deck => k_is); (case a_law_mixed => k_is); (case l_law_mixed => k_is); (case c_law_mixed => k_is); (case k_law_mixed => k_is); (case a_law_draw => k_is); (case l_law_draw => k_is); (case c_law_draw => k_is); (case k_law_draw => k_is); (case a_law_int => k_is); (case l_law_int => k_is); (case c_law_int => k_is); (case k_law_int => k_is); (case a_law_shape => k_is); (case l_law_shape => k_is); (case c_law_shape => k_is); (case k_law_shape => k_is); (case a_law_lower => k_is); (case l_law_lower => k_is); (case c_law_lower => k_is); (case k_law_lower => k_is); (case a_law_spans => k_is); (case l_law_spans => k_is); (case c_law_spans => k_is); (case k_law_spans => k_is); (case a_law_rising => k_is); (case l_law_rising => k_is); (case c_law_rising => k_is); (case k_law_rising => k_is); (case a_law_open => k_is); (case l_law_open => k_is); (case c_law_open => k_is); (case k_law_open => k_is); (case a_law_behind => k_is); (case l_law_behind => k_is); (case c_law_behind => k_is); (case k_law_behind => k_is); (case a_law_states => k_is); (case l_law_states => k_is); (case c_law_states => k_is); (case k_law_states => k_is); (case a_law_size => k_is); (case l_law_size => k_is); (case c_law_size => k_is); (case k_law_size => k_is); (case a_law_leasts => k_is); (case l_law_leasts => k_is); (case c_law_leasts => k_is); (case k_law_leasts => k_is); (case a_law_is_table => k_is); (case l_law_is_table => k_is); (case c_law_is_table => k_is); (case k_law_is_table => k_is); (case a_law_row => k_is); (case l_law_row => k_is); (case c_law_row => k_is); (case k_law_row => k_is); (case a_law => k_is); (case l_law => k_is); (case c_law => k_is); (case k_law => k_is); (case z_len => k_is); (case z_list => k_is); (case z_isinstance => k_is); (case z_int => k_is); (case z_bool => k_is); (case z_str => k_is); (case z_tuple => k_is); (case z_range => k_is); (case z_sorted => k_is); (case z_reversed => k_is); (case z_any => k_is); (case z_min => k_is); (case z_max => k_is); (case z_sum => k_is); (case z_set => k_is); (case z_zip => k_is); (case z_ValueError => k_is); (case y_SMALL => k_is); (case y_FEW => k_is); (case xa_TooMany => k_is); (case xx_TooMany => k_exc); (case xk_TooMany => k_is); (case xb_TooMany => k_is); (case xt_TooMany => k_is); (case xi_TooMany => k_is); (case xs_TooMany => k_is); (case ga_HouseError => k_is); (case hb_HouseError => k_is); (case hi_HouseError => k_is); (case ht_HouseError => k_is); (case xl_Contrary => k_is); (case hb_Contrary => k_is); (case hi_Contrary => k_is); (case ht_Contrary => k_is); (case xk_Contrary => k_is); (case sa_Contrary => k_is); (case xg_Contrary => k_is); (case xh_Contrary => k_is); (case xd_Contrary => k_is); (case xo_Contrary => k_is); (case xp_Contrary => k_is); (case xq_Contrary => k_is); (case xr_Contrary => k_is); (case xj_Contrary => k_is); (case nf_Contrary_upper => k_is); (case nf_Contrary_lower => k_is)

