import PyProof.Rows.All
import Wide.All
import OpenK.AllK
import Wide.FinOn
import PyProof.EqAt
import PyProof.EqKinds
import PyProof.TupleCall
import KE.KDictList
import KE.KDictCopyH
import HandS.ForMost
import HandS.ForExc
import HandS.IsInst
import HandS.Sort
import HandS.SortRule
import HandS.SortInts
import HandS.Deep
import HandS.ListItems
import HandS.Style
import HandS.Flow
import HandS.Wide
import HandS.More
import HandS.DictComp
import HandS.WrittenGet
import HandS.SetFor
import HandS.ExcIs
import HandS.EndBits
import HandS.Strs
import HandS.Conv
import KE.GoesMore
import HandS.Walk
import HandS.Lambda
import HandS.EndTab
import PySem.Challenge.RW_giftlist_k09_refused_deeds
set_option Elab.async false
set_option linter.all false
set_option maxRecDepth 100000
set_option maxHeartbeats 2000000
/-! own rules and the small logic of heaps -/
namespace G
open PySem PySem.Spec PyProof.Rows L2

/-! ### unions of readings -/
theorem pe_both {X : Cx} {e : Expr} {t u : TE} (h : PE X e t) (h' : PE X e u) : PE X e (fun σ H Q => t σ H Q ∨ u σ H Q) :=
  ⟨fun pins s σ H Q I q => q.elim (fun z => h.run pins s σ H Q I z) (fun z => h'.run pins s σ H Q I z)⟩
theorem ps_both {X : Cx} {e : Stmt} {t u : TS} (h : PS X e t) (h' : PS X e u) : PS X e (fun D σ H => t D σ H ∨ u D σ H) :=
  ⟨fun pins s σ H D I q => q.elim (fun z => h.run pins s σ H D I z) (fun z => h'.run pins s σ H D I z)⟩

/-! ### great products -/
def CMulG (i j : Int) : Prop := i.natAbs.log2 + j.natAbs.log2 < 60000000
theorem CMulG.ok {i j : Int} (h : CMulG i j) : IntMulOk i j := by
  have b : ∀ x : Int, Builtin.Int.intBits x ≤ x.natAbs.log2 + 1 := fun x => by
    unfold Builtin.Int.intBits
    split <;> omega
  have g1 := b i
  have g2 := b j
  have g3 : i.natAbs.log2 + j.natAbs.log2 < 60000000 := h
  have el : bitsLine = 134217728 := by decide
  unfold IntMulOk
  intro z
  rw [Bool.and_eq_true] at z
  have z3 := of_decide_eq_true (show decide _ = true from (by have z2 := z.2; unfold Builtin.Int.intTooBig at z2; exact z2))
  rw [el] at z3
  omega

section
variable {X : Cx}
theorem op_mulG : OpR X (binaryOp .Mult) (rI CMulG fun i j => .int (i * j)) := opI fun _ _ _ _ _ _ _ hc q => mul_int q hc.ok

/-! ### dicts beside the empty dict -/
theorem op_eqE (hu : X.A.units < cLine) : OpR X (compareOp .Eq) (fun x y H Q => ∃ a b ks, x = .ref a ∧ y = .ref b ∧ H a = some (.dK ks) ∧ H b = some (.dK []) ∧ Q (.bl ks.isEmpty) H) := by
  intro pins s σ H x y v u Q I rx ry h
  obtain ⟨a, b, ks, rfl, rfl, ea, eb, q⟩ := h
  obtain rfl : v = Value.ref a := rx
  obtain rfl : u = Value.ref b := ry
  obtain ⟨_, ya, va, ra, da⟩ := (show ObjOk X.prog X.w H s.heap a (.dK ks) from I.hok a _ ea)
  obtain ⟨_, yb, vb, rb, db⟩ := (show ObjOk X.prog X.w H s.heap b (.dK []) from I.hok b _ eb)
  cases rb
  have e : ks.isEmpty = va.isEmpty := by cases ra <;> rfl
  refine PySem.W.keq_eq (knd := mixKind X.prog X.w) (r := true) ya yb da db hu (fun z => ?_) (fin_bl I q (by rw [e]; cases va <;> simp))
  cases va with
  | nil => exact .nil
  | cons p r => simp at z
theorem op_neE (hu : X.A.units < cLine) : OpR X (compareOp .NotEq) (fun x y H Q => ∃ a b ks, x = .ref a ∧ y = .ref b ∧ H a = some (.dK ks) ∧ H b = some (.dK []) ∧ Q (.bl (!ks.isEmpty)) H) := by
  intro pins s σ H x y v u Q I rx ry h
  obtain ⟨a, b, ks, rfl, rfl, ea, eb, q⟩ := h
  obtain rfl : v = Value.ref a := rx
  obtain rfl : u = Value.ref b := ry
  obtain ⟨_, ya, va, ra, da⟩ := (show ObjOk X.prog X.w H s.heap a (.dK ks) from I.hok a _ ea)
  obtain ⟨_, yb, vb, rb, db⟩ := (show ObjOk X.prog X.w H s.heap b (.dK []) from I.hok b _ eb)
  cases rb
  have e : ks.isEmpty = va.isEmpty := by cases ra <;> rfl
  refine PySem.W.keq_ne (knd := mixKind X.prog X.w) (r := true) ya yb da db hu (fun z => ?_) (fin_bl I q (by rw [e]; cases va <;> simp))
  cases va with
  | nil => exact .nil
  | cons p r => simp at z
end
end G

/-! unions of rules, facts of defs -/
namespace G
open PySem PySem.Spec PyProof.Rows L2

/-! ### what stands where -/
structure FD (K : PySem.W.Frag) (mg : Str → Option Value) (x qual : Str) (st : Stmt) (ps : List Str) (f : Addr) (fd : FuncData) : Prop where
  F : Fun K x qual st f fd
  b : Binds K fd ps []
  g : mg x = some (.ref f)
  k : PySem.W.keepIn K (.ref f) = true
structure MD (K : PySem.W.Frag) (x qual : Str) (st : Stmt) (ps : List Str) (C f : Addr) (fd : FuncData) : Prop where
  F : Fun K x qual st f fd
  b : Binds K fd ps []
  m : Meth K C x f
structure XD (K : PySem.W.Frag) (mg : Str → Option Value) (x : Str) (C : Addr) : Prop where
  g : mg x = some (.ref C)
  k : PySem.W.keepIn K (.ref C) = true
  x : PySem.W.excIn K C [.type "ValueError", .type "Exception", .type "BaseException", .type "object"] "ValueError.__new__" = true
  b : PySem.W.subIn K (.ref C) (.type "BaseException") = some true
  t : PySem.W.typeIn K (.ref C) = some (.type "type")
  i : PySem.W.isClsIn K C = true

/-! ### calls -/
def tMe (C : Addr) (m : Str) (sp : Sp) (E : XK) (ta : TE) (t : TA) : TE := fun σ H Q => ta σ H fun x H1 => ∃ a dx fs, x = .ref a ∧ H1 a = some (.ins C dx fs) ∧ fs.lookup m = none ∧
  t σ H1 fun vs H2 => sp (x :: vs) H2 Q E
def tMk (C : Addr) (sp : Sp) (E : XK) (t : TA) : TE := fun σ H Q => t σ H fun vs H1 => ∀ x dx, H1 x = none → H1 dx = none → dx ≠ x →
  sp (.ref x :: vs) (upd (upd H1 dx (.own x)) x (.ins C dx [])) (fun v H2 => v = .non ∧ Q (.ref x) H2) E
theorem tMe_is {C : Addr} {m : Str} {sp : Sp} {E : XK} {ta : TE} {t : TA} : tMeth C m sp [] E ta t = tMe C m sp E ta t := by
  unfold tMeth tMe
  simp only [List.append_nil]
theorem tMk_is {C : Addr} {sp : Sp} {E : XK} {t : TA} : tMake C sp [] E t = tMk C sp E t := by
  unfold tMake tMk
  simp only [List.append_nil]
section
variable {X : Cx} {CX : CXT} {k : Nat} {f C : Addr} {fd : FuncData} {ps : List Str} {sp : Sp} {E : XK} {x m : Str} {p pos apos : Pos} {e o : Expr} {es : List Expr} {ta : TE} {t : TA}
theorem pe_me {pl : Sem Bool} (he : PE X o ta) (c : Cls X.K C) (hm : Meth X.K C m f) (F : FnOk X.prog X.w X.K X.mg X.base CX k f fd ps sp) (hr : Room k X.A) (hb : Binds X.K fd ps []) (hx : Passes CX X E) (ha : PA X (e :: es) t)
    (hst : starEach (e :: es) X.env = (false, eval e X.env) :: starEach es X.env := by rfl) (hpl : (backTo pos (starEach es X.env)).any (·.1) = false := by rfl)
    (ht : eval (.Call (.Attribute o m apos) (e :: es) [] pos) X.env = (do
      let ov ← eval o X.env
      standAt apos.atName
      let (f, first) ← holding [ov] (getMethod ov m pl)
      callWith pos f first (backTo pos (starEach (e :: es) X.env)) (backToKw pos (keywordEach [] X.env))) := by rfl) :
    PE X (.Call (.Attribute o m apos) (e :: es) [] pos) (tMe C m sp E ta t) := by
  rw [← tMe_is]
  exact pe_meth he c hm F hr hb .nil hx ha hst hpl ht
theorem pe_me0 {pl : Sem Bool} (he : PE X o ta) (c : Cls X.K C) (hm : Meth X.K C m f) (F : FnOk X.prog X.w X.K X.mg X.base CX k f fd ps sp) (hr : Room k X.A) (hb : Binds X.K fd ps []) (hx : Passes CX X E)
    (ht : eval (.Call (.Attribute o m apos) [] [] pos) X.env = (do
      let ov ← eval o X.env
      standAt apos.atName
      let (f, first) ← holding [ov] (getMethod ov m pl)
      callWith pos f first (backTo pos (starEach [] X.env)) (backToKw pos (keywordEach [] X.env))) := by rfl) :
    PE X (.Call (.Attribute o m apos) [] [] pos) (tMe C m sp E ta tNil) := by
  rw [← tMe_is]
  exact pe_meth0 he c hm F hr hb .nil hx ht
theorem pe_mk (M : Mk X.K C f) (F : FnOk X.prog X.w X.K X.mg X.base CX k f fd ps sp) (hr : Room (k + 1) X.A) (hg : Gl X x) (hm : X.mg x = some (.ref C)) (hb : Binds X.K fd ps []) (hx : Passes CX X E)
    (ha : PA X (e :: es) t) (hdb : (x == ("__debug__" : Str)) = false := by decide) (he : starEach (e :: es) X.env = (false, eval e X.env) :: starEach es X.env := by rfl) (hpl : (backTo pos (starEach es X.env)).any (·.1) = false := by rfl) :
    PE X (.Call (.Name x p) (e :: es) [] pos) (tMk C sp E t) := by
  rw [← tMk_is]
  exact pe_make M F hr hg hm hb .nil hx ha hdb he hpl
theorem pe_mk0 (M : Mk X.K C f) (F : FnOk X.prog X.w X.K X.mg X.base CX k f fd ps sp) (hr : Room (k + 1) X.A) (hg : Gl X x) (hm : X.mg x = some (.ref C)) (hb : Binds X.K fd ps []) (hx : Passes CX X E)
    (hdb : (x == ("__debug__" : Str)) = false := by decide) : PE X (.Call (.Name x p) [] [] pos) (tMk C sp E tNil) := by
  rw [← tMk_is]
  exact pe_make0 M F hr hg hm hb .nil hx hdb
end

/-! ### operators -/
section
variable {X : Cx}
def rAddU (K : PySem.W.Frag) : R2 := fun x y H Q => rI0 (fun i j => .int (i + j)) x y H Q ∨ (∃ i j, x = .str i ∧ y = .str j ∧ i.length + j.length ≤ sizeLine ∧ Q (.str (i ++ j)) H) ∨ rCat x y H Q ∨ rCatT K x y H Q
theorem op_addU : OpR X (binaryOp .Add) (rAddU X.K) := op_add.or (op_add_str.or (op_cat.or op_catT))
def rMulU : R2 := fun x y H Q => rI CMulG (fun i j => .int (i * j)) x y H Q ∨ rRep x y H Q
theorem op_mulU : OpR X (binaryOp .Mult) rMulU := op_mulG.or op_rep
def rEqU (K : PySem.W.Frag) : R2 := fun x y H Q => rEq x y H Q ∨ rEqD K x y H Q ∨ (∃ a b ks, x = .ref a ∧ y = .ref b ∧ H a = some (.dK ks) ∧ H b = some (.dK []) ∧ Q (.bl ks.isEmpty) H)
def rNeU (K : PySem.W.Frag) : R2 := fun x y H Q => rNe x y H Q ∨ rNeD K x y H Q ∨ (∃ a b ks, x = .ref a ∧ y = .ref b ∧ H a = some (.dK ks) ∧ H b = some (.dK []) ∧ Q (.bl (!ks.isEmpty)) H)
theorem op_eqU {k : Nat} (hr : Room k X.A) : OpR X (compareOp .Eq) (rEqU X.K) := op_eq.or ((op_eqD hr.units).or (op_eqE hr.units0))
theorem op_neU {k : Nat} (hr : Room k X.A) : OpR X (compareOp .NotEq) (rNeU X.K) := op_ne.or ((op_neD hr.units).or (op_neE hr.units0))
theorem op_dIn (hu : X.A.units + 1 < cLine) : OpR X (compareOp .In) (fun y x H Q => ∃ a o, x = .ref a ∧ DGet H a y o ∧ Q (.bl o.isSome) H) := by
  intro pins s σ H y x v u Q I ry rx h
  obtain ⟨a, o, rfl, g, q⟩ := h
  obtain rfl : u = Value.ref a := rx
  exact d_in hu I g ry fun s3 I3 => ⟨.bl o.isSome, H, I3, rfl, q⟩
theorem op_dNotIn (hu : X.A.units + 1 < cLine) : OpR X (compareOp .NotIn) (fun y x H Q => ∃ a o, x = .ref a ∧ DGet H a y o ∧ Q (.bl (!o.isSome)) H) := by
  intro pins s σ H y x v u Q I ry rx h
  obtain ⟨a, o, rfl, g, q⟩ := h
  obtain rfl : u = Value.ref a := rx
  exact d_notIn hu I g ry fun s3 I3 => ⟨.bl (!o.isSome), H, I3, rfl, q⟩
def rInU (K : PySem.W.Frag) : R2 := fun x y H Q => rIn K false x y H Q ∨ (∃ a o, y = .ref a ∧ DGet H a x o ∧ Q (.bl o.isSome) H) ∨ rInD K x y H Q ∨ (∃ (c : Nat) (z : Str), x = .str ⟨#[c]⟩ ∧ y = .str z ∧ Q (.bl (decide (c ∈ z.cps.toList))) H)
def rNinU (K : PySem.W.Frag) : R2 := fun x y H Q => rIn K true x y H Q ∨ (∃ a o, y = .ref a ∧ DGet H a x o ∧ Q (.bl (!o.isSome)) H) ∨ rNotInD K x y H Q ∨ (∃ (c : Nat) (z : Str), x = .str ⟨#[c]⟩ ∧ y = .str z ∧ Q (.bl (!decide (c ∈ z.cps.toList))) H)
theorem op_inU {k : Nat} (hr : Room k X.A) : OpR X (compareOp .In) (rInU X.K) := op_in_seq.or ((op_dIn (hu_of hr)).or ((op_inD (by have := hr.un; omega)).or op_in_sign))
theorem op_ninU {k : Nat} (hr : Room k X.A) : OpR X (compareOp .NotIn) (rNinU X.K) := op_notIn_seq.or ((op_dNotIn (hu_of hr)).or ((op_notInD (by have := hr.un; omega)).or op_notIn_sign))

/-! ### subscripts -/
theorem ix_dict (hu : X.A.units + 1 < cLine) : IxR X (fun x y H Q => ∃ a v, x = .ref a ∧ DGet H a y (some v) ∧ Q v H) := by
  intro value slice pins s σ H x y v u Q I rx ry h hs
  obtain ⟨a, w, rfl, g, q⟩ := h
  obtain rfl : v = Value.ref a := rx
  exact tail_any (dict_typeIs I g) PySem.F.slot_dict_getitem.lookup (d_getItem hu I g ry fun w' s3 I3 rw' => ⟨w, H, I3, rw', q⟩) hs
def rIxU (K : PySem.W.Frag) : R2 := fun x y H Q => rIxL K x y H Q ∨ rIxT K x y H Q ∨ (∃ a v, x = .ref a ∧ DGet H a y (some v) ∧ Q v H) ∨ rIxS x y H Q
theorem ix_U (hu : X.A.units + 1 < cLine) : IxR X (rIxU X.K) := ix_list.or (ix_tup.or ((ix_dict hu).or ix_str))
theorem set_dict (hu : X.A.units + 1 < cLine) : PSet X (fun o i v H Q => ∃ a H', o = .ref a ∧ DPut H a i v H' ∧ Q H') := by
  intro pins s σ H o i v ov iv u Q I ro ri rv h
  obtain ⟨a, H', rfl, g, q⟩ := h
  obtain rfl : ov = Value.ref a := ro
  exact d_setItem hu I g ri rv fun s4 I4 => ⟨H', I4, q⟩
def rSetU : TSet := fun o i v H Q => rSetL o i v H Q ∨ (∃ a H', o = .ref a ∧ DPut H a i v H' ∧ Q H')
theorem set_U (hu : X.A.units + 1 < cLine) : PSet X rSetU := by
  intro pins s σ H o i v ov iv u Q I ro ri rv h
  rcases h with h | h
  · exact set_list pins s σ H o i v ov iv u Q I ro ri rv h
  · exact set_dict hu pins s σ H o i v ov iv u Q I ro ri rv h
def rSlU (K : PySem.W.Frag) : V → Option Int → Option Int → Hp → VK → Prop := fun x lo hi H Q => rSlL K x lo hi H Q ∨ rSlT K x lo hi H Q
theorem sl_U : SlR X (rSlU X.K) := sl_list.or sl_tup
end
end G

/-! more rules -/
namespace G
open PySem PySem.Spec PyProof.Rows L2
section
variable {X : Cx}
/-! list(d.values()) -/
def rValsL : V → Hp → VK → Prop := fun x H Q => ∃ (d : Addr) (kvs : List (Key × V)), x = .ref d ∧ H d = some (.dK kvs) ∧ ∀ p, H p = none → Q (.ref p) (upd H p (.lst (kvs.map (·.2))))
def tListVals (te : TE) : TE := fun σ H Q => te σ H fun x H1 => rValsL x H1 Q
theorem kv_vals : ∀ {kvs : List (Key × V)} {vs : List (Key × Value)}, KV kvs vs → Vals (kvs.map (·.2)) (vs.map (·.2))
  | _, _, .nil => .nil
  | _, _, .cons r t => .cons r.2 (kv_vals t)
theorem pe_listValues {e : Expr} {te : TE} {p apos cpos pos : Pos} (hc : X.calm = true) (he : PE X e te) (hg : Gl X "list") (hm : X.mg "list" = none) (hv : bootBuiltins "list" = some (.type "list")) (hbase : attributeBase e "values" X.env (eval e X.env) = eval e X.env := by rfl) (hline : (apos.endLine == cpos.line) = true := by rfl)
    (hs : starEach [.Call (.Attribute e "values" apos) [] [] cpos] X.env = (false, eval (.Call (.Attribute e "values" apos) [] [] cpos) X.env) :: starEach [] X.env := by rfl) :
    PE X (.Call (.Name "list" p) [.Call (.Attribute e "values" apos) [] [] cpos] [] pos) (tListVals te) := by
  refine ⟨fun pins s σ H Q I hq => ?_⟩
  refine wpAny_Call_Name_kw (ld_blt I hg hm hv ?_)
  refine PyProof.Rows.callWith_type1 ?_ hs rfl
  rw [hs]
  show wpAny _ _ (spliced ((false, eval (.Call (.Attribute e "values" apos) [] [] cpos) X.env) :: backTo pos (starEach [] X.env))) _ _ s
  refine Calls.spliced_cons ?_
  refine wpAny_Call_method (T := "dict") (id := "dict.values") hbase rfl hline F.plainAttrs_dict F.slot_dict_values F.type_dict_values (thn (he.run pins s σ H _ I hq) fun u s1 ⟨x, H1, I1, rx, d, kvs, ex, hd, q⟩ => ?_)
  subst ex
  obtain rfl : u = Value.ref d := rx
  obtain ⟨hz, hs0, vs, kv, hdo⟩ := dk_of I1.hok hd
  obtain ⟨ep, hat⟩ := hdo.dictAt
  have lk : kvs.length = vs.length := Paired.length kv
  have I2 : Inv X pins σ H1 { s1 with heap := s1.heap.push { cls := .type "dict_values", data := .fields #[.ref d] } } := I1.kept (t' := s1.toks) fun b ob q => Heap.get?_push_of_some _ q
  refine ⟨hdo.typeIs, hdo.mapOf.noDict, ?_⟩
  show wpAny _ _ (callWith cpos (.builtin "dict.values") [.ref d] [] []) _ X.xe s1
  refine method_meetsIn F.slot_dict_values F.entry_dict_values rfl (PySem.evalArgs_none ⟨rfl, hdo.typeIs, F.args_dict_values_1 _, _, meets_dict_values (mixKind X.prog X.w) d hs0, ⟨vs, hdo⟩, ?_⟩)
  refine Calls.spliced_nil ?_
  refine PySem.W.kdl_call (PySem.W.kdl_values (knd := mixKind X.prog X.w) (r := s1.heap.objs.size) (d := d) (kvs := vs) (ep := ep)) (I1.ok.hd hc) ⟨⟨_, Heap.get?_push_size _ rfl, rfl, rfl⟩, hat.push _⟩ (by rw [← lk]; exact hz) fun h' tk acc c' hk hD hacc => ?_
  have ea : acc.toList = vs.map (·.2) := by
    refine List.ext_getElem? fun j => ?_
    rw [List.getElem?_map, Array.getElem?_toList]
    cases e1 : acc[j]? with
    | some v =>
      obtain ⟨k, e2⟩ := hacc.2 j v e1
      rw [e2]
      rfl
    | none =>
      have l1 : acc.size ≤ j := Array.getElem?_eq_none_iff.mp e1
      have l2 : vs[j]? = none := List.getElem?_eq_none_iff.mpr (by have := hacc.1; omega)
      rw [l2]
      rfl
  refine ⟨.ref _, upd H1 _ (.lst (kvs.map (·.2))), I2.laid (t' := tk) hk (Nat.le_refl _) (show ObjOk X.prog X.w _ _ _ (.lst (kvs.map (·.2))) from ⟨by rw [List.length_map]; exact hz, acc.toList, c', by rw [ea]; exact kv_vals kv, by rw [Array.toArray_toList]; exact hD⟩), rfl, q _ (I2.hok.fresh (Nat.le_refl _))⟩

/-! list(d.items()), from the kit's -/
theorem pe_listItems {e : Expr} {te : TE} {p apos cpos pos : Pos} (hc : X.calm = true) (he : PE X e te) (hg : Gl X "list") (hm : X.mg "list" = none) (hv : bootBuiltins "list" = some (.type "list")) (hbase : attributeBase e "items" X.env (eval e X.env) = eval e X.env := by rfl) (hline : (apos.endLine == cpos.line) = true := by rfl)
    (hs : starEach [.Call (.Attribute e "items" apos) [] [] cpos] X.env = (false, eval (.Call (.Attribute e "items" apos) [] [] cpos) X.env) :: starEach [] X.env := by rfl) :
    PE X (.Call (.Name "list" p) [.Call (.Attribute e "items" apos) [] [] cpos] [] pos) (LiI.tListItems te) := LiI.pe_listItems hc he hg hm hv hbase hline hs

/-! d.update(e) -/
def rUpdD : V → List V → Hp → VK → Prop := fun x vs H Q => ∃ d b kvs more, x = .ref d ∧ vs = [.ref b] ∧ H d = some (.dK kvs) ∧ H b = some (.dK more) ∧ d ≠ b ∧ kvs.length + more.length ≤ sizeLine ∧ Q .non (upd H d (.dK (mergeK kvs more)))
theorem mt_updateD : MtR X "dict.update" rUpdD := by
  intro pins s σ H x xs v us Q I rx rs h
  obtain ⟨d, b, kvs, more, rfl, rfl, hd, hb, hne, hz, q⟩ := h
  obtain rfl : v = Value.ref d := rx
  obtain ⟨u, rfl, ru⟩ := Vals.one rs
  obtain rfl : u = Value.ref b := ru
  obtain ⟨z1, lo1, va, ra, da⟩ := dk_of I.hok hd
  obtain ⟨z2, lo2, vb, rb, db⟩ := dk_of I.hok hb
  have l1 := ra.length
  have l2 := rb.length
  refine call_meetsIn PySem.F.slot_dict_update da.typeIs PySem.F.entry_dict_update (PySem.F.args_dict_update_2 _ _) (meets_dict_update (mixKind X.prog X.w) d b hne lo2) ⟨va, vb, da, db, (by omega), fun h' dd _ hs => ?_⟩
  have he : ∃ q, h'.get? d = some q := let ⟨q, _, _, hq, _⟩ := dd; ⟨q, hq⟩
  have hl := length_mergeK more kvs
  exact ⟨.non, _, d_write (t' := s.toks) I (by rw [hd]; exact True.intro) hs he (dk_new (by omega) lo1 (rb.merge ra) dd), rfl, q⟩

/-! len of anything -/
def rLenU (K : PySem.W.Frag) : List V → Hp → VK → Prop := fun xs H Q => (∃ p ys, xs = [.ref p] ∧ (SqL K H p ys ∨ SqT K H p ys) ∧ Q (.int ys.length) H) ∨ (∃ z, xs = [.str z] ∧ z.length ≤ sizeLine ∧ Q (.int z.length) H) ∨ (∃ a kvs, xs = [V.ref a] ∧ H a = some (.dK kvs) ∧ Q (.int kvs.length) H)
theorem call_lenU : CallR X (.builtin "len") (rLenU X.K) := call_len_seq.or (call_len_str.or call_lenD)
theorem call_max1 (hc : X.calm = true) : CallR X (.builtin "max") (rMax X.K) := cr_max hc
theorem call_min1 (hc : X.calm = true) : CallR X (.builtin "min") (rMin X.K) := cr_min hc

/-! sorted -/
def rSrtD : List V → Hp → VK → Prop := fun xs H Q => ∃ (a : Addr) (kvs : List (Key × V)) (ks : List Int), xs = [.ref a] ∧ Rd H a (.dK kvs) ∧ kvs.map (·.1) = ks.map Sum.inl ∧ ks.length < 64 ∧
    ∀ (ys : List Int) (p : Addr), ys.Perm ks → ys.Pairwise (· ≤ ·) → H p = none → Q (.ref p) (upd H p (.lst (ys.map V.int)))
def rSrtU (K : PySem.W.Frag) : List V → Hp → VK → Prop := fun xs H Q => rSrtD xs H Q ∨ rSortedPO K xs H Q ∨ rSortedI K xs H Q
theorem call_sortedU (hc : X.calm = true) : CallR X (.builtin "sorted") (rSrtU X.K) := (call_sortedDI hc).or (cr_sortedPO.or cr_sortedI)

/-! walks of lists or tuples -/
def iSeq (K : PySem.W.Frag) (tl : TE) : TI := fun σ H R => tl σ H fun x H1 => (∃ a, x = .ref a ∧ (∃ xs, SqL K H1 a xs) ∧ R (Itl K a) H1) ∨ (∃ a, x = .ref a ∧ (∃ xs, SqT K H1 a xs) ∧ R (Itt K a) H1)
theorem pi_seq {tg l : Expr} {tl : TE} (hl : PE X l tl) : PI X tg l (iSeq X.K tl) := by
  refine ⟨fun pins s σ H R I h => ?_⟩
  refine thn (hl.run pins s σ H _ I h) fun v s1 ⟨x, H1, I1, r1, q1⟩ => ?_
  have fp : ∀ b ∈ [s1.heap.objs.size], FpOk X pins H1 b := fun b hb => by
    have e : b = s1.heap.objs.size := by simpa using hb
    subst e
    exact I1.fpOk (Nat.le_refl _) (I1.hok.fresh (Nat.le_refl _))
  rcases q1 with ⟨a, rfl, ⟨xs, hq⟩, q⟩ | ⟨a, rfl, ⟨xs, hq⟩, q⟩
  · cases r1
    obtain ⟨its, rv, p, hz⟩ := I1.list hq
    exact wpAny_pyIter_list p.isList ⟨s1.heap.objs.size, [s1.heap.objs.size], _, _, H1, rfl, I1.kept (t' := s1.toks) fun b o e => Heap.get?_push_of_some _ e, turn_list a _, ⟨_, Heap.get?_push_size _ rfl, rfl, rfl⟩, fp, q⟩
  · cases r1
    obtain ⟨its, rv, p, hz⟩ := I1.tuple hq
    exact wpAny_pyIter_tuple (show s1.heap.IsTuple a its.toArray from p) ⟨s1.heap.objs.size, [s1.heap.objs.size], _, _, H1, rfl, I1.kept (t' := s1.toks) fun b o e => Heap.get?_push_of_some _ e, turn_tuple a _, ⟨_, Heap.get?_push_size _ rfl, rfl, rfl⟩, fp, q⟩
/-! xs[i] op= e, a list -/
def rGetL : V → V → Hp → VK → Prop := fun x y H Q => ∃ p xs i v, x = .ref p ∧ y = .int i ∧ H p = some (.lst xs) ∧ 0 ≤ i ∧ atI xs i = some v ∧ Q v H
end
end G

/-! a small logic of heaps: D stands still (data), Ms what may change (chunks of cells) -/
namespace G
open PySem PySem.Spec PyProof.Rows L2
abbrev Cell := Addr × HO
structure Ok (H D : Hp) (Ms : List (List Cell)) : Prop where
  sub : Same D H
  has : ∀ M ∈ Ms, ∀ c ∈ M, H c.1 = some c.2
  off : ∀ M ∈ Ms, ∀ c ∈ M, D c.1 = none
  nd : (Ms.flatten.map (·.1)).Nodup
inductive Pk {α : Type} : List α → α → List α → Prop
  | here {C R} : Pk (C :: R) C R
  | there {X Ms C R} : Pk Ms C R → Pk (X :: Ms) C (X :: R)
theorem Pk.perm {α : Type} {Ms R : List α} {C : α} (h : Pk Ms C R) : Ms.Perm (C :: R) := by
  induction h with
  | here => exact .refl _
  | there _ ih => exact (ih.cons _).trans (.swap _ _ _)
theorem Pk.mem {α : Type} {Ms R : List α} {C : α} (h : Pk Ms C R) : C ∈ Ms := h.perm.symm.subset List.mem_cons_self

section
variable {H D : Hp} {Ms Ns R : List (List Cell)} {C : List Cell} {a p : Addr} {o o' : HO}
theorem Ok.re (h : Ok H D Ms) (e : Ms.flatten.Perm Ns.flatten) : Ok H D Ns := by
  have m : ∀ c, c ∈ Ns.flatten → ∃ M ∈ Ms, c ∈ M := fun c hc => List.mem_flatten.mp (e.symm.subset hc)
  refine ⟨h.sub, fun M hM c hc => ?_, fun M hM c hc => ?_, (e.map (·.1)).nodup_iff.mp h.nd⟩
  · obtain ⟨N, hN, hcN⟩ := m c (List.mem_flatten.mpr ⟨M, hM, hc⟩)
    exact h.has N hN c hcN
  · obtain ⟨N, hN, hcN⟩ := m c (List.mem_flatten.mpr ⟨M, hM, hc⟩)
    exact h.off N hN c hcN
theorem Ok.pk (h : Ok H D Ms) (k : Pk Ms C R) : Ok H D (C :: R) := h.re k.perm.flatten
theorem Ok.at1 (h : Ok H D Ms) (m : [(a, o)] ∈ Ms) : H a = some o := h.has _ m _ (.head _)
theorem Ok.atC (h : Ok H D Ms) (m : C ∈ Ms) (c : (a, o) ∈ C) : H a = some o := h.has _ m _ c
theorem Ok.dat (h : Ok H D Ms) (e : D a = some o) : H a = some o := h.sub _ _ e
theorem Ok.sqL {K : PySem.W.Frag} {xs : List V} (h : Ok H D Ms) (e : SqL K D a xs) : SqL K H a xs := h.sub.seq e
theorem Ok.sqT {K : PySem.W.Frag} {xs : List V} (h : Ok H D Ms) (e : SqT K D a xs) : SqT K H a xs := by
  rcases e with (e | ⟨o, e⟩) | e
  · exact .inl (.inl (h.sub _ _ e))
  · exact .inl (.inr ⟨o, h.sub _ _ e⟩)
  · exact .inr e
/-- a new object, that may change -/
theorem Ok.new (h : Ok H D Ms) (n : H p = none) : Ok (upd H p o) D ([(p, o)] :: Ms) := by
  have nD : D p = none := h.sub.free n
  refine ⟨fun b u e => ?_, fun M hM c hc => ?_, fun M hM c hc => ?_, ?_⟩
  · rw [upd_ne (ne_of_none (h.sub _ _ e) n)]
    exact h.sub _ _ e
  · rcases List.mem_cons.mp hM with rfl | hM
    · rw [List.mem_singleton.mp hc]
      exact upd_same
    · have e := h.has M hM c hc
      rw [upd_ne (ne_of_none e n)]
      exact e
  · rcases List.mem_cons.mp hM with rfl | hM
    · rw [List.mem_singleton.mp hc]
      exact nD
    · exact h.off M hM c hc
  · show (p :: (Ms.flatten.map (·.1))).Nodup
    refine List.nodup_cons.mpr ⟨fun z => ?_, h.nd⟩
    obtain ⟨c, hc, rfl⟩ := List.mem_map.mp z
    obtain ⟨M, hM, hcM⟩ := List.mem_flatten.mp hc
    have e := h.has M hM c hcM
    rw [n] at e
    cases e
/-- a new object that nobody asks for -/
theorem Ok.skip (h : Ok H D Ms) (n : H p = none) : Ok (upd H p o) D Ms :=
  let q := h.new (o := o) n
  ⟨q.sub, fun M hM => q.has M (.tail _ hM), fun M hM => q.off M (.tail _ hM), (List.nodup_cons.mp (show (p :: (Ms.flatten.map (·.1))).Nodup from q.nd)).2⟩
theorem Ok.drop (h : Ok H D (C :: R)) : Ok H D R :=
  ⟨h.sub, fun M hM => h.has M (.tail _ hM), fun M hM => h.off M (.tail _ hM), by
    have q := h.nd
    rw [List.flatten_cons, List.map_append] at q
    exact (List.nodup_append.mp q).2.1⟩
/-- a cell is changed -/
theorem Ok.wr (h : Ok H D ([(p, o)] :: R)) : Ok (upd H p o') D ([(p, o')] :: R) := by
  have nd : (p :: (R.flatten.map (·.1))).Nodup := h.nd
  have hp : ∀ M ∈ R, ∀ c ∈ M, c.1 ≠ p := fun M hM c hc z => (List.nodup_cons.mp nd).1 (List.mem_map.mpr ⟨c, List.mem_flatten.mpr ⟨M, hM, hc⟩, z⟩)
  have nD : D p = none := h.off _ (.head _) _ (.head _)
  refine ⟨fun b u e => ?_, fun M hM c hc => ?_, fun M hM c hc => ?_, nd⟩
  · rw [upd_ne (ne_of_none e nD)]
    exact h.sub _ _ e
  · rcases List.mem_cons.mp hM with rfl | hM
    · rw [List.mem_singleton.mp hc]
      exact upd_same
    · rw [upd_ne (hp M hM c hc)]
      exact h.has M (.tail _ hM) c hc
  · rcases List.mem_cons.mp hM with rfl | hM
    · rw [List.mem_singleton.mp hc]
      exact nD
    · exact h.off M (.tail _ hM) c hc
/-- a cell is locked and freed: seen from outside nothing happens -/
theorem Ok.wrAt (h : Ok H D Ms) (k : Pk Ms [(p, o)] R) : Ok (upd H p o') D ([(p, o')] :: R) := (h.pk k).wr
/-- cells become data -/
def addD (D : Hp) : List Cell → Hp
  | [] => D
  | c :: r => upd (addD D r) c.1 c.2
theorem addD_off : ∀ {D : Hp} {C : List Cell} {b : Addr}, (∀ c ∈ C, c.1 ≠ b) → addD D C b = D b
  | _, [], _, _ => rfl
  | D, c :: r, b, h => by
    show upd (addD D r) c.1 c.2 b = D b
    rw [upd_ne (fun z => h c (.head _) z.symm)]
    exact addD_off fun x hx => h x (.tail _ hx)
theorem addD_at : ∀ {D : Hp} {C : List Cell} {c : Cell}, (C.map (·.1)).Nodup → c ∈ C → addD D C c.1 = some c.2
  | _, [], _, _, h => nomatch h
  | D, x :: r, c, nd, h => by
    have nd := List.nodup_cons.mp (show (x.1 :: r.map (·.1)).Nodup from nd)
    show upd (addD D r) x.1 x.2 c.1 = _
    rcases List.mem_cons.mp h with e | h
    · rw [e]
      exact upd_same
    · rw [upd_ne (fun z => nd.1 (by rw [← z]; exact List.mem_map.mpr ⟨c, h, rfl⟩))]
      exact addD_at nd.2 h
theorem addD_some : ∀ {D : Hp} {C : List Cell} {b : Addr} {u : HO}, addD D C b = some u → (∃ c ∈ C, c.1 = b ∧ c.2 = u) ∨ D b = some u
  | _, [], _, _, h => .inr h
  | D, x :: r, b, u, h => by
    by_cases e : b = x.1
    · have h' : upd (addD D r) x.1 x.2 b = some u := h
      rw [e, upd_same] at h'
      exact .inl ⟨x, .head _, e.symm, Option.some.inj h'⟩
    · have h' : upd (addD D r) x.1 x.2 b = some u := h
      rw [upd_ne e] at h'
      rcases addD_some h' with ⟨c, hc, q⟩ | q
      · exact .inl ⟨c, .tail _ hc, q⟩
      · exact .inr q
theorem Ok.frz (h : Ok H D (C :: R)) : Ok H (addD D C) R ∧ Same D (addD D C) ∧ ∀ c ∈ C, addD D C c.1 = some c.2 := by
  have q := h.nd
  rw [List.flatten_cons, List.map_append] at q
  obtain ⟨n1, n2, n3⟩ := List.nodup_append.mp q
  have ext : Same D (addD D C) := fun b u e => by
    rw [addD_off fun c hc z => ?_]
    · exact e
    · have f := h.off C (.head _) c hc
      rw [z, e] at f
      cases f
  refine ⟨⟨fun b u e => ?_, fun M hM => h.has M (.tail _ hM), fun M hM c hc => ?_, n2⟩, ext, fun c hc => addD_at n1 hc⟩
  · rcases addD_some e with ⟨c, hc, rfl, rfl⟩ | e
    · exact h.has C (.head _) c hc
    · exact h.sub _ _ e
  · rw [addD_off fun x hx z => n3 x.1 (List.mem_map.mpr ⟨x, hx, rfl⟩) c.1 (List.mem_map.mpr ⟨c, List.mem_flatten.mpr ⟨M, hM, hc⟩, rfl⟩) z]
    exact h.off M (.tail _ hM) c hc
theorem Ok.newD (h : Ok H D Ms) (n : H p = none) : Ok (upd H p o) (upd D p o) Ms ∧ Same D (upd D p o) := ⟨(h.new n).frz.1, (h.new (o := o) n).frz.2.1⟩
theorem Ok.nil (h : Ok H D Ms) : Ok H D ([] :: Ms) := h.re (by simp)
theorem Ok.unnil (h : Ok H D ([] :: Ms)) : Ok H D Ms := h.drop
theorem Ok.of (H : Hp) : Ok H H [] := ⟨Same.refl H, fun _ h => (nomatch h), fun _ h => (nomatch h), List.nodup_nil⟩
end

inductive Drp {α : Type} : List α → List α → Prop
  | here {R} : Drp R R
  | there {X Ms R} : Drp Ms R → Drp (X :: Ms) R
inductive Sel {α : Type} : List α → List α → Prop
  | done {Ms R} : Drp Ms R → Sel Ms R
  | pick {Ms R C Ns} : Pk Ms C R → Sel R Ns → Sel Ms (C :: Ns)
theorem Ok.drp {H D : Hp} {Ms Ns : List (List Cell)} (o : Ok H D Ms) (s : Drp Ms Ns) : Ok H D Ns := by
  induction s with
  | here => exact o
  | there _ ih => exact ih o.drop
theorem Ok.cons_of {H D : Hp} {Ms Ns R : List (List Cell)} {C : List Cell} (o : Ok H D (C :: R)) (h : ∀ M ∈ Ns, M ∈ R) (nd : ((C :: Ns).flatten.map (·.1)).Nodup) : Ok H D (C :: Ns) :=
  ⟨o.sub, fun M hM => (List.mem_cons.mp hM).elim (fun e => e ▸ o.has C (.head _)) fun m => o.has M (.tail _ (h M m)), fun M hM => (List.mem_cons.mp hM).elim (fun e => e ▸ o.off C (.head _)) fun m => o.off M (.tail _ (h M m)), nd⟩
theorem Sel.subp {Ms Ns : List (List Cell)} (s : Sel Ms Ns) : ∃ R, Ms.flatten.Perm (Ns.flatten ++ R) := by
  induction s with
  | done d =>
    induction d with
    | here => exact ⟨[], by simp⟩
    | @there X Ms R _ ih =>
      obtain ⟨r, hr⟩ := ih
      refine ⟨r ++ X, ?_⟩
      rw [List.flatten_cons, ← List.append_assoc]
      exact (List.perm_append_comm).trans (hr.append_right X)
  | pick k _ ih =>
    obtain ⟨r, hr⟩ := ih
    refine ⟨r, ?_⟩
    refine (k.perm.flatten).trans ?_
    rw [List.flatten_cons, List.flatten_cons, List.append_assoc]
    exact hr.append_left _
theorem Ok.sel {H D : Hp} {Ms Ns : List (List Cell)} (o : Ok H D Ms) (s : Sel Ms Ns) : Ok H D Ns := by
  obtain ⟨R, hR⟩ := s.subp
  have q : Ok H D (R :: Ns) := o.re (by
    rw [List.flatten_cons]
    exact hR.trans List.perm_append_comm)
  exact q.drop

/-! ### data at any depth -/
theorem dp_mono {K : PySem.W.Frag} {D D' : Hp} (e : Same D D') : ∀ {v : V} {d : PyData}, Dp K D v d → Dp K D' v d := by
  intro v d h
  refine Dp.rec (motive_1 := fun v d _ => Dp K D' v d) (motive_2 := fun vs ds _ => DpAll K D' vs ds) ?_ ?_ ?_ ?_ ?_ ?_ ?_ ?_ h
  · exact .non
  · exact fun b => .bl b
  · exact fun i => .int i
  · exact fun x => .str x
  · intro a xs ds q _ ih
    exact .lst (e.seq q) ih
  · intro a xs ds q _ ih
    refine .tup ?_ ih
    rcases q with (q | ⟨o, q⟩) | q
    · exact .inl (.inl (e _ _ q))
    · exact .inl (.inr ⟨o, e _ _ q⟩)
    · exact .inr q
  · exact .nil
  · intro v vs d ds _ _ ih1 ih2
    exact .cons ih1 ih2
theorem dpAll_mono {K : PySem.W.Frag} {D D' : Hp} (e : Same D D') : ∀ {vs : List V} {ds : List PyData}, DpAll K D vs ds → DpAll K D' vs ds
  | _, _, .nil => .nil
  | _, _, .cons h t => .cons (dp_mono e h) (dpAll_mono e t)
end G

/-! steps of readings -/
namespace G
open PySem PySem.Spec PyProof.Rows L2
section
variable {K : PySem.W.Frag} {H D : Hp} {Ms R : List (List Cell)} {σ : L2.St} {Q : VK} {ta tb te : TE} {t : TA} {tt tu : TT} {E : Ends} {v : V} {i : Nat} {B : Bool → Hp → Prop}
/-! expressions -/
theorem r_var (h : σ[i]? = some (some v)) (q : Q v H) : tVar i σ H Q := ⟨v, h, q⟩
theorem r_c (q : Q v H) : tC v σ H Q := q
theorem r_op {r : R2} (q : ta σ H fun x H1 => tb σ H1 fun y H2 => r x y H2 Q) : tOp r ta tb σ H Q := q
theorem r_un {r : V → Hp → VK → Prop} (q : ta σ H fun x H1 => r x H1 Q) : tUn r ta σ H Q := q
def NewT (Q : VK) (xs : List V) (H : Hp) : Prop := xs.length ≤ sizeLine ∧ ∀ p, H p = none → Q (.ref p) (upd H p (.tup xs))
def NewL (Q : VK) (xs : List V) (H : Hp) : Prop := xs.length ≤ sizeLine ∧ ∀ p, H p = none → Q (.ref p) (upd H p (.lst xs))
theorem r_tup (q : t σ H (NewT Q)) : tTup t σ H Q := q
theorem r_lst (q : t σ H (NewL Q)) : tLst t σ H Q := q
theorem r_nil {P : List V → Hp → Prop} (q : P [] H) : tNil σ H P := q
theorem r_cons {P : List V → Hp → Prop} (q : ta σ H fun x H1 => t σ H1 fun xs H2 => P (x :: xs) H2) : tCons ta t σ H P := q
theorem r_cb {r : List V → Hp → VK → Prop} (q : t σ H fun vs H1 => r vs H1 Q) : tCB r t σ H Q := q
theorem r_test (q : te σ H fun x H' => ∃ k, x = .bl k ∧ B k H') : tTest te σ H B := q
theorem r_B (q : te σ H fun x H' => ∃ k, x = .bl k ∧ B k H') : tB te σ H B := q
theorem r_bl {P : Bool → Prop} {b : Bool} (q : P b) : ∃ k, V.bl b = .bl k ∧ P k := ⟨b, rfl, q⟩
theorem r_and (q : tt σ H fun c H1 => if c = true then tu σ H1 B else B false H1) : tAnd tt tu σ H B := q
theorem r_or (q : tt σ H fun c H1 => if c = true then B true H1 else tu σ H1 B) : tOr tt tu σ H B := q
theorem r_not (q : tt σ H fun c H1 => B (!c) H1) : tNot tt σ H B := q
theorem r_andV (q : ta σ H fun x H1 => ∃ c, x = .bl c ∧ if c = true then tb σ H1 Q else Q (.bl false) H1) : tAndV ta tb σ H Q := q
theorem r_orV (q : ta σ H fun x H1 => ∃ c, x = .bl c ∧ if c = true then Q (.bl true) H1 else tb σ H1 Q) : tOrV ta tb σ H Q := q
theorem r_notV (q : ta σ H fun x H1 => ∃ c, x = .bl c ∧ Q (.bl (!c)) H1) : tNotV ta σ H Q := q
theorem r_if (q : tt σ H fun c H1 => if c = true then ta σ H1 Q else tb σ H1 Q) : tIf tt ta tb σ H Q := q
theorem r_chain {r r' : R2} {tc : TE} (q : ta σ H fun x H1 => tb σ H1 fun y H2 => r x y H2 fun z H3 => ∃ k, z = .bl k ∧ if k = true then (tc σ H3 fun w H4 => r' y w H4 Q) else Q (.bl false) H3) : tChain r r' ta tb tc σ H Q := q
theorem r_ite {c : Bool} {X Y : Prop} (h1 : c = true → X) (h2 : c = false → Y) : if c = true then X else Y := by
  cases c with
  | true => exact h1 rfl
  | false => exact h2 rfl
theorem r_iteKT {c : Bool} {X Y : Prop} (e : c = true) (h : X) : if c = true then X else Y := by
  rw [e]
  exact h
theorem r_iteKF {c : Bool} {X Y : Prop} (e : c = false) (h : Y) : if c = true then X else Y := by
  rw [e]
  exact h
theorem r_iteT {X Y : Prop} (h : X) : if true = true then X else Y := h
theorem r_iteF {X Y : Prop} (h : Y) : if false = true then X else Y := h
/-! arithmetic -/
theorem r_I0 {g : Int → Int → V} {m n : Int} (q : Q (g m n) H) : rI0 g (.int m) (.int n) H Q := ⟨m, n, rfl, rfl, q⟩
theorem r_I {C : Int → Int → Prop} {g : Int → Int → V} {m n : Int} (c : C m n) (q : Q (g m n) H) : rI C g (.int m) (.int n) H Q := ⟨m, n, rfl, rfl, c, q⟩
theorem r_U {g : Int → V} {m : Int} (q : Q (g m) H) : rU g (.int m) H Q := ⟨m, rfl, q⟩
theorem r_addI {m n : Int} (q : Q (.int (m + n)) H) : rAddU K (.int m) (.int n) H Q := .inl ⟨m, n, rfl, rfl, q⟩
theorem r_addS {m n : Str} (l : m.length + n.length ≤ sizeLine) (q : Q (.str (m ++ n)) H) : rAddU K (.str m) (.str n) H Q := .inr (.inl ⟨m, n, rfl, rfl, l, q⟩)
theorem r_addL {a b : Addr} {xs ys : List V} (o : Ok H D Ms) (ha : H a = some (.lst xs)) (hb : H b = some (.lst ys)) (l : xs.length + ys.length ≤ sizeLine) (q : ∀ p H', Ok H' D ([(p, .lst (xs ++ ys))] :: Ms) → Q (.ref p) H') : rAddU K (.ref a) (.ref b) H Q :=
  .inr (.inr (.inl ⟨a, b, xs, ys, rfl, rfl, ha, hb, l, fun p n => q p _ (o.new n)⟩))
theorem r_mulI {m n : Int} (c : CMulG m n) (q : Q (.int (m * n)) H) : rMulU (.int m) (.int n) H Q := .inl ⟨m, n, rfl, rfl, c, q⟩
theorem r_repL {a : Addr} {k : Int} {xs : List V} (o : Ok H D Ms) (ha : H a = some (.lst xs)) (l0 : -(2 ^ 63) ≤ k) (l1 : k < 2 ^ 63) (l : xs.length * k.toNat ≤ sizeLine) (q : ∀ p H', Ok H' D ([(p, .lst (List.flatten (List.replicate k.toNat xs)))] :: Ms) → Q (.ref p) H') : rMulU (.ref a) (.int k) H Q :=
  .inr ⟨a, k, xs, rfl, rfl, ha, l0, l1, l, fun p n => q p _ (o.new n)⟩
theorem r_eqS {x y : V} (s : scal x y = true) (q : Q (.bl (decide (x = y))) H) : rEqU K x y H Q := .inl ⟨s, q⟩
theorem r_neS {x y : V} (s : scal x y = true) (q : Q (.bl (!decide (x = y))) H) : rNeU K x y H Q := .inl ⟨s, q⟩
theorem r_eqD {x y : V} {d e : PyData} (hd : Dp K H x d) (he : Dp K H y e) (sd : SeqAt.shaped d = true) (se : SeqAt.shaped e = true) (q : Q (.bl (PyData.eqv d e)) H) : rEqU K x y H Q := .inr (.inl ⟨d, e, hd, he, sd, se, q⟩)
theorem r_neD {x y : V} {d e : PyData} (hd : Dp K H x d) (he : Dp K H y e) (sd : SeqAt.shaped d = true) (se : SeqAt.shaped e = true) (q : Q (.bl (!PyData.eqv d e)) H) : rNeU K x y H Q := .inr (.inl ⟨d, e, hd, he, sd, se, q⟩)
theorem r_eqE {a b : Addr} {ks : List (Key × V)} (ha : H a = some (.dK ks)) (hb : H b = some (.dK [])) (q : Q (.bl ks.isEmpty) H) : rEqU K (.ref a) (.ref b) H Q := .inr (.inr ⟨a, b, ks, rfl, rfl, ha, hb, q⟩)
theorem r_neE {a b : Addr} {ks : List (Key × V)} (ha : H a = some (.dK ks)) (hb : H b = some (.dK [])) (q : Q (.bl (!ks.isEmpty)) H) : rNeU K (.ref a) (.ref b) H Q := .inr (.inr ⟨a, b, ks, rfl, rfl, ha, hb, q⟩)
theorem r_inD {a : Addr} {kvs : List (Key × V)} {k : Key} {x : V} (ha : H a = some (.dK kvs)) (e : x = kV k) (q : Q (.bl (valV kvs k).isSome) H) : rInU K x (.ref a) H Q := by
  subst e
  exact .inr (.inl ⟨a, _, rfl, DGet.k ha, q⟩)
theorem r_ninD {a : Addr} {kvs : List (Key × V)} {k : Key} {x : V} (ha : H a = some (.dK kvs)) (e : x = kV k) (q : Q (.bl (!(valV kvs k).isSome)) H) : rNinU K x (.ref a) H Q := by
  subst e
  exact .inr (.inl ⟨a, _, rfl, DGet.k ha, q⟩)
theorem r_inC {c : Nat} {z : Str} (q : Q (.bl (decide (c ∈ z.cps.toList))) H) : rInU K (.str ⟨#[c]⟩) (.str z) H Q := .inr (.inr (.inr ⟨c, z, rfl, rfl, q⟩))
theorem r_inT {x : V} {p : Addr} {xs : List V} (h : SqT K H p xs) (hx : flatV x = true) (ha : xs.all flatV = true) (q : Q (.bl (inV x xs)) H) : rInU K x (.ref p) H Q := .inl ⟨p, xs, rfl, .inr h, hx, ha, q⟩
theorem r_isN {x : V} (q : Q (.bl (decide (x = .non))) H) : (fun (x y : V) (H : Hp) (Q : VK) => y = .non ∧ Q (.bl (decide (x = .non))) H) x .non H Q := ⟨rfl, q⟩
/-! subscripts -/
theorem r_ixL {a : Addr} {xs : List V} {m : Int} (h : SqL K H a xs) (e : atI xs m = some v) (q : Q v H) : rIxU K (.ref a) (.int m) H Q := .inl ⟨a, xs, m, v, rfl, rfl, h, e, q⟩
theorem r_ixT {a : Addr} {xs : List V} {m : Int} (h : SqT K H a xs) (e : atI xs m = some v) (q : Q v H) : rIxU K (.ref a) (.int m) H Q := .inr (.inl ⟨a, xs, m, v, rfl, rfl, h, e, q⟩)
theorem r_ixD {a : Addr} {kvs : List (Key × V)} {k : Key} {x : V} (h : H a = some (.dK kvs)) (e : x = kV k) (hv : valV kvs k = some v) (q : Q v H) : rIxU K (.ref a) x H Q := by
  subst e
  exact .inr (.inr (.inl ⟨a, v, rfl, by rw [← hv]; exact DGet.k h, q⟩))
theorem r_ixF {a : Addr} {o : Obj} {kvs : List (Key × V)} {k : Key} {x : V} (h : H a = some (.frz o (.dK kvs))) (e : x = kV k) (hv : valV kvs k = some v) (q : Q v H) : rIxU K (.ref a) x H Q := by
  subst e
  exact .inr (.inr (.inl ⟨a, v, rfl, .inl ⟨kvs, k, .inr ⟨o, h⟩, rfl, hv.symm⟩, q⟩))
theorem r_ixS {z : Str} {m : Int} {c : Nat} (l : z.length ≤ sizeLine) (e : atI z.cps.toList m = some c) (q : Q (.str ⟨#[c]⟩) H) : rIxU K (.str z) (.int m) H Q := .inr (.inr (.inr ⟨z, m, c, rfl, rfl, l, e, q⟩))
theorem r_sl {r : V → Option Int → Option Int → Hp → VK → Prop} {tl th : TO} (q : te σ H fun x H1 => tl σ H1 fun l H2 => th σ H2 fun u H3 => r x l u H3 Q) : tSl r te tl th σ H Q := q
theorem r_noPart {P : Option Int → Hp → Prop} (q : P none H) : tNoPart σ H P := q
theorem r_part {P : Option Int → Hp → Prop} (q : te σ H fun x H1 => ∃ i, x = .int i ∧ P (some i) H1) : tPart te σ H P := q
theorem r_int {P : Int → Prop} {m : Int} (q : P m) : ∃ k, V.int m = .int k ∧ P k := ⟨m, rfl, q⟩
theorem r_slL {a : Addr} {xs : List V} {lo hi : Option Int} (o : Ok H D Ms) (h : SqL K H a xs) (q : ∀ p H', Ok H' D ([(p, .lst (cutV xs lo hi))] :: Ms) → Q (.ref p) H') : rSlU K (.ref a) lo hi H Q := .inl ⟨a, xs, rfl, h, fun p n => q p _ (o.new n)⟩
/-! fields -/
theorem r_fld {f : Str} (q : ta σ H fun x H1 => ∃ a C dx fs v, x = .ref a ∧ H1 a = some (.ins C dx fs) ∧ Cls K C ∧ NoAttr K C f ∧ fs.lookup f = some v ∧ Q v H1) : tFld K ta f σ H Q := q
theorem r_fldE {P : V → Prop} {a C dx : Addr} {fs : List (Str × V)} {f : Str} (h : H a = some (.ins C dx fs)) (c : Cls K C) (n : NoAttr K C f) (l : fs.lookup f = some v) (q : P v) :
    ∃ b C dx fs v, V.ref a = .ref b ∧ H b = some (.ins C dx fs) ∧ Cls K C ∧ NoAttr K C f ∧ fs.lookup f = some v ∧ P v := ⟨a, C, dx, fs, v, rfl, h, c, n, l, q⟩
def SetF (K : PySem.W.Frag) (f : Str) (y : V) (P : Hp → Prop) (x : V) (H : Hp) : Prop := ∃ a C dx fs, x = .ref a ∧ H a = some (.ins C dx fs) ∧ Cls K C ∧ NoAttr K C f ∧ fs.length < 1000 ∧ P (upd H a (.ins C dx (putF f y fs)))
theorem r_sfld {tv : TE} {f : Str} (q : tv σ H fun y H1 => ta σ H1 (SetF K f y (E.nx σ))) : sFld K ta tv f E σ H := q
theorem r_sfldE {a C dx : Addr} {fs fs' : List (Str × V)} {f : Str} {y : V} {P : Hp → Prop} (o : Ok H D Ms) (k : Pk Ms [(a, .ins C dx fs)] R) (c : Cls K C) (n : NoAttr K C f) (l : decide (fs.length < 1000) = true) (e : putF f y fs = fs') (q : ∀ H', Ok H' D ([(a, .ins C dx fs')] :: R) → P H') : SetF K f y P (.ref a) H := by
  subst e
  exact ⟨a, C, dx, fs, rfl, o.at1 k.mem, c, n, of_decide_eq_true l, q _ (o.wrAt k)⟩
/-! new objects -/
theorem r_newT {xs : List V} (o : Ok H D Ms) (l : xs.length ≤ sizeLine) (q : ∀ p H', Ok H' D ([(p, .tup xs)] :: Ms) → Q (.ref p) H') : NewT Q xs H := ⟨l, fun p n => q p _ (o.new n)⟩
theorem r_newL {xs : List V} (o : Ok H D Ms) (l : xs.length ≤ sizeLine) (q : ∀ p H', Ok H' D ([(p, .lst xs)] :: Ms) → Q (.ref p) H') : NewL Q xs H := ⟨l, fun p n => q p _ (o.new n)⟩
theorem r_newD (o : Ok H D Ms) (q : ∀ p H', Ok H' D ([(p, .dK [])] :: Ms) → Q (.ref p) H') : tDNewK σ H Q := fun p n => q p _ (o.new n)
/-! methods of lists, dicts -/
theorem r_bm {T : String} {r : V → List V → Hp → VK → Prop} (q : ta σ H fun x H1 => tyV K T x H1 ∧ t σ H1 fun xs H2 => r x xs H2 Q) : tBM K T r ta t σ H Q := q
theorem r_bm0 {T : String} {r : V → List V → Hp → VK → Prop} (q : ta σ H fun x H1 => tyV K T x H1 ∧ r x [] H1 Q) : tBM0 K T r ta σ H Q := q
theorem r_tyL {a : Addr} {xs : List V} {P : Prop} (h : SqL K H a xs) (q : P) : tyV K "list" (.ref a) H ∧ P := ⟨.inl ⟨rfl, _, h⟩, q⟩
theorem r_app {a : Addr} {xs : List V} {y : V} (o : Ok H D Ms) (k : Pk Ms [(a, .lst xs)] R) (l : xs.length < sizeLine) (q : ∀ H', Ok H' D ([(a, .lst (xs ++ [y]))] :: R) → Q .non H') : rAppend (.ref a) [y] H Q := ⟨a, xs, y, rfl, rfl, o.at1 k.mem, l, q _ (o.wrAt k)⟩
theorem r_get2 {td ty tx : TE} (q : td σ H fun x H1 => ∃ a, x = .ref a ∧ IsD H1 a ∧ ty σ H1 fun y H2 => tx σ H2 fun z H3 => ∃ o, DGet H3 a y o ∧ Q (o.getD z) H3) : tDGet2 td ty tx σ H Q := q
theorem r_isd {a : Addr} {kvs : List (Key × V)} {P : Addr → Prop} (h : H a = some (.dK kvs)) (q : P a) : ∃ b, V.ref a = .ref b ∧ IsD H b ∧ P b := ⟨a, rfl, .inl ⟨kvs, .inl h⟩, q⟩
theorem r_dget {a : Addr} {kvs : List (Key × V)} {k : Key} {y : V} {P : Option V → Prop} (h : H a = some (.dK kvs)) (e : y = kV k) (q : P (valV kvs k)) : ∃ o, DGet H a y o ∧ P o := by
  subst e
  exact ⟨_, DGet.k h, q⟩
theorem r_pop2 {td ty tx : TE} (q : td σ H fun x H1 => ∃ a, x = .ref a ∧ IsD H1 a ∧ ty σ H1 fun y H2 => tx σ H2 fun z H3 => ∃ kvs k, H3 a = some (.dK kvs) ∧ y = kV k ∧
  (∀ v, valV kvs k = some v → Q v (upd H3 a (.dK (dropK kvs k)))) ∧ (valV kvs k = none → Q z H3)) : tDPop2 td ty tx σ H Q := q
theorem r_dpop {a : Addr} {kvs : List (Key × V)} {k : Key} {y z : V} (o : Ok H D Ms) (pk : Pk Ms [(a, .dK kvs)] R) (e : y = kV k) (q1 : ∀ v H', valV kvs k = some v → Ok H' D ([(a, .dK (dropK kvs k))] :: R) → Q v H') (q2 : valV kvs k = none → Q z H) :
    ∃ kvs k, H a = some (.dK kvs) ∧ y = kV k ∧ (∀ v, valV kvs k = some v → Q v (upd H a (.dK (dropK kvs k)))) ∧ (valV kvs k = none → Q z H) := ⟨kvs, k, o.at1 pk.mem, e, fun v h => q1 v _ h (o.wrAt pk), q2⟩
/-! stores -/
theorem r_setL {a : Addr} {xs : List V} {m : Int} {j : Nat} {P : Hp → Prop} (o : Ok H D Ms) (k : Pk Ms [(a, .lst xs)] R) (e : ixN xs.length m = some j) (q : ∀ H', Ok H' D ([(a, .lst (xs.set j v))] :: R) → P H') : rSetU (.ref a) (.int m) v H P := .inl ⟨a, xs, m, j, rfl, rfl, o.at1 k.mem, e, q _ (o.wrAt k)⟩
theorem r_setD {a : Addr} {kvs : List (Key × V)} {k : Key} {x : V} {P : Hp → Prop} (o : Ok H D Ms) (pk : Pk Ms [(a, .dK kvs)] R) (e : x = kV k) (l : kvs.length < sizeLine) (q : ∀ H', Ok H' D ([(a, .dK (putK kvs k v))] :: R) → P H') : rSetU (.ref a) x v H P := by
  subst e
  exact .inr ⟨a, _, rfl, DPut.k (o.at1 pk.mem) l, q _ (o.wrAt pk)⟩
theorem r_asg {g : TG} (q : te σ H fun x H1 => g x σ H1 E.nx) : tAsg te g E σ H := q
theorem r_name {P : L2.St → Hp → Prop} (q : P (σ.set i (some v)) H) : gName i v σ H P := q
theorem r_sub {to ti : TE} {s : TSet} {P : L2.St → Hp → Prop} (q : to σ H fun o H1 => ti σ H1 fun i H2 => s o i v H2 fun H3 => P σ H3) : gSub to ti s v σ H P := q
theorem r_gtup {n : Nat} {u : TGs} {a : Addr} {xs : List V} {P : L2.St → Hp → Prop} (h : SqT K H a xs) (l : xs.length = n) (q : u xs σ H P) : gTup K n u (.ref a) σ H P := ⟨a, xs, rfl, h, l, q⟩
theorem r_gcons {g : TG} {u : TGs} {x : V} {xs : List V} {P : L2.St → Hp → Prop} (q : g x σ H fun σ' H' => u xs σ' H' P) : gCons g u (x :: xs) σ H P := ⟨x, xs, rfl, q⟩
theorem r_gnil {P : L2.St → Hp → Prop} (q : P σ H) : gNil [] σ H P := ⟨rfl, q⟩
theorem r_par {j : Nat} {x y : V} {P : List V → Hp → Prop} (q : E.nx ((σ.set i (some x)).set j (some y)) H) : ∃ v w, [x, y] = [v, w] ∧ E.nx ((σ.set i (some v)).set j (some w)) H := ⟨x, y, rfl, q⟩
/-! statements -/
variable {t1 t2 : TS}
theorem r_seq (q : t1 { E with nx := t2 E } σ H) : tSeq t1 t2 E σ H := q
theorem r_next (q : E.nx σ H) : tNext E σ H := q
theorem r_ret (q : te σ H E.rt) : tRet te E σ H := q
theorem r_retN (q : E.rt .non H) : tRetN E σ H := q
theorem r_drop (q : te σ H fun _ H1 => E.nx σ H1) : tDrop te E σ H := q
theorem r_ifS (q : tt σ H fun b H1 => if b = true then t1 E σ H1 else t2 E σ H1) : tIfS tt t1 t2 E σ H := q
theorem r_tpar {j : Nat} (q : t σ H fun vs H1 => ∃ v w, vs = [v, w] ∧ E.nx ((σ.set i (some v)).set j (some w)) H1) : tPar i j t E σ H := q
/-! calls -/
theorem r_callS {sp : Sp} {X : L2.St → XK} (q : t σ H fun vs H1 => sp vs H1 Q (X σ)) : tCallS sp X t σ H Q := q
theorem r_call {sp : Sp} {X : XK} (q : t σ H fun vs H1 => sp (vs ++ []) H1 Q X) : tCall sp [] X t σ H Q := q
theorem r_me {C : Addr} {m : Str} {sp : Sp} {X : XK} (q : ta σ H fun x H1 => ∃ a dx fs, x = .ref a ∧ H1 a = some (.ins C dx fs) ∧ fs.lookup m = none ∧ t σ H1 fun vs H2 => sp (x :: vs) H2 Q X) : tMe C m sp X ta t σ H Q := q
theorem r_meE {a C dx : Addr} {fs : List (Str × V)} {m : Str} {P : Prop} (h : H a = some (.ins C dx fs)) (l : fs.lookup m = none) (q : P) : ∃ b dx fs, V.ref a = .ref b ∧ H b = some (.ins C dx fs) ∧ fs.lookup m = none ∧ P := ⟨a, dx, fs, rfl, h, l, q⟩
def MkA (C : Addr) (sp : Sp) (X : XK) (Q : VK) (vs : List V) (H : Hp) : Prop := ∀ x dx, H x = none → H dx = none → dx ≠ x → sp (.ref x :: vs) (upd (upd H dx (.own x)) x (.ins C dx [])) (fun v H2 => v = .non ∧ Q (.ref x) H2) X
theorem r_mk {C : Addr} {sp : Sp} {X : XK} (q : t σ H (MkA C sp X Q)) : tMk C sp X t σ H Q := q
theorem r_mkE {C : Addr} {sp : Sp} {X : XK} {vs : List V} (o : Ok H D Ms) (q : ∀ x dx H', Ok H' D ([(x, .ins C dx [])] :: Ms) → sp (.ref x :: vs) H' (fun v H2 => v = .non ∧ Q (.ref x) H2) X) : MkA C sp X Q vs H := fun x dx nx ndx ne =>
  q x dx _ ((o.skip (o := .own x) ndx).new (by rw [upd_ne ne.symm]; exact nx))
theorem r_len {a : Addr} {xs : List V} (h : SqL K H a xs) (q : Q (.int xs.length) H) : rLenU K [.ref a] H Q := .inl ⟨a, xs, rfl, .inl h, q⟩
theorem r_lenT {a : Addr} {xs : List V} (h : SqT K H a xs) (q : Q (.int xs.length) H) : rLenU K [.ref a] H Q := .inl ⟨a, xs, rfl, .inr h, q⟩
theorem r_lenS {z : Str} (l : z.length ≤ sizeLine) (q : Q (.int z.length) H) : rLenU K [.str z] H Q := .inr (.inl ⟨z, rfl, l, q⟩)
theorem r_sum {a : Addr} {ns : List Int} {xs : List V} (h : SqL K H a xs) (e : xs = ns.map V.int) (q : Q (.int ns.sum) H) : rSum K [.ref a] H Q := ⟨a, ns, rfl, by rw [← e]; exact h, q⟩
theorem r_all {a : Addr} {bs : List Bool} {xs : List V} (h : SqL K H a xs) (e : xs = bs.map V.bl) (q : Q (.bl (bs.all id)) H) : rAll K [.ref a] H Q := ⟨a, bs, rfl, by rw [← e]; exact h, q⟩
theorem r_any {a : Addr} {bs : List Bool} {xs : List V} (h : SqL K H a xs) (e : xs = bs.map V.bl) (q : Q (.bl (bs.any id)) H) : rAny K [.ref a] H Q := ⟨a, bs, rfl, by rw [← e]; exact h, q⟩
theorem r_intB {P : Int → Prop} {P' : Bool → Prop} {b : Bool} (q : P' b) : (∃ i, [V.bl b] = [V.int i] ∧ P i) ∨ ∃ k, [V.bl b] = [V.bl k] ∧ P' k := .inr ⟨b, rfl, q⟩
theorem r_two {P : Int → Int → Prop} {m n : Int} (q : P m n) : ∃ i j, [V.int m, V.int n] = [V.int i, V.int j] ∧ P i j := ⟨m, n, rfl, q⟩
theorem sz_of {n : Nat} (h : decide (n ≤ 100) = true) : n ≤ sizeLine := Nat.le_trans (of_decide_eq_true h) (by decide)
theorem r_dgetI {a : Addr} {kvs : List (Key × V)} {m : Int} {P : Option V → Prop} (h : H a = some (.dK kvs)) (q : P (valV kvs (Sum.inl m))) : ∃ o, DGet H a (.int m) o ∧ P o := r_dget (k := Sum.inl m) h rfl q
theorem r_ixDI {a : Addr} {kvs : List (Key × V)} {m : Int} (h : H a = some (.dK kvs)) (hv : valV kvs (Sum.inl m) = some v) (q : Q v H) : rIxU K (.ref a) (.int m) H Q := r_ixD (k := Sum.inl m) h rfl hv q
theorem r_ixDS {a : Addr} {kvs : List (Key × V)} {z : Str} (h : H a = some (.dK kvs)) (hv : valV kvs (Sum.inr z) = some v) (q : Q v H) : rIxU K (.ref a) (.str z) H Q := r_ixD (k := Sum.inr z) h rfl hv q
theorem r_inDI {a : Addr} {kvs : List (Key × V)} {m : Int} (h : H a = some (.dK kvs)) (q : Q (.bl (valV kvs (Sum.inl m)).isSome) H) : rInU K (.int m) (.ref a) H Q := r_inD (k := Sum.inl m) h rfl q
theorem r_ninDI {a : Addr} {kvs : List (Key × V)} {m : Int} (h : H a = some (.dK kvs)) (q : Q (.bl (!(valV kvs (Sum.inl m)).isSome)) H) : rNinU K (.int m) (.ref a) H Q := r_ninD (k := Sum.inl m) h rfl q
theorem r_setDI {a : Addr} {kvs : List (Key × V)} {m : Int} {P : Hp → Prop} (o : Ok H D Ms) (pk : Pk Ms [(a, .dK kvs)] R) (l : kvs.length < sizeLine) (q : ∀ H', Ok H' D ([(a, .dK (putK kvs (Sum.inl m) v))] :: R) → P H') : rSetU (.ref a) (.int m) v H P := r_setD (k := Sum.inl m) o pk rfl l q
theorem r_setDS {a : Addr} {kvs kvs' : List (Key × V)} {z : Str} {P : Hp → Prop} (o : Ok H D Ms) (pk : Pk Ms [(a, .dK kvs)] R) (l : decide (kvs.length < sizeLine) = true) (e : putK kvs (Sum.inr z) v = kvs') (q : ∀ H', Ok H' D ([(a, .dK kvs')] :: R) → P H') : rSetU (.ref a) (.str z) v H P := by
  subst e
  exact r_setD (k := Sum.inr z) o pk rfl (of_decide_eq_true l) q
theorem r_dpopI {a : Addr} {kvs : List (Key × V)} {m : Int} {z : V} {P : V → Hp → Prop} (o : Ok H D Ms) (pk : Pk Ms [(a, .dK kvs)] R) (q1 : ∀ v H', valV kvs (Sum.inl m) = some v → Ok H' D ([(a, .dK (dropK kvs (Sum.inl m)))] :: R) → P v H') (q2 : valV kvs (Sum.inl m) = none → P z H) :
    ∃ kvs k, H a = some (.dK kvs) ∧ V.int m = kV k ∧ (∀ v, valV kvs k = some v → P v (upd H a (.dK (dropK kvs k)))) ∧ (valV kvs k = none → P z H) := r_dpop (k := Sum.inl m) o pk rfl q1 q2
end
end G

/-! walks: loops and comprehensions over the logic of heaps -/
namespace G
open PySem PySem.Spec PyProof.Rows L2
section
variable {K : PySem.W.Frag} {H D : Hp} {Ms R : List (List Cell)} {σ : L2.St} {Q : VK} {ta te : TE} {t : TA} {tt : TT} {E : Ends} {v : V} {g : TG} {tb : TS}
/-- what a walk's turn gives, in terms of Ok: the value x at turn i; new objects may have come -/
theorem r_lc {wi : TI} {vs : List Nat} (q : wi σ H fun J H1 => ∀ D, H1 D = none → ∃ W : Nat → Nat → Hp → Prop, (∃ m, W 0 m (upd H1 D (.lst []))) ∧ ∀ i m H, W i m H →
  (J.stop i H ∧ Q (.ref D) H) ∨ (J.go i H ∧ ∃ Nx : Hp → Prop, (∀ H', Nx H' → ∃ m', m' < m ∧ W (i + 1) m' H') ∧ ∀ x H', J.yld i H x H' → g x (wipe σ vs) H' fun σ2 H2 => wipe σ2 vs = wipe σ vs ∧ tt σ2 H2 fun b H3 =>
    if b = true then te σ2 H3 fun y H4 => ∃ acc, H4 D = some (.lst acc) ∧ acc.length < sizeLine ∧ Nx (upd H4 D (.lst (acc ++ [y]))) else Nx H3)) : tLc wi g tt te vs σ H Q := q
theorem lcG {Qd : Addr → Hp → Prop} {J : It} {n : Nat} {G : Hp → Prop} {Y : Nat → Hp → V → Hp → Prop} {vs : List Nat} (w : Walk J n G Y) (o : Ok H D Ms) (Rl : Nat → List V → Hp → Prop) (hn : n ≤ 100000) (h0 : Rl 0 [] D)
    (hl : ∀ i acc D', Rl i acc D' → acc.length ≤ i)
    (hG : ∀ i L acc H' D', Ok H' D' ([(L, .lst acc)] :: Ms) → Same D D' → Rl i acc D' → G H')
    (hs : ∀ (i : Nat) (x : V) (L : Addr) (acc : List V) (H' H'' D' : Hp) (Ny : V → Hp → Prop) (Nn : Hp → Prop), i < n → Ok H' D' ([(L, .lst acc)] :: Ms) → Same D D' → Rl i acc D' → Y i H' x H'' →
      (∀ y H4 D4, Ok H4 D4 ([(L, .lst acc)] :: Ms) → Same D' D4 → Rl (i + 1) (acc ++ [y]) D4 → Ny y H4) → (∀ H4 D4, Ok H4 D4 ([(L, .lst acc)] :: Ms) → Same D' D4 → Rl (i + 1) acc D4 → Nn H4) →
      g x (wipe σ vs) H'' fun σ2 H2 => wipe σ2 vs = wipe σ vs ∧ tt σ2 H2 fun b H3 => if b = true then te σ2 H3 Ny else Nn H3)
    (hd : ∀ L acc H' D', Ok H' D' ([(L, .lst acc)] :: Ms) → Same D D' → Rl n acc D' → Qd L H') :
    ∀ L, H L = none → ∃ W : Nat → Nat → Hp → Prop, (∃ m, W 0 m (upd H L (.lst []))) ∧ ∀ i m H, W i m H →
  (J.stop i H ∧ Qd L H) ∨ (J.go i H ∧ ∃ Nx : Hp → Prop, (∀ H', Nx H' → ∃ m', m' < m ∧ W (i + 1) m' H') ∧ ∀ x H', J.yld i H x H' → g x (wipe σ vs) H' fun σ2 H2 => wipe σ2 vs = wipe σ vs ∧ tt σ2 H2 fun b H3 =>
    if b = true then te σ2 H3 fun y H4 => ∃ acc, H4 L = some (.lst acc) ∧ acc.length < sizeLine ∧ Nx (upd H4 L (.lst (acc ++ [y]))) else Nx H3) := by
  intro L nL
  refine lc_it w (Qd := Qd L) (fun i H' => ∃ acc D', Ok H' D' ([(L, .lst acc)] :: Ms) ∧ Same D D' ∧ Rl i acc D') ⟨[], D, o.new nL, Same.refl D, h0⟩ ?_ ?_ ?_
  · rintro i H' _ ⟨acc, D', o', s', r'⟩
    exact hG i L acc H' D' o' s' r'
  · rintro i x H' H'' hi ⟨acc, D', o', s', r'⟩ y
    refine hs i x L acc H' H'' D' _ _ hi o' s' r' y ?_ ?_
    · intro y H4 D4 o4 s4 r4
      have q := hl i acc D' r'
      exact ⟨acc, o4.at1 (.head _), Nat.lt_of_le_of_lt (show acc.length ≤ 100000 by omega) (by decide), acc ++ [y], D4, o4.wr, s'.trans s4, r4⟩
    · intro H4 D4 o4 s4 r4
      exact ⟨acc, D4, o4, s'.trans s4, r4⟩
  · rintro H' ⟨acc, D', o', s', r'⟩
    exact hd L acc H' D' o' s' r'
/-- every item gives one value, nothing else happens -/
theorem lcMap {Qd : Addr → Hp → Prop} {J : It} {n : Nat} {G : Hp → Prop} {Y : Nat → Hp → V → Hp → Prop} {vs : List Nat} (f : Nat → V) (w : Walk J n G Y) (o : Ok H D Ms) (hn : n ≤ 100000)
    (hG : ∀ L acc H', Ok H' D ([(L, .lst acc)] :: Ms) → G H')
    (hs : ∀ (i : Nat) (x : V) (L : Addr) (acc : List V) (H' H'' : Hp) (Ny : V → Hp → Prop) (Nn : Hp → Prop), i < n → Ok H' D ([(L, .lst acc)] :: Ms) → Y i H' x H'' →
      (∀ H4, Ok H4 D ([(L, .lst acc)] :: Ms) → Ny (f i) H4) → g x (wipe σ vs) H'' fun σ2 H2 => wipe σ2 vs = wipe σ vs ∧ tt σ2 H2 fun b H3 => if b = true then te σ2 H3 Ny else Nn H3)
    (hd : ∀ L H', Ok H' D ([(L, .lst ((List.range n).map f))] :: Ms) → Qd L H') :
    ∀ L, H L = none → ∃ W : Nat → Nat → Hp → Prop, (∃ m, W 0 m (upd H L (.lst []))) ∧ ∀ i m H, W i m H →
  (J.stop i H ∧ Qd L H) ∨ (J.go i H ∧ ∃ Nx : Hp → Prop, (∀ H', Nx H' → ∃ m', m' < m ∧ W (i + 1) m' H') ∧ ∀ x H', J.yld i H x H' → g x (wipe σ vs) H' fun σ2 H2 => wipe σ2 vs = wipe σ vs ∧ tt σ2 H2 fun b H3 =>
    if b = true then te σ2 H3 fun y H4 => ∃ acc, H4 L = some (.lst acc) ∧ acc.length < sizeLine ∧ Nx (upd H4 L (.lst (acc ++ [y]))) else Nx H3) := by
  refine lcG w o (fun i acc D' => acc = (List.range i).map f ∧ D' = D) hn ⟨rfl, rfl⟩ ?_ ?_ ?_ ?_
  · rintro i acc D' ⟨rfl, _⟩
    simp
  · rintro i L acc H' D' o' _ ⟨_, rfl⟩
    exact hG L acc H' o'
  · rintro i x L acc H' H'' D' Ny Nn hi o' _ ⟨rfl, rfl⟩ y k _
    refine hs i x L _ H' H'' Ny Nn hi o' y fun H4 o4 => k _ H4 D' o4 (Same.refl D') ⟨?_, rfl⟩
    rw [List.range_succ, List.map_append]
    rfl
  · rintro L acc H' D' o' _ ⟨rfl, rfl⟩
    exact hd L H' o'
/-! locks -/
theorem r_lockE {d : Addr} {u : HO} {te : TE} (o : Ok H D Ms) (k : Pk Ms [(d, u)] R) (m : Mut (some u)) (q : ∀ od H1, Ok H1 D ([(d, .frz od u)] :: R) → te σ H1 fun v H' => H' d = some (.frz od u) ∧ Q v (upd H' d u)) : tLockE te σ H Q :=
  ⟨d, u, o.at1 k.mem, m, fun od => q od _ (o.wrAt k)⟩
theorem r_unlock {d : Addr} {u : HO} {od : Obj} {P : Hp → Prop} (o : Ok H D Ms) (k : Pk Ms [(d, .frz od u)] R) (q : ∀ H', Ok H' D ([(d, u)] :: R) → P H') : H d = some (.frz od u) ∧ P (upd H d u) := ⟨o.at1 k.mem, q _ (o.wrAt k)⟩
theorem r_lock {d : Addr} {u : HO} (o : Ok H D Ms) (k : Pk Ms [(d, u)] R) (m : Mut (some u)) (q : ∀ od H1, Ok H1 D ([(d, .frz od u)] :: R) → tb ⟨fun σ' H' => H' d = some (.frz od u) ∧ E.nx σ' (upd H' d u), fun v H' => H' d = some (.frz od u) ∧ E.rt v (upd H' d u), fun σ' H' => H' d = some (.frz od u) ∧ E.bk σ' (upd H' d u), fun σ' H' => H' d = some (.frz od u) ∧ E.ct σ' (upd H' d u)⟩ σ H1) : tLock tb E σ H :=
  ⟨d, u, o.at1 k.mem, m, fun od => q od _ (o.wrAt k)⟩
/-! how walks begin -/
theorem i_str {te : TE} {P : It → Hp → Prop} (q : te σ H fun v H1 => ∃ x, v = .str x ∧ P (Its x) H1) : iStr te σ H P := q
theorem i_seq {te : TE} {P : It → Hp → Prop} (q : te σ H fun x H1 => (∃ a, x = .ref a ∧ (∃ xs, SqL K H1 a xs) ∧ P (Itl K a) H1) ∨ (∃ a, x = .ref a ∧ (∃ xs, SqT K H1 a xs) ∧ P (Itt K a) H1)) : iSeq K te σ H P := q
theorem i_keys {td : TE} {P : It → Hp → Prop} (q : td σ H fun x H1 => ∃ d o, x = .ref d ∧ ((∃ kvs, H1 d = some (.frz o (.dK kvs)) ∧ P (Itk d o kvs) H1) ∨ ∃ kvs, H1 d = some (.frz o (.dT kvs)) ∧ P (Itkt d o kvs) H1)) : iKeys td σ H P := q
theorem i_enum {ta : TA} {P : It → Hp → Prop} (q : ta σ H fun vs H1 => ∃ a xs, vs = [.ref a] ∧ SqL K H1 a xs ∧ P (Ite K a) H1) : iEnum K ta σ H P := q
theorem i_rng1 {ta : TA} {P : It → Hp → Prop} (q : ta σ H fun vs H1 => ∃ j : Int, vs = [.int j] ∧ -(2 ^ 62) ≤ j ∧ j < 2 ^ 62 ∧ P (Itr 0 j.toNat) H1) : iRng1 ta σ H P := q
theorem i_rng2 {ta : TA} {P : It → Hp → Prop} (q : ta σ H fun vs H1 => ∃ i j : Int, vs = [.int i, .int j] ∧ (-(2 ^ 62) ≤ i ∧ i < 2 ^ 62 ∧ -(2 ^ 62) ≤ j ∧ j < 2 ^ 62) ∧ P (Itr i (j - i).toNat) H1) : iRng2 ta σ H P := q
theorem i_tup {te : TE} {P : It → Hp → Prop} (q : te σ H fun x H1 => ∃ a, x = .ref a ∧ (∃ xs, SqT K H1 a xs) ∧ P (Itt K a) H1) : iTup K te σ H P := q
theorem r_yes {B : Bool → Hp → Prop} (q : B true H) : tYes σ H B := q
theorem r_vals {te : TE} (q : te σ H fun x H1 => rValsL x H1 Q) : tListVals te σ H Q := q
theorem r_items {te : TE} (q : te σ H fun x H1 => LiI.rItemsL x H1 Q) : LiI.tListItems te σ H Q := q
theorem r_valsE {d : Addr} {kvs : List (Key × V)} (o : Ok H D Ms) (h : H d = some (.dK kvs)) (q : ∀ p H', Ok H' D ([(p, .lst (kvs.map (·.2)))] :: Ms) → Q (.ref p) H') : rValsL (.ref d) H Q := ⟨d, kvs, rfl, h, fun p n => q p _ (o.new n)⟩
theorem r_iseqL {P P' : Addr → Prop} {a : Addr} {xs : List V} (h : SqL K H a xs) (q : P a) : (∃ b, V.ref a = .ref b ∧ (∃ xs, SqL K H b xs) ∧ P b) ∨ (∃ b, V.ref a = .ref b ∧ (∃ xs, SqT K H b xs) ∧ P' b) := .inl ⟨a, rfl, ⟨xs, h⟩, q⟩
theorem r_iseqT {P P' : Addr → Prop} {a : Addr} {xs : List V} (h : SqT K H a xs) (q : P' a) : (∃ b, V.ref a = .ref b ∧ (∃ xs, SqL K H b xs) ∧ P b) ∨ (∃ b, V.ref a = .ref b ∧ (∃ xs, SqT K H b xs) ∧ P' b) := .inr ⟨a, rfl, ⟨xs, h⟩, q⟩
theorem r_itupE {P' : Addr → Prop} {a : Addr} {xs : List V} (h : SqT K H a xs) (q : P' a) : ∃ b, V.ref a = .ref b ∧ (∃ xs, SqT K H b xs) ∧ P' b := ⟨a, rfl, ⟨xs, h⟩, q⟩
theorem r_ikeys {P : Addr → Obj → List (Key × V) → Prop} {P' : Addr → Obj → List (List Key × V) → Prop} {d : Addr} {od : Obj} {kvs : List (Key × V)} (h : H d = some (.frz od (.dK kvs))) (q : P d od kvs) :
    ∃ b o, V.ref d = .ref b ∧ ((∃ kvs, H b = some (.frz o (.dK kvs)) ∧ P b o kvs) ∨ ∃ kvs, H b = some (.frz o (.dT kvs)) ∧ P' b o kvs) := ⟨d, od, rfl, .inl ⟨kvs, h, q⟩⟩
theorem r_istr {P : Str → Prop} {x : Str} (q : P x) : ∃ z, V.str x = .str z ∧ P z := ⟨x, rfl, q⟩
theorem r_ienum {P : Addr → Prop} {a : Addr} {xs : List V} (h : SqL K H a xs) (q : P a) : ∃ b ys, [V.ref a] = [.ref b] ∧ SqL K H b ys ∧ P b := ⟨a, xs, rfl, h, q⟩
theorem r_irng1 {P : Int → Prop} {n : Int} (h : -(2 ^ 62) ≤ n ∧ n < 2 ^ 62) (q : P n) : ∃ j : Int, [V.int n] = [.int j] ∧ -(2 ^ 62) ≤ j ∧ j < 2 ^ 62 ∧ P j := ⟨n, rfl, h.1, h.2, q⟩
theorem r_irng2 {P : Int → Int → Prop} {m n : Int} (h : -(2 ^ 62) ≤ m ∧ m < 2 ^ 62 ∧ -(2 ^ 62) ≤ n ∧ n < 2 ^ 62) (q : P m n) : ∃ i j : Int, [V.int m, V.int n] = [.int i, .int j] ∧ (-(2 ^ 62) ≤ i ∧ i < 2 ^ 62 ∧ -(2 ^ 62) ≤ j ∧ j < 2 ^ 62) ∧ P i j := ⟨m, n, rfl, h, q⟩
/-- a for over a walk -/
theorem r_for {wi : TI} (q : wi σ H fun J H1 => ∃ W : Nat → Nat → L2.St → Hp → Prop, (∃ m, W 0 m σ H1) ∧ ∀ i m σ H, W i m σ H →
      (J.stop i H ∧ E.nx σ H) ∨ (J.go i H ∧ ∃ N : L2.St → Hp → Prop, (∀ σ' H', N σ' H' → ∃ m', m' < m ∧ W (i + 1) m' σ' H') ∧ ∀ x H', J.yld i H x H' → g x σ H' fun σ2 H2 => tb { E with nx := N, ct := N, bk := E.nx } σ2 H2)) : tFor wi g tb E σ H := q
end
end G

/-! the rules that name the written part, with its name told -/
namespace G
open PySem PySem.Spec PyProof.Rows L2
section
variable {X : Cx} {K : PySem.W.Frag}
theorem k_addU (h : X.K = K := by rfl) : OpR X (binaryOp .Add) (rAddU K) := by
  subst h
  exact op_addU
theorem k_eqU {k : Nat} (hr : Room k X.A) (h : X.K = K := by rfl) : OpR X (compareOp .Eq) (rEqU K) := by
  subst h
  exact op_eqU hr
theorem k_neU {k : Nat} (hr : Room k X.A) (h : X.K = K := by rfl) : OpR X (compareOp .NotEq) (rNeU K) := by
  subst h
  exact op_neU hr
theorem k_inU {k : Nat} (hr : Room k X.A) (h : X.K = K := by rfl) : OpR X (compareOp .In) (rInU K) := by
  subst h
  exact op_inU hr
theorem k_ninU {k : Nat} (hr : Room k X.A) (h : X.K = K := by rfl) : OpR X (compareOp .NotIn) (rNinU K) := by
  subst h
  exact op_ninU hr
theorem k_ixU (hu : X.A.units + 1 < cLine) (h : X.K = K := by rfl) : IxR X (rIxU K) := by
  subst h
  exact ix_U hu
theorem k_slU (h : X.K = K := by rfl) : SlR X (rSlU K) := by
  subst h
  exact sl_U
theorem k_lenU (h : X.K = K := by rfl) : CallR X (.builtin "len") (rLenU K) := by
  subst h
  exact call_lenU
theorem k_sum (hc : X.calm = true) (h : X.K = K := by rfl) : CallR X (.builtin "sum") (rSum K) := by
  subst h
  exact cr_sum hc
theorem k_any (hc : X.calm = true) (h : X.K = K := by rfl) : CallR X (.builtin "any") (rAny K) := by
  subst h
  exact cr_any hc
theorem k_all (hc : X.calm = true) (h : X.K = K := by rfl) : CallR X (.builtin "all") (rAll K) := by
  subst h
  exact cr_all hc
theorem k_max (hc : X.calm = true) (h : X.K = K := by rfl) : CallR X (.builtin "max") (rMax K) := by
  subst h
  exact cr_max hc
theorem k_min (hc : X.calm = true) (h : X.K = K := by rfl) : CallR X (.builtin "min") (rMin K) := by
  subst h
  exact cr_min hc
theorem k_sorted (hc : X.calm = true) (h : X.K = K := by rfl) : CallR X (.builtin "sorted") (rSrtU K) := by
  subst h
  exact call_sortedU hc
theorem k_isi (h : X.K = K := by rfl) : CallR X (.builtin "isinstance") (rIsi K) := by
  subst h
  exact call_isi
theorem k_list (h : X.K = K := by rfl) : CallR X (.type "list") (fun xs H Q => ∃ p ys, xs = [.ref p] ∧ (SqL K H p ys ∨ SqT K H p ys) ∧ ∀ l, H l = none → Q (.ref l) (upd H l (.lst ys))) := by
  subst h
  exact call_list_of
theorem k_tuple (h : X.K = K := by rfl) : CallR X (.type "tuple") (fun xs H Q => ∃ p ys, xs = [.ref p] ∧ ((SqL K H p ys ∧ ∀ l, H l = none → Q (.ref l) (upd H l (.tup ys))) ∨ (SqT K H p ys ∧ Q (.ref p) H))) := by
  subst h
  exact call_tuple_of
theorem k_dict (hc : X.calm = true) (h : X.K = K := by rfl) : CallR X (.type "dict") (fun xs H Q => ∃ (a : Addr) (ps : List Addr) (kvs : List (Key × V)), xs = [.ref a] ∧ SqL K H a (ps.map V.ref) ∧ Paired (fun p kv => SqT K H p [kV kv.1, kv.2]) ps kvs ∧
    (∀ p, H p = none → Q (.ref p) (upd H p (.dK (mergeK [] kvs))))) := by
  subst h
  exact call_dictP hc
theorem k_fld {e : Expr} {ta : TE} {f : Str} {pos : Pos} (he : PE X e ta) (hb : attributeBase e f X.env (eval e X.env) = eval e X.env) (h : X.K = K := by rfl) : PE X (.Attribute e f pos) (tFld K ta f) := by
  subst h
  exact pe_fld he hb
theorem k_sfld {o value : Expr} {ta tv : TE} {f : Str} {pos pos' : Pos} (ha : PE X o ta) (hv : PE X value tv) (hs : swapsWith value (some (.Attribute o f pos')) pos.line X.env = pure false) (h : X.K = K := by rfl) : PS X (.Assign [.Attribute o f pos'] value pos) (sFld K ta tv f) := by
  subst h
  exact ps_fld ha hv hs
theorem k_seq {tg l : Expr} {tl : TE} (hl : PE X l tl) (h : X.K = K := by rfl) : PI X tg l (iSeq K tl) := by
  subst h
  exact pi_seq hl
theorem k_tup {tg l : Expr} {tl : TE} (hl : PE X l tl) (h : X.K = K := by rfl) : PI X tg l (iTup K tl) := by
  subst h
  exact pi_tup hl
theorem k_enum {e : Expr} {ta : TA} {p pos tpos : Pos} {elts : List Expr} {kk : Nat} (hg : Gl X "enumerate") (hm : X.mg "enumerate" = none) (ha : PA X [e] ta) (hs : starEach [e] X.env = [(false, eval e X.env)] := by rfl) (h : X.K = K := by rfl) :
    PI X (.Tuple elts kk tpos) (.Call (.Name "enumerate" p) [e] [] pos) (iEnum K ta) := by
  subst h
  exact pi_enum hg hm ha hs
theorem k_zip {tg it : Expr} {ta : TA} (q : PI X tg it (iZip X.K ta)) (h : X.K = K := by rfl) : PI X tg it (iZip K ta) := by
  subst h
  exact q
theorem k_bm {T : String} {r : V → List V → Hp → VK → Prop} {to : TE} {t : TA} {e : Expr} (q : PE X e (tBM X.K T r to t)) (h : X.K = K := by rfl) : PE X e (tBM K T r to t) := by
  subst h
  exact q
theorem k_bm0 {T : String} {r : V → List V → Hp → VK → Prop} {to : TE} {e : Expr} (q : PE X e (tBM0 X.K T r to)) (h : X.K = K := by rfl) : PE X e (tBM0 K T r to) := by
  subst h
  exact q
theorem k_gtup {es : List Expr} {k : Nat} {t : TGs} {n : Nat} {pos : Pos} (hc : X.calm = true) (h : PGs X es t)
    (hn : (assignEach es X.env).length = n := by rfl) (hst : (assignEach es X.env).findIdx? (·.1) = none := by rfl) (hK : X.K = K := by rfl) : PG X (.Tuple es k pos) (gTup K n t) := by
  subst hK
  exact pg_tup hc h hn hst
end
end G

/-! the mirror's data: wishes -/
namespace G
open PySem PySem.Spec PyProof.Rows L2
abbrev AL := List (Int × Int)
structure W where
  ow : Int
  word : Str
  price : Int
  many : Int
  st : Bool
  tk : AL
  pl : AL
  deriving DecidableEq
def kvs (l : AL) : List (Key × V) := l.map fun p => (Sum.inl p.1, V.int p.2)
def alSum (l : AL) : Int := (l.map (·.2)).sum
def alGet : AL → Int → Option Int
  | [], _ => none
  | p :: r, k => if p.1 = k then some p.2 else alGet r k
def alPut : AL → Int → Int → AL
  | [], k, v => [(k, v)]
  | p :: r, k, v => if p.1 = k then (k, v) :: r else p :: alPut r k v
def alDrop (l : AL) (k : Int) : AL := l.filter fun p => decide (p.1 ≠ k)
def NdK (l : AL) : Prop := (l.map (·.1)).Nodup
theorem kvs_len {l : AL} : (kvs l).length = l.length := List.length_map ..
theorem kvs_isEmpty {l : AL} : (kvs l).isEmpty = l.isEmpty := by cases l <;> rfl
theorem kvs_val : ∀ {l : AL} {k : Int}, valV (kvs l) (Sum.inl k) = (alGet l k).map V.int
  | [], _ => rfl
  | p :: r, k => by
    show valV ((Sum.inl p.1, V.int p.2) :: kvs r) _ = _
    unfold alGet
    by_cases e : p.1 = k
    · rw [valV_pos (by rw [e]), if_pos e]
      rfl
    · rw [valV_neg (fun z => e (Sum.inl.inj z)), if_neg e]
      exact kvs_val
theorem alGet_none {l : AL} {k : Int} (h : alGet l k = none) : ∀ p ∈ l, p.1 ≠ k := by
  induction l with
  | nil => intro p hp; cases hp
  | cons a r ih =>
    unfold alGet at h
    by_cases e : a.1 = k
    · rw [if_pos e] at h; cases h
    · rw [if_neg e] at h
      intro p hp
      rcases List.mem_cons.mp hp with rfl | hp
      · exact e
      · exact ih h p hp
theorem alGet_mem {l : AL} (hn : NdK l) : ∀ p ∈ l, alGet l p.1 = some p.2 := by
  induction l with
  | nil => intro p hp; cases hp
  | cons a r ih =>
    obtain ⟨h1, h2⟩ := List.nodup_cons.mp (show (a.1 :: r.map (·.1)).Nodup from hn)
    intro p hp
    unfold alGet
    rcases List.mem_cons.mp hp with rfl | hp
    · rw [if_pos rfl]
    · rw [if_neg (fun z => h1 (List.mem_map.mpr ⟨p, hp, z.symm⟩))]
      exact ih h2 p hp
theorem alPut_none : ∀ {l : AL} {k v : Int}, alGet l k = none → alPut l k v = l ++ [(k, v)]
  | [], _, _, _ => rfl
  | p :: r, k, v, h => by
    unfold alGet at h
    by_cases e : p.1 = k
    · rw [if_pos e] at h; cases h
    · rw [if_neg e] at h
      unfold alPut
      rw [if_neg e, alPut_none h]
      rfl
theorem putK_cons_eq {p : Key × V} {r : List (Key × V)} {k : Key} {v : V} (hn : ∀ q ∈ r, q.1 ≠ k) (e : p.1 = k) : putK (p :: r) k v = (k, v) :: r := by
  have h0 : valV (p :: r) k = some p.2 := valV_pos e
  unfold putK
  have h1 : ((p :: r).any fun kv => decide (kv.1 = k)) = true := by rw [valV_any, h0]; rfl
  rw [if_pos h1]
  rw [List.map_cons, if_pos e, e]
  congr 1
  refine (List.map_congr_left fun q hq => ?_).trans (List.map_id r)
  rw [if_neg (hn q hq)]
  rfl
theorem putK_cons_ne {p : Key × V} {r : List (Key × V)} {k : Key} {v : V} (e : ¬ p.1 = k) : putK (p :: r) k v = p :: putK r k v := by
  unfold putK
  have h1 : ((p :: r).any fun kv => decide (kv.1 = k)) = r.any fun kv => decide (kv.1 = k) := by
    rw [List.any_cons, decide_eq_false e, Bool.false_or]
  rw [h1]
  split
  · rw [List.map_cons, if_neg e]
  · rfl
theorem kvs_put : ∀ {l : AL} {k v : Int}, NdK l → putK (kvs l) (Sum.inl k) (.int v) = kvs (alPut l k v)
  | [], _, _, _ => rfl
  | p :: r, k, v, hn => by
    obtain ⟨h1, h2⟩ := List.nodup_cons.mp (show (p.1 :: r.map (·.1)).Nodup from hn)
    show putK ((Sum.inl p.1, V.int p.2) :: kvs r) _ _ = _
    unfold alPut
    by_cases e : p.1 = k
    · rw [if_pos e, putK_cons_eq (fun q hq z => ?_) (by rw [e])]
      · rfl
      · obtain ⟨x, hx, rfl⟩ := List.mem_map.mp hq
        exact h1 (List.mem_map.mpr ⟨x, hx, (Sum.inl.inj z).trans e.symm⟩)
    · rw [if_neg e, putK_cons_ne (fun z => e (Sum.inl.inj z)), kvs_put h2]
      rfl
theorem kvs_drop {l : AL} {k : Int} : dropK (kvs l) (Sum.inl k) = kvs (alDrop l k) := by
  unfold dropK kvs alDrop
  rw [List.filter_map]
  congr 1
  refine List.filter_congr fun p _ => ?_
  by_cases e : p.1 = k <;> simp [e]
theorem alPut_mem : ∀ {l : AL} {k v : Int} {p : Int × Int}, p ∈ alPut l k v → p ∈ l ∨ p = (k, v)
  | [], _, _, _, h => .inr (List.mem_singleton.mp h)
  | a :: r, k, v, p, h => by
    unfold alPut at h
    by_cases e : a.1 = k
    · rw [if_pos e] at h
      rcases List.mem_cons.mp h with h | h
      · exact .inr h
      · exact .inl (.tail _ h)
    · rw [if_neg e] at h
      rcases List.mem_cons.mp h with h | h
      · exact .inl (h ▸ .head _)
      · rcases alPut_mem h with q | q
        · exact .inl (.tail _ q)
        · exact .inr q
theorem alPut_keys : ∀ {l : AL} {k v : Int} {j : Int}, j ∈ (alPut l k v).map (·.1) ↔ j ∈ l.map (·.1) ∨ j = k
  | [], k, v, j => by simp [alPut]
  | a :: r, k, v, j => by
    unfold alPut
    by_cases e : a.1 = k
    · rw [if_pos e]
      simp only [List.map_cons, List.mem_cons, e]
      constructor
      · rintro (h | h)
        · exact .inl (.inl h)
        · exact .inl (.inr h)
      · rintro ((h | h) | h)
        · exact .inl h
        · exact .inr h
        · exact .inl h
    · rw [if_neg e]
      simp only [List.map_cons, List.mem_cons]
      rw [alPut_keys (l := r)]
      constructor
      · rintro (h | h | h)
        · exact .inl (.inl h)
        · exact .inl (.inr h)
        · exact .inr h
      · rintro ((h | h) | h)
        · exact .inl h
        · exact .inr (.inl h)
        · exact .inr (.inr h)
theorem alPut_nd : ∀ {l : AL} {k v : Int}, NdK l → NdK (alPut l k v)
  | [], k, v, _ => by simp [NdK, alPut]
  | a :: r, k, v, hn => by
    obtain ⟨h1, h2⟩ := List.nodup_cons.mp (show (a.1 :: r.map (·.1)).Nodup from hn)
    unfold alPut
    by_cases e : a.1 = k
    · rw [if_pos e]
      exact List.nodup_cons.mpr ⟨by rw [← e]; exact h1, h2⟩
    · rw [if_neg e]
      refine List.nodup_cons.mpr ⟨fun z => ?_, alPut_nd h2⟩
      rcases alPut_keys.mp z with q | q
      · exact h1 q
      · exact e q
theorem alPut_len {l : AL} {k v : Int} : (alPut l k v).length ≤ l.length + 1 := by
  induction l with
  | nil => exact Nat.le_refl _
  | cons a r ih =>
    unfold alPut
    split
    · simp
    · simp only [List.length_cons]; omega
theorem alDrop_nd {l : AL} {k : Int} (hn : NdK l) : NdK (alDrop l k) := List.Pairwise.sublist (List.Sublist.map _ List.filter_sublist) hn
theorem alDrop_len {l : AL} {k : Int} : (alDrop l k).length ≤ l.length := List.length_filter_le _ _

theorem al_getD {l : AL} {k d : Int} : (valV (kvs l) (Sum.inl k)).getD (.int d) = .int ((alGet l k).getD d) := by
  rw [kvs_val]
  cases alGet l k <;> rfl
theorem al_some {l : AL} {k : Int} : (valV (kvs l) (Sum.inl k)).isSome = (alGet l k).isSome := by
  rw [kvs_val]
  cases alGet l k <;> rfl
theorem alDrop_no {l : AL} {k : Int} (h : alGet l k = none) : alDrop l k = l := List.filter_eq_self.mpr fun p hp => decide_eq_true (alGet_none h p hp)
theorem kvs_lt {l : AL} (h : l.length ≤ 50) : (kvs l).length < sizeLine := by
  rw [kvs_len]
  exact Nat.lt_of_le_of_lt h (by decide)

/-! a wish's numbers -/
def held (w : W) : Int := alSum w.tk + if w.pl.isEmpty then 0 else 1
def free (w : W) : Int := if w.many - held w > 0 then w.many - held w else 0
def lacking (w : W) : Int := w.price - alSum w.pl
/-- a wish that the program keeps -/
structure WOk (w : W) : Prop where
  nt : NdK w.tk
  np : NdK w.pl
  kt : ∀ p ∈ w.tk, 0 ≤ p.1 ∧ p.1 < 5
  kp : ∀ p ∈ w.pl, 0 ≤ p.1 ∧ p.1 < 5
  lw : w.word.length ≤ 1000
theorem len_lt : ∀ (n : Nat) {l : List Int}, l.Nodup → (∀ k ∈ l, 0 ≤ k ∧ k < (n : Int)) → l.length ≤ n
  | 0, l, _, h => by
    cases l with
    | nil => exact Nat.le_refl _
    | cons a r => have := h a (.head _); omega
  | n + 1, l, nd, h => by
    have e : (l.filter fun k => decide (k ≠ (n : Int))).length ≤ n := len_lt n (nd.sublist List.filter_sublist) fun k hk => by
      obtain ⟨h1, h2⟩ := List.mem_filter.mp hk
      have := h k h1
      have : k ≠ (n : Int) := of_decide_eq_true h2
      omega
    have e2 : l.length ≤ (l.filter fun k => decide (k ≠ (n : Int))).length + 1 := by
      clear e h
      induction l with
      | nil => simp
      | cons a r ih =>
        obtain ⟨h1, h2⟩ := List.nodup_cons.mp nd
        by_cases ea : a = (n : Int)
        · have : r.filter (fun k => decide (k ≠ (n : Int))) = r := List.filter_eq_self.mpr fun x hx => decide_eq_true fun z => h1 (by rw [ea, ← z]; exact hx)
          rw [List.filter_cons, if_neg (by simp [ea]), this]
          simp
        · rw [List.filter_cons, if_pos (by simp [ea])]
          have := ih h2
          simp only [List.length_cons]
          omega
    omega
theorem WOk.lt {w : W} (h : WOk w) : w.tk.length ≤ 50 := by
  have := len_lt 5 h.nt (fun k hk => by
    obtain ⟨p, hp, rfl⟩ := List.mem_map.mp hk
    exact h.kt p hp)
  rw [List.length_map] at this
  omega
theorem WOk.lp {w : W} (h : WOk w) : w.pl.length ≤ 50 := by
  have := len_lt 5 h.np (fun k hk => by
    obtain ⟨p, hp, rfl⟩ := List.mem_map.mp hk
    exact h.kp p hp)
  rw [List.length_map] at this
  omega

/-! rows of a dict's values, asked by its keys -/
section
variable {K : PySem.W.Frag} {H D : Hp} {Ms R : List (List Cell)} {σ : L2.St} {Q : VK}
theorem comp_self {p C dx d : Addr} {fs : List (Str × V)} {f : Str} {j : Nat} {l : AL} (hσ : ∀ x, (σ.set j x)[0]? = some (some (.ref p))) (hj : decide (j < σ.length) = true) (o : Ok H D Ms) (k : Pk Ms [(d, .dK (kvs l))] R) (hp : [(p, .ins C dx fs)] ∈ R) (c : Cls K C) (na : NoAttr K C f)
    (lk : fs.lookup f = some (.ref d)) (hn : NdK l) (hl : l.length ≤ 1000) (q : ∀ L H', Ok H' D ([(d, .dK (kvs l))] :: [(L, .lst (l.map fun p => V.int p.2))] :: R) → Q (.ref L) H') (h0 : σ[0]? = some (some (.ref p))) :
    tLockE (tLc (iKeys (tFld K (tVar 0) f)) (gName j) tYes (tOp (rIxU K) (tFld K (tVar 0) f) (tVar j)) [j]) σ H Q := by
  refine r_lockE o k trivial fun od H1 o1 => ?_
  refine r_lc (i_keys (r_fld (r_var h0 ?_)))
  refine r_fldE (o1.at1 (.tail _ hp)) c na lk ?_
  refine r_ikeys (o1.at1 (.head _)) ?_
  have hlen : (kvs l).length ≤ 100000 := by rw [kvs_len]; omega
  refine lcMap (fun i => V.int (l.getD i (0, 0)).2) walk_keys o1 hlen (fun L acc H' o' => o'.at1 (.tail _ (.head _))) ?_ ?_
  · rintro i x L acc H' H'' Ny Nn hi o' ⟨rfl, key, v, hk, rfl⟩ q'
    have hi' : i < l.length := by rw [kvs_len] at hi; exact hi
    have e1 : (kvs l)[i]? = some (Sum.inl (l[i]).1, V.int (l[i]).2) := by
      unfold kvs
      rw [List.getElem?_map, List.getElem?_eq_getElem hi']
      rfl
    rw [e1] at hk
    obtain ⟨rfl, rfl⟩ := Prod.mk.inj (Option.some.inj hk)
    refine r_name ⟨by simp [wipe, List.set_set], ?_⟩
    refine r_yes (r_iteT (r_op (r_fld (r_var (v := .ref p) ?_ ?_))))
    rotate_left
    · refine r_fldE (o'.at1 (.tail _ (.tail _ hp))) c na lk ?_
      refine r_var (v := V.int (l[i]).1) ?_ ?_
      · show ((σ.set j none).set j _)[j]? = _
        rw [List.getElem?_set_self (by simp; exact of_decide_eq_true hj)]
        rfl
      · refine r_ixF (k := Sum.inl (l[i]).1) (v := V.int (l[i]).2) (o'.at1 (.tail _ (.head _))) rfl ?_ ?_
        · rw [kvs_val, alGet_mem hn _ (List.getElem_mem hi')]
          rfl
        · have e2 : (l.getD i (0, 0)) = l[i] := by simp [hi']
          rw [← e2]
          exact q' _ o'
    · show ((σ.set j none).set j _)[0]? = _
      rw [List.set_set]
      exact hσ _
  · intro L H' o'
    refine r_unlock o' (.there .here) fun H2 o2 => ?_
    have e3 : (List.range (kvs l).length).map (fun i => V.int (l.getD i (0, 0)).2) = l.map fun p => V.int p.2 := by
      refine List.ext_getElem (by simp [kvs_len]) fun i h1 h2 => ?_
      simp at h2
      simp [h2]
    rw [e3] at o2
    exact q L H2 o2
theorem r_sumAL {a : Addr} {l : AL} (h : SqL K H a (l.map fun p => V.int p.2)) (q : Q (.int (alSum l)) H) : rSum K [.ref a] H Q := r_sum (ns := l.map (fun (p : Int × Int) => p.2)) h (by rw [List.map_map]; rfl) q
end
end G

/-! wishes in the heap -/
namespace G
open PySem PySem.Spec PyProof.Rows L2
def wishF (w : W) (t q : Addr) : List (Str × V) := [("owner", .int w.ow), ("word", .str w.word), ("price", .int w.price), ("many", .int w.many), ("stands", .bl w.st), ("takings", .ref t), ("pledges", .ref q)]
structure WA where
  p : Addr
  dx : Addr
  t : Addr
  q : Addr
def cW (C : Addr) (x : WA) (w : W) : List Cell := [(x.p, .ins C x.dx (wishF w x.t x.q)), (x.t, .dK (kvs w.tk)), (x.q, .dK (kvs w.pl))]
section
variable {H D : Hp} {R : List (List Cell)} {C : Addr} {x : WA} {w : W}
theorem Ok.openW (o : Ok H D (cW C x w :: R)) : Ok H D ([(x.p, .ins C x.dx (wishF w x.t x.q))] :: [(x.t, .dK (kvs w.tk))] :: [(x.q, .dK (kvs w.pl))] :: R) := o.re (.of_eq (by simp [cW]))
theorem Ok.shutW (o : Ok H D ([(x.p, .ins C x.dx (wishF w x.t x.q))] :: [(x.t, .dK (kvs w.tk))] :: [(x.q, .dK (kvs w.pl))] :: R)) : Ok H D (cW C x w :: R) := o.re (.of_eq (by simp [cW]))
end
/-! lists of wishes -/
def gF (people : Int) (l : Addr) : List (Str × V) := [("people", .int people), ("wishes", .ref l)]
abbrev XS := List (WA × W)
def WS (C : Addr) (xs : XS) : List Cell := xs.flatMap fun x => cW C x.1 x.2
def WSx (C : Addr) (xs : XS) (i : Nat) : List Cell := WS C (xs.take i) ++ WS C (xs.drop (i + 1))
def refs (xs : XS) : List V := xs.map fun x => .ref x.1.p
def cG (CG CW g dx l : Addr) (people : Int) (xs : XS) : List Cell := (g, .ins CG dx (gF people l)) :: (l, .lst (refs xs)) :: WS CW xs
def wsOf (xs : XS) : List W := xs.map (·.2)
section
variable {H D : Hp} {R : List (List Cell)} {C CG CW g dx l : Addr} {people : Int} {xs : XS} {i : Nat} {x : WA × W}
theorem Ok.openG (o : Ok H D (cG CG CW g dx l people xs :: R)) : Ok H D ([(g, .ins CG dx (gF people l))] :: [(l, .lst (refs xs))] :: WS CW xs :: R) := o.re (.of_eq (by simp [cG]))
theorem Ok.shutG (o : Ok H D ([(g, .ins CG dx (gF people l))] :: [(l, .lst (refs xs))] :: WS CW xs :: R)) : Ok H D (cG CG CW g dx l people xs :: R) := o.re (.of_eq (by simp [cG]))
theorem split_at (h : xs[i]? = some x) : xs = xs.take i ++ x :: xs.drop (i + 1) := by
  obtain ⟨hi, e⟩ := List.getElem?_eq_some_iff.mp h
  rw [← e, List.getElem_cons_drop]
  exact (List.take_append_drop i xs).symm
theorem WS_perm (h : xs[i]? = some x) : (WS C xs).Perm (cW C x.1 x.2 ++ WSx C xs i) := by
  conv => lhs; rw [split_at h]
  unfold WSx WS
  rw [List.flatMap_append, List.flatMap_cons]
  exact List.perm_append_comm_assoc _ _ _
theorem WSx_set {x' : WA × W} : WSx C (xs.set i x') i = WSx C xs i := by
  unfold WSx
  rw [List.take_set_of_le (Nat.le_refl _), List.drop_set_of_lt (Nat.lt_succ_self _)]
theorem Ok.openI (o : Ok H D (WS C xs :: R)) (h : xs[i]? = some x) : Ok H D (cW C x.1 x.2 :: WSx C xs i :: R) := o.re (by
  rw [List.flatten_cons, List.flatten_cons, List.flatten_cons, ← List.append_assoc]
  exact (WS_perm h).append_right _)
theorem Ok.shutI {x' : WA × W} (o : Ok H D (cW C x'.1 x'.2 :: WSx C xs i :: R)) (h : i < xs.length) : Ok H D (WS C (xs.set i x') :: R) := o.re (by
  rw [List.flatten_cons, List.flatten_cons, List.flatten_cons, ← List.append_assoc, ← WSx_set (x' := x')]
  exact (WS_perm (by rw [List.getElem?_set_self h])).symm.append_right _)
theorem set_same (h : xs[i]? = some x) : xs.set i x = xs := by
  obtain ⟨hi, e⟩ := List.getElem?_eq_some_iff.mp h
  rw [← e]
  exact List.set_getElem_self hi
theorem refs_set {x' : WA × W} (h : xs[i]? = some x) (e : x'.1.p = x.1.p) : refs (xs.set i x') = refs xs := by
  unfold refs
  rw [List.map_set, e]
  refine List.ext_getElem? fun j => ?_
  by_cases hj : i = j
  · subst hj
    rw [List.getElem?_set_self (by simp; exact (List.getElem?_eq_some_iff.mp h).1), List.getElem?_map, h]
    rfl
  · rw [List.getElem?_set_ne hj]
theorem wsOf_set {x' : WA × W} : wsOf (xs.set i x') = (wsOf xs).set i x'.2 := by
  unfold wsOf
  rw [List.map_set]
theorem wsOf_get : (wsOf xs)[i]? = xs[i]?.map (·.2) := by
  unfold wsOf
  rw [List.getElem?_map]
theorem wsOf_len : (wsOf xs).length = xs.length := List.length_map ..
theorem refs_len : (refs xs).length = xs.length := List.length_map ..
end
/-- at a wish of the list -/
theorem at_wish {xs : XS} {m : Int} {x : WA × W} (h0 : 0 ≤ m) (h : xs[m.toNat]? = some x) : atI (refs xs) m = some (.ref x.1.p) := by
  have e : m = ((m.toNat : Nat) : Int) := by omega
  rw [e]
  refine atI_nat ?_
  unfold refs
  rw [List.getElem?_map, h]
  rfl
end G

/-! sorted pairs -/
namespace G
open PySem PySem.Spec PyProof.Rows L2
def insK (a : Int) : List Int → List Int
  | [] => [a]
  | b :: r => if a ≤ b then a :: b :: r else b :: insK a r
def srtK : List Int → List Int
  | [] => []
  | a :: r => insK a (srtK r)
theorem insK_perm (a : Int) : ∀ l, (insK a l).Perm (a :: l)
  | [] => .refl _
  | b :: r => by
    unfold insK
    split
    · exact .refl _
    · exact ((insK_perm a r).cons b).trans (.swap _ _ _)
theorem srtK_perm : ∀ l : List Int, (srtK l).Perm l
  | [] => .refl _
  | a :: r => (insK_perm a _).trans ((srtK_perm r).cons a)
theorem insK_sorted (a : Int) : ∀ {l : List Int}, l.Pairwise (· ≤ ·) → (insK a l).Pairwise (· ≤ ·)
  | [], _ => by simp [insK]
  | b :: r, h => by
    obtain ⟨h1, h2⟩ := List.pairwise_cons.mp h
    unfold insK
    split
    · rename_i hab
      refine List.pairwise_cons.mpr ⟨fun c hc => ?_, h⟩
      rcases List.mem_cons.mp hc with rfl | hc
      · exact hab
      · exact Int.le_trans hab (h1 c hc)
    · rename_i hab
      refine List.pairwise_cons.mpr ⟨fun c hc => ?_, insK_sorted a h2⟩
      rcases List.mem_cons.mp ((insK_perm a r).subset hc) with rfl | hc
      · omega
      · exact h1 c hc
theorem srtK_sorted : ∀ l : List Int, (srtK l).Pairwise (· ≤ ·)
  | [] => .nil
  | a :: r => insK_sorted a (srtK_sorted r)
theorem sorted_one : ∀ {l m : List Int}, l.Perm m → l.Pairwise (· ≤ ·) → m.Pairwise (· ≤ ·) → l = m
  | [], m, h, _, _ => (List.nil_perm.mp h).symm
  | a :: r, m, h, hl, hm => by
    cases m with
    | nil => exact absurd h.length_eq (by simp)
    | cons b s =>
      obtain ⟨l1, l2⟩ := List.pairwise_cons.mp hl
      obtain ⟨m1, m2⟩ := List.pairwise_cons.mp hm
      have ab : a = b := by
        have h1 : a ∈ b :: s := h.subset (.head _)
        have h2 : b ∈ a :: r := h.symm.subset (.head _)
        rcases List.mem_cons.mp h1 with e | e
        · exact e
        · rcases List.mem_cons.mp h2 with f | f
          · exact f.symm
          · exact Int.le_antisymm (l1 b f) (m1 a e)
      subst ab
      rw [sorted_one ((List.perm_cons a).mp h) l2 m2]
def srt (l : AL) : AL := (srtK (l.map (·.1))).map fun k => (k, (alGet l k).getD 0)
abbrev Prs (D : Hp) : List Addr → AL → Prop := Paired fun a p => D a = some (.tup [.int p.1, .int p.2])
theorem Prs.mono {D D' : Hp} (e : Same D D') {as : List Addr} {l : AL} (h : Prs D as l) : Prs D' as l := Paired.mapP h fun a p q => e _ _ q
theorem Prs.snoc {D : Hp} {as : List Addr} {l : AL} {a : Addr} {p : Int × Int} (h : Prs D as l) (e : D a = some (.tup [.int p.1, .int p.2])) : Prs D (as ++ [a]) (l ++ [p]) := by
  induction h with
  | nil => exact .cons e .nil
  | cons x _ ih => exact .cons x ih
section
variable {K : PySem.W.Frag} {H D : Hp} {Ms R : List (List Cell)} {σ : L2.St} {Q : VK}
theorem r_sortD {a : Addr} {l : AL} (o : Ok H D Ms) (h : H a = some (.dK (kvs l))) (hl : l.length < 64) (q : ∀ p H', Ok H' D ([(p, .lst ((srtK (l.map (·.1))).map V.int))] :: Ms) → Q (.ref p) H') : rSrtU K [.ref a] H Q := by
  refine .inl ⟨a, kvs l, l.map (·.1), rfl, .inl h, ?_, by simp; exact hl, fun ys p hp hs n => ?_⟩
  · unfold kvs
    rw [List.map_map, List.map_map]
    rfl
  · rw [sorted_one (hp.trans (srtK_perm _).symm) hs (srtK_sorted _)]
    exact q p _ (o.new n)
/-- [(k, self.f[k]) for k in sorted(self.f)] -/
theorem comp_pairs {E : Ends} {p C dx d : Addr} {fs : List (Str × V)} {f : Str} {i j : Nat} {l : AL} (h0 : σ[0]? = some (some (.ref p))) (hσ : ∀ x, (σ.set j x)[0]? = some (some (.ref p))) (hj : decide (j < σ.length) = true) (o : Ok H D Ms) (k : [(d, .dK (kvs l))] ∈ Ms) (hp : [(p, .ins C dx fs)] ∈ Ms) (c : Cls K C) (na : NoAttr K C f)
    (lk : fs.lookup f = some (.ref d)) (hn : NdK l) (hl : l.length ≤ 50) (q : ∀ L H' D' as, Ok H' D' ([(L, .lst (as.map V.ref))] :: Ms) → Same D D' → Prs D' as (srt l) → E.nx (σ.set i (some (.ref L))) H') :
    tAsg (tLc (iSeq K (tCB (rSrtU K) (tCons (tFld K (tVar 0) f) tNil))) (gName j) tYes (tTup (tCons (tVar j) (tCons (tOp (rIxU K) (tFld K (tVar 0) f) (tVar j)) tNil))) [j]) (gName i) E σ H := by
  refine r_asg (r_lc (i_seq (r_cb (r_cons (r_fld (r_var h0 ?_))))))
  refine r_fldE (o.at1 hp) c na lk ?_
  refine r_nil ?_
  refine r_sortD o (o.at1 k) (by omega) fun S H1 o1 => ?_
  refine r_iseqL (xs := (srtK (l.map (·.1))).map V.int) (SqL.of (o1.at1 (.head _))) ?_
  have slen : (srtK (l.map (·.1))).length = l.length := by rw [(srtK_perm _).length_eq, List.length_map]
  refine lcG walk_list o1 (fun i acc D' => ∃ as, acc = as.map V.ref ∧ Prs D' as ((srt l).take i)) (by simp [slen]; omega) ⟨[], rfl, .nil⟩ ?_ (fun _ _ _ _ _ o' _ _ => SqL.of (o'.at1 (.tail _ (.head _)))) ?_ ?_
  · rintro i acc D' ⟨as, rfl, h⟩
    have := Paired.length h
    simp at this
    simp
    omega
  · rintro i x L acc H' H'' D' Ny Nn hi o' s' ⟨as, rfl, has⟩ ⟨rfl, hx⟩ kk _
    have hi' : i < (srtK (l.map (·.1))).length := by simpa using hi
    rw [List.getElem?_map, List.getElem?_eq_getElem hi'] at hx
    obtain rfl := Option.some.inj hx
    have hm : (srtK (l.map (·.1)))[i] ∈ l.map (·.1) := (srtK_perm _).subset (List.getElem_mem hi')
    obtain ⟨pp, hpp, ep⟩ := List.mem_map.mp hm
    have eg := alGet_mem hn pp hpp
    have ep : pp.1 = (srtK (l.map (·.1)))[i] := ep
    rw [ep] at eg
    have et : (srt l).take (i + 1) = (srt l).take i ++ [((srtK (l.map (·.1)))[i], pp.2)] := by
      have h1 : (srt l)[i]? = some ((srtK (l.map (·.1)))[i], pp.2) := by
        unfold srt
        rw [List.getElem?_map, List.getElem?_eq_getElem hi']
        show some (_, (alGet l _).getD 0) = _
        rw [eg]
        rfl
      rw [List.take_succ, h1]
      rfl
    refine r_name ⟨by simp [wipe, List.set_set], ?_⟩
    refine r_yes (r_iteT (r_tup (r_cons (r_var (v := V.int (srtK (l.map (·.1)))[i]) ?_ ?_))))
    · show ((σ.set j none).set j _)[j]? = _
      rw [List.getElem?_set_self (by simp; exact of_decide_eq_true hj)]
    · refine r_cons (r_op (r_fld (r_var (v := .ref p) ?_ ?_)))
      · show ((σ.set j none).set j _)[0]? = _
        rw [List.set_set]
        exact hσ _
      · refine r_fldE (o'.at1 (.tail _ (.tail _ hp))) c na lk ?_
        refine r_var (v := V.int (srtK (l.map (·.1)))[i]) ?_ ?_
        · show ((σ.set j none).set j _)[j]? = _
          rw [List.getElem?_set_self (by simp; exact of_decide_eq_true hj)]
        · refine r_ixD (k := Sum.inl _) (v := V.int pp.2) (o'.at1 (.tail _ (.tail _ k))) rfl (by rw [kvs_val, eg]; rfl) ?_
          refine r_nil ?_
          refine ⟨by show 2 ≤ sizeLine; decide, fun P nP => ?_⟩
          obtain ⟨o2, s2⟩ := o'.newD (o := .tup [.int (srtK (l.map (·.1)))[i], .int pp.2]) nP
          refine kk _ _ _ o2 s2 ⟨as ++ [P], by simp, ?_⟩
          rw [et]
          exact (has.mono s2).snoc upd_same
  · rintro L acc H' D' o' s' ⟨as, rfl, has⟩
    have el : ((srtK (l.map (·.1))).map V.int).length = (srt l).length := by simp [srt]
    rw [el, List.take_length] at has
    exact r_name (q L H' D' as (o'.sel (.pick .here (.done (.there .here)))) s' has)
end
end G

/-! the mirror's ops -/
namespace G
open PySem PySem.Spec PyProof.Rows L2
def isW : V → Bool
  | .int _ => true
  | _ => false
def isC (lo hi : Int) : V → Bool
  | .int i => decide (lo ≤ i) && decide (i ≤ hi)
  | _ => false

theorem isC_int {lo hi i : Int} : isC lo hi (.int i) = (decide (lo ≤ i) && decide (i ≤ hi)) := rfl
def lets : List Nat := ("abcdefghijklmnopqrstuvwxyz" : Str).cps.toList
def okWord (z : Str) : Bool := decide (1 ≤ (z.length : Int)) && decide ((z.length : Int) ≤ 4) && z.cps.toList.all fun c => decide (c ∈ lets)
def isWd : V → Bool
  | .str z => okWord z
  | _ => false
inductive Err
  | people | person | word | price | many | wish | amount | none | much | toomany
  deriving DecidableEq
def intOf : V → Int
  | .int i => i
  | _ => 0
def strOf : V → Str
  | .str z => z
  | _ => ⟨#[]⟩
theorem isC_is {lo hi : Int} {x : V} (h : isC lo hi x = true) : ∃ i, x = .int i ∧ lo ≤ i ∧ i ≤ hi := by
  cases x <;> first | cases h | skip
  rename_i i
  rw [isC_int, Bool.and_eq_true] at h
  exact ⟨i, rfl, of_decide_eq_true h.1, of_decide_eq_true h.2⟩
theorem isWd_is {x : V} (h : isWd x = true) : ∃ z, x = .str z ∧ okWord z = true := by
  cases x <;> first | cases h | skip
  exact ⟨_, rfl, h⟩
theorem decV {m n : Int} : decide (V.int m = V.int n) = decide (m = n) := by
  by_cases e : m = n
  · subst e; simp
  · rw [decide_eq_false e, decide_eq_false fun z => e (V.int.inj z)]
def ownAt (pe : Int) (ws : List W) (o w : V) : Except Err (Nat × W) :=
  bif !(isC 0 (pe - 1) o) then .error .person else
  bif !(isC 0 ((ws.length : Int) - 1) w) then .error .wish else
  match ws[(intOf w).toNat]? with
  | none => .error .wish
  | some x => bif !decide (x.ow = intOf o) || !x.st then .error .wish else .ok ((intOf w).toNat, x)
def otherAt (pe : Int) (ws : List W) (o w : V) : Except Err (Nat × W) :=
  bif !(isC 0 (pe - 1) o) then .error .person else
  bif !(isC 0 ((ws.length : Int) - 1) w) then .error .wish else
  match ws[(intOf w).toNat]? with
  | none => .error .wish
  | some x => bif decide (x.ow = intOf o) || !x.st then .error .wish else .ok ((intOf w).toNat, x)
section
variable {pe : Int} {ws : List W} {o n : V} {j m : Int} {x : W}
theorem ownAt_p (h : isC 0 (pe - 1) o = false) : ownAt pe ws o n = .error .person := by unfold ownAt; rw [h]; rfl
theorem otherAt_p (h : isC 0 (pe - 1) o = false) : otherAt pe ws o n = .error .person := by unfold otherAt; rw [h]; rfl
theorem ownAt_w (h : isC 0 (pe - 1) o = true) (h2 : isC 0 ((ws.length : Int) - 1) n = false) : ownAt pe ws o n = .error .wish := by unfold ownAt; rw [h, h2]; rfl
theorem otherAt_w (h : isC 0 (pe - 1) o = true) (h2 : isC 0 ((ws.length : Int) - 1) n = false) : otherAt pe ws o n = .error .wish := by unfold otherAt; rw [h, h2]; rfl
theorem ownAt_e (h : isC 0 (pe - 1) (.int j) = true) (h2 : isC 0 ((ws.length : Int) - 1) (.int m) = true) (hx : ws[m.toNat]? = some x) : ownAt pe ws (.int j) (.int m) = bif !decide (x.ow = j) || !x.st then .error .wish else .ok (m.toNat, x) := by
  unfold ownAt; rw [h, h2]; show (match ws[m.toNat]? with | none => _ | some x => _) = _; rw [hx]; rfl
theorem otherAt_e (h : isC 0 (pe - 1) (.int j) = true) (h2 : isC 0 ((ws.length : Int) - 1) (.int m) = true) (hx : ws[m.toNat]? = some x) : otherAt pe ws (.int j) (.int m) = bif decide (x.ow = j) || !x.st then .error .wish else .ok (m.toNat, x) := by
  unfold otherAt; rw [h, h2]; show (match ws[m.toNat]? with | none => _ | some x => _) = _; rw [hx]; rfl
theorem ownAt_ok {r : Nat × W} (h : ownAt pe ws o n = .ok r) : isC 0 (pe - 1) o = true ∧ ws[r.1]? = some r.2 := by
  cases e : isC 0 (pe - 1) o with
  | false => rw [ownAt_p e] at h; cases h
  | true =>
    unfold ownAt at h
    rw [e] at h
    refine ⟨rfl, ?_⟩
    cases e2 : isC 0 ((ws.length : Int) - 1) n with
    | false => rw [e2] at h; cases h
    | true =>
      rw [e2] at h
      cases e3 : ws[(intOf n).toNat]? with
      | none => rw [e3] at h; cases h
      | some x =>
        rw [e3] at h
        simp only [Bool.not_true, cond_false] at h
        cases e4 : (!decide (x.ow = intOf o) || !x.st) with
        | true => rw [e4] at h; cases h
        | false =>
          rw [e4] at h
          cases h
          exact e3
theorem otherAt_ok {r : Nat × W} (h : otherAt pe ws o n = .ok r) : isC 0 (pe - 1) o = true ∧ ws[r.1]? = some r.2 := by
  cases e : isC 0 (pe - 1) o with
  | false => rw [otherAt_p e] at h; cases h
  | true =>
    unfold otherAt at h
    rw [e] at h
    refine ⟨rfl, ?_⟩
    cases e2 : isC 0 ((ws.length : Int) - 1) n with
    | false => rw [e2] at h; cases h
    | true =>
      rw [e2] at h
      cases e3 : ws[(intOf n).toNat]? with
      | none => rw [e3] at h; cases h
      | some x =>
        rw [e3] at h
        simp only [Bool.not_true, cond_false] at h
        cases e4 : (decide (x.ow = intOf o) || !x.st) with
        | true => rw [e4] at h; cases h
        | false =>
          rw [e4] at h
          cases h
          exact e3
end
def mWish (pe : Int) (ws : List W) (o z p m : V) : Except Err (List W × Int) :=
  bif !(isC 0 (pe - 1) o) then .error .person else
  bif !(isWd z) then .error .word else
  bif !(isC 1 20 p) then .error .price else
  bif !(isC 1 3 m) then .error .many else
  bif decide (ws.length = 8) then .error .toomany else
  .ok (ws ++ [⟨intOf o, strOf z, intOf p, intOf m, true, [], []⟩], (ws.length : Int))
def mAlter (pe : Int) (ws : List W) (o w m : V) : Except Err (List W × Int) :=
  match ownAt pe ws o w with
  | .error e => .error e
  | .ok (i, x) => bif !(isC 1 3 m) then .error .many else .ok (ws.set i { x with many := intOf m }, x.many)
def mDrop (pe : Int) (ws : List W) (o w : V) : Except Err (List W) :=
  match ownAt pe ws o w with
  | .error e => .error e
  | .ok (i, x) => .ok (ws.set i { x with st := false })
def takeW (x : W) (p c : Int) : W := { x with tk := alPut x.tk p ((alGet x.tk p).getD 0 + c) }
def pledgeW (x : W) (p c : Int) : W := { x with pl := alPut x.pl p ((alGet x.pl p).getD 0 + c) }
def backW (x : W) (p : Int) : W := { x with tk := alDrop x.tk p, pl := alDrop x.pl p }
def mTake (pe : Int) (ws : List W) (p w c : V) : Except Err (List W × Int) :=
  match otherAt pe ws p w with
  | .error e => .error e
  | .ok (i, x) => bif !(isC 1 3 c) then .error .many else bif decide (free x < intOf c) then .error .none else .ok (ws.set i (takeW x (intOf p) (intOf c)), free (takeW x (intOf p) (intOf c)))
def mPledge (pe : Int) (ws : List W) (p w c : V) : Except Err (List W × Int) :=
  match otherAt pe ws p w with
  | .error e => .error e
  | .ok (i, x) => bif !(isC 1 20 c) then .error .amount else bif x.pl.isEmpty && decide (free x = 0) then .error .none else bif decide (lacking x < intOf c) then .error .much else
    .ok (ws.set i (pledgeW x (intOf p) (intOf c)), lacking (pledgeW x (intOf p) (intOf c)))
def mBack (pe : Int) (ws : List W) (p w : V) : Except Err (List W × Int × Int) :=
  bif !(isC 0 (pe - 1) p) then .error .person else
  bif !(isC 0 ((ws.length : Int) - 1) w) then .error .wish else
  match ws[(intOf w).toNat]? with
  | none => .error .wish
  | some x => bif !(alGet x.tk (intOf p)).isSome && !(alGet x.pl (intOf p)).isSome then .error .wish else
    .ok (ws.set (intOf w).toNat (backW x (intOf p)), (alGet x.tk (intOf p)).getD 0, (alGet x.pl (intOf p)).getD 0)
section
variable {pe : Int} {ws : List W} {o n c : V} {i : Nat} {x : W}
theorem mTake_n (ef : otherAt pe ws o n = .ok (i, x)) (h2 : isC 1 3 c = true) (h : decide (free x < intOf c) = true) : mTake pe ws o n c = .error .none := by
  unfold mTake; rw [ef]; show (bif !(isC 1 3 c) then _ else bif decide (free x < intOf c) then _ else _) = _; rw [h2, h]; rfl
theorem mTake_o (ef : otherAt pe ws o n = .ok (i, x)) (h2 : isC 1 3 c = true) (h : decide (free x < intOf c) = false) : mTake pe ws o n c = .ok (ws.set i (takeW x (intOf o) (intOf c)), free (takeW x (intOf o) (intOf c))) := by
  unfold mTake; rw [ef]; show (bif !(isC 1 3 c) then _ else bif decide (free x < intOf c) then _ else _) = _; rw [h2, h]; rfl
theorem mPledge_n (ef : otherAt pe ws o n = .ok (i, x)) (h2 : isC 1 20 c = true) (h : (x.pl.isEmpty && decide (free x = 0)) = true) : mPledge pe ws o n c = .error .none := by
  unfold mPledge; rw [ef]; show (bif !(isC 1 20 c) then _ else bif x.pl.isEmpty && decide (free x = 0) then _ else bif decide (lacking x < intOf c) then _ else _) = _; rw [h2, h]; rfl
theorem mPledge_m (ef : otherAt pe ws o n = .ok (i, x)) (h2 : isC 1 20 c = true) (h : (x.pl.isEmpty && decide (free x = 0)) = false) (h3 : decide (lacking x < intOf c) = true) : mPledge pe ws o n c = .error .much := by
  unfold mPledge; rw [ef]; show (bif !(isC 1 20 c) then _ else bif x.pl.isEmpty && decide (free x = 0) then _ else bif decide (lacking x < intOf c) then _ else _) = _; rw [h2, h, h3]; rfl
theorem mPledge_o (ef : otherAt pe ws o n = .ok (i, x)) (h2 : isC 1 20 c = true) (h : (x.pl.isEmpty && decide (free x = 0)) = false) (h3 : decide (lacking x < intOf c) = false) : mPledge pe ws o n c = .ok (ws.set i (pledgeW x (intOf o) (intOf c)), lacking (pledgeW x (intOf o) (intOf c))) := by
  unfold mPledge; rw [ef]; show (bif !(isC 1 20 c) then _ else bif x.pl.isEmpty && decide (free x = 0) then _ else bif decide (lacking x < intOf c) then _ else _) = _; rw [h2, h, h3]; rfl
end
structure Row where
  num : Nat
  ow : Int
  word : Str
  price : Int
  many : Int
  done : Option (Bool × AL × AL)
  deriving DecidableEq
def rowOf (p : Int) (i : Nat) (w : W) : Option Row :=
  bif w.st || ((!w.tk.isEmpty || !w.pl.isEmpty) && !decide (w.ow = p)) then
    some ⟨i, w.ow, w.word, w.price, w.many, if w.ow = p then none else some (w.st, srt w.tk, srt w.pl)⟩
  else none
def seenFrom (p : Int) : Nat → List W → List Row
  | _, [] => []
  | i, w :: r => (rowOf p i w).toList ++ seenFrom p (i + 1) r
def seenM (p : Int) (ws : List W) : List Row := seenFrom p 0 ws
theorem seenFrom_snoc (p : Int) : ∀ (i : Nat) (ws : List W) (w : W), seenFrom p i (ws ++ [w]) = seenFrom p i ws ++ (rowOf p (i + ws.length) w).toList
  | i, [], w => by simp [seenFrom]
  | i, v :: r, w => by
    show (rowOf p i v).toList ++ seenFrom p (i + 1) (r ++ [w]) = _
    rw [seenFrom_snoc p (i + 1) r w]
    show _ = ((rowOf p i v).toList ++ seenFrom p (i + 1) r) ++ _
    rw [List.append_assoc, List.length_cons, show i + 1 + r.length = i + (r.length + 1) by omega]

/-! wishes stay well -/
theorem WOk.alter {x : W} (h : WOk x) {m : Int} : WOk { x with many := m } := ⟨h.nt, h.np, h.kt, h.kp, h.lw⟩
theorem WOk.drop {x : W} (h : WOk x) : WOk { x with st := false } := ⟨h.nt, h.np, h.kt, h.kp, h.lw⟩
theorem WOk.take {x : W} (h : WOk x) {p c : Int} (hp : 0 ≤ p ∧ p < 5) : WOk (takeW x p c) := ⟨alPut_nd h.nt, h.np, fun q hq => (alPut_mem hq).elim (h.kt q) (fun e => by rw [e]; exact hp), h.kp, h.lw⟩
theorem WOk.pledge {x : W} (h : WOk x) {p c : Int} (hp : 0 ≤ p ∧ p < 5) : WOk (pledgeW x p c) := ⟨h.nt, alPut_nd h.np, h.kt, fun q hq => (alPut_mem hq).elim (h.kp q) (fun e => by rw [e]; exact hp), h.lw⟩
theorem WOk.back {x : W} (h : WOk x) {p : Int} : WOk (backW x p) := ⟨alDrop_nd h.nt, alDrop_nd h.np, fun q hq => h.kt q (List.mem_filter.mp hq).1, fun q hq => h.kp q (List.mem_filter.mp hq).1, h.lw⟩
end G

/-! joined ways, rows -/
namespace G
open PySem PySem.Spec PyProof.Rows L2
section
variable {K : PySem.W.Frag} {H D : Hp} {Ms R : List (List Cell)} {Q : VK} {σ : L2.St} {E : Ends} {tt : TT} {t1 t2 : TS} {c : Bool} {I : Hp → Prop}
/-- a test that tells c, however it goes about it -/
theorem r_ifJ (c : Bool) (I : Hp → Prop) (test : ∀ B : Bool → Hp → Prop, (∀ H', I H' → B c H') → tt σ H B) (h1 : c = true → ∀ H', I H' → t1 E σ H') (h2 : c = false → ∀ H', I H' → t2 E σ H') : tIfS tt t1 t2 E σ H := by
  refine r_ifS (test _ fun H' i => ?_)
  cases c with
  | true => exact h1 rfl H' i
  | false => exact h2 rfl H' i
theorem r_valJ {te : TE} (v : V) (I : Hp → Prop) (val : ∀ Q' : VK, (∀ H', I H' → Q' v H') → te σ H Q') (q : ∀ H', I H' → Q v H') : te σ H Q := val Q q
theorem kvs_empty {l : AL} : (kvs l).isEmpty = l.isEmpty := by cases l <;> rfl
def DPopE (Q : VK) (a : Addr) (y z : V) (H : Hp) : Prop := ∃ kvs k, H a = some (.dK kvs) ∧ y = kV k ∧ (∀ v, valV kvs k = some v → Q v (upd H a (.dK (dropK kvs k)))) ∧ (valV kvs k = none → Q z H)
theorem r_popT {td ty tx : TE} (q : td σ H fun x H1 => ∃ a, x = .ref a ∧ IsD H1 a ∧ ty σ H1 fun y H2 => tx σ H2 fun z H3 => DPopE Q a y z H3) : tDPop2 td ty tx σ H Q := q
theorem r_dpopA {a : Addr} {l : AL} {k : Int} (o : Ok H D Ms) (pk : Pk Ms [(a, .dK (kvs l))] R) (q : ∀ H', Ok H' D ([(a, .dK (kvs (alDrop l k)))] :: R) → Q (.int ((alGet l k).getD 0)) H') : DPopE Q a (.int k) (.int 0) H := by
  refine ⟨kvs l, Sum.inl k, o.at1 pk.mem, rfl, fun v h => ?_, fun h => ?_⟩
  · rw [kvs_val] at h
    cases e : alGet l k with
    | none => rw [e] at h; cases h
    | some z =>
      rw [e] at h
      obtain rfl := Option.some.inj h
      have q2 := q _ (by rw [← kvs_drop]; exact o.wrAt pk)
      rw [e] at q2
      exact q2
  · rw [kvs_val] at h
    cases e : alGet l k with
    | some z => rw [e] at h; cases h
    | none =>
      have q2 := q H (by rw [alDrop_no e]; exact o.pk pk)
      rw [e] at q2
      exact q2
end
/-! rows in the heap -/
def RowIs (D : Hp) (lc : List Cell) (t : Addr) (r : Row) : Prop := ∃ dv, D t = some (.tup [.int (r.num : Nat), .int r.ow, .str r.word, .int r.price, .int r.many, dv]) ∧
  match r.done with
  | none => dv = .non
  | some (st, tk, pl) => ∃ T L1 L2 as1 as2, dv = .ref T ∧ D T = some (.tup [.bl st, .ref L1, .ref L2]) ∧ ((L1, .lst (as1.map V.ref)) : Cell) ∈ lc ∧ ((L2, .lst (as2.map V.ref)) : Cell) ∈ lc ∧ Prs D as1 tk ∧ Prs D as2 pl
theorem RowIs.mono {D D' : Hp} {lc lc' : List Cell} (e : Same D D') (i : ∀ c ∈ lc, c ∈ lc') {t : Addr} {r : Row} (h : RowIs D lc t r) : RowIs D' lc' t r := by
  obtain ⟨dv, h1, h2⟩ := h
  refine ⟨dv, e _ _ h1, ?_⟩
  cases ed : r.done with
  | none => rw [ed] at h2; exact h2
  | some z =>
    obtain ⟨st, tk, pl⟩ := z
    rw [ed] at h2
    obtain ⟨T, L1, L2, as1, as2, g1, g2, g3, g4, g5, g6⟩ := h2
    exact ⟨T, L1, L2, as1, as2, g1, e _ _ g2, i _ g3, i _ g4, g5.mono e, g6.mono e⟩
abbrev RowsIs (D : Hp) (lc : List Cell) : List Addr → List Row → Prop := Paired (RowIs D lc)
theorem RowsIs.mono {D D' : Hp} {lc lc' : List Cell} (e : Same D D') (i : ∀ c ∈ lc, c ∈ lc') {ts : List Addr} {rs : List Row} (h : RowsIs D lc ts rs) : RowsIs D' lc' ts rs := Paired.mapP h fun _ _ q => q.mono e i
end G

/-! the law's wishes in the heap, deeds -/
namespace G
open PySem PySem.Spec PyProof.Rows L2
def lawF (w : W) (t q : Addr) : List (Key × V) := [(Sum.inr "owner", .int w.ow), (Sum.inr "word", .str w.word), (Sum.inr "price", .int w.price), (Sum.inr "many", .int w.many), (Sum.inr "stands", .bl w.st), (Sum.inr "takings", .ref t), (Sum.inr "pledges", .ref q)]
def cV (x : WA) (w : W) : List Cell := [(x.p, .dK (lawF w x.t x.q)), (x.t, .dK (kvs w.tk)), (x.q, .dK (kvs w.pl))]
def LS (xs : XS) : List Cell := xs.flatMap fun x => cV x.1 x.2
def LSx (xs : XS) (i : Nat) : List Cell := LS (xs.take i) ++ LS (xs.drop (i + 1))
def cL (l : Addr) (xs : XS) : List Cell := (l, .lst (refs xs)) :: LS xs
section
variable {H D : Hp} {R : List (List Cell)} {l : Addr} {x : WA} {w : W}
theorem Ok.openV (o : Ok H D (cV x w :: R)) : Ok H D ([(x.p, .dK (lawF w x.t x.q))] :: [(x.t, .dK (kvs w.tk))] :: [(x.q, .dK (kvs w.pl))] :: R) := o.re (.of_eq (by simp [cV]))
theorem Ok.shutV (o : Ok H D ([(x.p, .dK (lawF w x.t x.q))] :: [(x.t, .dK (kvs w.tk))] :: [(x.q, .dK (kvs w.pl))] :: R)) : Ok H D (cV x w :: R) := o.re (.of_eq (by simp [cV]))
end
section
variable {H D : Hp} {R : List (List Cell)} {l : Addr} {xs : XS} {i : Nat} {x : WA × W}
theorem Ok.openL (o : Ok H D (cL l xs :: R)) : Ok H D ([(l, .lst (refs xs))] :: LS xs :: R) := o.re (.of_eq (by simp [cL]))
theorem Ok.shutL (o : Ok H D ([(l, .lst (refs xs))] :: LS xs :: R)) : Ok H D (cL l xs :: R) := o.re (.of_eq (by simp [cL]))
theorem LS_perm (h : xs[i]? = some x) : (LS xs).Perm (cV x.1 x.2 ++ LSx xs i) := by
  conv => lhs; rw [split_at h]
  unfold LSx LS
  rw [List.flatMap_append, List.flatMap_cons]
  exact List.perm_append_comm_assoc _ _ _
theorem LSx_set {x' : WA × W} : LSx (xs.set i x') i = LSx xs i := by
  unfold LSx
  rw [List.take_set_of_le (Nat.le_refl _), List.drop_set_of_lt (Nat.lt_succ_self _)]
theorem Ok.openLI (o : Ok H D (LS xs :: R)) (h : xs[i]? = some x) : Ok H D (cV x.1 x.2 :: LSx xs i :: R) := o.re (by
  rw [List.flatten_cons, List.flatten_cons, List.flatten_cons, ← List.append_assoc]
  exact (LS_perm h).append_right _)
theorem Ok.shutLI {x' : WA × W} (o : Ok H D (cV x'.1 x'.2 :: LSx xs i :: R)) (h : i < xs.length) : Ok H D (LS (xs.set i x') :: R) := o.re (by
  rw [List.flatten_cons, List.flatten_cons, List.flatten_cons, ← List.append_assoc, ← LSx_set (x' := x')]
  exact (LS_perm (by rw [List.getElem?_set_self h])).symm.append_right _)
theorem Ok.openLA (o : Ok H D (cL l xs :: R)) (h : xs[i]? = some x) : Ok H D ([(x.1.p, .dK (lawF x.2 x.1.t x.1.q))] :: [(x.1.t, .dK (kvs x.2.tk))] :: [(x.1.q, .dK (kvs x.2.pl))] :: [(l, .lst (refs xs))] :: LSx xs i :: R) := (((o.openL.pk (.there .here)).openLI h).openV).sel (.pick .here (.pick .here (.pick .here (.pick (.there .here) (.done .here)))))
theorem Ok.shutLA {w' : W} (h : xs[i]? = some x) (o : Ok H D ([(x.1.p, .dK (lawF w' x.1.t x.1.q))] :: [(x.1.t, .dK (kvs w'.tk))] :: [(x.1.q, .dK (kvs w'.pl))] :: [(l, .lst (refs xs))] :: LSx xs i :: R)) : Ok H D (cL l (xs.set i (x.1, w')) :: R) := by
  have o2 : Ok H D (cV x.1 w' :: LSx xs i :: [(l, .lst (refs xs))] :: R) := (o.sel (.pick .here (.pick .here (.pick .here (.pick (.there .here) (.done .here)))))).shutV
  have o3 := o2.shutLI (x' := (x.1, w')) (List.getElem?_eq_some_iff.mp h).1
  rw [← refs_set (x' := (x.1, w')) h rfl] at o3
  exact (o3.pk (.there .here)).shutL
theorem LS_snoc {y : WA × W} : LS (xs ++ [y]) = LS xs ++ cV y.1 y.2 := by
  unfold LS
  rw [List.flatMap_append]
  simp
end
/-! deeds -/
inductive Deed
  | wish (p : Int) (z : Str) (pr m : Int)
  | alter (p i m : Int)
  | drop (p i : Int)
  | take (p i c : Int)
  | pledge (p i c : Int)
  | back (p i : Int)
def Deed.row : Deed → List V
  | .wish p z pr m => [.str "wish", .int p, .str z, .int pr, .int m]
  | .alter p i m => [.str "alter", .int p, .int i, .int m]
  | .drop p i => [.str "drop", .int p, .int i]
  | .take p i c => [.str "take", .int p, .int i, .int c]
  | .pledge p i c => [.str "pledge", .int p, .int i, .int c]
  | .back p i => [.str "back", .int p, .int i]
/-- a deed whose person and numbers are in order -/
def Deed.Good (pe : Int) : Deed → Prop
  | .wish p z pr m => (0 ≤ p ∧ p < pe) ∧ okWord z = true ∧ (1 ≤ pr ∧ pr ≤ 20) ∧ 1 ≤ m ∧ m ≤ 3
  | .alter p _ m => (0 ≤ p ∧ p < pe) ∧ 1 ≤ m ∧ m ≤ 3
  | .drop p _ => 0 ≤ p ∧ p < pe
  | .take p _ c => (0 ≤ p ∧ p < pe) ∧ 1 ≤ c ∧ c ≤ 3
  | .pledge p _ c => (0 ≤ p ∧ p < pe) ∧ 1 ≤ c ∧ c ≤ 20
  | .back p _ => 0 ≤ p ∧ p < pe
inductive Res
  | non
  | int (i : Int)
  | two (i j : Int)
  deriving DecidableEq
def wAt (ws : List W) (i : Int) : Option W := if 0 ≤ i ∧ i < ws.length then ws[i.toNat]? else none
def rfW (x : W) : Deed → Bool
  | .wish _ _ _ _ => false
  | .alter p _ _ => !x.st || !decide (x.ow = p)
  | .drop p _ => !x.st || !decide (x.ow = p)
  | .take p _ c => (!x.st || decide (x.ow = p)) || decide (free x < c)
  | .pledge p _ c => (!x.st || decide (x.ow = p)) || ((x.pl.isEmpty && decide (free x = 0)) || decide (lacking x < c))
  | .back p _ => !(alGet x.tk p).isSome && !(alGet x.pl p).isSome
def Deed.num : Deed → Int
  | .wish _ _ _ _ => 0
  | .alter _ i _ => i
  | .drop _ i => i
  | .take _ i _ => i
  | .pledge _ i _ => i
  | .back _ i => i
def rfz (ws : List W) : Deed → Bool
  | .wish _ _ _ _ => decide (ws.length = 8)
  | d => match wAt ws d.num with
    | none => true
    | some x => rfW x d
def doW (x : W) : Deed → W × Res
  | .wish _ _ _ _ => (x, .non)
  | .alter _ _ m => ({ x with many := m }, .int x.many)
  | .drop _ _ => ({ x with st := false }, .non)
  | .take p _ c => (takeW x p c, .int (free (takeW x p c)))
  | .pledge p _ c => (pledgeW x p c, .int (lacking (pledgeW x p c)))
  | .back p _ => (backW x p, .two ((alGet x.tk p).getD 0) ((alGet x.pl p).getD 0))
def doL (ws : List W) : Deed → List W × Res
  | .wish p z pr m => (ws ++ [⟨p, z, pr, m, true, [], []⟩], .int ws.length)
  | d => match wAt ws d.num with
    | none => (ws, .non)
    | some x => (ws.set d.num.toNat (doW x d).1, (doW x d).2)
def Deed.isW : Deed → Bool
  | .wish _ _ _ _ => true
  | _ => false
theorem rfz_no {ws : List W} {d : Deed} (n : d.isW = false) (h : wAt ws d.num = none) : rfz ws d = true := by
  cases d <;> first | (cases n; done) | simp only [rfz, h]
theorem rfz_at {ws : List W} {d : Deed} {x : W} (n : d.isW = false) (h : wAt ws d.num = some x) : rfz ws d = rfW x d := by
  cases d <;> first | (cases n; done) | simp only [rfz, h]
theorem doL_at {ws : List W} {d : Deed} {x : W} (n : d.isW = false) (h : wAt ws d.num = some x) : doL ws d = (ws.set d.num.toNat (doW x d).1, (doW x d).2) := by
  cases d <;> first | (cases n; done) | simp only [doL, h]
theorem WOk.new {p pr m : Int} {z : Str} (h : z.length ≤ 1000) : WOk ⟨p, z, pr, m, true, [], []⟩ := ⟨List.nodup_nil, List.nodup_nil, fun q h => (nomatch h), fun q h => (nomatch h), h⟩
theorem r_parV {H : Hp} {σ : L2.St} {E : Ends} {i j : Nat} {x y : V} (q : E.nx ((σ.set i (some x)).set j (some y)) H) : ∃ v w, [x, y] = [v, w] ∧ E.nx ((σ.set i (some v)).set j (some w)) H := ⟨x, y, rfl, q⟩
theorem okWord_len {z : Str} (h : okWord z = true) : z.length ≤ 1000 := by
  unfold okWord at h
  rw [Bool.and_eq_true, Bool.and_eq_true] at h
  have := of_decide_eq_true h.1.2
  omega
theorem isC_t {lo hi i : Int} (h : lo ≤ i ∧ i ≤ hi) : isC lo hi (.int i) = true := by
  rw [isC_int, decide_eq_true h.1, decide_eq_true h.2]; rfl
theorem wAt_cases (ws : List W) (i : Int) : (isC 0 ((ws.length : Int) - 1) (.int i) = false ∧ wAt ws i = none) ∨ ∃ x, isC 0 ((ws.length : Int) - 1) (.int i) = true ∧ ws[i.toNat]? = some x ∧ wAt ws i = some x := by
  by_cases h : 0 ≤ i ∧ i < ws.length
  · right
    have hi : i.toNat < ws.length := by omega
    refine ⟨ws[i.toNat], isC_t ⟨h.1, by omega⟩, List.getElem?_eq_getElem hi, ?_⟩
    unfold wAt
    rw [if_pos h]
    exact List.getElem?_eq_getElem hi
  · left
    refine ⟨?_, if_neg h⟩
    rw [isC_int]
    by_cases h1 : 0 ≤ i
    · rw [decide_eq_false (show ¬ i ≤ (ws.length : Int) - 1 by omega), Bool.and_false]
    · rw [decide_eq_false h1, Bool.false_and]
section
variable {pe : Int} {ws : List W} {p i c pr m : Int} {z : Str}
theorem due_wish (g : (Deed.wish p z pr m).Good pe) : (∀ ws' r, mWish pe ws (.int p) (.str z) (.int pr) (.int m) = .ok (ws', r) → rfz ws (.wish p z pr m) = false ∧ doL ws (.wish p z pr m) = (ws', .int r)) ∧ ∀ e, mWish pe ws (.int p) (.str z) (.int pr) (.int m) = .error e → rfz ws (.wish p z pr m) = true := by
  obtain ⟨g1, g2, g3, g4⟩ := g
  have e1 : isC 0 (pe - 1) (.int p) = true := isC_t ⟨g1.1, by omega⟩
  have e2 : isWd (.str z) = true := g2
  have e3 := isC_t g3
  have e4 := isC_t g4
  have e : mWish pe ws (.int p) (.str z) (.int pr) (.int m) = bif decide (ws.length = 8) then .error .toomany else .ok (ws ++ [⟨p, z, pr, m, true, [], []⟩], (ws.length : Int)) := by
    unfold mWish
    rw [e1, e2, e3, e4]
    rfl
  rw [e]
  show (∀ ws' r, _ → decide (ws.length = 8) = false ∧ (ws ++ [⟨p, z, pr, m, true, [], []⟩], Res.int ws.length) = (ws', .int r)) ∧ ∀ e, _ → decide (ws.length = 8) = true
  cases decide (ws.length = 8) with
  | true => exact ⟨fun _ _ h => (nomatch h), fun _ _ => rfl⟩
  | false =>
    refine ⟨fun ws' r h => ⟨rfl, ?_⟩, fun _ h => (nomatch h)⟩
    cases h
    rfl
theorem due_alter (g : (Deed.alter p i m).Good pe) : (∀ ws' r, mAlter pe ws (.int p) (.int i) (.int m) = .ok (ws', r) → rfz ws (.alter p i m) = false ∧ doL ws (.alter p i m) = (ws', .int r)) ∧ ∀ e, mAlter pe ws (.int p) (.int i) (.int m) = .error e → rfz ws (.alter p i m) = true := by
  obtain ⟨g1, g2⟩ := g
  have e1 : isC 0 (pe - 1) (.int p) = true := isC_t ⟨g1.1, by omega⟩
  have e2 := isC_t g2
  unfold mAlter
  rcases wAt_cases ws i with ⟨h1, h2⟩ | ⟨x, h1, h2, h3⟩
  · rw [ownAt_w e1 h1, rfz_no (d := (.alter p i m)) rfl h2]
    exact ⟨fun _ _ h => (nomatch h), fun _ _ => rfl⟩
  · rw [ownAt_e e1 h1 h2, rfz_at (d := (.alter p i m)) rfl h3, doL_at (d := (.alter p i m)) rfl h3]
    cases e3 : (!decide (x.ow = p) || !x.st) with
    | true => exact ⟨fun _ _ h => (nomatch h), fun _ _ => by show (!x.st || !decide (x.ow = p)) = true; rw [Bool.or_comm]; exact e3⟩
    | false =>
      show (∀ ws' r, (bif !(isC 1 3 (.int m)) then _ else _) = _ → _) ∧ ∀ e, (bif !(isC 1 3 (.int m)) then _ else _) = _ → _
      rw [e2]
      refine ⟨fun ws' r h => ⟨by show (!x.st || !decide (x.ow = p)) = false; rw [Bool.or_comm]; exact e3, ?_⟩, fun _ h => (nomatch h)⟩
      cases h
      rfl
theorem due_drop (g : (Deed.drop p i).Good pe) : (∀ ws', mDrop pe ws (.int p) (.int i) = .ok ws' → rfz ws (.drop p i) = false ∧ doL ws (.drop p i) = (ws', .non)) ∧ ∀ e, mDrop pe ws (.int p) (.int i) = .error e → rfz ws (.drop p i) = true := by
  have g1 : 0 ≤ p ∧ p < pe := g
  have e1 : isC 0 (pe - 1) (.int p) = true := isC_t ⟨g1.1, by omega⟩
  unfold mDrop
  rcases wAt_cases ws i with ⟨h1, h2⟩ | ⟨x, h1, h2, h3⟩
  · rw [ownAt_w e1 h1, rfz_no (d := (.drop p i)) rfl h2]
    exact ⟨fun _ h => (nomatch h), fun _ _ => rfl⟩
  · rw [ownAt_e e1 h1 h2, rfz_at (d := (.drop p i)) rfl h3, doL_at (d := (.drop p i)) rfl h3]
    cases e3 : (!decide (x.ow = p) || !x.st) with
    | true => exact ⟨fun _ h => (nomatch h), fun _ _ => by show (!x.st || !decide (x.ow = p)) = true; rw [Bool.or_comm]; exact e3⟩
    | false =>
      refine ⟨fun ws' h => ⟨by show (!x.st || !decide (x.ow = p)) = false; rw [Bool.or_comm]; exact e3, ?_⟩, fun _ h => (nomatch h)⟩
      cases h
      rfl
theorem due_take (g : (Deed.take p i c).Good pe) : (∀ ws' r, mTake pe ws (.int p) (.int i) (.int c) = .ok (ws', r) → rfz ws (.take p i c) = false ∧ doL ws (.take p i c) = (ws', .int r)) ∧ ∀ e, mTake pe ws (.int p) (.int i) (.int c) = .error e → rfz ws (.take p i c) = true := by
  obtain ⟨g1, g2⟩ := g
  have e1 : isC 0 (pe - 1) (.int p) = true := isC_t ⟨g1.1, by omega⟩
  have e2 := isC_t g2
  unfold mTake
  rcases wAt_cases ws i with ⟨h1, h2⟩ | ⟨x, h1, h2, h3⟩
  · rw [otherAt_w e1 h1, rfz_no (d := (.take p i c)) rfl h2]
    exact ⟨fun _ _ h => (nomatch h), fun _ _ => rfl⟩
  · rw [otherAt_e e1 h1 h2, rfz_at (d := (.take p i c)) rfl h3, doL_at (d := (.take p i c)) rfl h3]
    have ec : (!x.st || decide (x.ow = p)) = (decide (x.ow = p) || !x.st) := Bool.or_comm ..
    cases e3 : (decide (x.ow = p) || !x.st) with
    | true => exact ⟨fun _ _ h => (nomatch h), fun _ _ => by show ((!x.st || decide (x.ow = p)) || _) = true; rw [ec, e3]; rfl⟩
    | false =>
      show (∀ ws' r, (bif !(isC 1 3 (.int c)) then _ else bif decide (free x < c) then _ else _) = _ → ((!x.st || decide (x.ow = p)) || decide (free x < c)) = false ∧ _) ∧ ∀ e, (bif !(isC 1 3 (.int c)) then _ else bif decide (free x < c) then _ else _) = _ → ((!x.st || decide (x.ow = p)) || decide (free x < c)) = true
      rw [e2, ec, e3]
      cases decide (free x < c) with
      | true => exact ⟨fun _ _ h => (nomatch h), fun _ _ => rfl⟩
      | false =>
        refine ⟨fun ws' r h => ⟨rfl, ?_⟩, fun _ h => (nomatch h)⟩
        cases h
        rfl
theorem due_pledge (g : (Deed.pledge p i c).Good pe) : (∀ ws' r, mPledge pe ws (.int p) (.int i) (.int c) = .ok (ws', r) → rfz ws (.pledge p i c) = false ∧ doL ws (.pledge p i c) = (ws', .int r)) ∧ ∀ e, mPledge pe ws (.int p) (.int i) (.int c) = .error e → rfz ws (.pledge p i c) = true := by
  obtain ⟨g1, g2⟩ := g
  have e1 : isC 0 (pe - 1) (.int p) = true := isC_t ⟨g1.1, by omega⟩
  have e2 := isC_t g2
  unfold mPledge
  rcases wAt_cases ws i with ⟨h1, h2⟩ | ⟨x, h1, h2, h3⟩
  · rw [otherAt_w e1 h1, rfz_no (d := (.pledge p i c)) rfl h2]
    exact ⟨fun _ _ h => (nomatch h), fun _ _ => rfl⟩
  · rw [otherAt_e e1 h1 h2, rfz_at (d := (.pledge p i c)) rfl h3, doL_at (d := (.pledge p i c)) rfl h3]
    have ec : (!x.st || decide (x.ow = p)) = (decide (x.ow = p) || !x.st) := Bool.or_comm ..
    cases e3 : (decide (x.ow = p) || !x.st) with
    | true => exact ⟨fun _ _ h => (nomatch h), fun _ _ => by show ((!x.st || decide (x.ow = p)) || _) = true; rw [ec, e3]; rfl⟩
    | false =>
      show (∀ ws' r, (bif !(isC 1 20 (.int c)) then _ else bif x.pl.isEmpty && decide (free x = 0) then _ else bif decide (lacking x < c) then _ else _) = _ → ((!x.st || decide (x.ow = p)) || ((x.pl.isEmpty && decide (free x = 0)) || decide (lacking x < c))) = false ∧ _) ∧ ∀ e, (bif !(isC 1 20 (.int c)) then _ else bif x.pl.isEmpty && decide (free x = 0) then _ else bif decide (lacking x < c) then _ else _) = _ → ((!x.st || decide (x.ow = p)) || ((x.pl.isEmpty && decide (free x = 0)) || decide (lacking x < c))) = true
      rw [e2, ec, e3]
      cases (x.pl.isEmpty && decide (free x = 0)) with
      | true => exact ⟨fun _ _ h => (nomatch h), fun _ _ => rfl⟩
      | false =>
        cases decide (lacking x < c) with
        | true => exact ⟨fun _ _ h => (nomatch h), fun _ _ => rfl⟩
        | false =>
          refine ⟨fun ws' r h => ⟨rfl, ?_⟩, fun _ h => (nomatch h)⟩
          cases h
          rfl
theorem due_back (g : (Deed.back p i).Good pe) : (∀ ws' r s, mBack pe ws (.int p) (.int i) = .ok (ws', r, s) → rfz ws (.back p i) = false ∧ doL ws (.back p i) = (ws', .two r s)) ∧ ∀ e, mBack pe ws (.int p) (.int i) = .error e → rfz ws (.back p i) = true := by
  have g1 : 0 ≤ p ∧ p < pe := g
  have e1 : isC 0 (pe - 1) (.int p) = true := isC_t ⟨g1.1, by omega⟩
  unfold mBack
  rw [e1]
  rcases wAt_cases ws i with ⟨h1, h2⟩ | ⟨x, h1, h2, h3⟩
  · rw [h1, rfz_no (d := (.back p i)) rfl h2]
    exact ⟨fun _ _ _ h => (nomatch h), fun _ _ => rfl⟩
  · have h2' : ws[(intOf (.int i)).toNat]? = some x := h2
    rw [h1, h2', rfz_at (d := (.back p i)) rfl h3, doL_at (d := (.back p i)) rfl h3]
    show (∀ ws' r s, (bif !(alGet x.tk p).isSome && !(alGet x.pl p).isSome then _ else _) = _ → (!(alGet x.tk p).isSome && !(alGet x.pl p).isSome) = false ∧ _) ∧ ∀ e, (bif !(alGet x.tk p).isSome && !(alGet x.pl p).isSome then _ else _) = _ → (!(alGet x.tk p).isSome && !(alGet x.pl p).isSome) = true
    cases (!(alGet x.tk p).isSome && !(alGet x.pl p).isSome) with
    | true => exact ⟨fun _ _ _ h => (nomatch h), fun _ _ => rfl⟩
    | false =>
      refine ⟨fun ws' r s h => ⟨rfl, ?_⟩, fun _ h => (nomatch h)⟩
      cases h
      rfl
end
end G

/-! dict displays, updates; wishes stay well -/
namespace G
open PySem PySem.Spec PyProof.Rows L2
section
variable {K : PySem.W.Frag} {H D : Hp} {Ms R : List (List Cell)} {Q : VK} {σ : L2.St} {E : Ends}
def DispK (Q : VK) (p : Addr) (ps : List (V × V)) (H2 : Hp) : Prop := H2 p = some (.dK []) ∧ ∃ kvs : List (Key × V), ps = kvs.map (fun kv => (kV kv.1, kv.2)) ∧ kvs.length ≤ 15 ∧ Q (.ref p) (upd H2 p (.dK (mergeK [] kvs)))
theorem r_disp {trs : List (TE × TE)} (o : Ok H D Ms) (q : ∀ p H1, Ok H1 D ([(p, .dK [])] :: Ms) → tPairs trs σ H1 (DispK Q p)) : tDisp trs σ H Q := fun p n => q p _ (o.new n)
theorem r_dispE {p : Addr} {ps : List (V × V)} (kvs : List (Key × V)) {kvs' : List (Key × V)} (o : Ok H D Ms) (pk : Pk Ms [(p, .dK [])] R) (e : ps = kvs.map (fun kv => (kV kv.1, kv.2))) (l : decide (kvs.length ≤ 15) = true) (e2 : mergeK [] kvs = kvs') (q : ∀ H', Ok H' D ([(p, .dK kvs')] :: R) → Q (.ref p) H') : DispK Q p ps H := by
  subst e2
  exact ⟨o.at1 pk.mem, kvs, e, of_decide_eq_true l, q _ (o.wrAt pk)⟩
theorem r_pairsC {tk tv : TE} {r : List (TE × TE)} {P : List (V × V) → Hp → Prop} (q : tk σ H fun x H1 => tv σ H1 fun y H2 => tPairs r σ H2 fun ps H3 => P ((x, y) :: ps) H3) : tPairs ((tk, tv) :: r) σ H P := q
theorem r_pairsN {P : List (V × V) → Hp → Prop} (q : P [] H) : tPairs [] σ H P := q
theorem r_tyD {a : Addr} {kvs : List (Key × V)} {P : Prop} (h : H a = some (.dK kvs)) (q : P) : tyV K "dict" (.ref a) H ∧ P := ⟨.inr (.inr (.inl ⟨rfl, .inl ⟨kvs, h⟩⟩)), q⟩
theorem Pk.ne {a b : Addr} {o o' : HO} (h : Ok H D Ms) (p : Pk Ms [(a, o)] R) (m : [(b, o')] ∈ R) : a ≠ b := by
  have h2 := (h.pk p).nd
  intro e
  subst e
  rw [List.flatten_cons, List.map_append, List.nodup_append] at h2
  exact h2.2.2 a (by simp) a (List.mem_map.mpr ⟨(a, o'), List.mem_flatten.mpr ⟨_, m, .head _⟩, rfl⟩) rfl
theorem r_updE {d b : Addr} {k1 k2 k3 : List (Key × V)} (o : Ok H D Ms) (p : Pk Ms [(d, .dK k1)] R) (m : [(b, .dK k2)] ∈ R) (l : decide (k1.length + k2.length ≤ sizeLine) = true) (e : mergeK k1 k2 = k3) (q : ∀ H', Ok H' D ([(d, .dK k3)] :: R) → Q .non H') : rUpdD (.ref d) [.ref b] H Q := by
  subst e
  exact ⟨d, b, k1, k2, rfl, rfl, o.at1 p.mem, (o.pk p).at1 (.tail _ m), Pk.ne o p m, of_decide_eq_true l, q _ (o.wrAt p)⟩
theorem r_neg {m : Int} (q : Q (.int (-m)) H) : rU (fun i => .int (-i)) (.int m) H Q := ⟨m, rfl, q⟩
end
/-! wishes stay well -/
structure XOk (xs : XS) : Prop where
  w : ∀ x ∈ xs, WOk x.2
  n : xs.length ≤ 8
structure WsOk (ws : List W) : Prop where
  w : ∀ x ∈ ws, WOk x
  n : ws.length ≤ 8
theorem XOk.of {xs : XS} (h : WsOk (wsOf xs)) : XOk xs := ⟨fun x hx => h.w _ (List.mem_map_of_mem hx), by have := h.n; rwa [wsOf_len] at this⟩
theorem XOk.to {xs : XS} (h : XOk xs) : WsOk (wsOf xs) := ⟨fun x hx => by
  obtain ⟨y, hy, rfl⟩ := List.mem_map.mp hx
  exact h.w y hy, by rw [wsOf_len]; exact h.n⟩
theorem wAt_mem {ws : List W} {i : Int} {x : W} (h : wAt ws i = some x) : x ∈ ws := by
  unfold wAt at h
  split at h
  · exact List.mem_of_getElem? h
  · cases h
theorem doW_ok {x : W} {d : Deed} {pe : Int} (h : WOk x) (g : d.Good pe) (hp : pe ≤ 5) : WOk (doW x d).1 := by
  cases d with
  | wish => exact h
  | alter => exact h.alter
  | drop => exact h.drop
  | take p i c => exact h.take ⟨g.1.1, by have := g.1.2; omega⟩
  | pledge p i c => exact h.pledge ⟨g.1.1, by have := g.1.2; omega⟩
  | back p i => exact h.back
theorem WsOk.do {ws : List W} {d : Deed} {pe : Int} (h : WsOk ws) (g : d.Good pe) (hp : pe ≤ 5) (r : rfz ws d = false) : WsOk (doL ws d).1 := by
  cases hd : d.isW with
  | true =>
    cases d <;> first | (cases hd; done) | skip
    rename_i p z pr m
    have r' : decide (ws.length = 8) = false := r
    have h8 := of_decide_eq_false r'
    have h9 := h.n
    refine ⟨fun x hx => ?_, by show (ws ++ [_]).length ≤ 8; rw [List.length_append]; show ws.length + 1 ≤ 8; omega⟩
    rcases List.mem_append.mp (show x ∈ ws ++ [_] from hx) with h1 | h1
    · exact h.w x h1
    · obtain rfl := List.mem_singleton.mp h1
      exact WOk.new (okWord_len g.2.1)
  | false =>
    cases hw : wAt ws d.num with
    | none => rw [rfz_no hd hw] at r; cases r
    | some x =>
      rw [doL_at hd hw]
      refine ⟨fun y hy => ?_, by show (ws.set _ _).length ≤ 8; rw [List.length_set]; exact h.n⟩
      rcases List.mem_or_eq_of_mem_set hy with h1 | h1
      · exact h.w y h1
      · subst h1
        exact doW_ok (h.w x (wAt_mem hw)) g hp
def ResAt (D : Hp) (v : V) : Res → Prop
  | .non => v = .non
  | .int i => v = .int i
  | .two i j => ∃ t, v = .ref t ∧ D t = some (.tup [.int i, .int j])
theorem ResAt.mono {D D' : Hp} (e : Same D D') {v : V} {r : Res} (h : ResAt D v r) : ResAt D' v r := by
  cases r with
  | non => exact h
  | int => exact h
  | two => obtain ⟨t, e1, e2⟩ := h; exact ⟨t, e1, e _ _ e2⟩
end G

/-! sorted(list(d.items())) -/
namespace G
open PySem PySem.Spec PyProof.Rows L2
section
variable {K : PySem.W.Frag} {H D : Hp} {Ms R : List (List Cell)} {Q : VK} {σ : L2.St} {E : Ends}
theorem prs_of {D H' : Hp} {ts : List Addr} (hD : ∀ t ∈ ts, D t = H' t) : ∀ (l : AL) (us : List Addr), (∀ t ∈ us, t ∈ ts) → Paired (fun (t : Addr) (q : Key × V) => H' t = some (.tup [kV q.1, q.2])) us (kvs l) → Prs D us l
  | [], us, _, h => by
    cases us with
    | nil => exact .nil
    | cons => cases h
  | p :: r, us, hu, h => by
    cases us with
    | nil => cases h
    | cons t us =>
      have h' : Paired (fun (t : Addr) (q : Key × V) => H' t = some (.tup [kV q.1, q.2])) (t :: us) ((Sum.inl p.1, V.int p.2) :: kvs r) := h
      cases h' with
      | cons h1 h2 => exact .cons (by rw [hD t (hu t (.head _))]; exact h1) (prs_of hD r us (fun t ht => hu t (.tail _ ht)) h2)
theorem r_itemsE {d : Addr} {l : AL} (o : Ok H D Ms) (h : H d = some (.dK (kvs l))) (q : ∀ p H' D' ts, Ok H' D' ([(p, .lst (ts.map V.ref))] :: Ms) → Same D D' → Prs D' ts l → Q (.ref p) H') : LiI.rItemsL (.ref d) H Q := by
  refine ⟨d, kvs l, rfl, h, fun H' p ts e np nt hp e1 e2 => ?_⟩
  have dn : ∀ b, H b = none → D b = none := fun b hb => by
    cases hd : D b with
    | none => rfl
    | some o' => rw [o.sub _ _ hd] at hb; cases hb
  refine q p H' (fun b => if b ∈ ts then H' b else D b) ts ⟨fun b o' hb => ?_, fun M hM c hc => ?_, fun M hM c hc => ?_, ?_⟩ (fun b o' hb => ?_) (prs_of (fun t ht => if_pos ht) l ts (fun _ h => h) e2)
  · have hb' : (if b ∈ ts then H' b else D b) = some o' := hb
    split at hb'
    · exact hb'
    · exact e _ _ (o.sub _ _ hb')
  · rcases List.mem_cons.mp hM with rfl | hM
    · obtain rfl := List.mem_singleton.mp hc
      exact e1
    · exact e _ _ (o.has M hM c hc)
  · show (if c.1 ∈ ts then H' c.1 else D c.1) = none
    rcases List.mem_cons.mp hM with rfl | hM
    · obtain rfl := List.mem_singleton.mp hc
      rw [if_neg hp]
      exact dn _ np
    · rw [if_neg fun z => by have := nt _ z; rw [o.has M hM c hc] at this; cases this]
      exact o.off M hM c hc
  · rw [List.flatten_cons, List.map_append]
    refine List.nodup_cons.mpr ⟨fun z => ?_, o.nd⟩
    obtain ⟨c, hc, ec⟩ := List.mem_map.mp z
    obtain ⟨M, hM, hcM⟩ := List.mem_flatten.mp hc
    have := o.has M hM c hcM
    rw [ec] at this
    rw [np] at this
    cases this
  · show (if b ∈ ts then H' b else D b) = some o'
    rw [if_neg fun z => by have := nt _ z; rw [o.sub _ _ hb] at this; cases this]
    exact hb
def keyOf (D : Hp) : V → Int × Int
  | .ref t => match D t with
    | some (.tup [.int i, .int j]) => (i, j)
    | _ => (0, 0)
  | _ => (0, 0)
theorem keyOf_at {t : Addr} {p : Int × Int} (h : D t = some (.tup [.int p.1, .int p.2])) : keyOf D (.ref t) = p := by
  show (match D t with | some (.tup [.int i, .int j]) => (i, j) | _ => (0, 0)) = p
  rw [h]
def adr : V → Addr
  | .ref t => t
  | _ => 0
theorem prs_key : ∀ {ts : List Addr} {l : AL}, Prs D ts l → ts.map (fun t => keyOf D (.ref t)) = l
  | _, _, .nil => rfl
  | _, _, .cons h t => by
    rw [List.map_cons, keyOf_at h, prs_key t]
theorem prs_at : ∀ {ts : List Addr} {l : AL}, Prs D ts l → ∀ t ∈ ts, D t = some (.tup [.int (keyOf D (.ref t)).1, .int (keyOf D (.ref t)).2])
  | _, _, .nil, t, h => nomatch h
  | _, _, .cons (a := a) (b := b) h r, t, ht => by
    rcases List.mem_cons.mp ht with rfl | ht
    · rw [keyOf_at h]; exact h
    · exact prs_at r t ht
theorem prs_mk {ts : List Addr} (h : ∀ t ∈ ts, D t = some (.tup [.int (keyOf D (.ref t)).1, .int (keyOf D (.ref t)).2])) : Prs D ts (ts.map fun t => keyOf D (.ref t)) := by
  induction ts with
  | nil => exact .nil
  | cons a r ih => exact .cons (h a (.head _)) (ih fun t ht => h t (.tail _ ht))
theorem r_sortP {a : Addr} {ts : List Addr} {l : AL} (o : Ok H D Ms) (h : SqL K H a (ts.map V.ref)) (hp : Prs D ts l) (hn : NdK l) (q : ∀ p H' as, Ok H' D ([(p, .lst (as.map V.ref))] :: Ms) → Prs D as (srt l) → Q (.ref p) H') : rSrtU K [.ref a] H Q := by
  refine .inr (.inl ⟨a, ts.map V.ref, keyOf D, rfl, h, fun x hx => ?_, fun ys p hs hb n => ?_⟩)
  · obtain ⟨t, ht, rfl⟩ := List.mem_map.mp hx
    exact ⟨t, rfl, o.sub _ _ (prs_at hp t ht)⟩
  · have e1 : ys = (ys.map adr).map V.ref := by
      rw [List.map_map]
      conv => lhs; rw [← List.map_id ys]
      refine List.map_congr_left fun y hy => ?_
      obtain ⟨t, _, rfl⟩ := List.mem_map.mp (hb.perm.subset hy)
      rfl
    have p1 : (ys.map adr).Perm ts := by
      have := hb.perm.map adr
      rw [List.map_map, show adr ∘ V.ref = id from rfl, List.map_id] at this
      exact this
    have p2 := p1.map (fun t => keyOf D (.ref t))
    rw [prs_key hp] at p2
    have hs2 : ((ys.map adr).map fun t => keyOf D (.ref t)).Pairwise (fun x y => x.1 ≤ y.1) := by
      rw [List.map_map, List.pairwise_map]
      refine List.Pairwise.imp_of_mem (fun {x y} hx hy z => ?_) hs
      obtain ⟨tx, _, rfl⟩ := List.mem_map.mp (hb.perm.subset hx)
      obtain ⟨ty, _, rfl⟩ := List.mem_map.mp (hb.perm.subset hy)
      have := SrtO.lexB_no.mp z
      show (keyOf D (.ref tx)).1 ≤ (keyOf D (.ref ty)).1
      omega
    generalize hL : (ys.map adr).map (fun t => keyOf D (.ref t)) = L at p2 hs2
    have e3 : L = srt l := by
      unfold srt
      have k1 : L.map (·.1) = srtK (l.map (·.1)) := sorted_one ((p2.map _).trans (srtK_perm _).symm) (List.pairwise_map.mpr hs2) (srtK_sorted _)
      rw [← k1, List.map_map]
      conv => lhs; rw [← List.map_id L]
      refine List.map_congr_left fun y hy => ?_
      have := alGet_mem hn y (p2.subset hy)
      show y = (y.1, (alGet l y.1).getD 0)
      rw [this]
      rfl
    rw [e1]
    refine q p _ _ (o.new n) ?_
    rw [← e3, ← hL]
    exact prs_mk fun t ht => prs_at hp t (p1.subset ht)
end
end G

/-! rows and answers as data -/
namespace G
open PySem PySem.Spec PyProof.Rows L2
def alD (l : AL) : PyData := .list (l.map fun p => .tuple [.int p.1, .int p.2])
def doneD : Option (Bool × AL × AL) → PyData
  | none => .none
  | some (st, t, q) => .tuple [.bool st, alD t, alD q]
def rowD (r : Row) : PyData := .tuple [.int (r.num : Nat), .int r.ow, .str r.word, .int r.price, .int r.many, doneD r.done]
def rowsD (rs : List Row) : PyData := .list (rs.map rowD)
def resD : Res → PyData
  | .non => .none
  | .int i => .int i
  | .two i j => .tuple [.int i, .int j]
theorem lay_al (l : AL) : (alD l).canLay0 = true := by
  show PyData.canLayAll0 _ = true
  induction l with
  | nil => rfl
  | cons p r ih => show (PyData.canLay0 _ && PyData.canLayAll0 _) = true; rw [ih]; rfl
theorem lay_done (d : Option (Bool × AL × AL)) : (doneD d).canLay0 = true := by
  cases d with
  | none => rfl
  | some z =>
    obtain ⟨st, t, q⟩ := z
    show PyData.canLayAll0 [.bool st, alD t, alD q] = true
    simp only [PyData.canLayAll0, lay_al]
    rfl
theorem lay_row {r : Row} (h : PyData.strOk r.word = true) : (rowD r).canLay0 = true := by
  show PyData.canLayAll0 [.int (r.num : Nat), .int r.ow, .str r.word, .int r.price, .int r.many, doneD r.done] = true
  simp only [PyData.canLayAll0, lay_done, PyData.canLay0, h]
  rfl
theorem lay_rows {rs : List Row} (h : ∀ r ∈ rs, PyData.strOk r.word = true) : (rowsD rs).canLay0 = true := by
  show PyData.canLayAll0 _ = true
  induction rs with
  | nil => rfl
  | cons p r ih => show (PyData.canLay0 _ && PyData.canLayAll0 _) = true; rw [ih fun r hr => h r (.tail _ hr), lay_row (h p (.head _))]; rfl
theorem depth_al (l : AL) : (alD l).depth ≤ 2 := by
  have : PyData.depthAll (l.map fun p : Int × Int => PyData.tuple [.int p.1, .int p.2]) ≤ 1 := by
    induction l with
    | nil => simp [PyData.depthAll]
    | cons p r ih =>
      rw [List.map_cons, PyData.depthAll]
      refine Nat.max_le.mpr ⟨?_, ih⟩
      simp [PyData.depth, PyData.depthAll]
  show (PyData.depth (.list _)) ≤ 2
  rw [PyData.depth]
  omega
theorem depth_done (d : Option (Bool × AL × AL)) : (doneD d).depth ≤ 3 := by
  cases d with
  | none => simp [doneD, PyData.depth]
  | some z =>
    obtain ⟨st, t, q⟩ := z
    have h1 := depth_al t
    have h2 := depth_al q
    show (PyData.depth (.tuple _)) ≤ 3
    simp only [PyData.depth, PyData.depthAll]
    omega
theorem depth_row (r : Row) : (rowD r).depth ≤ 4 := by
  have h := depth_done r.done
  show (PyData.depth (.tuple _)) ≤ 4
  simp only [PyData.depth, PyData.depthAll]
  omega
theorem depth_rows (rs : List Row) : (rowsD rs).depth ≤ 5 := by
  have : PyData.depthAll (rs.map rowD) ≤ 4 := by
    induction rs with
    | nil => simp [PyData.depthAll]
    | cons p r ih =>
      rw [List.map_cons, PyData.depthAll]
      exact Nat.max_le.mpr ⟨depth_row p, ih⟩
  show (PyData.depth (.list _)) ≤ 5
  rw [PyData.depth]
  omega
theorem shaped_rows {rs : List Row} (h : ∀ r ∈ rs, PyData.strOk r.word = true) : SeqAt.shaped (rowsD rs) = true := by
  unfold SeqAt.shaped
  rw [lay_rows h, decide_eq_true (Nat.le_trans (depth_rows rs) (by decide))]
  rfl
theorem shaped_res (r : Res) : SeqAt.shaped (resD r) = true := by
  cases r <;> rfl
theorem refl_of {d : PyData} (h : SeqAt.shaped d = true) : PyData.eqv d d = true := by
  unfold SeqAt.shaped at h
  rw [Bool.and_eq_true] at h
  exact SeqAt.eqv_refl d h.1
section
variable {K : PySem.W.Frag} {H D : Hp} {Ms : List (List Cell)} {lc : List Cell}
theorem dp_prs {as : List Addr} {l : AL} (e : Same D H) (h : Prs D as l) : DpAll K H (as.map V.ref) (l.map fun p => .tuple [.int p.1, .int p.2]) := by
  induction h with
  | nil => exact .nil
  | cons h _ ih => exact .cons (.tup (SqT.of (e _ _ h)) (.cons (.int _) (.cons (.int _) .nil))) ih
theorem dp_row {t : Addr} {r : Row} (e : Same D H) (hl : ∀ c ∈ lc, H c.1 = some c.2) (h : RowIs D lc t r) : Dp K H (.ref t) (rowD r) := by
  obtain ⟨dv, h1, h2⟩ := h
  refine .tup (SqT.of (e _ _ h1)) (.cons (.int _) (.cons (.int _) (.cons (.str _) (.cons (.int _) (.cons (.int _) (.cons ?_ .nil))))))
  cases hd : r.done with
  | none => rw [hd] at h2; obtain rfl := h2; exact .non
  | some z =>
    obtain ⟨st, tk, pl⟩ := z
    rw [hd] at h2
    obtain ⟨TT, L1, L2, as1, as2, rfl, g2, g3, g4, g5, g6⟩ := h2
    exact .tup (SqT.of (e _ _ g2)) (.cons (.bl _) (.cons (.lst (SqL.of (hl _ g3)) (dp_prs e g5)) (.cons (.lst (SqL.of (hl _ g4)) (dp_prs e g6)) .nil)))
theorem dp_rows {L : Addr} {ts : List Addr} {rs : List Row} (e : Same D H) (hl : ∀ c ∈ lc, H c.1 = some c.2) (hL : H L = some (.lst (ts.map V.ref))) (h : RowsIs D lc ts rs) : Dp K H (.ref L) (rowsD rs) := by
  refine .lst (SqL.of hL) ?_
  clear hL
  induction h with
  | nil => exact .nil
  | cons h _ ih => exact .cons (dp_row e hl h) ih
theorem dp_res {v : V} {r : Res} (e : Same D H) (h : ResAt D v r) : Dp K H v (resD r) := by
  cases r with
  | non => obtain rfl := h; exact .non
  | int i => obtain rfl := h; exact .int i
  | two i j => obtain ⟨t, rfl, e2⟩ := h; exact .tup (SqT.of (e _ _ e2)) (.cons (.int _) (.cons (.int _) .nil))
end
/-! words of the rows -/
def Wds (ws : List W) : Prop := ∀ w ∈ ws, okWord w.word = true
theorem okWord_strOk {z : Str} (h : okWord z = true) : PyData.strOk z = true := by
  unfold okWord at h
  rw [Bool.and_eq_true] at h
  show z.cps.all _ = true
  rw [← Array.all_toList, List.all_eq_true]
  intro c hc
  have h1 := of_decide_eq_true (List.all_eq_true.mp h.2 c hc)
  have h2 : ∀ c ∈ lets, c < 0x110000 := by decide
  exact decide_eq_true (h2 c h1)
theorem rowOf_word {p : Int} {i : Nat} {w : W} {r : Row} (h : rowOf p i w = some r) : r.word = w.word := by
  unfold rowOf at h
  cases e : (w.st || ((!w.tk.isEmpty || !w.pl.isEmpty) && !decide (w.ow = p))) with
  | true => rw [e] at h; cases h; rfl
  | false => rw [e] at h; cases h
theorem seen_words {p : Int} : ∀ {i : Nat} {ws : List W}, Wds ws → ∀ r ∈ seenFrom p i ws, PyData.strOk r.word = true
  | _, [], _, r, h => nomatch h
  | i, w :: ws, hw, r, h => by
    rcases List.mem_append.mp (show r ∈ (rowOf p i w).toList ++ seenFrom p (i + 1) ws from h) with h | h
    · cases e : rowOf p i w with
      | none => rw [e] at h; cases h
      | some r' =>
        rw [e] at h
        obtain rfl := List.mem_singleton.mp h
        rw [rowOf_word e]
        exact okWord_strOk (hw w (.head _))
    · exact seen_words (fun w hm => hw w (.tail _ hm)) r h
theorem Wds.do {ws : List W} {d : Deed} {pe : Int} (h : Wds ws) (g : d.Good pe) : Wds (doL ws d).1 := by
  cases hd : d.isW with
  | true =>
    cases d <;> first | (cases hd; done) | skip
    rename_i p z pr m
    intro x hx
    rcases List.mem_append.mp (show x ∈ ws ++ [_] from hx) with h1 | h1
    · exact h x h1
    · obtain rfl := List.mem_singleton.mp h1
      exact g.2.1
  | false =>
    cases hw : wAt ws d.num with
    | none =>
      have : doL ws d = (ws, .non) := by cases d <;> first | (cases hd; done) | simp only [doL, hw]
      rw [this]
      exact h
    | some x =>
      rw [doL_at hd hw]
      intro y hy
      rcases List.mem_or_eq_of_mem_set hy with h1 | h1
      · exact h y h1
      · subst h1
        have : (doW x d).1.word = x.word := by cases d <;> rfl
        rw [this]
        exact h x (wAt_mem hw)
/-! lists within a chunk, written to -/
def LiIn (C : List Cell) (b : Addr) (n : Nat) : Prop := ∃ us : List V, ((b, .lst us) : Cell) ∈ C ∧ us.length ≤ n
def wrC (C : List Cell) (a : Addr) (o : HO) : List Cell := C.map fun c => if c.1 = a then (a, o) else c
section
variable {K : PySem.W.Frag} {H D : Hp} {R : List (List Cell)} {C : List Cell} {a b : Addr} {o : HO} {Q : VK} {n : Nat}
theorem wrC_fst (C : List Cell) (a : Addr) (o : HO) : (wrC C a o).map (·.1) = C.map (·.1) := by
  unfold wrC
  rw [List.map_map]
  refine List.map_congr_left fun c _ => ?_
  show (if c.1 = a then (a, o) else c).1 = c.1
  split
  · rename_i e; exact e.symm
  · rfl
theorem Ok.wrIn (h : Ok H D (C :: R)) {o0 : HO} (m : (a, o0) ∈ C) : Ok (upd H a o) D (wrC C a o :: R) := by
  have nD : D a = none := h.off C (.head _) (a, o0) m
  have hnd := h.nd
  rw [List.flatten_cons, List.map_append] at hnd
  obtain ⟨_, _, hdis⟩ := List.nodup_append.mp hnd
  have ha : a ∈ C.map (·.1) := List.mem_map.mpr ⟨_, m, rfl⟩
  refine ⟨fun b o' e => ?_, fun M hM c hc => ?_, fun M hM c hc => ?_, ?_⟩
  · rw [upd_ne (ne_of_none e nD)]
    exact h.sub _ _ e
  · rcases List.mem_cons.mp hM with rfl | hM
    · obtain ⟨c0, h0, e0⟩ := List.mem_map.mp hc
      by_cases e : c0.1 = a
      · rw [if_pos e] at e0
        subst e0
        exact upd_same
      · rw [if_neg e] at e0
        subst e0
        rw [upd_ne e]
        exact h.has C (.head _) _ h0
    · have : c.1 ≠ a := fun e => hdis a ha c.1 (List.mem_map.mpr ⟨c, List.mem_flatten.mpr ⟨M, hM, hc⟩, rfl⟩) e.symm
      rw [upd_ne this]
      exact h.has M (.tail _ hM) c hc
  · rcases List.mem_cons.mp hM with rfl | hM
    · obtain ⟨c0, h0, e0⟩ := List.mem_map.mp hc
      by_cases e : c0.1 = a
      · rw [if_pos e] at e0
        subst e0
        exact nD
      · rw [if_neg e] at e0
        subst e0
        exact h.off C (.head _) _ h0
    · exact h.off M (.tail _ hM) c hc
  · rw [List.flatten_cons, List.map_append, wrC_fst]
    exact hnd
theorem LiIn.wr (h : Ok H D (C :: R)) {ys : List V} {z : V} (m : ((a, .lst ys) : Cell) ∈ C) (l : LiIn C b n) : LiIn (wrC C a (.lst (ys ++ [z]))) b (n + 1) := by
  obtain ⟨us, hu, hl⟩ := l
  by_cases e : b = a
  · subst e
    have e1 := h.has C (.head _) _ hu
    have e2 := h.has C (.head _) _ m
    have e3 : some (HO.lst us) = some (HO.lst ys) := e1.symm.trans e2
    cases e3
    exact ⟨ys ++ [z], List.mem_map.mpr ⟨_, m, if_pos rfl⟩, by rw [List.length_append]; show ys.length + 1 ≤ _; omega⟩
  · exact ⟨us, List.mem_map.mpr ⟨_, hu, if_neg e⟩, by omega⟩
theorem r_appIn {ys : List V} {y : V} (h : Ok H D (C :: R)) (m : ((a, .lst ys) : Cell) ∈ C) (l : ys.length < sizeLine) (q : ∀ H', Ok H' D (wrC C a (.lst (ys ++ [y])) :: R) → Q .non H') : rAppend (.ref a) [y] H Q := ⟨a, ys, y, rfl, rfl, h.has C (.head _) _ m, l, q _ (h.wrIn m)⟩
end
def RowW (D : Hp) (C : List Cell) (n : Nat) (t : Addr) : Prop := ∃ v0 v1 v2 v3 v4 dv : V, D t = some (.tup [v0, v1, v2, v3, v4, dv]) ∧ (dv = .non ∨ ∃ T b L1 L2, dv = .ref T ∧ D T = some (.tup [.bl b, .ref L1, .ref L2]) ∧ LiIn C L1 n ∧ LiIn C L2 n)
theorem RowW.wr {H D : Hp} {R : List (List Cell)} {C : List Cell} {a t : Addr} {n : Nat} (h : Ok H D (C :: R)) {ys : List V} {z : V} (m : ((a, .lst ys) : Cell) ∈ C) (l : RowW D C n t) : RowW D (wrC C a (.lst (ys ++ [z]))) (n + 1) t := by
  obtain ⟨v0, v1, v2, v3, v4, dv, e1, e2⟩ := l
  refine ⟨v0, v1, v2, v3, v4, dv, e1, e2.elim .inl fun ⟨T, b, L1, L2, f1, f2, f3, f4⟩ => .inr ⟨T, b, L1, L2, f1, f2, f3.wr h m, f4.wr h m⟩⟩
theorem RowW.up {D : Hp} {C : List Cell} {t : Addr} {n m : Nat} (l : RowW D C n t) (h : n ≤ m) : RowW D C m t := by
  obtain ⟨v0, v1, v2, v3, v4, dv, e1, e2⟩ := l
  refine ⟨v0, v1, v2, v3, v4, dv, e1, e2.elim .inl fun ⟨T, b, L1, L2, f1, f2, ⟨us, g1, g2⟩, ⟨us', g3, g4⟩⟩ => .inr ⟨T, b, L1, L2, f1, f2, ⟨us, g1, by omega⟩, ⟨us', g3, by omega⟩⟩⟩
def Short (r : Row) : Prop := ∀ st tk pl, r.done = some (st, tk, pl) → tk.length ≤ 50 ∧ pl.length ≤ 50
theorem srt_len {l : AL} : (srt l).length = l.length := by
  unfold srt
  rw [List.length_map, (srtK_perm _).length_eq, List.length_map]
theorem seen_short {p : Int} : ∀ {i : Nat} {ws : List W}, (∀ w ∈ ws, WOk w) → ∀ r ∈ seenFrom p i ws, Short r
  | _, [], _, r, h => nomatch h
  | i, w :: ws, hw, r, h => by
    rcases List.mem_append.mp (show r ∈ (rowOf p i w).toList ++ seenFrom p (i + 1) ws from h) with h | h
    · cases e : rowOf p i w with
      | none => rw [e] at h; cases h
      | some r' =>
        rw [e] at h
        obtain rfl := List.mem_singleton.mp h
        have ww := hw w (.head _)
        intro st tk pl ed
        unfold rowOf at e
        cases e2 : (w.st || ((!w.tk.isEmpty || !w.pl.isEmpty) && !decide (w.ow = p))) with
        | false => rw [e2] at e; cases e
        | true =>
          rw [e2] at e
          cases e
          have ed : (if w.ow = p then none else some (w.st, srt w.tk, srt w.pl)) = some (st, tk, pl) := ed
          split at ed
          · cases ed
          · cases ed
            have h1 := ww.lt
            have h2 := ww.lp
            rw [srt_len, srt_len]
            omega
    · exact seen_short (fun w hm => hw w (.tail _ hm)) r h
theorem rowW_of {D : Hp} {lc : List Cell} {t : Addr} {r : Row} (h : RowIs D lc t r) (s : Short r) : RowW D lc 50 t := by
  obtain ⟨dv, h1, h2⟩ := h
  refine ⟨_, _, _, _, _, dv, h1, ?_⟩
  cases hd : r.done with
  | none => rw [hd] at h2; exact .inl h2
  | some z =>
    obtain ⟨st, tk, pl⟩ := z
    have s2 := s st tk pl hd
    rw [hd] at h2
    obtain ⟨TT, L1, L2, as1, as2, rfl, g2, g3, g4, g5, g6⟩ := h2
    have l1 := Paired.length g5
    have l2 := Paired.length g6
    exact .inr ⟨TT, st, L1, L2, rfl, g2, ⟨_, g3, by rw [List.length_map]; omega⟩, ⟨_, g4, by rw [List.length_map]; omega⟩⟩
theorem rowsW_of {D : Hp} {lc : List Cell} {ts : List Addr} {rs : List Row} (h : RowsIs D lc ts rs) (s : ∀ r ∈ rs, Short r) : ∀ t ∈ ts, RowW D lc 50 t := by
  induction h with
  | nil => intro t ht; cases ht
  | cons h _ ih =>
    intro t ht
    rcases List.mem_cons.mp ht with rfl | ht
    · exact rowW_of h (s _ (.head _))
    · exact ih (fun r hr => s r (.tail _ hr)) t ht
end G

/-! frozen data, written literals -/
namespace G
open PySem PySem.Spec PyProof.Rows L2
mutual
inductive Fz (D : Hp) : V → PyData → Prop
  | non : Fz D .non .none
  | bl (b : Bool) : Fz D (.bl b) (.bool b)
  | int (i : Int) : Fz D (.int i) (.int i)
  | str (x : Str) : Fz D (.str x) (.str x)
  | lst {a : Addr} {xs : List V} {ds : List PyData} (h : D a = some (.lst xs)) (q : FzAll D xs ds) : Fz D (.ref a) (.list ds)
  | tup {a : Addr} {xs : List V} {ds : List PyData} (h : D a = some (.tup xs)) (q : FzAll D xs ds) : Fz D (.ref a) (.tuple ds)
  | dct {a : Addr} (h : D a = some (.dK [])) : Fz D (.ref a) (.dict [])
inductive FzAll (D : Hp) : List V → List PyData → Prop
  | nil : FzAll D [] []
  | cons {v : V} {vs : List V} {d : PyData} {ds : List PyData} (h : Fz D v d) (t : FzAll D vs ds) : FzAll D (v :: vs) (d :: ds)
end
mutual
theorem Fz.mono {D D' : Hp} (e : Same D D') : ∀ {v : V} {d : PyData}, Fz D v d → Fz D' v d
  | _, _, .non => .non
  | _, _, .bl b => .bl b
  | _, _, .int i => .int i
  | _, _, .str x => .str x
  | _, _, .lst h q => .lst (e _ _ h) (FzAll.mono e q)
  | _, _, .tup h q => .tup (e _ _ h) (FzAll.mono e q)
  | _, _, .dct h => .dct (e _ _ h)
theorem FzAll.mono {D D' : Hp} (e : Same D D') : ∀ {vs : List V} {ds : List PyData}, FzAll D vs ds → FzAll D' vs ds
  | _, _, .nil => .nil
  | _, _, .cons h t => .cons (Fz.mono e h) (FzAll.mono e t)
end
theorem FzAll.len {D : Hp} : ∀ {vs : List V} {ds : List PyData}, FzAll D vs ds → vs.length = ds.length
  | _, _, .nil => rfl
  | _, _, .cons _ t => congrArg (· + 1) (FzAll.len t)
theorem FzAll.app {D : Hp} : ∀ {xs ys : List V} {d e : List PyData}, FzAll D xs d → FzAll D ys e → FzAll D (xs ++ ys) (d ++ e)
  | _, _, _, _, .nil, k => k
  | _, _, _, _, .cons a t, k => .cons a (FzAll.app t k)
theorem FzAll.get {D : Hp} : ∀ {vs : List V} {ds : List PyData}, FzAll D vs ds → ∀ {i : Nat} {v : V}, vs[i]? = some v → ∃ d, ds[i]? = some d ∧ Fz D v d
  | _, _, .cons h _, 0, v, e => ⟨_, rfl, by obtain rfl := Option.some.inj (show some _ = some v from e); exact h⟩
  | _, _, .cons _ t, i + 1, v, e => FzAll.get t (i := i) (by rw [List.getElem?_cons_succ] at e; exact e)
theorem FzAll.at {D : Hp} : ∀ {vs : List V} {ds : List PyData}, FzAll D vs ds → ∀ {i : Nat} {d : PyData}, ds[i]? = some d → ∃ v, vs[i]? = some v ∧ Fz D v d
  | _, _, .cons h _, 0, d, e => ⟨_, rfl, by obtain rfl := Option.some.inj (show some _ = some d from e); exact h⟩
  | _, _, .cons _ t, i + 1, d, e => FzAll.at t (i := i) (by rw [List.getElem?_cons_succ] at e; exact e)
theorem FzAll.take {D : Hp} : ∀ {vs : List V} {ds : List PyData}, FzAll D vs ds → ∀ n : Nat, FzAll D (vs.take n) (ds.take n)
  | _, _, _, 0 => .nil
  | _, _, .nil, _ + 1 => .nil
  | _, _, .cons h t, n + 1 => .cons h (FzAll.take t n)
theorem FzAll.drop {D : Hp} : ∀ {vs : List V} {ds : List PyData}, FzAll D vs ds → ∀ n : Nat, FzAll D (vs.drop n) (ds.drop n)
  | _, _, h, 0 => h
  | _, _, .nil, _ + 1 => .nil
  | _, _, .cons _ t, n + 1 => FzAll.drop t n
/-! data without dicts -/
mutual
def flatD : PyData → Bool
  | .dict _ => false
  | .list ds => flatDs ds
  | .tuple ds => flatDs ds
  | _ => true
def flatDs : List PyData → Bool
  | [] => true
  | d :: r => flatD d && flatDs r
end
mutual
theorem Fz.dp {K : PySem.W.Frag} {D H : Hp} (e : Same D H) : ∀ {v : V} {d : PyData}, Fz D v d → flatD d = true → Dp K H v d
  | _, _, .non, _ => .non
  | _, _, .bl b, _ => .bl b
  | _, _, .int i, _ => .int i
  | _, _, .str x, _ => .str x
  | _, _, .lst h q, f => .lst (SqL.of (e _ _ h)) (FzAll.dp e q f)
  | _, _, .tup h q, f => .tup (SqT.of (e _ _ h)) (FzAll.dp e q f)
  | _, _, .dct h, f => by cases f
theorem FzAll.dp {K : PySem.W.Frag} {D H : Hp} (e : Same D H) : ∀ {vs : List V} {ds : List PyData}, FzAll D vs ds → flatDs ds = true → DpAll K H vs ds
  | _, _, .nil, _ => .nil
  | _, _, .cons h t, f => by
    have f' := (Bool.and_eq_true ..).mp (show (flatD _ && flatDs _) = true from f)
    exact .cons (Fz.dp e h f'.1) (FzAll.dp e t f'.2)
end
theorem okFrzN {H D : Hp} {R : List (List Cell)} (Cs : List (List Cell)) (o : Ok H D (Cs ++ R)) : ∃ D', Ok H D' R ∧ Same D D' ∧ ∀ C ∈ Cs, ∀ c ∈ C, D' c.1 = some c.2 := by
  have o2 : Ok H D (Cs.flatten :: R) := o.re (.of_eq (by simp))
  obtain ⟨o3, s3, e3⟩ := o2.frz
  exact ⟨_, o3, s3, fun C hC c hc => e3 c (List.mem_flatten.mpr ⟨C, hC, hc⟩)⟩
/-! written literals -/
mutual
inductive Lit : TE → PyData → Prop
  | non : Lit (tC .non) .none
  | bl (b : Bool) : Lit (tC (.bl b)) (.bool b)
  | int (i : Int) : Lit (tC (.int i)) (.int i)
  | neg (i : Int) : Lit (tUn (rU fun i => .int (-i)) (tC (.int i))) (.int (-i))
  | str (x : Str) : Lit (tC (.str x)) (.str x)
  | lst {t : TA} {ds : List PyData} (q : Lits t ds) (l : decide (ds.length ≤ 100) = true) : Lit (tLst t) (.list ds)
  | tup {t : TA} {ds : List PyData} (q : Lits t ds) (l : decide (ds.length ≤ 100) = true) : Lit (tTup t) (.tuple ds)
  | dct : Lit tDNewK (.dict [])
inductive Lits : TA → List PyData → Prop
  | nil : Lits tNil []
  | cons {ta : TE} {t : TA} {d : PyData} {ds : List PyData} (h : Lit ta d) (q : Lits t ds) : Lits (tCons ta t) (d :: ds)
end
mutual
theorem lit_run {σ : L2.St} {Ms : List (List Cell)} : ∀ {te : TE} {d : PyData}, Lit te d → ∀ {H D : Hp} {Q : VK}, Ok H D Ms → (∀ H' D' v, Ok H' D' Ms → Same D D' → Fz D' v d → Q v H') → te σ H Q
  | _, _, .non, H, D, _, o, q => q H D _ o (Same.refl D) .non
  | _, _, .bl b, H, D, _, o, q => q H D _ o (Same.refl D) (.bl b)
  | _, _, .int i, H, D, _, o, q => q H D _ o (Same.refl D) (.int i)
  | _, _, .neg i, H, D, _, o, q => ⟨i, rfl, q H D _ o (Same.refl D) (.int (-i))⟩
  | _, _, .str x, H, D, _, o, q => q H D _ o (Same.refl D) (.str x)
  | _, _, .lst h l, H, D, Q, o, q => lits_run h o fun H' D' vs o' s' f => by
      refine ⟨sz_of (by rw [f.len]; exact l), fun p n => ?_⟩
      obtain ⟨o2, s2⟩ := o'.newD (o := .lst vs) n
      exact q _ _ _ o2 (s'.trans s2) (.lst upd_same (f.mono s2))
  | _, _, .tup h l, H, D, Q, o, q => lits_run h o fun H' D' vs o' s' f => by
      refine ⟨sz_of (by rw [f.len]; exact l), fun p n => ?_⟩
      obtain ⟨o2, s2⟩ := o'.newD (o := .tup vs) n
      exact q _ _ _ o2 (s'.trans s2) (.tup upd_same (f.mono s2))
  | _, _, .dct, H, D, Q, o, q => fun p n => by
      obtain ⟨o2, s2⟩ := o.newD (o := .dK []) n
      exact q _ _ _ o2 s2 (.dct upd_same)
theorem lits_run {σ : L2.St} {Ms : List (List Cell)} : ∀ {t : TA} {ds : List PyData}, Lits t ds → ∀ {H D : Hp} {P : List V → Hp → Prop}, Ok H D Ms → (∀ H' D' vs, Ok H' D' Ms → Same D D' → FzAll D' vs ds → P vs H') → t σ H P
  | _, _, .nil, H, D, _, o, q => q H D _ o (Same.refl D) .nil
  | _, _, .cons h t, H, D, _, o, q => lit_run h o fun H1 D1 v o1 s1 f1 => lits_run t o1 fun H2 D2 vs o2 s2 f2 => q H2 D2 _ o2 (s1.trans s2) (.cons (f1.mono s2) f2)
end
/-- a written thing, at its place -/
theorem r_lit {σ : L2.St} {Ms : List (List Cell)} {te : TE} {d : PyData} {H D : Hp} {Q : VK} (o : Ok H D Ms) (h : Lit te d) (q : ∀ H' D' v, Ok H' D' Ms → Same D D' → Fz D' v d → Q v H') : te σ H Q := lit_run h o q
/-! everything that may change becomes data -/
theorem Ok.fz {H D : Hp} {Ms : List (List Cell)} (o : Ok H D Ms) : ∃ D', Ok H D' [] ∧ Same D D' ∧ ∀ a o, [(a, o)] ∈ Ms → D' a = some o := by
  have o2 : Ok H D (Ms.flatten :: []) := o.re (.of_eq (by simp))
  obtain ⟨o3, s3, e3⟩ := o2.frz
  exact ⟨_, o3, s3, fun a o h => e3 (a, o) (List.mem_flatten.mpr ⟨_, h, .head _⟩)⟩
/-! deeds as data -/
def Deed.dat : Deed → PyData
  | .wish p z pr m => .tuple [.str "wish", .int p, .str z, .int pr, .int m]
  | .alter p i m => .tuple [.str "alter", .int p, .int i, .int m]
  | .drop p i => .tuple [.str "drop", .int p, .int i]
  | .take p i c => .tuple [.str "take", .int p, .int i, .int c]
  | .pledge p i c => .tuple [.str "pledge", .int p, .int i, .int c]
  | .back p i => .tuple [.str "back", .int p, .int i]
theorem fz_str {D : Hp} {v : V} {x : Str} (h : Fz D v (.str x)) : v = .str x := by cases h; rfl
theorem fz_int {D : Hp} {v : V} {i : Int} (h : Fz D v (.int i)) : v = .int i := by cases h; rfl
theorem fz_non {D : Hp} {v : V} (h : Fz D v .none) : v = .non := by cases h; rfl
theorem fz_bl {D : Hp} {v : V} {b : Bool} (h : Fz D v (.bool b)) : v = .bl b := by cases h; rfl
theorem fz_tup {D : Hp} {v : V} {ds : List PyData} (h : Fz D v (.tuple ds)) : ∃ a xs, v = .ref a ∧ D a = some (.tup xs) ∧ FzAll D xs ds := by
  cases h with
  | tup h q => exact ⟨_, _, rfl, h, q⟩
theorem fz_lst {D : Hp} {v : V} {ds : List PyData} (h : Fz D v (.list ds)) : ∃ a xs, v = .ref a ∧ D a = some (.lst xs) ∧ FzAll D xs ds := by
  cases h with
  | lst h q => exact ⟨_, _, rfl, h, q⟩
theorem fz_deed {D : Hp} {v : V} {d : Deed} (h : Fz D v d.dat) : ∃ t, v = .ref t ∧ D t = some (.tup d.row) := by
  cases d <;> (obtain ⟨a, xs, rfl, ha, q⟩ := fz_tup h; refine ⟨a, rfl, ?_⟩; rw [ha]; congr 2)
  · cases q with | cons h1 q => cases q with | cons h2 q => cases q with | cons h3 q => cases q with | cons h4 q => cases q with | cons h5 q => cases q; rw [fz_str h1, fz_int h2, fz_str h3, fz_int h4, fz_int h5]; rfl
  · cases q with | cons h1 q => cases q with | cons h2 q => cases q with | cons h3 q => cases q with | cons h4 q => cases q; rw [fz_str h1, fz_int h2, fz_int h3, fz_int h4]; rfl
  · cases q with | cons h1 q => cases q with | cons h2 q => cases q with | cons h3 q => cases q; rw [fz_str h1, fz_int h2, fz_int h3]; rfl
  · cases q with | cons h1 q => cases q with | cons h2 q => cases q with | cons h3 q => cases q with | cons h4 q => cases q; rw [fz_str h1, fz_int h2, fz_int h3, fz_int h4]; rfl
  · cases q with | cons h1 q => cases q with | cons h2 q => cases q with | cons h3 q => cases q with | cons h4 q => cases q; rw [fz_str h1, fz_int h2, fz_int h3, fz_int h4]; rfl
  · cases q with | cons h1 q => cases q with | cons h2 q => cases q with | cons h3 q => cases q; rw [fz_str h1, fz_int h2, fz_int h3]; rfl
theorem fz_row {D : Hp} {t : Addr} {d : Deed} (h : D t = some (.tup d.row)) : Fz D (.ref t) d.dat := by
  cases d <;> exact .tup h (by simp only [Deed.row]; repeat' (first | exact .nil | refine .cons ?_ ?_ | exact .str _ | exact .int _))
abbrev RowsAt (D : Hp) : List Addr → List Deed → Prop := Paired fun d dd => D d = some (.tup (Deed.row dd))
theorem fz_deeds {D : Hp} : ∀ {dds : List Deed} {vs : List V}, FzAll D vs (dds.map Deed.dat) → ∃ ds : List Addr, vs = ds.map V.ref ∧ RowsAt D ds dds
  | [], _, h => by cases h; exact ⟨[], rfl, .nil⟩
  | d :: r, _, h => by
    cases h with
    | cons h t =>
      obtain ⟨a, rfl, ha⟩ := fz_deed h
      obtain ⟨ds, rfl, hds⟩ := fz_deeds t
      exact ⟨a :: ds, rfl, .cons ha hds⟩
theorem RowsAt.fz {D : Hp} : ∀ {ds : List Addr} {dds : List Deed}, RowsAt D ds dds → FzAll D (ds.map V.ref) (dds.map Deed.dat)
  | _, _, .nil => .nil
  | _, _, .cons h t => .cons (fz_row h) (RowsAt.fz t)
theorem RowsAt.mono {D D' : Hp} (e : Same D D') {ds : List Addr} {dds : List Deed} (h : RowsAt D ds dds) : RowsAt D' ds dds := Paired.mapP h fun _ _ q => e _ _ q
theorem paired_app {α β : Type} {F : α → β → Prop} : ∀ {l₁ : List α} {m₁ : List β} {l₂ : List α} {m₂ : List β}, Paired F l₁ m₁ → Paired F l₂ m₂ → Paired F (l₁ ++ l₂) (m₁ ++ m₂)
  | _, _, _, _, .nil, h => h
  | _, _, _, _, .cons a t, h => .cons a (paired_app t h)
theorem paired_take {α β : Type} {F : α → β → Prop} : ∀ {l : List α} {m : List β} (n : Nat), Paired F l m → Paired F (l.take n) (m.take n)
  | _, _, 0, _ => .nil
  | _, _, _ + 1, .nil => .nil
  | _, _, n + 1, .cons a t => .cons a (paired_take n t)
theorem paired_drop {α β : Type} {F : α → β → Prop} : ∀ {l : List α} {m : List β} (n : Nat), Paired F l m → Paired F (l.drop n) (m.drop n)
  | _, _, 0, h => h
  | _, _, _ + 1, .nil => .nil
  | _, _, n + 1, .cons _ t => paired_drop n t
theorem paired_get {α β : Type} {F : α → β → Prop} : ∀ {l : List α} {m : List β}, Paired F l m → ∀ {i : Nat} (h : i < l.length), ∃ y, m[i]? = some y ∧ F l[i] y
  | _, _, .nil, _, h => absurd h (Nat.not_lt_zero _)
  | _, _, .cons h _, 0, _ => ⟨_, rfl, h⟩
  | _, _, .cons _ t, i + 1, h => paired_get t (i := i) (Nat.lt_of_succ_lt_succ h)
theorem paired_all {α β : Type} {F : α → β → Prop} {P : β → Prop} : ∀ {l : List α} {m : List β}, Paired F l m → (∀ x ∈ m, P x) → Paired (fun a b => F a b ∧ P b) l m
  | _, _, .nil, _ => .nil
  | _, _, .cons h t, p => .cons ⟨h, p _ (.head _)⟩ (paired_all t fun x hx => p x (.tail _ hx))
theorem paired_fst {α β : Type} {F : α → β → Prop} {P : α → β → Prop} : ∀ {l : List α} {m : List β}, Paired (fun a b => F a b ∧ P a b) l m → Paired F l m
  | _, _, .nil => .nil
  | _, _, .cons h t => .cons h.1 (paired_fst t)
def goodB (pe : Int) : Deed → Bool
  | .wish p z pr m => decide (0 ≤ p ∧ p < pe) && okWord z && decide (1 ≤ pr ∧ pr ≤ 20) && decide (1 ≤ m ∧ m ≤ 3)
  | .alter p _ m => decide (0 ≤ p ∧ p < pe) && decide (1 ≤ m ∧ m ≤ 3)
  | .drop p _ => decide (0 ≤ p ∧ p < pe)
  | .take p _ c => decide (0 ≤ p ∧ p < pe) && decide (1 ≤ c ∧ c ≤ 3)
  | .pledge p _ c => decide (0 ≤ p ∧ p < pe) && decide (1 ≤ c ∧ c ≤ 20)
  | .back p _ => decide (0 ≤ p ∧ p < pe)
theorem goodB_iff {pe : Int} {d : Deed} : goodB pe d = true ↔ d.Good pe := by
  cases d <;> simp only [goodB, Bool.and_eq_true, decide_eq_true_eq, Deed.Good, and_assoc]
theorem goodB_ok {pe : Int} {d : Deed} (h : goodB pe d = true) : d.Good pe := goodB_iff.mp h
theorem goods_ok {pe : Int} {ds : List Deed} (h : ds.all (goodB pe) = true) : ∀ d ∈ ds, d.Good pe := fun d hd => goodB_ok (List.all_eq_true.mp h d hd)
end G
/-! written things with variables within -/
namespace G
open PySem PySem.Spec PyProof.Rows L2
mutual
inductive LitV (σ : L2.St) (D0 : Hp) : TE → PyData → Prop
  | var {i : Nat} {v : V} {d : PyData} (h : σ[i]? = some (some v)) (f : Fz D0 v d) : LitV σ D0 (tVar i) d
  | non : LitV σ D0 (tC .non) .none
  | bl (b : Bool) : LitV σ D0 (tC (.bl b)) (.bool b)
  | int (i : Int) : LitV σ D0 (tC (.int i)) (.int i)
  | neg (i : Int) : LitV σ D0 (tUn (rU fun i => .int (-i)) (tC (.int i))) (.int (-i))
  | str (x : Str) : LitV σ D0 (tC (.str x)) (.str x)
  | lst {t : TA} {ds : List PyData} (q : LitVs σ D0 t ds) (l : decide (ds.length ≤ 100) = true) : LitV σ D0 (tLst t) (.list ds)
  | tup {t : TA} {ds : List PyData} (q : LitVs σ D0 t ds) (l : decide (ds.length ≤ 100) = true) : LitV σ D0 (tTup t) (.tuple ds)
  | dct : LitV σ D0 tDNewK (.dict [])
inductive LitVs (σ : L2.St) (D0 : Hp) : TA → List PyData → Prop
  | nil : LitVs σ D0 tNil []
  | cons {ta : TE} {t : TA} {d : PyData} {ds : List PyData} (h : LitV σ D0 ta d) (q : LitVs σ D0 t ds) : LitVs σ D0 (tCons ta t) (d :: ds)
end
mutual
theorem litv_run {σ : L2.St} {D0 : Hp} {Ms : List (List Cell)} : ∀ {te : TE} {d : PyData}, LitV σ D0 te d → ∀ {H D : Hp} {Q : VK}, Same D0 D → Ok H D Ms → (∀ H' D' v, Ok H' D' Ms → Same D D' → Fz D' v d → Q v H') → te σ H Q
  | _, _, .var h f, H, D, _, e, o, q => ⟨_, h, q H D _ o (Same.refl D) (f.mono e)⟩
  | _, _, .non, H, D, _, _, o, q => q H D _ o (Same.refl D) .non
  | _, _, .bl b, H, D, _, _, o, q => q H D _ o (Same.refl D) (.bl b)
  | _, _, .int i, H, D, _, _, o, q => q H D _ o (Same.refl D) (.int i)
  | _, _, .neg i, H, D, _, _, o, q => ⟨i, rfl, q H D _ o (Same.refl D) (.int (-i))⟩
  | _, _, .str x, H, D, _, _, o, q => q H D _ o (Same.refl D) (.str x)
  | _, _, .lst h l, H, D, Q, e, o, q => litvs_run h e o fun H' D' vs o' s' f => by
      refine ⟨sz_of (by rw [f.len]; exact l), fun p n => ?_⟩
      obtain ⟨o2, s2⟩ := o'.newD (o := .lst vs) n
      exact q _ _ _ o2 (s'.trans s2) (.lst upd_same (f.mono s2))
  | _, _, .tup h l, H, D, Q, e, o, q => litvs_run h e o fun H' D' vs o' s' f => by
      refine ⟨sz_of (by rw [f.len]; exact l), fun p n => ?_⟩
      obtain ⟨o2, s2⟩ := o'.newD (o := .tup vs) n
      exact q _ _ _ o2 (s'.trans s2) (.tup upd_same (f.mono s2))
  | _, _, .dct, H, D, Q, _, o, q => fun p n => by
      obtain ⟨o2, s2⟩ := o.newD (o := .dK []) n
      exact q _ _ _ o2 s2 (.dct upd_same)
theorem litvs_run {σ : L2.St} {D0 : Hp} {Ms : List (List Cell)} : ∀ {t : TA} {ds : List PyData}, LitVs σ D0 t ds → ∀ {H D : Hp} {P : List V → Hp → Prop}, Same D0 D → Ok H D Ms → (∀ H' D' vs, Ok H' D' Ms → Same D D' → FzAll D' vs ds → P vs H') → t σ H P
  | _, _, .nil, H, D, _, _, o, q => q H D _ o (Same.refl D) .nil
  | _, _, .cons h t, H, D, _, e, o, q => litv_run h e o fun H1 D1 v o1 s1 f1 => litvs_run t (e.trans s1) o1 fun H2 D2 vs o2 s2 f2 => q H2 D2 _ o2 (s1.trans s2) (.cons (f1.mono s2) f2)
end
theorem r_litv {σ : L2.St} {Ms : List (List Cell)} {te : TE} {d : PyData} {H D : Hp} {Q : VK} (o : Ok H D Ms) (h : LitV σ D te d) (q : ∀ H' D' v, Ok H' D' Ms → Same D D' → Fz D' v d → Q v H') : te σ H Q := litv_run h (Same.refl D) o q
end G

/-! more rules: xs[::-1], list(range), x or y by truth, xs[i] op= e -/
namespace G
open PySem PySem.Spec PyProof.Rows L2
section
variable {X : Cx} {K : PySem.W.Frag}
theorem k_revL {e : Expr} {te : TE} {k : Nat} {p1 p2 p3 pos : Pos} (he : PE X e te) (h : X.K = K := by rfl) : PE X (.Subscript e (.Slice none none (some (.UnaryOp .USub (.Constant (.int 1) k p1) p2)) p3) pos) (tRevL K te) := by
  subst h
  exact pe_revL he
theorem k_orT {a b : Expr} {ta tb : TE} {rest : List Expr} {pos : Pos} (ha : PE X a ta) (hb : PE X (.BoolOp .Or (b :: rest) pos) tb) (h : X.K = K := by rfl) : PE X (.BoolOp .Or (a :: b :: rest) pos) (tOrT K ta tb) := by
  subst h
  exact pe_orT ha hb
/-- xs[i], xs a list that is tracked, i from 0 on -/
def rGetN : V → V → Hp → VK → Prop := fun x y H Q => ∃ (p : Addr) (xs : List V) (i : Int) (v : V), x = .ref p ∧ y = .int i ∧ H p = some (.lst xs) ∧ 0 ≤ i ∧ xs[i.toNat]? = some v ∧ Q v H
theorem get_list : PGet X rGetN := by
  intro pins s σ H x y v u Q I rx ry h
  obtain ⟨p, xs, i, z, rfl, rfl, hp, h0, he, q⟩ := h
  cases rx
  obtain ⟨t, rfl⟩ := ry
  obtain ⟨its, rv, pl, hz⟩ := I.list (SqL.of hp)
  obtain ⟨w', ew, rw'⟩ := rv.get he
  have hl := rv.length
  have hi : i.toNat < xs.length := (List.getElem?_eq_some_iff.mp he).1
  have hn := line63
  exact wpAny_getItem_list pl.isList h0 (by omega) (by simpa using ew) ⟨z, H, I, rw', q⟩
theorem ps_augL {o i e : Expr} {to ti te : TE} {tip : TIp} {op : Operator} {tpos pos : Pos} (ho : PE X o to) (hi : PE X i ti) (he : PE X e te) (hp : PIp X op tip)
    (ha : ∀ ov iv new, augStore i ov iv new = (do holding [new, ov, iv] (setItem ov iv new); release [new, ov, iv] []; pure .next) := by intros; rfl) : PS X (.AugAssign (.Subscript o i tpos) op e pos) (tAugS to ti te rGetN tip rSetL) := ps_augS ho hi get_list he hp set_list ha
end
section
variable {K : PySem.W.Frag} {H D : Hp} {Ms R : List (List Cell)} {σ : L2.St} {Q : VK} {ta tb te : TE} {E : Ends}
def RevQ (K : PySem.W.Frag) (Q : VK) (x : V) (H : Hp) : Prop := ∃ a xs, x = .ref a ∧ SqL K H a xs ∧ ∀ p, H p = none → Q (.ref p) (upd H p (.lst xs.reverse))
theorem r_rev (q : te σ H (RevQ K Q)) : tRevL K te σ H Q := q
theorem r_revE {a : Addr} {xs : List V} (o : Ok H D Ms) (h : SqL K H a xs) (q : ∀ p H', Ok H' D ([(p, .lst xs.reverse)] :: Ms) → Q (.ref p) H') : RevQ K Q (.ref a) H := ⟨a, xs, rfl, h, fun p n => q p _ (o.new n)⟩
theorem r_orT (q : ta σ H fun x H1 => ∃ k, TruV K x H1 k ∧ if k = true then Q x H1 else tb σ H1 Q) : tOrT K ta tb σ H Q := q
def LrgQ (Q : VK) (a b : Int) (H : Hp) : Prop := RgOk a b ∧ ∀ q, H q = none → Q (.ref q) (upd H q (.lst (rgV a b)))
theorem r_lrg {tr : L2.St → Hp → (Int → Int → Hp → Prop) → Prop} (q : tr σ H (LrgQ Q)) : tLstRg tr σ H Q := q
theorem r_rg1 {P : Int → Int → Hp → Prop} (q : ta σ H fun x H1 => ∃ n, x = .int n ∧ P 0 n H1) : tRg1 ta σ H P := q
theorem r_rg2 {P : Int → Int → Hp → Prop} (q : ta σ H fun x H1 => tb σ H1 fun y H2 => ∃ i j, x = .int i ∧ y = .int j ∧ P i j H2) : tRg2 ta tb σ H P := q
theorem r_lrgE {a b : Int} (o : Ok H D Ms) (h : RgOk a b) (q : ∀ p H', Ok H' D ([(p, .lst (rgV a b))] :: Ms) → Q (.ref p) H') : LrgQ Q a b H := ⟨h, fun p n => q p _ (o.new n)⟩
theorem r_oneI {P : Int → Prop} {n : Int} (q : P n) : ∃ m, V.int n = .int m ∧ P m := ⟨n, rfl, q⟩
theorem r_twoI {P : Int → Int → Prop} {m n : Int} (q : P m n) : ∃ i j, V.int m = .int i ∧ V.int n = .int j ∧ P i j := ⟨m, n, rfl, rfl, q⟩
def AugG (ti' te' : TE) (tip : TIp) (σ : L2.St) (E : Ends) (o i : V) (H : Hp) : Prop := rGetN o i H fun x H3 => te' σ H3 fun y H4 => tip x y H4 fun z H5 => rSetL o i z H5 fun H6 => E.nx σ H6
theorem r_augS {to ti : TE} {tip : TIp} (q : to σ H fun o H1 => ti σ H1 fun i H2 => AugG ti te tip σ E o i H2) : tAugS to ti te rGetN tip rSetL E σ H := q
theorem r_augE {ti : TE} {f : Int → Int → Int} {tip : TIp} {a : Addr} {xs : List V} {i c n : Int} {j : Nat} (o : Ok H D Ms) (k : Pk Ms [(a, .lst xs)] R) (hi : i = (j : Nat)) (hj : xs[j]? = some (.int n)) (he : te = tC (.int c)) (ht : ∀ x y H Q, Q (.int (f x y)) H → tip (.int x) (.int y) H Q)
    (q : ∀ H', Ok H' D ([(a, .lst (xs.set j (.int (f n c))))] :: R) → E.nx σ H') : AugG ti te tip σ E (.ref a) (.int i) H := by
  subst hi
  subst he
  have hlt : j < xs.length := (List.getElem?_eq_some_iff.mp hj).1
  refine ⟨a, xs, (j : Nat), .int n, rfl, rfl, o.at1 k.mem, by omega, by rw [Int.toNat_natCast]; exact hj, ht _ _ _ _ ?_⟩
  refine ⟨a, xs, (j : Nat), j, rfl, rfl, o.at1 k.mem, ?_, q _ (o.wrAt k)⟩
  unfold ixN
  rw [if_pos (by omega)]
  simp [hlt]
end
end G
/-! a dict of the module; own classes; slices of tuples -/
namespace G
open PySem PySem.Spec PyProof.Rows L2
section
variable {X : Cx} {K : PySem.W.Frag} {w : World} {H D : Hp} {Ms R : List (List Cell)} {Q : VK}
theorem k_ixKD (h : X.K = K := by rfl) (hw : X.w = w := by rfl) : IxR X (rIxD K w) := by
  subst h
  subst hw
  exact ix_kdict
theorem r_ixKD {a : Addr} {es : Array DictEntry} {n : Nat} {z : Str} {i : Int} {t : Tok} (d : KDict K w a es n) (e : PySem.W.nsIn K a z = some (some (.int i t))) (q : Q (.int i) H) : rIxD K w (.ref a) (.str z) H Q := ⟨a, z, .int i, rfl, rfl, ⟨es, n, _, d.at_, d.lit, e, ⟨t, rfl⟩⟩, q⟩
def rNinKD (K : PySem.W.Frag) (g : Addr) : R2 := fun x y H Q => ∃ (z : Str) (r : Option Value), x = .str z ∧ y = .ref g ∧ PySem.W.nsIn K g z = some r ∧ Q (.bl (!r.isSome)) H
theorem k_ninKD {g : Addr} {es : Array DictEntry} {n : Nat} (d : KDict K w g es n) (h : X.K = K := by rfl) (hw : X.w = w := by rfl) : OpR X (compareOp .NotIn) (rNinKD K g) := by
  subst h
  subst hw
  exact op_notIn_kd d
theorem r_ninKD {g : Addr} {z : Str} {r : Option Value} (e : PySem.W.nsIn K g z = some r) (q : Q (.bl (!r.isSome)) H) : rNinKD K g (.str z) (.ref g) H Q := ⟨z, r, rfl, rfl, e, q⟩
structure OC (K : PySem.W.Frag) (C : Addr) : Prop where
  ha : PySem.W.findIn K (.ref C) "__class__" = some (some (.builtin "object.__class__"))
  hn : PySem.W.specialIn K (.builtin "object.__class__") "__get__" = some (some (.builtin "getset_descriptor.__get__"))
  htk : PySem.W.takesIn K (.builtin "object.__class__") = some true
  hm : PySem.W.mroIn K C (.type "object") = some true
theorem isiO {x C dx X' : Addr} {fs : List (Str × V)} {b : Bool} (e : H x = some (.ins C dx fs)) (cl : Cls K C) (o : OC K C) (k : PySem.W.kitOne K (.ref C) (.ref X') = some b) (q : Q (.bl b) H) : rIsi K [.ref x, .ref X'] H Q :=
  ⟨.ref x, .ref X', .ref C, .ref X', b, rfl, .own X', .base (.ins e cl o.ha o.hn o.htk o.hm), k, q⟩
theorem r_slT {a : Addr} {xs : List V} {lo hi : Option Int} (o : Ok H D Ms) (h : SqT K H a xs) (hw : ¬ (HT.sIx xs.length 0 lo = 0 ∧ HT.sIx xs.length xs.length hi = xs.length)) (q : ∀ p H', Ok H' D ([(p, .tup (cutV xs lo hi))] :: Ms) → Q (.ref p) H') : rSlU K (.ref a) lo hi H Q := .inr ⟨a, xs, rfl, h, hw, fun p n => q p _ (o.new n)⟩
end
end G

/-! a new instance of an own class without __init__ -/
namespace G
open PySem PySem.Spec PyProof.Rows L2
structure MkN (K : PySem.W.Frag) (C : Addr) : Prop where
  makes : PySem.W.makesIn K C = true
  init : PySem.W.findIn K (.ref C) "__init__" = some (some (.builtin "object.__init__"))
  top : PySem.W.mroIn K C (.type "object") = some true
  kp : PySem.W.keepIn K (.ref C) = true
section
open PySem.W
variable {X : Cx} {C : Addr} {x : Str} {p pos : Pos}
def tMkN (C : Addr) : TE := fun _ H Q => ∀ x dx, H x = none → H dx = none → dx ≠ x → Q (.ref x) (L2.upd (L2.upd H dx (.own x)) x (.ins C dx []))
theorem run_mkN {pins : List (Addr × Obj)} {σ : L2.St} {H : Hp} {s : Shared} {Q : VK} (M : MkN X.K C) (I : L2.Inv X pins σ H s) (h : tMkN C σ H Q) : wpAny (model X.prog X.w) X.A (call (.ref C) []) (EP X pins σ Q) X.xe s := by
  have hq := h (s.heap.objs.size + 1) s.heap.objs.size (I.hok.fresh (Nat.le_succ _)) (I.hok.fresh (Nat.le_refl _)) (Nat.ne_of_lt (Nat.lt_succ_self _))
  have I2 := Inv.made (C := C) I
  have ho : ((s.heap.push emptyDict).push (instObj C s.heap.objs.size)).get? (s.heap.objs.size + 1) = some (instObj C s.heap.objs.size) := by
    have z := Heap.get?_push_size (s.heap.push emptyDict) (o := instObj C s.heap.objs.size) rfl
    rw [Heap.size_push] at z
    exact z
  refine wpAny_call (make_map0 I.kIn M.makes M.init (fun self => Looks.of_pure (oi_bind self)) ?_)
  have t1 : Looks (model X.prog X.w) ((s.heap.push emptyDict).push (instObj C s.heap.objs.size)) (typeOf (.ref (s.heap.objs.size + 1))) (.ref C) := (Looks.ld ho).andThen .now
  have t2 : Looks (model X.prog X.w) ((s.heap.push emptyDict).push (instObj C s.heap.objs.size)) (isInstance (.ref (s.heap.objs.size + 1)) (.type "object")) true := t1.andThen (looks_mroIn I2.kIn M.top)
  refine codeAny_call_builtin oi_plain entry_oi (check_slot oi_kind oi_split t2 (oi_args _) ?_)
  rw [oi_run]
  refine wpAny_pure (And.intro rfl ?_)
  exact ⟨.ref (s.heap.objs.size + 1), _, I2, rfl, hq⟩
theorem pe_mkN (M : MkN X.K C) (hg : Gl X x) (hm : X.mg x = some (.ref C)) (hdb : (x == ("__debug__" : Str)) = false := by decide) : PE X (.Call (.Name x p) [] [] pos) (tMkN C) := by
  refine ⟨fun pins s σ H Q I h => ?_⟩
  refine wpAny_Call_Name_kw (ld_glob I hg hm ?_ hdb)
  exact callWith_K0 I.kIn M.kp (run_mkN M I h)
end
section
variable {H D : Hp} {Ms : List (List Cell)} {σ : L2.St} {Q : VK} {C : Addr}
theorem r_mkN (o : Ok H D Ms) (q : ∀ x dx H', Ok H' D ([(x, .ins C dx [])] :: Ms) → Q (.ref x) H') : tMkN C σ H Q := fun x dx nx ndx ne =>
  q x dx _ ((o.skip (o := .own x) ndx).new (by rw [upd_ne ne.symm]; exact nx))
end
end G

/-! written things with numbers that are reckoned; walks that fill a list while other cells change -/
namespace G
open PySem PySem.Spec PyProof.Rows L2
mutual
inductive LitE (σ : L2.St) (D0 : Hp) : TE → PyData → Prop
  | var {i : Nat} {v : V} {d : PyData} (h : σ[i]? = some (some v)) (f : Fz D0 v d) : LitE σ D0 (tVar i) d
  | non : LitE σ D0 (tC .non) .none
  | bl (b : Bool) : LitE σ D0 (tC (.bl b)) (.bool b)
  | int (i : Int) : LitE σ D0 (tC (.int i)) (.int i)
  | str (x : Str) : LitE σ D0 (tC (.str x)) (.str x)
  | lst {t : TA} {ds : List PyData} (q : LitEs σ D0 t ds) (l : decide (ds.length ≤ 100) = true) : LitE σ D0 (tLst t) (.list ds)
  | tup {t : TA} {ds : List PyData} (q : LitEs σ D0 t ds) (l : decide (ds.length ≤ 100) = true) : LitE σ D0 (tTup t) (.tuple ds)
  | dct : LitE σ D0 tDNewK (.dict [])
  | ev {te : TE} {m : Int} (h : ∀ (H : Hp) (Q : VK), Q (.int m) H → te σ H Q) : LitE σ D0 te (.int m)
  | evs {te : TE} {x : Str} (h : ∀ (H : Hp) (Q : VK), Q (.str x) H → te σ H Q) : LitE σ D0 te (.str x)
inductive LitEs (σ : L2.St) (D0 : Hp) : TA → List PyData → Prop
  | nil : LitEs σ D0 tNil []
  | cons {ta : TE} {t : TA} {d : PyData} {ds : List PyData} (h : LitE σ D0 ta d) (q : LitEs σ D0 t ds) : LitEs σ D0 (tCons ta t) (d :: ds)
end
mutual
theorem lite_run {σ : L2.St} {D0 : Hp} {Ms : List (List Cell)} : ∀ {te : TE} {d : PyData}, LitE σ D0 te d → ∀ {H D : Hp} {Q : VK}, Same D0 D → Ok H D Ms → (∀ H' D' v, Ok H' D' Ms → Same D D' → Fz D' v d → Q v H') → te σ H Q
  | _, _, .var h f, H, D, _, e, o, q => ⟨_, h, q H D _ o (Same.refl D) (f.mono e)⟩
  | _, _, .non, H, D, _, _, o, q => q H D _ o (Same.refl D) .non
  | _, _, .bl b, H, D, _, _, o, q => q H D _ o (Same.refl D) (.bl b)
  | _, _, .int i, H, D, _, _, o, q => q H D _ o (Same.refl D) (.int i)
  | _, _, .str x, H, D, _, _, o, q => q H D _ o (Same.refl D) (.str x)
  | _, _, .lst h l, H, D, Q, e, o, q => lites_run h e o fun H' D' vs o' s' f => by
      refine ⟨sz_of (by rw [f.len]; exact l), fun p n => ?_⟩
      obtain ⟨o2, s2⟩ := o'.newD (o := .lst vs) n
      exact q _ _ _ o2 (s'.trans s2) (.lst upd_same (f.mono s2))
  | _, _, .tup h l, H, D, Q, e, o, q => lites_run h e o fun H' D' vs o' s' f => by
      refine ⟨sz_of (by rw [f.len]; exact l), fun p n => ?_⟩
      obtain ⟨o2, s2⟩ := o'.newD (o := .tup vs) n
      exact q _ _ _ o2 (s'.trans s2) (.tup upd_same (f.mono s2))
  | _, _, .dct, H, D, Q, _, o, q => fun p n => by
      obtain ⟨o2, s2⟩ := o.newD (o := .dK []) n
      exact q _ _ _ o2 s2 (.dct upd_same)
  | _, _, .ev h, H, D, _, _, o, q => h H _ (q H D _ o (Same.refl D) (.int _))
  | _, _, .evs h, H, D, _, _, o, q => h H _ (q H D _ o (Same.refl D) (.str _))
theorem lites_run {σ : L2.St} {D0 : Hp} {Ms : List (List Cell)} : ∀ {t : TA} {ds : List PyData}, LitEs σ D0 t ds → ∀ {H D : Hp} {P : List V → Hp → Prop}, Same D0 D → Ok H D Ms → (∀ H' D' vs, Ok H' D' Ms → Same D D' → FzAll D' vs ds → P vs H') → t σ H P
  | _, _, .nil, H, D, _, _, o, q => q H D _ o (Same.refl D) .nil
  | _, _, .cons h t, H, D, _, e, o, q => lite_run h e o fun H1 D1 v o1 s1 f1 => lites_run t (e.trans s1) o1 fun H2 D2 vs o2 s2 f2 => q H2 D2 _ o2 (s1.trans s2) (.cons (f1.mono s2) f2)
end
theorem r_lite {σ : L2.St} {Ms : List (List Cell)} {te : TE} {d : PyData} {H D : Hp} {Q : VK} (o : Ok H D Ms) (h : LitE σ D te d) (q : ∀ H' D' v, Ok H' D' Ms → Same D D' → Fz D' v d → Q v H') : te σ H Q := lite_run h (Same.refl D) o q
/-- the lists of two written things, one behind the other -/
theorem r_addFz {K : PySem.W.Frag} {H D : Hp} {R : List (List Cell)} {Q : VK} {v u : V} {ds es : List PyData} (o : Ok H D R) (f : Fz D v (.list ds)) (g : Fz D u (.list es)) (l : ds.length + es.length ≤ 1000) (q : ∀ H' D' z, Ok H' D' R → Same D D' → Fz D' z (.list (ds ++ es)) → Q z H') : rAddU K v u H Q := by
  obtain ⟨p1, xs, rfl, h1, k1⟩ := fz_lst f
  obtain ⟨p2, ys, rfl, h2, k2⟩ := fz_lst g
  refine r_addL o (o.dat h1) (o.dat h2) (by rw [k1.len, k2.len]; exact Nat.le_trans l (by decide)) fun p H' o' => ?_
  obtain ⟨o2, s2, e2⟩ := o'.frz
  exact q H' _ _ o2 s2 (.lst (e2 _ (.head _)) ((k1.mono s2).app (k2.mono s2)))
theorem fz_rep {D : Hp} {v : V} {d : PyData} (f : Fz D v d) : ∀ n : Nat, FzAll D (List.replicate n [v]).flatten (List.replicate n d)
  | 0 => .nil
  | n + 1 => .cons f (fz_rep f n)
/-- a list of one thing, some times -/
theorem r_repFz {H D : Hp} {R : List (List Cell)} {Q : VK} {v : V} {d : PyData} {k : Int} (o : Ok H D R) (f : Fz D v (.list [d])) (hk : 0 ≤ k ∧ k ≤ 1000) (q : ∀ H' D' z, Ok H' D' R → Same D D' → Fz D' z (.list (List.replicate k.toNat d)) → Q z H') : rMulU v (.int k) H Q := by
  obtain ⟨p1, xs, rfl, h1, k1⟩ := fz_lst f
  cases k1 with
  | cons f1 t1 =>
    cases t1
    refine r_repL o (o.dat h1) (by omega) (by omega) (by show 1 * k.toNat ≤ _; have := sizeLine_eq; omega) fun p H' o' => ?_
    obtain ⟨o2, s2, e2⟩ := o'.frz
    exact q H' _ _ o2 s2 (.lst (e2 _ (.head _)) (fz_rep (f1.mono s2) _))
/-- comprehensions whose turns change what may change -/
theorem lcX {H D : Hp} {β : Type} {Mf : β → List (List Cell)} {σ : L2.St} {te : TE} {tt : TT} {g : TG} {Qd : Addr → Hp → Prop} {J : It} {n : Nat} {Gd : Hp → Prop} {Y : Nat → Hp → V → Hp → Prop} {vs : List Nat} (w : Walk J n Gd Y) {x0 : β} (o : Ok H D (Mf x0)) (Rl : Nat → List V → Hp → β → Prop) (hn : n ≤ 100000) (h0 : Rl 0 [] D x0)
    (hl : ∀ i acc D' x, Rl i acc D' x → acc.length ≤ i)
    (hG : ∀ i L acc H' D' x, Ok H' D' ([(L, .lst acc)] :: Mf x) → Same D D' → Rl i acc D' x → Gd H')
    (hs : ∀ (i : Nat) (z : V) (L : Addr) (acc : List V) (H' H'' D' : Hp) (x : β) (Ny : V → Hp → Prop) (Nn : Hp → Prop), i < n → Ok H' D' ([(L, .lst acc)] :: Mf x) → Same D D' → Rl i acc D' x → Y i H' z H'' →
      (∀ y H4 D4 x', Ok H4 D4 ([(L, .lst acc)] :: Mf x') → Same D D4 → Rl (i + 1) (acc ++ [y]) D4 x' → Ny y H4) →
      g z (wipe σ vs) H'' fun σ2 H2 => wipe σ2 vs = wipe σ vs ∧ tt σ2 H2 fun b H3 => if b = true then te σ2 H3 Ny else Nn H3)
    (hd : ∀ L acc H' D' x, Ok H' D' ([(L, .lst acc)] :: Mf x) → Same D D' → Rl n acc D' x → Qd L H') :
    ∀ L, H L = none → ∃ W : Nat → Nat → Hp → Prop, (∃ m, W 0 m (upd H L (.lst []))) ∧ ∀ i m H, W i m H →
  (J.stop i H ∧ Qd L H) ∨ (J.go i H ∧ ∃ Nx : Hp → Prop, (∀ H', Nx H' → ∃ m', m' < m ∧ W (i + 1) m' H') ∧ ∀ x H', J.yld i H x H' → g x (wipe σ vs) H' fun σ2 H2 => wipe σ2 vs = wipe σ vs ∧ tt σ2 H2 fun b H3 =>
    if b = true then te σ2 H3 fun y H4 => ∃ acc, H4 L = some (.lst acc) ∧ acc.length < sizeLine ∧ Nx (upd H4 L (.lst (acc ++ [y]))) else Nx H3) := by
  intro L nL
  refine lc_it w (Qd := Qd L) (fun i H' => ∃ acc D' x, Ok H' D' ([(L, .lst acc)] :: Mf x) ∧ Same D D' ∧ Rl i acc D' x) ⟨[], D, x0, o.new nL, Same.refl D, h0⟩ ?_ ?_ ?_
  · rintro i H' _ ⟨acc, D', x, o', s', r'⟩
    exact hG i L acc H' D' x o' s' r'
  · rintro i z H' H'' hi ⟨acc, D', x, o', s', r'⟩ y
    refine hs i z L acc H' H'' D' x _ _ hi o' s' r' y fun y H4 D4 x' o4 s4 r4 => ?_
    have q := hl i acc D' x r'
    exact ⟨acc, o4.at1 (.head _), Nat.lt_of_le_of_lt (show acc.length ≤ 100000 by omega) (by decide), acc ++ [y], D4, x', o4.wr, s4, r4⟩
  · rintro H' ⟨acc, D', x, o', s', r'⟩
    exact hd L acc H' D' x o' s' r'
end G

/-! a lambda handed to a def: the table of code objects as a cell that may change -/
namespace G
open PySem PySem.Spec PyProof.Rows L2 LamX
/-- a cell that is neither a table nor a code object -/
def Pl (o : HO) : Prop := (∀ ps, o ≠ .tbl ps) ∧ ∀ c q, o ≠ CodeO c q
theorem pl_lst {xs : List V} : Pl (.lst xs) := ⟨nofun, fun c q z => by unfold CodeO at z; cases z⟩
theorem pl_tup {xs : List V} : Pl (.tup xs) := ⟨nofun, fun c q z => by unfold CodeO at z; cases z⟩
theorem pl_dK {kv : List (Key × V)} : Pl (.dK kv) := ⟨nofun, fun c q z => by unfold CodeO at z; cases z⟩
theorem pl_ins {C dx : Addr} {fs : List (Str × V)} : Pl (.ins C dx fs) := ⟨nofun, fun c q z => by unfold CodeO at z; cases z⟩
def PlC (Ms : List (List Cell)) : Prop := ∀ M ∈ Ms, ∀ c ∈ M, Pl c.2
theorem PlC.nil : PlC [] := nofun
theorem PlC.cons {M : List Cell} {Ms : List (List Cell)} (h : ∀ c ∈ M, Pl c.2) (t : PlC Ms) : PlC (M :: Ms) := fun N hN => (List.mem_cons.mp hN).elim (fun e => e ▸ h) (t N)
/-- the data but the tables -/
def noT (D : Hp) : Hp := fun b => match D b with
  | some (.tbl _) => none
  | z => z
theorem noT_some {D : Hp} {b : Addr} {u : HO} (h : noT D b = some u) : D b = some u ∧ ∀ ps, u ≠ .tbl ps := by
  unfold noT at h
  split at h
  · cases h
  · rename_i hn
    exact ⟨h, fun ps e => hn ps (by rw [h, e])⟩
theorem noT_at {D : Hp} {b : Addr} {u : HO} (h : D b = some u) (n : ∀ ps, u ≠ .tbl ps) : noT D b = some u := by
  unfold noT
  split
  · rename_i ps e
    rw [h] at e
    exact absurd (Option.some.inj e) (n ps)
  · exact h
theorem noT_none {D : Hp} {b : Addr} (h : D b = none) : noT D b = none := by
  unfold noT
  rw [h]
def NT (D : Hp) : Prop := ∀ b ps, D b ≠ some (.tbl ps)
theorem NT.noT (D : Hp) : NT (noT D) := fun _ ps e => (noT_some e).2 ps rfl
theorem NT.same {D D' : Hp} (h : NT D) (s : Same D D') : Same D (G.noT D') := fun b u e => noT_at (s b u e) fun ps z => h b ps (by rw [e, z])
theorem Ok.noT {H D : Hp} {Ms : List (List Cell)} (o : Ok H D Ms) : Ok H (G.noT D) Ms := ⟨fun b u e => o.sub b u (noT_some e).1, o.has, fun M hM c hc => noT_none (o.off M hM c hc), o.nd⟩
/-- less data -/
theorem Ok.less {H D D' : Hp} {Ms : List (List Cell)} (o : Ok H D' Ms) (s : Same D D') : Ok H D Ms := ⟨fun b u e => o.sub b u (s b u e), o.has, fun M hM c hc => by
  cases e : D c.1 with
  | none => rfl
  | some u => exact absurd ((s _ _ e).symm.trans (o.off M hM c hc)) (by simp), o.nd⟩
mutual
theorem Fz.noT {D : Hp} : ∀ {v : V} {d : PyData}, Fz D v d → Fz (G.noT D) v d
  | _, _, .non => .non
  | _, _, .bl b => .bl b
  | _, _, .int i => .int i
  | _, _, .str x => .str x
  | _, _, .lst h q => .lst (noT_at h nofun) (FzAll.noT q)
  | _, _, .tup h q => .tup (noT_at h nofun) (FzAll.noT q)
  | _, _, .dct h => .dct (noT_at h nofun)
theorem FzAll.noT {D : Hp} : ∀ {vs : List V} {ds : List PyData}, FzAll D vs ds → FzAll (G.noT D) vs ds
  | _, _, .nil => .nil
  | _, _, .cons h t => .cons (Fz.noT h) (FzAll.noT t)
end
theorem SqL.noT {K : PySem.W.Frag} {D : Hp} {b : Addr} {xs : List V} (h : SqL K D b xs) : SqL K (G.noT D) b xs := by
  rcases h with (h | ⟨o, h⟩) | h
  · exact .inl (.inl (noT_at h nofun))
  · exact .inl (.inr ⟨o, noT_at h nofun⟩)
  · exact .inr h
/-- what a table tells: code objects of the name q, all of them data -/
def TabOk (D : Hp) (q : Str) (ps : Array Value) : Prop := TriplesOk ps.toList ∧ ∀ (pos : Pos) (cv : Value), codeAmong pos ps.toList = some cv → ∃ c, cv = .ref c ∧ D c = some (CodeO c q)
theorem TabOk.nil {D : Hp} {q : Str} : TabOk D q #[] := ⟨True.intro, fun pos cv h => by
  have h : codeAmong pos [] = some cv := h
  simp [codeAmong] at h⟩
theorem TabOk.noT {D : Hp} {q : Str} {ps : Array Value} (h : TabOk D q ps) : TabOk (G.noT D) q ps := ⟨h.1, fun pos cv e => by
  obtain ⟨c, e1, e2⟩ := h.2 pos cv e
  exact ⟨c, e1, noT_at e2 fun ps' => codeO_ne ps'⟩⟩
theorem TabOk.mono {D D' : Hp} {q : Str} {ps : Array Value} (h : TabOk D q ps) (s : Same D D') : TabOk D' q ps := ⟨h.1, fun pos cv e => by
  obtain ⟨c, e1, e2⟩ := h.2 pos cv e
  exact ⟨c, e1, s _ _ e2⟩⟩
open Classical in
/-- data, with the code objects of a heap -/
noncomputable def withC (D H : Hp) (q : Str) (Ms : List (List Cell)) : Hp := fun b => match D b with
  | some u => some u
  | none => if H b = some (CodeO b q) ∧ b ∉ Ms.flatten.map (·.1) then H b else none
theorem withC_same {D H : Hp} {q : Str} {Ms : List (List Cell)} : Same D (withC D H q Ms) := fun b u e => by
  unfold withC
  rw [e]
theorem r_lam {H D : Hp} {R : List (List Cell)} {Pt : Addr} {q : Str} {ps : Array Value} {σ : L2.St} {Q : VK} {t : XK → TE} {TT : (XK → Hp → VK → Prop) → Hp → VK → Prop} (o : Ok H D ([(Pt, .tbl ps)] :: R)) (pl : PlC R) (tk : TabOk D q ps)
    (k : ∀ H1 D1 ps1, Ok H1 D1 ([(Pt, .tbl ps1)] :: R) → Same (noT D) D1 → TabOk D1 q ps1 → TT (fun E H' Q' => t E σ H' Q') H1 Q) : tLam [(Pt, q)] TT t σ H Q := by
  have hP : H Pt = some (.tbl ps) := o.at1 (.head _)
  refine ⟨fun p hp => ?_, fun H1 eN hT => ?_⟩
  · obtain rfl := List.mem_singleton.mp hp
    exact ⟨ps, hP, tk.1, fun pos cv e => by
      obtain ⟨c, e1, e2⟩ := tk.2 pos cv e
      exact ⟨c, e1, o.sub _ _ e2⟩⟩
  · obtain ⟨ps1, hP1, ht1, hc1⟩ := hT _ (.head _)
    have hP1 : H1 Pt = some (.tbl ps1) := hP1
    have cellH : ∀ M ∈ R, ∀ c ∈ M, H1 c.1 = some c.2 := fun M hM c hc => eN _ _ (o.has M (.tail _ hM) c hc) (pl M hM c hc).1
    have datH : ∀ b u, noT D b = some u → H1 b = some u := fun b u e => eN b u (o.sub _ _ (noT_some e).1) (noT_some e).2
    have o1 : Ok H1 (withC (noT D) H1 q ([(Pt, .tbl ps1)] :: R)) ([(Pt, .tbl ps1)] :: R) := by
      refine ⟨fun b u e => ?_, fun M hM c hc => ?_, fun M hM c hc => ?_, o.nd⟩
      · unfold withC at e
        split at e
        · rename_i u' e'
          rw [← Option.some.inj e]
          exact datH b _ e'
        · split at e
          · exact e
          · cases e
      · rcases List.mem_cons.mp hM with rfl | hM
        · rw [List.mem_singleton.mp hc]
          exact hP1
        · exact cellH M hM c hc
      · have hD : noT D c.1 = none := by
          rcases List.mem_cons.mp hM with rfl | hM
          · rw [List.mem_singleton.mp hc]
            exact noT_none (o.off _ (.head _) (Pt, .tbl ps) (.head _))
          · exact noT_none (o.off M (.tail _ hM) c hc)
        unfold withC
        rw [hD]
        exact if_neg fun z => z.2 (List.mem_map_of_mem (List.mem_flatten.mpr ⟨M, hM, hc⟩))
    refine k H1 _ ps1 o1 withC_same ⟨ht1, fun pos cv e => ?_⟩
    obtain ⟨c, e1, e2⟩ := hc1 pos cv e
    refine ⟨c, e1, ?_⟩
    unfold withC
    cases hD : noT D c with
    | some u =>
      have := datH c u hD
      rw [e2] at this
      exact this.symm
    | none =>
      refine (if_pos ⟨e2, fun hm => ?_⟩).trans e2
      obtain ⟨x, hx, rfl⟩ := List.mem_map.mp hm
      obtain ⟨M, hM, hxM⟩ := List.mem_flatten.mp hx
      rcases List.mem_cons.mp hM with rfl | hM
      · rw [List.mem_singleton.mp hxM] at e2
        exact codeO_ne ps1 (Option.some.inj (e2.symm.trans hP1))
      · exact (pl M hM x hxM).2 _ _ (Option.some.inj ((cellH M hM x hxM).symm.trans e2))
/-- a def whose code object stands at c -/
structure CD (K : PySem.W.Frag) (x qual : Str) (st : Stmt) (f : Addr) (fd : FuncData) (c : Addr) : Prop where
  ex : ∃ (oc : Value) (od : Option Addr) (kV doc pm : Value) (an : Option Addr) (ct : Value) (osl : Array (Option Value)), fd = PySem.W.fnOf x qual (defArgs st) (defBody st) (defScope st) .none kV doc pm an (.ref c) ct ∧
    K.lookup f = some ⟨oc, od, .func fd, osl⟩ ∧ PySem.W.codeIn K (.ref c) qual = true
theorem CD.ok {P : Program} {w : World} {K : PySem.W.Frag} {mg : Str → Option Value} {base : Heap} {x qual : Str} {st : Stmt} {f c : Addr} {fd : FuncData} {N ps : List Str} {k : Nat} {sp : Sp} (C : CD K x qual st f fd c) (S : FnScope N ps (defScope st)) (hn : ∀ vs H Q E, sp vs H Q E → vs.length = ps.length)
    (go : ∀ (A : Around) (outer : List Env) (s : Shared) (H : Hp) (vs : List V) (Q : VK) (E : XK), Room k (A.deeper (envOfC qual (defScope st) s.heap.objs.size f (.ref c))) → sp vs H Q E →
      ∃ t, PSs (cxOf (L2.CX P w) P w K mg base N qual (defScope st) f (.ref c) A outer s H E) (defBody st) t ∧ t ⟨fun _ H' => Q .non H', Q, fun _ _ => False, fun _ _ => False⟩ (L2.start N vs) H) : FnOk P w K mg base (L2.CX P w) (k + 1) f fd ps sp := by
  obtain ⟨oc, od, kV, doc, pm, an, ct, osl, rfl, e1, e2⟩ := C.ex
  exact L2.fn_of e1 e2 S hn fun A outer s H vs Q E r h => go A outer s H vs Q E r h
end G

/-! the tables of several defs -/
namespace G
open PySem PySem.Spec PyProof.Rows L2 LamX
def cT (Ts : List (Addr × Str)) (pss : List (Array Value)) : List Cell := List.zipWith (fun p ps => (p.1, HO.tbl ps)) Ts pss
structure TabsOk (D : Hp) (Ts : List (Addr × Str)) (pss : List (Array Value)) : Prop where
  len : pss.length = Ts.length
  ok : ∀ (i : Nat) (p : Addr × Str) (ps : Array Value), Ts[i]? = some p → pss[i]? = some ps → TabOk D p.2 ps
theorem TabsOk.mono {D D' : Hp} {Ts : List (Addr × Str)} {pss : List (Array Value)} (h : TabsOk D Ts pss) (s : Same D D') : TabsOk D' Ts pss := ⟨h.len, fun i p ps e1 e2 => (h.ok i p ps e1 e2).mono s⟩
theorem TabsOk.noT {D : Hp} {Ts : List (Addr × Str)} {pss : List (Array Value)} (h : TabsOk D Ts pss) : TabsOk (G.noT D) Ts pss := ⟨h.len, fun i p ps e1 e2 => (h.ok i p ps e1 e2).noT⟩
theorem cT_mem {Ts : List (Addr × Str)} {pss : List (Array Value)} {c : Cell} (h : c ∈ cT Ts pss) : ∃ (i : Nat) (p : Addr × Str) (ps : Array Value), Ts[i]? = some p ∧ pss[i]? = some ps ∧ c = (p.1, .tbl ps) := by
  obtain ⟨i, hi, rfl⟩ := List.getElem_of_mem h
  unfold cT at hi
  rw [List.length_zipWith] at hi
  refine ⟨i, Ts[i]'(by omega), pss[i]'(by omega), List.getElem?_eq_getElem _, List.getElem?_eq_getElem _, ?_⟩
  unfold cT
  rw [List.getElem_zipWith]
theorem cT_in {Ts : List (Addr × Str)} {pss : List (Array Value)} {i : Nat} {p : Addr × Str} {ps : Array Value} (h1 : Ts[i]? = some p) (h2 : pss[i]? = some ps) : ((p.1, .tbl ps) : Cell) ∈ cT Ts pss := by
  obtain ⟨a1, rfl⟩ := List.getElem?_eq_some_iff.mp h1
  obtain ⟨a2, rfl⟩ := List.getElem?_eq_some_iff.mp h2
  unfold cT
  refine List.mem_iff_getElem.mpr ⟨i, by rw [List.length_zipWith]; omega, ?_⟩
  rw [List.getElem_zipWith]
theorem cT_keys : ∀ {Ts : List (Addr × Str)} {pss : List (Array Value)}, pss.length = Ts.length → (cT Ts pss).map (·.1) = Ts.map (·.1)
  | [], [], _ => rfl
  | p :: Ts, ps :: pss, h => by
    show p.1 :: (cT Ts pss).map (·.1) = p.1 :: Ts.map (·.1)
    rw [cT_keys (by simpa using h)]
  | [], _ :: _, h => by cases h
  | _ :: _, [], h => by cases h
def tblOf : Option HO → Array Value
  | some (.tbl ps) => ps
  | _ => #[]
open Classical in
/-- data, with all code objects of a heap -/
noncomputable def withA (D H : Hp) (Ms : List (List Cell)) : Hp := fun b => match D b with
  | some u => some u
  | none => if (∃ q, H b = some (CodeO b q)) ∧ b ∉ Ms.flatten.map (·.1) then H b else none
theorem withA_same {D H : Hp} {Ms : List (List Cell)} : Same D (withA D H Ms) := fun b u e => by
  unfold withA
  rw [e]
theorem r_lamT {H D : Hp} {R : List (List Cell)} {Ts : List (Addr × Str)} {pss : List (Array Value)} {σ : L2.St} {Q : VK} {t : XK → TE} {TT : (XK → Hp → VK → Prop) → Hp → VK → Prop} (o : Ok H D (cT Ts pss :: R)) (pl : PlC R) (tk : TabsOk D Ts pss)
    (k : ∀ H1 D1 pss1, Ok H1 D1 (cT Ts pss1 :: R) → Same (noT D) D1 → TabsOk D1 Ts pss1 → TT (fun E H' Q' => t E σ H' Q') H1 Q) : tLam Ts TT t σ H Q := by
  have at_ : ∀ (i : Nat) (p : Addr × Str), Ts[i]? = some p → ∃ ps, pss[i]? = some ps ∧ H p.1 = some (.tbl ps) := fun i p hp => by
    have hi := (List.getElem?_eq_some_iff.mp hp).1
    refine ⟨_, List.getElem?_eq_getElem (by rw [tk.len]; exact hi), o.atC (.head _) (cT_in hp (List.getElem?_eq_getElem (by rw [tk.len]; exact hi)))⟩
  refine ⟨fun p hp => ?_, fun H1 eN hT => ?_⟩
  · obtain ⟨i, hi, rfl⟩ := List.getElem_of_mem hp
    obtain ⟨ps, e1, e2⟩ := at_ i _ (List.getElem?_eq_getElem hi)
    have tk1 := tk.ok i _ ps (List.getElem?_eq_getElem hi) e1
    exact ⟨ps, e2, tk1.1, fun pos cv e => by
      obtain ⟨c, z1, z2⟩ := tk1.2 pos cv e
      exact ⟨c, z1, o.sub _ _ z2⟩⟩
  · have t1 : ∀ (i : Nat) (p : Addr × Str), Ts[i]? = some p → H1 p.1 = some (.tbl (tblOf (H1 p.1))) ∧ TriplesOk (tblOf (H1 p.1)).toList ∧ ∀ (pos : Pos) (cv : Value), codeAmong pos (tblOf (H1 p.1)).toList = some cv → ∃ c, cv = .ref c ∧ H1 c = some (CodeO c p.2) := fun i p hp => by
      obtain ⟨ps1, a1, a2, a3⟩ := hT p (List.mem_of_getElem? hp)
      rw [a1]
      exact ⟨rfl, a2, a3⟩
    have pat : ∀ (i : Nat) (ps : Array Value), (Ts.map fun p => tblOf (H1 p.1))[i]? = some ps → ∃ p, Ts[i]? = some p ∧ ps = tblOf (H1 p.1) := fun i ps h => by
      rw [List.getElem?_map] at h
      obtain ⟨p, e1, e2⟩ := Option.map_eq_some_iff.mp h
      exact ⟨p, e1, e2.symm⟩
    have len1 : (Ts.map fun p => tblOf (H1 p.1)).length = Ts.length := List.length_map ..
    have keys : (cT Ts (Ts.map fun p => tblOf (H1 p.1))).map (·.1) = (cT Ts pss).map (·.1) := by rw [cT_keys len1, cT_keys tk.len]
    have cellR : ∀ M ∈ R, ∀ c ∈ M, H1 c.1 = some c.2 := fun M hM c hc => eN _ _ (o.has M (.tail _ hM) c hc) (pl M hM c hc).1
    have dat1 : ∀ b u, noT D b = some u → H1 b = some u := fun b u e => eN b u (o.sub _ _ (noT_some e).1) (noT_some e).2
    have off1 : ∀ M ∈ cT Ts (Ts.map fun p => tblOf (H1 p.1)) :: R, ∀ c ∈ M, noT D c.1 = none := fun M hM c hc => by
      rcases List.mem_cons.mp hM with rfl | hM
      · have : c.1 ∈ (cT Ts pss).map (·.1) := by rw [← keys]; exact List.mem_map_of_mem hc
        obtain ⟨c0, h0, e0⟩ := List.mem_map.mp this
        rw [← e0]
        exact noT_none (o.off _ (.head _) c0 h0)
      · exact noT_none (o.off M (.tail _ hM) c hc)
    have o1 : Ok H1 (withA (noT D) H1 (cT Ts (Ts.map fun p => tblOf (H1 p.1)) :: R)) (cT Ts (Ts.map fun p => tblOf (H1 p.1)) :: R) := by
      refine ⟨fun b u e => ?_, fun M hM c hc => ?_, fun M hM c hc => ?_, ?_⟩
      · unfold withA at e
        split at e
        · rename_i u' e'
          rw [← Option.some.inj e]
          exact dat1 b _ e'
        · split at e
          · exact e
          · cases e
      · rcases List.mem_cons.mp hM with rfl | hM
        · obtain ⟨i, p, ps, z1, z2, rfl⟩ := cT_mem hc
          obtain ⟨p', y1, rfl⟩ := pat i ps z2
          obtain rfl := Option.some.inj (z1.symm.trans y1)
          exact (t1 i p z1).1
        · exact cellR M hM c hc
      · unfold withA
        rw [off1 M hM c hc]
        exact if_neg fun z => z.2 (List.mem_map_of_mem (List.mem_flatten.mpr ⟨M, hM, hc⟩))
      · have h := o.nd
        rw [List.flatten_cons, List.map_append] at h ⊢
        rw [keys]
        exact h
    refine k H1 _ _ o1 withA_same ⟨len1, fun i p ps hp hps => ?_⟩
    obtain ⟨p', y1, rfl⟩ := pat i ps hps
    obtain rfl := Option.some.inj (hp.symm.trans y1)
    obtain ⟨b1, b2, b3⟩ := t1 i p hp
    refine ⟨b2, fun pos cv e => ?_⟩
    obtain ⟨c, d1, d2⟩ := b3 pos cv e
    refine ⟨c, d1, ?_⟩
    unfold withA
    cases hD : noT D c with
    | some u =>
      have := dat1 c u hD
      rw [d2] at this
      exact this.symm
    | none =>
      refine (if_pos ⟨⟨_, d2⟩, fun hm => ?_⟩).trans d2
      obtain ⟨x, hx, rfl⟩ := List.mem_map.mp hm
      obtain ⟨M, hM, hxM⟩ := List.mem_flatten.mp hx
      rcases List.mem_cons.mp hM with rfl | hM
      · obtain ⟨j, r, ps2, z1, z2, rfl⟩ := cT_mem hxM
        obtain ⟨r', y2, rfl⟩ := pat j ps2 z2
        obtain rfl := Option.some.inj (z1.symm.trans y2)
        exact codeO_ne _ (Option.some.inj (d2.symm.trans (t1 j r z1).1))
      · exact (pl M hM x hxM).2 _ _ (Option.some.inj ((cellR M hM x hxM).symm.trans d2))
end G

/-! a text some times -/
namespace G
open PySem PySem.Spec PyProof.Rows L2
def repS (z : Str) (k : Int) : Str := ⟨(List.replicate k.toNat z.cps).foldl (· ++ ·) #[]⟩
def rMulS : R2 := fun x y H Q => ∃ z k, x = .str z ∧ y = .int k ∧ z.length = 1 ∧ 2 ≤ k ∧ k ≤ 1000 ∧ Q (.str (repS z k)) H
theorem repS_len {z : Str} {k : Int} (h : z.length = 1) : (repS z k).length = k.toNat := by
  have e : ∀ (n : Nat) (b : Array Nat), ((List.replicate n z.cps).foldl (· ++ ·) b).size = b.size + n := by
    intro n
    induction n with
    | zero => intro b; rfl
    | succ n ih =>
      intro b
      rw [List.replicate_succ, List.foldl_cons, ih, Array.size_append, show z.cps.size = 1 from h]
      omega
  show ((List.replicate k.toNat z.cps).foldl (· ++ ·) #[]).size = _
  rw [e]
  simp
theorem op_mulS {X : Cx} : OpR X (binaryOp .Mult) rMulS := by
  intro pins s σ H x y v u Q I rx ry h
  obtain ⟨z, k, rfl, rfl, hz, h1, h2, q⟩ := h
  obtain ⟨t, rfl⟩ := rx
  obtain ⟨t', rfl⟩ := ry
  refine PySem.P.mul_str ?_ (fun _ _ => ?_) (fun _ _ => ?_) ?_
  · rw [decide_eq_false (by omega), decide_eq_false (by omega)]
    rfl
  · rw [hz]
    have : (1 : Int) ≤ (2 ^ 63 - 1) / k := (Int.le_ediv_iff_mul_le (by omega)).mpr (by omega)
    show ¬ ((1 : Nat) : Int) > _
    omega
  · unfold Builtin.Str.tooLong
    rw [hz, sizeLine_eq]
    exact decide_eq_false (by omega)
  · rw [if_neg (by omega), if_neg (by rw [hz, beq_eq_false_iff_ne.mpr (show k ≠ 1 by omega)]; decide)]
    exact ⟨by rw [show Str.length ⟨(List.replicate k.toNat z.cps).foldl (· ++ ·) #[]⟩ = k.toNat from repS_len hz, sizeLine_eq]; omega, .str (repS z k), H, I.tok _, ⟨_, rfl⟩, q⟩
end G

local macro_rules | `(tactic| walk_at "mem") => `(tactic| first | exact .head _ | exact .tail _ (.head _) | exact .tail _ (.tail _ (.head _)) | exact .tail _ (.tail _ (.tail _ (.head _))) | exact .tail _ (.tail _ (.tail _ (.tail _ (.head _)))) | exact .tail _ (.tail _ (.tail _ (.tail _ (.tail _ (.head _))))) | exact .tail _ (.tail _ (.tail _ (.tail _ (.tail _ (.tail _ (.head _)))))) | exact .tail _ (.tail _ (.tail _ (.tail _ (.tail _ (.tail _ (.tail _ (.head _))))))) | exact .tail _ (.tail _ (.tail _ (.tail _ (.tail _ (.tail _ (.tail _ (.tail _ (.head _)))))))) | exact .tail _ (.tail _ (.tail _ (.tail _ (.tail _ (.tail _ (.tail _ (.tail _ (.tail _ (.head _))))))))) | exact .tail _ (.tail _ (.tail _ (.tail _ (.tail _ (.tail _ (.tail _ (.tail _ (.tail _ (.tail _ (.head _)))))))))) | exact .tail _ (.tail _ (.tail _ (.tail _ (.tail _ (.tail _ (.tail _ (.tail _ (.tail _ (.tail _ (.tail _ (.head _))))))))))) | exact .tail _ (.tail _ (.tail _ (.tail _ (.tail _ (.tail _ (.tail _ (.tail _ (.tail _ (.tail _ (.tail _ (.tail _ (.head _)))))))))))) | exact .tail _ (.tail _ (.tail _ (.tail _ (.tail _ (.tail _ (.tail _ (.tail _ (.tail _ (.tail _ (.tail _ (.tail _ (.tail _ (.head _))))))))))))))
local macro_rules | `(tactic| walk_at "pk") => `(tactic| first | exact G.Pk.here | exact G.Pk.there G.Pk.here | exact G.Pk.there (G.Pk.there G.Pk.here) | exact G.Pk.there (G.Pk.there (G.Pk.there G.Pk.here)) | exact G.Pk.there (G.Pk.there (G.Pk.there (G.Pk.there G.Pk.here))) | exact G.Pk.there (G.Pk.there (G.Pk.there (G.Pk.there (G.Pk.there G.Pk.here)))) | exact G.Pk.there (G.Pk.there (G.Pk.there (G.Pk.there (G.Pk.there (G.Pk.there G.Pk.here))))) | exact G.Pk.there (G.Pk.there (G.Pk.there (G.Pk.there (G.Pk.there (G.Pk.there (G.Pk.there G.Pk.here)))))) | exact G.Pk.there (G.Pk.there (G.Pk.there (G.Pk.there (G.Pk.there (G.Pk.there (G.Pk.there (G.Pk.there G.Pk.here))))))) | exact G.Pk.there (G.Pk.there (G.Pk.there (G.Pk.there (G.Pk.there (G.Pk.there (G.Pk.there (G.Pk.there (G.Pk.there G.Pk.here)))))))) | exact G.Pk.there (G.Pk.there (G.Pk.there (G.Pk.there (G.Pk.there (G.Pk.there (G.Pk.there (G.Pk.there (G.Pk.there (G.Pk.there G.Pk.here))))))))) | exact G.Pk.there (G.Pk.there (G.Pk.there (G.Pk.there (G.Pk.there (G.Pk.there (G.Pk.there (G.Pk.there (G.Pk.there (G.Pk.there (G.Pk.there G.Pk.here)))))))))) | exact G.Pk.there (G.Pk.there (G.Pk.there (G.Pk.there (G.Pk.there (G.Pk.there (G.Pk.there (G.Pk.there (G.Pk.there (G.Pk.there (G.Pk.there (G.Pk.there G.Pk.here))))))))))) | exact G.Pk.there (G.Pk.there (G.Pk.there (G.Pk.there (G.Pk.there (G.Pk.there (G.Pk.there (G.Pk.there (G.Pk.there (G.Pk.there (G.Pk.there (G.Pk.there (G.Pk.there G.Pk.here)))))))))))))
local macro_rules | `(tactic| walk_at "at") => `(tactic| first | assumption | ((refine' G.Ok.at1 (by assumption) ?h3); (case h3 => walk_at "mem")) | ((refine' G.Ok.dat (by assumption) ?h3); (case h3 => assumption)))
local macro_rules | `(tactic| walk_at "sqL") => `(tactic| first | assumption | ((refine' G.Ok.sqL (by assumption) ?h4); (case h4 => assumption)) | ((refine' L2.SqL.of ?h4); (case h4 => walk_at "at")))
local macro_rules | `(tactic| walk_at "sqT") => `(tactic| first | assumption | ((refine' G.Ok.sqT (by assumption) ?h4); (case h4 => assumption)) | ((refine' L2.SqT.of ?h4); (case h4 => walk_at "at")))
local macro_rules | `(tactic| walk_at "sz") => `(tactic| first | assumption | exact G.sz_of rfl | decide | (show _ ≤ PySem.sizeLine; decide) | (rw [PySem.sizeLine_eq]; simp; try omega))
local macro_rules | `(tactic| walk_at "g1") => `(tactic| first
  | with_reducible refine G.r_seq ?_
  | with_reducible refine G.r_var rfl ?_
  | with_reducible refine G.r_c ?_
  | with_reducible refine G.r_cons ?_
  | with_reducible refine G.r_nil ?_
  | with_reducible refine G.r_op ?_
  | with_reducible refine G.r_asg ?_
  | with_reducible refine G.r_name ?_
  | with_reducible refine G.r_ret ?_
  | with_reducible refine G.r_ifS ?_
  | with_reducible refine G.r_test ?_
  | with_reducible refine G.r_bl ?_
  | with_reducible refine G.r_next ?_
  | with_reducible refine G.r_retN ?_
  | with_reducible refine G.r_drop ?_
  | with_reducible refine G.r_cb ?_
  | with_reducible refine G.r_fld ?_
  | with_reducible refine G.r_sfld ?_
  | with_reducible refine G.r_un ?_
  | with_reducible refine G.r_tup ?_
  | with_reducible refine G.r_lst ?_
  | with_reducible refine G.r_B ?_
  | with_reducible refine G.r_and ?_
  | with_reducible refine G.r_or ?_
  | with_reducible refine G.r_not ?_
  | with_reducible refine G.r_andV ?_
  | with_reducible refine G.r_orV ?_
  | with_reducible refine G.r_notV ?_
  | with_reducible refine G.r_if ?_
  | with_reducible refine G.r_iteT ?_
  | with_reducible refine G.r_iteF ?_
  | with_reducible refine G.r_chain ?_
  | with_reducible refine G.r_I0 ?_
  | with_reducible refine G.r_addI ?_
  | with_reducible refine G.r_callS ?_
  | with_reducible refine G.r_call ?_
  | with_reducible refine G.r_me ?_
  | with_reducible refine G.r_mk ?_
  | with_reducible refine G.r_lc ?_
  | with_reducible refine G.r_for ?_
  | with_reducible refine G.r_bm ?_
  | with_reducible refine G.r_bm0 ?_
  | with_reducible refine G.r_sl ?_
  | with_reducible refine G.r_noPart ?_
  | with_reducible refine G.r_part ?_
  | with_reducible refine G.r_int ?_
  | with_reducible refine G.r_get2 ?_
  | with_reducible refine G.r_popT ?_
  | with_reducible refine G.r_sub ?_
  | with_reducible refine G.r_gcons ?_
  | with_reducible refine G.r_gnil ?_
  | with_reducible refine G.r_parV ?_
  | with_reducible refine G.r_tpar ?_
  | with_reducible refine G.r_istr ?_
  | with_reducible refine G.i_str ?_
  | with_reducible refine G.i_seq ?_
  | with_reducible refine G.i_keys ?_
  | with_reducible refine G.i_enum ?_
  | with_reducible refine G.i_rng1 ?_
  | with_reducible refine G.i_rng2 ?_
  | with_reducible refine G.i_tup ?_
  | with_reducible refine G.r_yes ?_
  | with_reducible refine G.r_intB ?_
  | with_reducible refine G.r_two ?_
  | with_reducible refine G.r_vals ?_
  | with_reducible refine G.r_items ?_
  | with_reducible refine G.r_pairsC ?_
  | with_reducible refine G.r_pairsN ?_
  | with_reducible refine G.r_neg ?_)
local macro_rules | `(tactic| walk_at "drp") => `(tactic| first | exact G.Drp.here | (refine G.Drp.there ?_; walk_at "drp"))
local macro_rules | `(tactic| walk_at "sel") => `(tactic| first | (refine G.Sel.done ?_; walk_at "drp") | ((refine' G.Sel.pick ?k ?_); (case k => walk_at "pk"); walk_at "sel"))
local macro_rules | `(tactic| walk_at "fin") => `(tactic| first | assumption | (refine G.Ok.sel (by assumption) ?_; walk_at "sel"))
local macro_rules | `(tactic| walk_at "kn") => `(tactic| first | assumption | rfl)
local macro_rules | `(tactic| walk_at "g2") => `(tactic| first
  | ((with_reducible refine' G.r_iteKT ?h ?_); (case h => walk_at "kn"))
  | ((with_reducible refine' G.r_iteKF ?h ?_); (case h => walk_at "kn"))
  | ((with_reducible refine' G.r_ixT ?h ?e ?_); (case h => walk_at "sqT"); (case e => rfl))
  | ((with_reducible refine' G.r_ixL ?h ?e ?_); (case h => walk_at "sqL"); (case e => rfl))
  | ((with_reducible refine' G.r_len ?h ?_); (case h => walk_at "sqL"))
  | ((with_reducible refine' G.r_newT (by assumption) ?h (fun p H' o => ?_)); (case h => walk_at "sz"))
  | ((with_reducible refine' G.r_newL (by assumption) ?h (fun p H' o => ?_)); (case h => walk_at "sz"))
  | (with_reducible refine' G.r_newD (by assumption) (fun p H' o => ?_))
  | ((with_reducible refine' G.r_eqS ?h ?_); (case h => rfl))
  | ((with_reducible refine' G.r_neS ?h ?_); (case h => rfl))
  | ((with_reducible refine' G.r_fldE ?h ?c ?n ?l ?_); (case h => walk_at "at"); (case c => assumption); (case n => assumption); (case l => rfl))
  | ((with_reducible refine' G.r_sfldE (by assumption) ?k ?c ?n ?l ?e (fun H' o => ?_)); (case k => walk_at "pk"); (case c => assumption); (case n => assumption); (case l => rfl); (case e => rfl))
  | ((with_reducible refine' G.r_isd ?h ?_); (case h => walk_at "at"))
  | ((with_reducible refine' G.r_dgetI ?h ?_); (case h => walk_at "at"))
  | ((with_reducible refine' G.r_ixDS ?h ?e ?_); (case h => walk_at "at"); (case e => rfl))
  | ((with_reducible refine' G.r_inDI ?h ?_); (case h => walk_at "at"))
  | ((with_reducible refine' G.r_ninDI ?h ?_); (case h => walk_at "at"))
  | ((with_reducible refine' G.r_eqE ?h ?e ?_); (case h => walk_at "at"); (case e => walk_at "at"))
  | ((with_reducible refine' G.r_neE ?h ?e ?_); (case h => walk_at "at"); (case e => walk_at "at"))
  | ((with_reducible refine' G.r_setDS (by assumption) ?k ?l ?e (fun H' o => ?_)); (case k => walk_at "pk"); (case l => rfl); (case e => rfl))
  | ((with_reducible refine' G.r_app (by assumption) ?k ?l (fun H' o => ?_)); (case k => walk_at "pk"); (case l => walk_at "sz"))
  | ((with_reducible refine' G.r_tyL ?h ?_); (case h => walk_at "sqL"))
  | ((with_reducible refine' G.r_tyD ?h ?_); (case h => walk_at "at"))
  | (with_reducible refine' G.r_disp (by assumption) (fun p H' o => ?_))
  | ((with_reducible refine' G.r_meE ?h ?l ?_); (case h => walk_at "at"); (case l => rfl))
  | (with_reducible refine' G.r_mkE (by assumption) (fun x dx H' o => ?_)))
local macro_rules | `(tactic| walk_at "go") => `(tactic| (repeat' (first | walk_at "g1" | walk_at "g2" | walk_at "g3")))
local macro_rules | `(tactic| walk_at "lit") => `(tactic| repeat' (first | exact G.Lits.nil | with_reducible refine G.Lits.cons ?_ ?_ | exact G.Lit.int _ | exact G.Lit.str _ | exact G.Lit.non | exact G.Lit.bl _ | exact G.Lit.neg _ | exact G.Lit.dct | refine G.Lit.tup ?_ rfl | refine G.Lit.lst ?_ rfl | refine G.Lits.cons ?_ ?_))
local macro_rules | `(tactic| walk_at "litv") => `(tactic| repeat' (first | exact G.LitVs.nil | with_reducible refine G.LitVs.cons ?_ ?_ | exact G.LitV.int _ | exact G.LitV.str _ | exact G.LitV.non | exact G.LitV.bl _ | exact G.LitV.neg _ | exact G.LitV.dct | exact G.LitV.var rfl (by assumption) | refine G.LitV.tup ?_ rfl | refine G.LitV.lst ?_ rfl | refine G.LitVs.cons ?_ ?_))
local macro_rules | `(tactic| walk_at "lite") => `(tactic| repeat' (first | exact G.LitEs.nil | with_reducible refine G.LitEs.cons ?_ ?_ | exact G.LitE.int _ | exact G.LitE.str _ | exact G.LitE.non | exact G.LitE.bl _ | exact G.LitE.dct | refine G.LitE.tup ?_ rfl | refine G.LitE.lst ?_ rfl | exact G.LitE.var rfl (by assumption) | exact G.LitE.var rfl (.int _) | (refine G.LitE.ev (fun H Q q => ?_); walk_at "go"; exact q)))
/-! the text by places -/
namespace PP
open PySem PySem.Spec PyProof.Rows L2
def top (i : Nat) : Stmt := PySem.Challenge.pw_giftlist_k09_refused_deeds.main.body.getD i (.Pass ⟨0, 0, 0, 0⟩)
abbrev s_is_whole : Stmt := top 21
abbrev s_is_count : Stmt := top 22
abbrev s_is_word : Stmt := top 23
abbrev s_Wish_init : Stmt := inClass (top 25) 0
abbrev s_Wish_free : Stmt := inClass (top 25) 1
abbrev s_Wish_lacking : Stmt := inClass (top 25) 2
abbrev s_Wish_done : Stmt := inClass (top 25) 3
abbrev s_Gifts_init : Stmt := inClass (top 26) 0
abbrev s_Gifts_look_at : Stmt := inClass (top 26) 1
abbrev s_Gifts_own_wish : Stmt := inClass (top 26) 2
abbrev s_Gifts_other_wish : Stmt := inClass (top 26) 3
abbrev s_Gifts_wish : Stmt := inClass (top 26) 4
abbrev s_Gifts_alter : Stmt := inClass (top 26) 5
abbrev s_Gifts_drop : Stmt := inClass (top 26) 6
abbrev s_Gifts_take : Stmt := inClass (top 26) 7
abbrev s_Gifts_pledge : Stmt := inClass (top 26) 8
abbrev s_Gifts_back : Stmt := inClass (top 26) 9
abbrev s_Gifts_seen : Stmt := inClass (top 26) 10
abbrev s_law_cell_at : Stmt := top 28
abbrev s_law_draw : Stmt := top 29
abbrev s_law_value : Stmt := top 30
abbrev s_law_kinds : Stmt := top 31
abbrev s_law_due_of : Stmt := top 32
abbrev s_law_strange : Stmt := top 33
abbrev s_law_no_words : Stmt := top 34
abbrev s_law_persons_right : Stmt := top 35
abbrev s_law_wishes_right : Stmt := top 36
abbrev s_law_numbers_right : Stmt := top 37
abbrev s_law : Stmt := top 38
theorem sc_is_whole : FnScope ["thing"] ["thing"] (defScope s_is_whole) := ⟨rfl, rfl, rfl, by decide +kernel, rfl, by decide +kernel, by decide +kernel⟩
theorem sc_is_count : FnScope ["thing", "least", "most"] ["thing", "least", "most"] (defScope s_is_count) := ⟨rfl, rfl, rfl, by decide +kernel, rfl, by decide +kernel, by decide +kernel⟩
theorem sc_is_word : FnScope ["thing", "sign"] ["thing"] (defScope s_is_word) := ⟨rfl, rfl, rfl, by decide +kernel, rfl, by decide +kernel, by decide +kernel⟩
theorem sc_Wish_init : FnScope ["self", "owner", "word", "price", "many"] ["self", "owner", "word", "price", "many"] (defScope s_Wish_init) := ⟨rfl, rfl, rfl, by decide +kernel, rfl, by decide +kernel, by decide +kernel⟩
theorem sc_Wish_free : FnScope ["self", "held", "person"] ["self"] (defScope s_Wish_free) := ⟨rfl, rfl, rfl, by decide +kernel, rfl, by decide +kernel, by decide +kernel⟩
theorem sc_Wish_lacking : FnScope ["self", "person"] ["self"] (defScope s_Wish_lacking) := ⟨rfl, rfl, rfl, by decide +kernel, rfl, by decide +kernel, by decide +kernel⟩
theorem sc_Wish_done : FnScope ["self", "takings", "pledges", "person"] ["self"] (defScope s_Wish_done) := ⟨rfl, rfl, rfl, by decide +kernel, rfl, by decide +kernel, by decide +kernel⟩
theorem sc_Gifts_init : FnScope ["self", "people"] ["self", "people"] (defScope s_Gifts_init) := ⟨rfl, rfl, rfl, by decide +kernel, rfl, by decide +kernel, by decide +kernel⟩
theorem sc_Gifts_look_at : FnScope ["self", "person"] ["self", "person"] (defScope s_Gifts_look_at) := ⟨rfl, rfl, rfl, by decide +kernel, rfl, by decide +kernel, by decide +kernel⟩
theorem sc_Gifts_own_wish : FnScope ["self", "owner", "wish", "found"] ["self", "owner", "wish"] (defScope s_Gifts_own_wish) := ⟨rfl, rfl, rfl, by decide +kernel, rfl, by decide +kernel, by decide +kernel⟩
theorem sc_Gifts_other_wish : FnScope ["self", "person", "wish", "found"] ["self", "person", "wish"] (defScope s_Gifts_other_wish) := ⟨rfl, rfl, rfl, by decide +kernel, rfl, by decide +kernel, by decide +kernel⟩
theorem sc_Gifts_wish : FnScope ["self", "owner", "word", "price", "many"] ["self", "owner", "word", "price", "many"] (defScope s_Gifts_wish) := ⟨rfl, rfl, rfl, by decide +kernel, rfl, by decide +kernel, by decide +kernel⟩
theorem sc_Gifts_alter : FnScope ["self", "owner", "wish", "many", "found", "was"] ["self", "owner", "wish", "many"] (defScope s_Gifts_alter) := ⟨rfl, rfl, rfl, by decide +kernel, rfl, by decide +kernel, by decide +kernel⟩
theorem sc_Gifts_drop : FnScope ["self", "owner", "wish", "found"] ["self", "owner", "wish"] (defScope s_Gifts_drop) := ⟨rfl, rfl, rfl, by decide +kernel, rfl, by decide +kernel, by decide +kernel⟩
theorem sc_Gifts_take : FnScope ["self", "person", "wish", "count", "found"] ["self", "person", "wish", "count"] (defScope s_Gifts_take) := ⟨rfl, rfl, rfl, by decide +kernel, rfl, by decide +kernel, by decide +kernel⟩
theorem sc_Gifts_pledge : FnScope ["self", "person", "wish", "amount", "found"] ["self", "person", "wish", "amount"] (defScope s_Gifts_pledge) := ⟨rfl, rfl, rfl, by decide +kernel, rfl, by decide +kernel, by decide +kernel⟩
theorem sc_Gifts_back : FnScope ["self", "person", "wish", "found"] ["self", "person", "wish"] (defScope s_Gifts_back) := ⟨rfl, rfl, rfl, by decide +kernel, rfl, by decide +kernel, by decide +kernel⟩
theorem sc_Gifts_seen : FnScope ["self", "person", "found", "number", "wish", "held", "done"] ["self", "person"] (defScope s_Gifts_seen) := ⟨rfl, rfl, rfl, by decide +kernel, rfl, by decide +kernel, by decide +kernel⟩
theorem sc_law_cell_at : FnScope ["_law_script", "_law_k"] ["_law_script", "_law_k"] (defScope s_law_cell_at) := ⟨rfl, rfl, rfl, by decide +kernel, rfl, by decide +kernel, by decide +kernel⟩
theorem sc_law_draw : FnScope ["_law_cell", "_law_k", "_law_many", "_law_primes"] ["_law_cell", "_law_k", "_law_many"] (defScope s_law_draw) := ⟨rfl, rfl, rfl, by decide +kernel, rfl, by decide +kernel, by decide +kernel⟩
theorem sc_law_value : FnScope ["_law_cell", "_law_turn", "_law_blend"] ["_law_cell", "_law_turn"] (defScope s_law_value) := ⟨rfl, rfl, rfl, by decide +kernel, rfl, by decide +kernel, by decide +kernel⟩
theorem sc_law_kinds : FnScope ["_law_ask", "_law_found", "error"] ["_law_ask"] (defScope s_law_kinds) := ⟨rfl, rfl, rfl, by decide +kernel, rfl, by decide +kernel, by decide +kernel⟩
theorem sc_law_due_of : FnScope ["_law_at", "_law_one"] ["_law_at"] (defScope s_law_due_of) := ⟨rfl, rfl, rfl, by decide +kernel, rfl, by decide +kernel, by decide +kernel⟩
theorem sc_law_strange : FnScope ["_law_far"] ["_law_far"] (defScope s_law_strange) := ⟨rfl, rfl, rfl, by decide +kernel, rfl, by decide +kernel, by decide +kernel⟩
theorem sc_law_no_words : FnScope ["_law_far", "_law_bad"] ["_law_far"] (defScope s_law_no_words) := ⟨rfl, rfl, rfl, by decide +kernel, rfl, by decide +kernel, by decide +kernel⟩
theorem sc_law_persons_right : FnScope ["_law_gifts", "_law_far", "_law_bad"] ["_law_gifts", "_law_far"] (defScope s_law_persons_right) := ⟨rfl, rfl, rfl, by decide +kernel, rfl, by decide +kernel, by decide +kernel⟩
theorem sc_law_wishes_right : FnScope ["_law_gifts", "_law_far", "_law_bad", "_law_wish"] ["_law_gifts", "_law_far"] (defScope s_law_wishes_right) := ⟨rfl, rfl, rfl, by decide +kernel, rfl, by decide +kernel, by decide +kernel⟩
theorem sc_law_numbers_right : FnScope ["_law_gifts", "_law_far", "_law_bad", "_law_count", "_law_much"] ["_law_gifts", "_law_far"] (defScope s_law_numbers_right) := ⟨rfl, rfl, rfl, by decide +kernel, rfl, by decide +kernel, by decide +kernel⟩
theorem sc_law : FnScope ["_law_script", "_law_by", "_law_far", "_law_bad", "_law_gifts", "_law_owner", "_law_word", "_law_price", "_law_many", "_law_heard", "_law_kept", "_law_full", "_law_turn", "_law_gone", "_law_person"] ["_law_script"] (defScope s_law) := ⟨rfl, rfl, rfl, by decide +kernel, rfl, by decide +kernel, by decide +kernel⟩
structure A where
  f_is_whole : Addr
  d_is_whole : FuncData
  f_is_count : Addr
  d_is_count : FuncData
  f_is_word : Addr
  d_is_word : FuncData
  f_Wish_init : Addr
  d_Wish_init : FuncData
  f_Wish_free : Addr
  d_Wish_free : FuncData
  f_Wish_lacking : Addr
  d_Wish_lacking : FuncData
  f_Wish_done : Addr
  d_Wish_done : FuncData
  f_Gifts_init : Addr
  d_Gifts_init : FuncData
  f_Gifts_look_at : Addr
  d_Gifts_look_at : FuncData
  f_Gifts_own_wish : Addr
  d_Gifts_own_wish : FuncData
  f_Gifts_other_wish : Addr
  d_Gifts_other_wish : FuncData
  f_Gifts_wish : Addr
  d_Gifts_wish : FuncData
  f_Gifts_alter : Addr
  d_Gifts_alter : FuncData
  f_Gifts_drop : Addr
  d_Gifts_drop : FuncData
  f_Gifts_take : Addr
  d_Gifts_take : FuncData
  f_Gifts_pledge : Addr
  d_Gifts_pledge : FuncData
  f_Gifts_back : Addr
  d_Gifts_back : FuncData
  f_Gifts_seen : Addr
  d_Gifts_seen : FuncData
  f_law_cell_at : Addr
  d_law_cell_at : FuncData
  f_law_draw : Addr
  d_law_draw : FuncData
  f_law_value : Addr
  d_law_value : FuncData
  f_law_kinds : Addr
  d_law_kinds : FuncData
  f_law_due_of : Addr
  d_law_due_of : FuncData
  f_law_strange : Addr
  d_law_strange : FuncData
  f_law_no_words : Addr
  d_law_no_words : FuncData
  f_law_persons_right : Addr
  d_law_persons_right : FuncData
  cc_law_persons_right : Addr
  cP_law_persons_right : Addr
  f_law_wishes_right : Addr
  d_law_wishes_right : FuncData
  cc_law_wishes_right : Addr
  cP_law_wishes_right : Addr
  f_law_numbers_right : Addr
  d_law_numbers_right : FuncData
  cc_law_numbers_right : Addr
  cP_law_numbers_right : Addr
  f_law : Addr
  d_law : FuncData
  cc_law : Addr
  cP_law : Addr
  c_GiftError : Addr
  c_BadPeople : Addr
  c_BadPerson : Addr
  c_BadWord : Addr
  c_BadPrice : Addr
  c_BadMany : Addr
  c_BadWish : Addr
  c_BadAmount : Addr
  c_BadDeeds : Addr
  c_BadPurses : Addr
  c_NoneFree : Addr
  c_TooMuch : Addr
  c_TooMany : Addr
  c_Wish : Addr
  c_Gifts : Addr
  t_LETTERS : Tok
  t_MOST_PEOPLE : Tok
  t_MOST_WORD : Tok
  t_MOST_PRICE : Tok
  t_MOST_PIECES : Tok
  t_MOST_WISHES : Tok
structure Txt (K : PySem.W.Frag) (mg : Str → Option Value) (a : A) : Prop where
  is_whole : G.FD K mg "is_whole" "is_whole" s_is_whole ["thing"] a.f_is_whole a.d_is_whole
  is_count : G.FD K mg "is_count" "is_count" s_is_count ["thing", "least", "most"] a.f_is_count a.d_is_count
  is_word : G.FD K mg "is_word" "is_word" s_is_word ["thing"] a.f_is_word a.d_is_word
  Wish_init : G.MD K "__init__" "Wish.__init__" s_Wish_init ["self", "owner", "word", "price", "many"] a.c_Wish a.f_Wish_init a.d_Wish_init
  Wish_free : G.MD K "free" "Wish.free" s_Wish_free ["self"] a.c_Wish a.f_Wish_free a.d_Wish_free
  Wish_lacking : G.MD K "lacking" "Wish.lacking" s_Wish_lacking ["self"] a.c_Wish a.f_Wish_lacking a.d_Wish_lacking
  Wish_done : G.MD K "done" "Wish.done" s_Wish_done ["self"] a.c_Wish a.f_Wish_done a.d_Wish_done
  Gifts_init : G.MD K "__init__" "Gifts.__init__" s_Gifts_init ["self", "people"] a.c_Gifts a.f_Gifts_init a.d_Gifts_init
  Gifts_look_at : G.MD K "look_at" "Gifts.look_at" s_Gifts_look_at ["self", "person"] a.c_Gifts a.f_Gifts_look_at a.d_Gifts_look_at
  Gifts_own_wish : G.MD K "own_wish" "Gifts.own_wish" s_Gifts_own_wish ["self", "owner", "wish"] a.c_Gifts a.f_Gifts_own_wish a.d_Gifts_own_wish
  Gifts_other_wish : G.MD K "other_wish" "Gifts.other_wish" s_Gifts_other_wish ["self", "person", "wish"] a.c_Gifts a.f_Gifts_other_wish a.d_Gifts_other_wish
  Gifts_wish : G.MD K "wish" "Gifts.wish" s_Gifts_wish ["self", "owner", "word", "price", "many"] a.c_Gifts a.f_Gifts_wish a.d_Gifts_wish
  Gifts_alter : G.MD K "alter" "Gifts.alter" s_Gifts_alter ["self", "owner", "wish", "many"] a.c_Gifts a.f_Gifts_alter a.d_Gifts_alter
  Gifts_drop : G.MD K "drop" "Gifts.drop" s_Gifts_drop ["self", "owner", "wish"] a.c_Gifts a.f_Gifts_drop a.d_Gifts_drop
  Gifts_take : G.MD K "take" "Gifts.take" s_Gifts_take ["self", "person", "wish", "count"] a.c_Gifts a.f_Gifts_take a.d_Gifts_take
  Gifts_pledge : G.MD K "pledge" "Gifts.pledge" s_Gifts_pledge ["self", "person", "wish", "amount"] a.c_Gifts a.f_Gifts_pledge a.d_Gifts_pledge
  Gifts_back : G.MD K "back" "Gifts.back" s_Gifts_back ["self", "person", "wish"] a.c_Gifts a.f_Gifts_back a.d_Gifts_back
  Gifts_seen : G.MD K "seen" "Gifts.seen" s_Gifts_seen ["self", "person"] a.c_Gifts a.f_Gifts_seen a.d_Gifts_seen
  law_cell_at : G.FD K mg "_law_cell_at" "_law_cell_at" s_law_cell_at ["_law_script", "_law_k"] a.f_law_cell_at a.d_law_cell_at
  law_draw : G.FD K mg "_law_draw" "_law_draw" s_law_draw ["_law_cell", "_law_k", "_law_many"] a.f_law_draw a.d_law_draw
  law_value : G.FD K mg "_law_value" "_law_value" s_law_value ["_law_cell", "_law_turn"] a.f_law_value a.d_law_value
  law_kinds : G.FD K mg "_law_kinds" "_law_kinds" s_law_kinds ["_law_ask"] a.f_law_kinds a.d_law_kinds
  law_due_of : G.FD K mg "_law_due_of" "_law_due_of" s_law_due_of ["_law_at"] a.f_law_due_of a.d_law_due_of
  law_strange : G.FD K mg "_law_strange" "_law_strange" s_law_strange ["_law_far"] a.f_law_strange a.d_law_strange
  law_no_words : G.FD K mg "_law_no_words" "_law_no_words" s_law_no_words ["_law_far"] a.f_law_no_words a.d_law_no_words
  law_persons_right : G.FD K mg "_law_persons_right" "_law_persons_right" s_law_persons_right ["_law_gifts", "_law_far"] a.f_law_persons_right a.d_law_persons_right
  lam_law_persons_right : _root_.G.CD K "_law_persons_right" "_law_persons_right" s_law_persons_right a.f_law_persons_right a.d_law_persons_right a.cc_law_persons_right
  law_wishes_right : G.FD K mg "_law_wishes_right" "_law_wishes_right" s_law_wishes_right ["_law_gifts", "_law_far"] a.f_law_wishes_right a.d_law_wishes_right
  lam_law_wishes_right : _root_.G.CD K "_law_wishes_right" "_law_wishes_right" s_law_wishes_right a.f_law_wishes_right a.d_law_wishes_right a.cc_law_wishes_right
  law_numbers_right : G.FD K mg "_law_numbers_right" "_law_numbers_right" s_law_numbers_right ["_law_gifts", "_law_far"] a.f_law_numbers_right a.d_law_numbers_right
  lam_law_numbers_right : _root_.G.CD K "_law_numbers_right" "_law_numbers_right" s_law_numbers_right a.f_law_numbers_right a.d_law_numbers_right a.cc_law_numbers_right
  law : G.FD K mg "law" "law" s_law ["_law_script"] a.f_law a.d_law
  lam_law : _root_.G.CD K "law" "law" s_law a.f_law a.d_law a.cc_law
  x_GiftError : G.XD K mg "GiftError" a.c_GiftError
  m_GiftError : PySem.W.exmOne K (.ref a.c_GiftError) (.ref a.c_GiftError) = some true
  x_BadPeople : G.XD K mg "BadPeople" a.c_BadPeople
  m_BadPeople : PySem.W.exmOne K (.ref a.c_BadPeople) (.ref a.c_GiftError) = some true
  e_BadPeople : ExcC K a.c_BadPeople
  k_BadPeople_BadPeople : PySem.W.kitOne K (.ref a.c_BadPeople) (.ref a.c_BadPeople) = some true
  k_BadPeople_BadPerson : PySem.W.kitOne K (.ref a.c_BadPeople) (.ref a.c_BadPerson) = some false
  k_BadPeople_BadWord : PySem.W.kitOne K (.ref a.c_BadPeople) (.ref a.c_BadWord) = some false
  k_BadPeople_BadPrice : PySem.W.kitOne K (.ref a.c_BadPeople) (.ref a.c_BadPrice) = some false
  k_BadPeople_BadMany : PySem.W.kitOne K (.ref a.c_BadPeople) (.ref a.c_BadMany) = some false
  k_BadPeople_BadWish : PySem.W.kitOne K (.ref a.c_BadPeople) (.ref a.c_BadWish) = some false
  k_BadPeople_BadAmount : PySem.W.kitOne K (.ref a.c_BadPeople) (.ref a.c_BadAmount) = some false
  k_BadPeople_BadDeeds : PySem.W.kitOne K (.ref a.c_BadPeople) (.ref a.c_BadDeeds) = some false
  k_BadPeople_BadPurses : PySem.W.kitOne K (.ref a.c_BadPeople) (.ref a.c_BadPurses) = some false
  k_BadPeople_NoneFree : PySem.W.kitOne K (.ref a.c_BadPeople) (.ref a.c_NoneFree) = some false
  k_BadPeople_TooMuch : PySem.W.kitOne K (.ref a.c_BadPeople) (.ref a.c_TooMuch) = some false
  k_BadPeople_TooMany : PySem.W.kitOne K (.ref a.c_BadPeople) (.ref a.c_TooMany) = some false
  v_BadPeople : PySem.W.kitOne K (.ref a.c_BadPeople) (.type "ValueError") = some true
  x_BadPerson : G.XD K mg "BadPerson" a.c_BadPerson
  m_BadPerson : PySem.W.exmOne K (.ref a.c_BadPerson) (.ref a.c_GiftError) = some true
  e_BadPerson : ExcC K a.c_BadPerson
  k_BadPerson_BadPeople : PySem.W.kitOne K (.ref a.c_BadPerson) (.ref a.c_BadPeople) = some false
  k_BadPerson_BadPerson : PySem.W.kitOne K (.ref a.c_BadPerson) (.ref a.c_BadPerson) = some true
  k_BadPerson_BadWord : PySem.W.kitOne K (.ref a.c_BadPerson) (.ref a.c_BadWord) = some false
  k_BadPerson_BadPrice : PySem.W.kitOne K (.ref a.c_BadPerson) (.ref a.c_BadPrice) = some false
  k_BadPerson_BadMany : PySem.W.kitOne K (.ref a.c_BadPerson) (.ref a.c_BadMany) = some false
  k_BadPerson_BadWish : PySem.W.kitOne K (.ref a.c_BadPerson) (.ref a.c_BadWish) = some false
  k_BadPerson_BadAmount : PySem.W.kitOne K (.ref a.c_BadPerson) (.ref a.c_BadAmount) = some false
  k_BadPerson_BadDeeds : PySem.W.kitOne K (.ref a.c_BadPerson) (.ref a.c_BadDeeds) = some false
  k_BadPerson_BadPurses : PySem.W.kitOne K (.ref a.c_BadPerson) (.ref a.c_BadPurses) = some false
  k_BadPerson_NoneFree : PySem.W.kitOne K (.ref a.c_BadPerson) (.ref a.c_NoneFree) = some false
  k_BadPerson_TooMuch : PySem.W.kitOne K (.ref a.c_BadPerson) (.ref a.c_TooMuch) = some false
  k_BadPerson_TooMany : PySem.W.kitOne K (.ref a.c_BadPerson) (.ref a.c_TooMany) = some false
  v_BadPerson : PySem.W.kitOne K (.ref a.c_BadPerson) (.type "ValueError") = some true
  x_BadWord : G.XD K mg "BadWord" a.c_BadWord
  m_BadWord : PySem.W.exmOne K (.ref a.c_BadWord) (.ref a.c_GiftError) = some true
  e_BadWord : ExcC K a.c_BadWord
  k_BadWord_BadPeople : PySem.W.kitOne K (.ref a.c_BadWord) (.ref a.c_BadPeople) = some false
  k_BadWord_BadPerson : PySem.W.kitOne K (.ref a.c_BadWord) (.ref a.c_BadPerson) = some false
  k_BadWord_BadWord : PySem.W.kitOne K (.ref a.c_BadWord) (.ref a.c_BadWord) = some true
  k_BadWord_BadPrice : PySem.W.kitOne K (.ref a.c_BadWord) (.ref a.c_BadPrice) = some false
  k_BadWord_BadMany : PySem.W.kitOne K (.ref a.c_BadWord) (.ref a.c_BadMany) = some false
  k_BadWord_BadWish : PySem.W.kitOne K (.ref a.c_BadWord) (.ref a.c_BadWish) = some false
  k_BadWord_BadAmount : PySem.W.kitOne K (.ref a.c_BadWord) (.ref a.c_BadAmount) = some false
  k_BadWord_BadDeeds : PySem.W.kitOne K (.ref a.c_BadWord) (.ref a.c_BadDeeds) = some false
  k_BadWord_BadPurses : PySem.W.kitOne K (.ref a.c_BadWord) (.ref a.c_BadPurses) = some false
  k_BadWord_NoneFree : PySem.W.kitOne K (.ref a.c_BadWord) (.ref a.c_NoneFree) = some false
  k_BadWord_TooMuch : PySem.W.kitOne K (.ref a.c_BadWord) (.ref a.c_TooMuch) = some false
  k_BadWord_TooMany : PySem.W.kitOne K (.ref a.c_BadWord) (.ref a.c_TooMany) = some false
  v_BadWord : PySem.W.kitOne K (.ref a.c_BadWord) (.type "ValueError") = some true
  x_BadPrice : G.XD K mg "BadPrice" a.c_BadPrice
  m_BadPrice : PySem.W.exmOne K (.ref a.c_BadPrice) (.ref a.c_GiftError) = some true
  e_BadPrice : ExcC K a.c_BadPrice
  k_BadPrice_BadPeople : PySem.W.kitOne K (.ref a.c_BadPrice) (.ref a.c_BadPeople) = some false
  k_BadPrice_BadPerson : PySem.W.kitOne K (.ref a.c_BadPrice) (.ref a.c_BadPerson) = some false
  k_BadPrice_BadWord : PySem.W.kitOne K (.ref a.c_BadPrice) (.ref a.c_BadWord) = some false
  k_BadPrice_BadPrice : PySem.W.kitOne K (.ref a.c_BadPrice) (.ref a.c_BadPrice) = some true
  k_BadPrice_BadMany : PySem.W.kitOne K (.ref a.c_BadPrice) (.ref a.c_BadMany) = some false
  k_BadPrice_BadWish : PySem.W.kitOne K (.ref a.c_BadPrice) (.ref a.c_BadWish) = some false
  k_BadPrice_BadAmount : PySem.W.kitOne K (.ref a.c_BadPrice) (.ref a.c_BadAmount) = some false
  k_BadPrice_BadDeeds : PySem.W.kitOne K (.ref a.c_BadPrice) (.ref a.c_BadDeeds) = some false
  k_BadPrice_BadPurses : PySem.W.kitOne K (.ref a.c_BadPrice) (.ref a.c_BadPurses) = some false
  k_BadPrice_NoneFree : PySem.W.kitOne K (.ref a.c_BadPrice) (.ref a.c_NoneFree) = some false
  k_BadPrice_TooMuch : PySem.W.kitOne K (.ref a.c_BadPrice) (.ref a.c_TooMuch) = some false
  k_BadPrice_TooMany : PySem.W.kitOne K (.ref a.c_BadPrice) (.ref a.c_TooMany) = some false
  v_BadPrice : PySem.W.kitOne K (.ref a.c_BadPrice) (.type "ValueError") = some true
  x_BadMany : G.XD K mg "BadMany" a.c_BadMany
  m_BadMany : PySem.W.exmOne K (.ref a.c_BadMany) (.ref a.c_GiftError) = some true
  e_BadMany : ExcC K a.c_BadMany
  k_BadMany_BadPeople : PySem.W.kitOne K (.ref a.c_BadMany) (.ref a.c_BadPeople) = some false
  k_BadMany_BadPerson : PySem.W.kitOne K (.ref a.c_BadMany) (.ref a.c_BadPerson) = some false
  k_BadMany_BadWord : PySem.W.kitOne K (.ref a.c_BadMany) (.ref a.c_BadWord) = some false
  k_BadMany_BadPrice : PySem.W.kitOne K (.ref a.c_BadMany) (.ref a.c_BadPrice) = some false
  k_BadMany_BadMany : PySem.W.kitOne K (.ref a.c_BadMany) (.ref a.c_BadMany) = some true
  k_BadMany_BadWish : PySem.W.kitOne K (.ref a.c_BadMany) (.ref a.c_BadWish) = some false
  k_BadMany_BadAmount : PySem.W.kitOne K (.ref a.c_BadMany) (.ref a.c_BadAmount) = some false
  k_BadMany_BadDeeds : PySem.W.kitOne K (.ref a.c_BadMany) (.ref a.c_BadDeeds) = some false
  k_BadMany_BadPurses : PySem.W.kitOne K (.ref a.c_BadMany) (.ref a.c_BadPurses) = some false
  k_BadMany_NoneFree : PySem.W.kitOne K (.ref a.c_BadMany) (.ref a.c_NoneFree) = some false
  k_BadMany_TooMuch : PySem.W.kitOne K (.ref a.c_BadMany) (.ref a.c_TooMuch) = some false
  k_BadMany_TooMany : PySem.W.kitOne K (.ref a.c_BadMany) (.ref a.c_TooMany) = some false
  v_BadMany : PySem.W.kitOne K (.ref a.c_BadMany) (.type "ValueError") = some true
  x_BadWish : G.XD K mg "BadWish" a.c_BadWish
  m_BadWish : PySem.W.exmOne K (.ref a.c_BadWish) (.ref a.c_GiftError) = some true
  e_BadWish : ExcC K a.c_BadWish
  k_BadWish_BadPeople : PySem.W.kitOne K (.ref a.c_BadWish) (.ref a.c_BadPeople) = some false
  k_BadWish_BadPerson : PySem.W.kitOne K (.ref a.c_BadWish) (.ref a.c_BadPerson) = some false
  k_BadWish_BadWord : PySem.W.kitOne K (.ref a.c_BadWish) (.ref a.c_BadWord) = some false
  k_BadWish_BadPrice : PySem.W.kitOne K (.ref a.c_BadWish) (.ref a.c_BadPrice) = some false
  k_BadWish_BadMany : PySem.W.kitOne K (.ref a.c_BadWish) (.ref a.c_BadMany) = some false
  k_BadWish_BadWish : PySem.W.kitOne K (.ref a.c_BadWish) (.ref a.c_BadWish) = some true
  k_BadWish_BadAmount : PySem.W.kitOne K (.ref a.c_BadWish) (.ref a.c_BadAmount) = some false
  k_BadWish_BadDeeds : PySem.W.kitOne K (.ref a.c_BadWish) (.ref a.c_BadDeeds) = some false
  k_BadWish_BadPurses : PySem.W.kitOne K (.ref a.c_BadWish) (.ref a.c_BadPurses) = some false
  k_BadWish_NoneFree : PySem.W.kitOne K (.ref a.c_BadWish) (.ref a.c_NoneFree) = some false
  k_BadWish_TooMuch : PySem.W.kitOne K (.ref a.c_BadWish) (.ref a.c_TooMuch) = some false
  k_BadWish_TooMany : PySem.W.kitOne K (.ref a.c_BadWish) (.ref a.c_TooMany) = some false
  v_BadWish : PySem.W.kitOne K (.ref a.c_BadWish) (.type "ValueError") = some true
  x_BadAmount : G.XD K mg "BadAmount" a.c_BadAmount
  m_BadAmount : PySem.W.exmOne K (.ref a.c_BadAmount) (.ref a.c_GiftError) = some true
  e_BadAmount : ExcC K a.c_BadAmount
  k_BadAmount_BadPeople : PySem.W.kitOne K (.ref a.c_BadAmount) (.ref a.c_BadPeople) = some false
  k_BadAmount_BadPerson : PySem.W.kitOne K (.ref a.c_BadAmount) (.ref a.c_BadPerson) = some false
  k_BadAmount_BadWord : PySem.W.kitOne K (.ref a.c_BadAmount) (.ref a.c_BadWord) = some false
  k_BadAmount_BadPrice : PySem.W.kitOne K (.ref a.c_BadAmount) (.ref a.c_BadPrice) = some false
  k_BadAmount_BadMany : PySem.W.kitOne K (.ref a.c_BadAmount) (.ref a.c_BadMany) = some false
  k_BadAmount_BadWish : PySem.W.kitOne K (.ref a.c_BadAmount) (.ref a.c_BadWish) = some false
  k_BadAmount_BadAmount : PySem.W.kitOne K (.ref a.c_BadAmount) (.ref a.c_BadAmount) = some true
  k_BadAmount_BadDeeds : PySem.W.kitOne K (.ref a.c_BadAmount) (.ref a.c_BadDeeds) = some false
  k_BadAmount_BadPurses : PySem.W.kitOne K (.ref a.c_BadAmount) (.ref a.c_BadPurses) = some false
  k_BadAmount_NoneFree : PySem.W.kitOne K (.ref a.c_BadAmount) (.ref a.c_NoneFree) = some false
  k_BadAmount_TooMuch : PySem.W.kitOne K (.ref a.c_BadAmount) (.ref a.c_TooMuch) = some false
  k_BadAmount_TooMany : PySem.W.kitOne K (.ref a.c_BadAmount) (.ref a.c_TooMany) = some false
  v_BadAmount : PySem.W.kitOne K (.ref a.c_BadAmount) (.type "ValueError") = some true
  x_BadDeeds : G.XD K mg "BadDeeds" a.c_BadDeeds
  m_BadDeeds : PySem.W.exmOne K (.ref a.c_BadDeeds) (.ref a.c_GiftError) = some true
  x_BadPurses : G.XD K mg "BadPurses" a.c_BadPurses
  m_BadPurses : PySem.W.exmOne K (.ref a.c_BadPurses) (.ref a.c_GiftError) = some true
  x_NoneFree : G.XD K mg "NoneFree" a.c_NoneFree
  m_NoneFree : PySem.W.exmOne K (.ref a.c_NoneFree) (.ref a.c_GiftError) = some true
  e_NoneFree : ExcC K a.c_NoneFree
  k_NoneFree_BadPeople : PySem.W.kitOne K (.ref a.c_NoneFree) (.ref a.c_BadPeople) = some false
  k_NoneFree_BadPerson : PySem.W.kitOne K (.ref a.c_NoneFree) (.ref a.c_BadPerson) = some false
  k_NoneFree_BadWord : PySem.W.kitOne K (.ref a.c_NoneFree) (.ref a.c_BadWord) = some false
  k_NoneFree_BadPrice : PySem.W.kitOne K (.ref a.c_NoneFree) (.ref a.c_BadPrice) = some false
  k_NoneFree_BadMany : PySem.W.kitOne K (.ref a.c_NoneFree) (.ref a.c_BadMany) = some false
  k_NoneFree_BadWish : PySem.W.kitOne K (.ref a.c_NoneFree) (.ref a.c_BadWish) = some false
  k_NoneFree_BadAmount : PySem.W.kitOne K (.ref a.c_NoneFree) (.ref a.c_BadAmount) = some false
  k_NoneFree_BadDeeds : PySem.W.kitOne K (.ref a.c_NoneFree) (.ref a.c_BadDeeds) = some false
  k_NoneFree_BadPurses : PySem.W.kitOne K (.ref a.c_NoneFree) (.ref a.c_BadPurses) = some false
  k_NoneFree_NoneFree : PySem.W.kitOne K (.ref a.c_NoneFree) (.ref a.c_NoneFree) = some true
  k_NoneFree_TooMuch : PySem.W.kitOne K (.ref a.c_NoneFree) (.ref a.c_TooMuch) = some false
  k_NoneFree_TooMany : PySem.W.kitOne K (.ref a.c_NoneFree) (.ref a.c_TooMany) = some false
  v_NoneFree : PySem.W.kitOne K (.ref a.c_NoneFree) (.type "ValueError") = some true
  x_TooMuch : G.XD K mg "TooMuch" a.c_TooMuch
  m_TooMuch : PySem.W.exmOne K (.ref a.c_TooMuch) (.ref a.c_GiftError) = some true
  e_TooMuch : ExcC K a.c_TooMuch
  k_TooMuch_BadPeople : PySem.W.kitOne K (.ref a.c_TooMuch) (.ref a.c_BadPeople) = some false
  k_TooMuch_BadPerson : PySem.W.kitOne K (.ref a.c_TooMuch) (.ref a.c_BadPerson) = some false
  k_TooMuch_BadWord : PySem.W.kitOne K (.ref a.c_TooMuch) (.ref a.c_BadWord) = some false
  k_TooMuch_BadPrice : PySem.W.kitOne K (.ref a.c_TooMuch) (.ref a.c_BadPrice) = some false
  k_TooMuch_BadMany : PySem.W.kitOne K (.ref a.c_TooMuch) (.ref a.c_BadMany) = some false
  k_TooMuch_BadWish : PySem.W.kitOne K (.ref a.c_TooMuch) (.ref a.c_BadWish) = some false
  k_TooMuch_BadAmount : PySem.W.kitOne K (.ref a.c_TooMuch) (.ref a.c_BadAmount) = some false
  k_TooMuch_BadDeeds : PySem.W.kitOne K (.ref a.c_TooMuch) (.ref a.c_BadDeeds) = some false
  k_TooMuch_BadPurses : PySem.W.kitOne K (.ref a.c_TooMuch) (.ref a.c_BadPurses) = some false
  k_TooMuch_NoneFree : PySem.W.kitOne K (.ref a.c_TooMuch) (.ref a.c_NoneFree) = some false
  k_TooMuch_TooMuch : PySem.W.kitOne K (.ref a.c_TooMuch) (.ref a.c_TooMuch) = some true
  k_TooMuch_TooMany : PySem.W.kitOne K (.ref a.c_TooMuch) (.ref a.c_TooMany) = some false
  v_TooMuch : PySem.W.kitOne K (.ref a.c_TooMuch) (.type "ValueError") = some true
  x_TooMany : G.XD K mg "TooMany" a.c_TooMany
  m_TooMany : PySem.W.exmOne K (.ref a.c_TooMany) (.ref a.c_GiftError) = some true
  e_TooMany : ExcC K a.c_TooMany
  k_TooMany_BadPeople : PySem.W.kitOne K (.ref a.c_TooMany) (.ref a.c_BadPeople) = some false
  k_TooMany_BadPerson : PySem.W.kitOne K (.ref a.c_TooMany) (.ref a.c_BadPerson) = some false
  k_TooMany_BadWord : PySem.W.kitOne K (.ref a.c_TooMany) (.ref a.c_BadWord) = some false
  k_TooMany_BadPrice : PySem.W.kitOne K (.ref a.c_TooMany) (.ref a.c_BadPrice) = some false
  k_TooMany_BadMany : PySem.W.kitOne K (.ref a.c_TooMany) (.ref a.c_BadMany) = some false
  k_TooMany_BadWish : PySem.W.kitOne K (.ref a.c_TooMany) (.ref a.c_BadWish) = some false
  k_TooMany_BadAmount : PySem.W.kitOne K (.ref a.c_TooMany) (.ref a.c_BadAmount) = some false
  k_TooMany_BadDeeds : PySem.W.kitOne K (.ref a.c_TooMany) (.ref a.c_BadDeeds) = some false
  k_TooMany_BadPurses : PySem.W.kitOne K (.ref a.c_TooMany) (.ref a.c_BadPurses) = some false
  k_TooMany_NoneFree : PySem.W.kitOne K (.ref a.c_TooMany) (.ref a.c_NoneFree) = some false
  k_TooMany_TooMuch : PySem.W.kitOne K (.ref a.c_TooMany) (.ref a.c_TooMuch) = some false
  k_TooMany_TooMany : PySem.W.kitOne K (.ref a.c_TooMany) (.ref a.c_TooMany) = some true
  v_TooMany : PySem.W.kitOne K (.ref a.c_TooMany) (.type "ValueError") = some true
  c_Wish : mg "Wish" = some (.ref a.c_Wish)
  cl_Wish : Cls K a.c_Wish
  mk_Wish : Mk K a.c_Wish a.f_Wish_init
  na_Wish_owner : NoAttr K a.c_Wish "owner"
  na_Wish_word : NoAttr K a.c_Wish "word"
  na_Wish_price : NoAttr K a.c_Wish "price"
  na_Wish_many : NoAttr K a.c_Wish "many"
  na_Wish_stands : NoAttr K a.c_Wish "stands"
  na_Wish_takings : NoAttr K a.c_Wish "takings"
  na_Wish_pledges : NoAttr K a.c_Wish "pledges"
  c_Gifts : mg "Gifts" = some (.ref a.c_Gifts)
  cl_Gifts : Cls K a.c_Gifts
  mk_Gifts : Mk K a.c_Gifts a.f_Gifts_init
  na_Gifts_people : NoAttr K a.c_Gifts "people"
  na_Gifts_wishes : NoAttr K a.c_Gifts "wishes"
  g_LETTERS : mg "LETTERS" = some (.str "abcdefghijklmnopqrstuvwxyz" a.t_LETTERS)
  g_MOST_PEOPLE : mg "MOST_PEOPLE" = some (.int 5 a.t_MOST_PEOPLE)
  g_MOST_WORD : mg "MOST_WORD" = some (.int 4 a.t_MOST_WORD)
  g_MOST_PRICE : mg "MOST_PRICE" = some (.int 20 a.t_MOST_PRICE)
  g_MOST_PIECES : mg "MOST_PIECES" = some (.int 3 a.t_MOST_PIECES)
  g_MOST_WISHES : mg "MOST_WISHES" = some (.int 8 a.t_MOST_WISHES)
  n_ValueError : mg "ValueError" = none
  n_all : mg "all" = none
  n_bool : mg "bool" = none
  n_enumerate : mg "enumerate" = none
  n_int : mg "int" = none
  n_isinstance : mg "isinstance" = none
  n_len : mg "len" = none
  n_max : mg "max" = none
  n_range : mg "range" = none
  n_sorted : mg "sorted" = none
  n_str : mg "str" = none
  n_sum : mg "sum" = none
  td_01 : a.cP_law_persons_right ≠ a.cP_law_wishes_right
  td_02 : a.cP_law_persons_right ≠ a.cP_law_numbers_right
  td_03 : a.cP_law_persons_right ≠ a.cP_law
  td_12 : a.cP_law_wishes_right ≠ a.cP_law_numbers_right
  td_13 : a.cP_law_wishes_right ≠ a.cP_law
  td_23 : a.cP_law_numbers_right ≠ a.cP_law
end PP

namespace PP
open PySem PySem.Spec PyProof.Rows L2 G LamX
/-! of which classes a refusal is -/
def clA (a : A) : List Addr := [a.c_BadPeople, a.c_BadPerson, a.c_BadWord, a.c_BadPrice, a.c_BadMany, a.c_BadWish, a.c_BadAmount, a.c_BadDeeds, a.c_BadPurses, a.c_NoneFree, a.c_TooMuch, a.c_TooMany]
/-- what isinstance says of the class at C -/
structure IsK (K : PySem.W.Frag) (a : A) (C : Addr) (bs : List Bool) : Prop where
  x : ExcC K C
  g : PySem.W.exmOne K (.ref C) (.ref a.c_GiftError) = some true
  k : ∀ (i : Nat) (c : Addr), (clA a)[i]? = some c → ∃ b, bs[i]? = some b ∧ PySem.W.kitOne K (.ref C) (.ref c) = some b
  v : PySem.W.kitOne K (.ref C) (.type "ValueError") = some true
  n : bs.length = 12
/-- what the def makes of what it is handed: that must be refused -/
def TKinds (K : PySem.W.Frag) (a : A) : (XK → Hp → VK → Prop) → Hp → VK → Prop := fun tl H Q => ∀ F0, H F0 = none → ∀ Z : VK, (∀ v H', Q (.ref F0) H' → Z v H') → tl (fun cls d H' => ∃ (C : Addr) (bs : List Bool) (D : Hp) (Ms : List (List Cell)), cls = .ref C ∧ d = none ∧ IsK K a C bs ∧ Ok H' D Ms ∧
  ∀ p H'', Ok H'' D ([(p, .lst (bs.map V.bl ++ [.bl true]))] :: Ms) → Q (.ref p) H'') (upd H F0 (.lst [])) Z
def handlerOf : Stmt → List Stmt
  | .Try _ (.ExceptHandler _ _ b _ :: _) _ _ _ => b
  | _ => []
theorem bs12 {bs : List Bool} (h : bs.length = 12) : ∃ b0 b1 b2 b3 b4 b5 b6 b7 b8 b9 b10 b11, bs = [b0, b1, b2, b3, b4, b5, b6, b7, b8, b9, b10, b11] := by
  match bs, h with
  | [b0, b1, b2, b3, b4, b5, b6, b7, b8, b9, b10, b11], _ => exact ⟨b0, b1, b2, b3, b4, b5, b6, b7, b8, b9, b10, b11, rfl⟩
section
variable {w : World} {K : PySem.W.Frag} {mg : Str → Option Value} {a : A}
theorem r_isE {C e c : Addr} {b : Bool} {H : Hp} {Q : VK} (k : PySem.W.kitOne K (.ref C) (.ref c) = some b) (q : Q (.bl b) H) : rIsE K C e [.ref e, .ref c] H Q := ⟨.ref c, .ref c, b, rfl, fun _ h => h, k, q⟩
theorem r_isV {C e : Addr} {b : Bool} {H : Hp} {Q : VK} (k : PySem.W.kitOne K (.ref C) (.type "ValueError") = some b) (q : Q (.bl b) H) : rIsE K C e [.ref e, .ty "ValueError"] H Q := ⟨.ty "ValueError", .type "ValueError", b, rfl, fun _ h => h, k, q⟩
abbrev CxK (Pg : Program) (ww : World) (K : PySem.W.Frag) (mg : Str → Option Value) (base : Heap) (g : Addr) (cdg : Value) (AA : Around) (outer : List Env) (ss : Shared) (HH : Hp) : Cx := (cxOf C8.CX0 Pg ww K mg base ["_law_ask", "_law_found", "error"] "_law_kinds" (defScope s_law_kinds) g cdg AA outer ss HH C8.E0).nox
set_option maxHeartbeats 8000000 in
theorem suite_kinds (T : Txt K mg a) {Pg : Program} {ww : World} {base : Heap} {g : Addr} {cdg : Value} {AA : Around} {outer : List Env} {ss : Shared} {HH : Hp} {e C0' : Addr} {oe : Obj} {pn : List (Addr × Obj)} (C0 : ExcC K C0') (hz : Zc (.ref C0') none oe) (hf : ∃ vs, oe.data = .fields vs) :
    ∃ t, PSs ((CxK Pg ww K mg base g cdg AA outer ss HH).suite e ((e, oe) :: pn)) (handlerOf ((defBody s_law_kinds).getD 1 (.Pass ⟨0, 0, 0, 0⟩))) t ∧ ∀ (E : Ends) (x0 x1 : Option V) (H D : Hp) (Ms : List (List Cell)) (bs : List Bool), IsK K a C0' bs → Ok H D Ms →
      (∀ p H'', Ok H'' D ([(p, .lst (bs.map V.bl ++ [.bl true]))] :: Ms) → E.nx [x0, some (.ref p), some (.ref e)] H'') → t E [x0, x1, some (.ref e)] H := by
  have C : ExcC (CxK Pg ww K mg base g cdg AA outer ss HH).K C0' := C0
  refine ⟨_, (pss_cons (ps_set (i := 1) sc_law_kinds.nd rfl (by first | exact Or.inl rfl | exact Or.inr rfl) (pe_lst (pa_cons (pe_callB (call_isE C hz hf) (by rfl) T.n_isinstance (by decide +kernel) (pa_cons (pv 2) (pa_cons (pe_glob (v := .ref a.c_BadPeople) rfl T.x_BadPeople.g rfl) pa_nil))) (pa_cons (pe_callB (call_isE C hz hf) (by rfl) T.n_isinstance (by decide +kernel) (pa_cons (pv 2) (pa_cons (pe_glob (v := .ref a.c_BadPerson) rfl T.x_BadPerson.g rfl) pa_nil))) (pa_cons (pe_callB (call_isE C hz hf) (by rfl) T.n_isinstance (by decide +kernel) (pa_cons (pv 2) (pa_cons (pe_glob (v := .ref a.c_BadWord) rfl T.x_BadWord.g rfl) pa_nil))) pa_nil)))))
      (pss_cons (ps_set (i := 1) sc_law_kinds.nd rfl (by first | exact Or.inl rfl | exact Or.inr rfl) (pe_op (G.k_addU (K := K)) (pv 1) (pe_lst (pa_cons (pe_callB (call_isE C hz hf) (by rfl) T.n_isinstance (by decide +kernel) (pa_cons (pv 2) (pa_cons (pe_glob (v := .ref a.c_BadPrice) rfl T.x_BadPrice.g rfl) pa_nil))) (pa_cons (pe_callB (call_isE C hz hf) (by rfl) T.n_isinstance (by decide +kernel) (pa_cons (pv 2) (pa_cons (pe_glob (v := .ref a.c_BadMany) rfl T.x_BadMany.g rfl) pa_nil))) (pa_cons (pe_callB (call_isE C hz hf) (by rfl) T.n_isinstance (by decide +kernel) (pa_cons (pv 2) (pa_cons (pe_glob (v := .ref a.c_BadWish) rfl T.x_BadWish.g rfl) pa_nil))) pa_nil))))))
      (pss_cons (ps_set (i := 1) sc_law_kinds.nd rfl (by first | exact Or.inl rfl | exact Or.inr rfl) (pe_op (G.k_addU (K := K)) (pv 1) (pe_lst (pa_cons (pe_callB (call_isE C hz hf) (by rfl) T.n_isinstance (by decide +kernel) (pa_cons (pv 2) (pa_cons (pe_glob (v := .ref a.c_BadAmount) rfl T.x_BadAmount.g rfl) pa_nil))) (pa_cons (pe_callB (call_isE C hz hf) (by rfl) T.n_isinstance (by decide +kernel) (pa_cons (pv 2) (pa_cons (pe_glob (v := .ref a.c_BadDeeds) rfl T.x_BadDeeds.g rfl) pa_nil))) (pa_cons (pe_callB (call_isE C hz hf) (by rfl) T.n_isinstance (by decide +kernel) (pa_cons (pv 2) (pa_cons (pe_glob (v := .ref a.c_BadPurses) rfl T.x_BadPurses.g rfl) pa_nil))) pa_nil))))))
      (pss_cons (ps_set (i := 1) sc_law_kinds.nd rfl (by first | exact Or.inl rfl | exact Or.inr rfl) (pe_op (G.k_addU (K := K)) (pv 1) (pe_lst (pa_cons (pe_callB (call_isE C hz hf) (by rfl) T.n_isinstance (by decide +kernel) (pa_cons (pv 2) (pa_cons (pe_glob (v := .ref a.c_NoneFree) rfl T.x_NoneFree.g rfl) pa_nil))) (pa_cons (pe_callB (call_isE C hz hf) (by rfl) T.n_isinstance (by decide +kernel) (pa_cons (pv 2) (pa_cons (pe_glob (v := .ref a.c_TooMuch) rfl T.x_TooMuch.g rfl) pa_nil))) (pa_cons (pe_callB (call_isE C hz hf) (by rfl) T.n_isinstance (by decide +kernel) (pa_cons (pv 2) (pa_cons (pe_glob (v := .ref a.c_TooMany) rfl T.x_TooMany.g rfl) pa_nil))) pa_nil))))))
      (pss_one (ps_expr (G.k_bm (K := K) (pe_bm PySem.F.plainAttrs_list PySem.F.slot_list_append PySem.F.type_list_append mt_append (pv 1) (pa_cons (pe_callB (call_isE C hz hf) (by rfl) T.n_isinstance (by decide +kernel) (pa_cons (pv 2) (pa_cons (pe_bltn (v := .ty "ValueError") (by rfl) T.n_ValueError (by rfl) rfl) pa_nil))) pa_nil))))))))), ?_⟩
  intro E x0 x1 H D Ms bs hk o k
  obtain ⟨b0, b1, b2, b3, b4, b5, b6, b7, b8, b9, b10, b11, rfl⟩ := bs12 hk.n
  have kk : ∀ (i : Nat) (c : Addr) (b : Bool), (clA a)[i]? = some c → [b0, b1, b2, b3, b4, b5, b6, b7, b8, b9, b10, b11][i]? = some b → PySem.W.kitOne K (.ref C0') (.ref c) = some b := fun i c b h1 h2 => by
    obtain ⟨b', e1, e2⟩ := hk.k i c h1
    rw [e1] at h2
    rw [← Option.some.inj h2]
    exact e2
  have k0 := kk 0 _ _ rfl rfl
  have k1 := kk 1 _ _ rfl rfl
  have k2 := kk 2 _ _ rfl rfl
  have k3 := kk 3 _ _ rfl rfl
  have k4 := kk 4 _ _ rfl rfl
  have k5 := kk 5 _ _ rfl rfl
  have k6 := kk 6 _ _ rfl rfl
  have k7 := kk 7 _ _ rfl rfl
  have k8 := kk 8 _ _ rfl rfl
  have k9 := kk 9 _ _ rfl rfl
  have k10 := kk 10 _ _ rfl rfl
  have k11 := kk 11 _ _ rfl rfl
  clear kk
  walk_at "go"
  refine r_isE k0 ?_
  walk_at "go"
  refine r_isE k1 ?_
  walk_at "go"
  refine r_isE k2 ?_
  walk_at "go"
  rename_i p1 H1 o1
  refine r_isE k3 ?_
  walk_at "go"
  refine r_isE k4 ?_
  walk_at "go"
  refine r_isE k5 ?_
  walk_at "go"
  rename_i p2 H2 o2
  refine r_addL o2 (o2.at1 (.tail _ (.head _))) (o2.at1 (.head _)) (by show 6 ≤ sizeLine; decide) fun p3 H3 o3 => ?_
  clear o1 o2
  walk_at "go"
  refine r_isE k6 ?_
  walk_at "go"
  refine r_isE k7 ?_
  walk_at "go"
  refine r_isE k8 ?_
  walk_at "go"
  rename_i p4 H4 o4
  refine r_addL o4 (o4.at1 (.tail _ (.head _))) (o4.at1 (.head _)) (by show 9 ≤ sizeLine; decide) fun p5 H5 o5 => ?_
  clear o3 o4
  walk_at "go"
  refine r_isE k9 ?_
  walk_at "go"
  refine r_isE k10 ?_
  walk_at "go"
  refine r_isE k11 ?_
  walk_at "go"
  rename_i p6 H6 o6
  refine r_addL o6 (o6.at1 (.tail _ (.head _))) (o6.at1 (.head _)) (by show 12 ≤ sizeLine; decide) fun p7 H7 o7 => ?_
  clear o5 o6
  walk_at "go"
  refine r_isV hk.v ?_
  walk_at "g1"
  refine r_app o7 .here (by show 12 < sizeLine; decide) fun H8 o8 => ?_
  exact k p7 H8 (o8.sel (.pick .here (.done (.there (.there (.there (.there (.there (.there .here)))))))))
/-- the def takes what it is handed -/
theorem kinds_gives (T : Txt K mg a) {X : Cx} (hK : X.K = K) (hm : X.mg = mg) {g : Addr} {cdg : Value} {q : Str} : GivesTo X ["_law_ask", "_law_found", "error"] "_law_kinds" (defScope s_law_kinds) g cdg (defBody s_law_kinds) "_law_ask" q (TKinds K a) := by
  subst hK hm
  intro f c' ss H Q tl act hc h
  refine ⟨_, pss_cons (ps_set (i := 1) sc_law_kinds.nd rfl (by first | exact Or.inl rfl | exact Or.inr rfl) (pe_lst pa_nil)) (pss_cons (ps_try_as (i := 2)
    (tb := fun W D σ H => ∃ V0 : XK, (∀ cls d σ' H', V0 cls d H' → W cls d σ' H') ∧ σ[0]? = some (some (.ref f)) ∧ H c' = some (CodeO c' q) ∧ tl V0 H fun _ H' => D.nx σ H')
    (ts := fun e cls d E σ H => σ.length = 3 → ∃ (C : Addr) (D : Hp) (Ms : List (List Cell)) (bs : List Bool), cls = .ref C ∧ d = none ∧ IsK X.K a C bs ∧ Ok H D Ms ∧ ∃ x0 x1, σ = [x0, x1, some (.ref e)] ∧ ∀ p H'', Ok H'' D ([(p, .lst (bs.map V.bl ++ [.bl true]))] :: Ms) → E.nx [x0, some (.ref p), some (.ref e)] H'')
    rfl rfl sc_law_kinds.nd rfl rfl ⟨rfl, by decide, .inl T.x_GiftError.g⟩ L2.takes0 (fun W pn xe tk _ => ?_) (fun e oe cls d pn hz hf => ?_)) (pss_one (ps_ret (pv 1)))), ?_⟩
  · refine ⟨fun pins s1 σ H1 D I h1 => ?_⟩
    obtain ⟨V0, hW, g1, g2, g3⟩ := h1
    exact (pss_one (ps_expr (act W pn xe V0 _ _ tk hW))).run pins s1 σ H1 D I ⟨g1, g2, g3⟩
  · refine ⟨fun pins s1 σ H1 E I h1 => ?_⟩
    obtain ⟨C, D, Ms, bs, rfl, rfl, hk, o, x0, x1, rfl, k⟩ := h1 I.len
    obtain ⟨t, ht, hq⟩ := suite_kinds T (Pg := X.prog) (ww := X.w) (base := X.base) (g := g) (cdg := cdg) (AA := X.A) (outer := X.stack) (ss := ss) (HH := H) (pn := pn) hk.x hz hf
    exact ht.run pins s1 _ H1 E I (hq E x0 x1 H1 D Ms bs hk o k)
  · refine r_seq (r_asg (r_lst (r_nil ⟨by show 0 ≤ sizeLine; decide, fun F0 nF => r_name (r_seq ?_)⟩)))
    refine ⟨_, fun cls d σ' H' h1 => ?_, rfl, ?_, h F0 nF _ fun _ H' hq => ?_⟩
    · obtain ⟨C, bs, D, Ms, rfl, rfl, hk, o, k⟩ := h1
      refine ⟨true, hk.g, fun _ e ne hl => ?_, fun hf => absurd hf (by decide)⟩
      match σ', hl with
      | [y0, y1, y2], _ => exact ⟨C, D, Ms, bs, rfl, rfl, hk, o, y0, y1, rfl, fun p H'' o'' => r_ret (r_var rfl (k p H'' o''))⟩
    · rw [upd_ne (ne_of_none hc nF)]
      exact hc
    · exact r_ret (r_var rfl hq)
/-- the same where several defs make lambdas -/
theorem pe_kindsT (T : Txt K mg a) {X : Cx} {Ts : List (Addr × Str)} {c Pt : Addr} {k : Nat} {params : Arguments} {body : Expr} {scope : Scope} {t : XK → TE} {p lpos pos : Pos} {q : Str} (TB : TabB X.base mg c Pt) (hi : (Pt, q) ∈ Ts) (hu : ∀ p ∈ Ts, p.1 = Pt → p.2 = q)
    (hbody : ∀ (A : Around) (outer : List Env) (s : Shared) (H : Hp) (E : XK) (f c' : Addr), Room k (A.deeper (lamEnv X scope s.heap.objs.size f c')) → PE (lamCx X A outer s H E scope f c') body (t E))
    (hr : Room (k + 2) X.A) (L : LamS X.env.scope scope) (hK : X.K = K := by rfl) (hm : X.mg = mg := by rfl) (hg : Gl X "_law_kinds" := by rfl) (hcode : X.env.code = .ref c := by rfl) (hdef : defaultsOf params X.env = ([], []) := by rfl) (hq : X.env.qual ++ "<lambda>" = q := by rfl)
    (hbind : ∀ (q : Str) (cl : List (Str × Addr)) (pm cv ctv : Value), bindArgs (PySem.W.kla_fn "<lambda>" q params body scope cl pm cv ctv) ⟨[], []⟩ = pure [] := by intros; rfl) :
    PE X (.Call (.Name "_law_kinds" p) [.Lambda params body scope lpos] [] pos) (tLam Ts (TKinds K a) t) := by
  subst hK hm hq
  obtain ⟨oc, od, kV, doc, pm, an, cdv, ct, osl, e, lk, hcd⟩ := T.law_kinds.F.ex
  have hb := T.law_kinds.b
  rw [e] at lk hb
  exact pe_lamcall (T := Ts) (Ng := ["_law_ask", "_law_found", "error"]) (a := "_law_ask") hg T.law_kinds.g T.law_kinds.k lk hcd hb sc_law_kinds rfl (.inl rfl) (kinds_gives T rfl rfl) TB hcode hi hu hr L hdef hbind hbody
/-- the law's kinds of what a lambda does -/
theorem pe_kinds (T : Txt K mg a) {X : Cx} {c Pt : Addr} {k : Nat} {params : Arguments} {body : Expr} {scope : Scope} {t : XK → TE} {p lpos pos : Pos} {q : Str} (TB : TabB X.base mg c Pt)
    (hbody : ∀ (A : Around) (outer : List Env) (s : Shared) (H : Hp) (E : XK) (f c' : Addr), Room k (A.deeper (lamEnv X scope s.heap.objs.size f c')) → PE (lamCx X A outer s H E scope f c') body (t E))
    (hr : Room (k + 2) X.A) (L : LamS X.env.scope scope) (hK : X.K = K := by rfl) (hm : X.mg = mg := by rfl) (hg : Gl X "_law_kinds" := by rfl) (hcode : X.env.code = .ref c := by rfl) (hdef : defaultsOf params X.env = ([], []) := by rfl) (hq : X.env.qual ++ "<lambda>" = q := by rfl)
    (hbind : ∀ (q : Str) (cl : List (Str × Addr)) (pm cv ctv : Value), bindArgs (PySem.W.kla_fn "<lambda>" q params body scope cl pm cv ctv) ⟨[], []⟩ = pure [] := by intros; rfl) :
    PE X (.Call (.Name "_law_kinds" p) [.Lambda params body scope lpos] [] pos) (tLam [(Pt, q)] (TKinds K a) t) := by
  subst hK hm hq
  obtain ⟨oc, od, kV, doc, pm, an, cdv, ct, osl, e, lk, hcd⟩ := T.law_kinds.F.ex
  have hb := T.law_kinds.b
  rw [e] at lk hb
  exact pe_lamcall (T := [(Pt, X.env.qual ++ "<lambda>")]) (Ng := ["_law_ask", "_law_found", "error"]) (a := "_law_ask") hg T.law_kinds.g T.law_kinds.k lk hcd hb sc_law_kinds rfl (.inl rfl) (kinds_gives T rfl rfl) TB hcode (.head _) (fun p hp _ => by rw [List.mem_singleton.mp hp]) hr L hdef hbind hbody
end
end PP

namespace PP
open PySem PySem.Spec PyProof.Rows L2 G
/-! numbers, words -/
/-- the known kinds of values -/
inductive Tv (K : PySem.W.Frag) (H : Hp) : V → String → Prop
  | non : Tv K H .non "NoneType"
  | bl (b : Bool) : Tv K H (.bl b) "bool"
  | int (i : Int) : Tv K H (.int i) "int"
  | str (x : Str) : Tv K H (.str x) "str"
  | lst {a : Addr} {xs : List V} (h : H a = some (.lst xs)) : Tv K H (.ref a) "list"
  | tup {a : Addr} {xs : List V} (h : H a = some (.tup xs)) : Tv K H (.ref a) "tuple"
  | dct {a : Addr} {kvs : List (Key × V)} (h : H a = some (.dK kvs)) : Tv K H (.ref a) "dict"
theorem Tv.tyx {K : PySem.W.Frag} {H : Hp} {x : V} {T : String} (h : Tv K H x T) : TyX K H x (.type T) := by
  cases h with
  | non => exact .base .non
  | bl b => exact .base (.bl b)
  | int i => exact .base (.int i)
  | str x => exact .base (.str x)
  | lst h => exact .base (.lst h)
  | tup h => exact .base (.tup h)
  | dct h => exact .base (.dK h)
theorem Tv.mono {K : PySem.W.Frag} {H H' : Hp} {x : V} {T : String} (e : Same H H') (h : Tv K H x T) : Tv K H' x T := by
  cases h with
  | non => exact .non
  | bl b => exact .bl b
  | int i => exact .int i
  | str x => exact .str x
  | lst h => exact .lst (e _ _ h)
  | tup h => exact .tup (e _ _ h)
  | dct h => exact .dct (e _ _ h)
def kinds : List String := ["NoneType", "bool", "int", "str", "list", "tuple", "dict"]
theorem Tv.mem {K : PySem.W.Frag} {H : Hp} {x : V} {T : String} (h : Tv K H x T) : T ∈ kinds := by
  cases h <;> decide
theorem kit_int : ∀ T ∈ kinds, kitB T "int" = some (T == "int" || T == "bool") := by decide +kernel
theorem kit_bool : ∀ T ∈ kinds, kitB T "bool" = some (T == "bool") := by decide +kernel
theorem kit_str : ∀ T ∈ kinds, kitB T "str" = some (T == "str") := by decide +kernel
theorem kit_list : ∀ T ∈ kinds, kitB T "list" = some (T == "list") := by decide +kernel
theorem kit_tuple : ∀ T ∈ kinds, kitB T "tuple" = some (T == "tuple") := by decide +kernel
theorem isi {K : PySem.W.Frag} {H : Hp} {x : V} {T : String} {n : String} {b : Bool} {Q : VK} (h : Tv K H x T) (k : kitB T n = some b) (q : Q (.bl b) H) : rIsi K [x, .ty n] H Q := ⟨x, .ty n, _, _, b, rfl, .ty n, h.tyx, kit_ty k, q⟩
theorem isW_of {K : PySem.W.Frag} {H : Hp} {x : V} {T : String} (h : Tv K H x T) : isW x = (T == "int") := by
  cases h <;> rfl
def sp_is_whole (K : PySem.W.Frag) : Sp := fun vs H Q _ => ∃ x T, vs = [x] ∧ Tv K H x T ∧ Q (.bl (isW x)) H
def sp_is_count (K : PySem.W.Frag) : Sp := fun vs H Q _ => ∃ x T lo hi, vs = [x, .int lo, .int hi] ∧ Tv K H x T ∧ Q (.bl (isC lo hi x)) H
def sp_is_word (K : PySem.W.Frag) : Sp := fun vs H Q _ => ∃ x T D Ms, vs = [x] ∧ Tv K H x T ∧ G.Ok H D Ms ∧ (∀ z, x = .str z → z.length ≤ 1000) ∧ ∀ H', G.Ok H' D Ms → Q (.bl (isWd x)) H'
section
variable {P : Program} {w : World} {K : PySem.W.Frag} {mg : Str → Option Value} {base : Heap} {a : A} {H D : Hp} {Q : VK} {E : XK} {Ms : List (List G.Cell)}
theorem u_is_whole {x : V} {T : String} (h : Tv K H x T) (q : Q (.bl (isW x)) H) : sp_is_whole K [x] H Q E := ⟨x, T, rfl, h, q⟩
theorem u_is_count {x : V} {T : String} {lo hi : Int} (h : Tv K H x T) (q : Q (.bl (isC lo hi x)) H) : sp_is_count K [x, .int lo, .int hi] H Q E := ⟨x, T, lo, hi, rfl, h, q⟩
theorem u_is_word {x : V} {T : String} (h : Tv K H x T) (o : G.Ok H D Ms) (l : ∀ z, x = .str z → z.length ≤ 1000) (q : ∀ H', G.Ok H' D Ms → Q (.bl (isWd x)) H') : sp_is_word K [x] H Q E := ⟨x, T, D, Ms, rfl, h, o, l, q⟩
theorem ok_is_whole (T : Txt K mg a) : FnOk P w K mg base (L2.CX P w) 1 a.f_is_whole a.d_is_whole ["thing"] (sp_is_whole K) := by
  refine T.is_whole.F.okX sc_is_whole (fun vs H Q E h => ?_) (fun cdv A outer s H vs Q E hr h => ?_)
  · obtain ⟨x, t, rfl, _⟩ := h
    rfl
  · obtain ⟨x, t, rfl, hx, k⟩ := h
    refine ⟨_, (pss_one (ps_ret (pe_and (pe_callB (G.k_isi (K := K)) (by rfl) T.n_isinstance (by decide +kernel) (pa_cons (pv 0) (pa_cons (pe_bltn (v := .ty "int") (by rfl) T.n_int boot_int rfl) pa_nil))) (pe_one (pe_not (pe_callB (G.k_isi (K := K)) (by rfl) T.n_isinstance (by decide +kernel) (pa_cons (pv 0) (pa_cons (pe_bltn (v := .ty "bool") (by rfl) T.n_bool boot_bool rfl) pa_nil)))))))), ?_⟩
    walk_at "go"
    refine isi hx (kit_int _ hx.mem) ?_
    walk_at "go"
    refine G.r_ite (fun h1 => ?_) (fun h1 => ?_)
    · walk_at "go"
      refine isi hx (kit_bool _ hx.mem) ?_
      walk_at "go"
      have e : isW x = !(t == "bool") := by
        rw [isW_of hx]
        have := hx.mem
        revert h1
        cases hx <;> decide
      rw [← e]
      exact k
    · have e : isW x = false := by
        rw [isW_of hx]
        revert h1
        cases hx <;> decide
      rw [e] at k
      exact k
theorem ok_is_count (T : Txt K mg a) : FnOk P w K mg base (L2.CX P w) 2 a.f_is_count a.d_is_count ["thing", "least", "most"] (sp_is_count K) := by
  refine T.is_count.F.okX sc_is_count (fun vs H Q E h => ?_) (fun cdv A outer s H vs Q E hr h => ?_)
  · obtain ⟨x, t, lo, hi, rfl, _⟩ := h
    rfl
  · obtain ⟨x, t, lo, hi, rfl, hx, k⟩ := h
    refine ⟨_, (pss_one (ps_ret (pe_and (pe_callS (ok_is_whole (K := K) T) (hr.mono (by decide)) rfl T.is_whole.g T.is_whole.k T.is_whole.b (fun σ => passAt (takes_of rfl rfl rfl rfl) σ) (pa_cons (pv 0) pa_nil)) (pe_one (pe_chain op_le op_le (pv 1) (pv 0) (pv 2)))))), ?_⟩
    walk_at "go"
    refine u_is_whole hx ?_
    walk_at "go"
    refine G.r_ite (fun h1 => ?_) (fun h1 => ?_)
    · obtain ⟨i, rfl⟩ : ∃ i, x = .int i := by
        cases hx <;> first | exact ⟨_, rfl⟩ | cases h1
      walk_at "go"
      refine G.r_ite (fun h2 => ?_) (fun h2 => ?_)
      · walk_at "go"
        have e : isC lo hi (.int i) = decide (i ≤ hi) := by rw [isC_int, h2]; rfl
        rw [← e]
        exact k
      · have e : isC lo hi (.int i) = false := by rw [isC_int, h2]; rfl
        rw [← e]
        exact k
    · have e : isC lo hi x = false := by
        cases hx <;> first | rfl | cases h1
      rw [e] at k
      exact k
theorem ok_is_word (T : Txt K mg a) : FnOk P w K mg base (L2.CX P w) 1 a.f_is_word a.d_is_word ["thing"] (sp_is_word K) := by
  refine T.is_word.F.okX sc_is_word (fun vs H Q E h => ?_) (fun cdv A outer s H vs Q E hr h => ?_)
  · obtain ⟨x, t, D, Ms, rfl, _⟩ := h
    rfl
  · obtain ⟨x, t, D, Ms, rfl, hx, o, hl, k⟩ := h
    refine ⟨_, (pss_cons (ps_if (PW.pt (pw_or (pt_not (pt_val (pe_callB (G.k_isi (K := K)) (by rfl) T.n_isinstance (by decide +kernel) (pa_cons (pv 0) (pa_cons (pe_bltn (v := .ty "str") (by rfl) T.n_str boot_str rfl) pa_nil))))) (pw_or1 (pt_not (pt_chain op_le op_le pe_int (pe_callB (G.k_lenU (K := K)) (by rfl) T.n_len (by decide +kernel) (pa_cons (pv 0) pa_nil)) (pe_glob (v := .int 4) rfl T.g_MOST_WORD ⟨_, rfl⟩)))))) (pss_one (ps_ret pe_bl)) pss_nil)
  (pss_one (ps_ret (pe_callB (G.k_all (K := K) rfl) (by rfl) T.n_all (by decide +kernel) (pa_cons (pe_lc (own := [("sign", 1)]) (g := (gName 1)) (tt := tYes) rfl sc_is_word.nd (pi_str (pv 0)) (blkOk_by (own := [("sign", 1)]) (N := ["thing", "sign"]) (sc := defScope s_is_word) (by decide +kernel)) (fun _ _ _ _ _ => (pg_name (i := 1) sc_is_word.nd rfl (by first | exact Or.inl rfl | exact Or.inr rfl))) (fun _ _ _ _ _ => pts_nil) (fun _ _ _ _ _ => (pe_cmpR (G.k_inU (K := K) hr) (pv 1) (pe_glob (v := .str "abcdefghijklmnopqrstuvwxyz") rfl T.g_LETTERS ⟨_, rfl⟩) (by first | rfl | exact nomark _)))) pa_nil))))), ?_⟩
    walk_at "go"
    refine isi hx (kit_str _ hx.mem) ?_
    walk_at "go"
    refine G.r_ite (fun h1 => ?_) (fun h1 => ?_)
    · have e : isWd x = false := by
        cases hx <;> first | rfl | cases h1
      walk_at "go"
      rw [← e]
      exact k _ o
    · obtain ⟨z, rfl⟩ : ∃ z, x = .str z := by
        cases hx <;> first | exact ⟨_, rfl⟩ | cases h1
      have hz := hl z rfl
      walk_at "go"
      refine G.r_lenS (Nat.le_trans hz (by decide)) ?_
      have fal : okWord z = false → ∀ H', G.Ok H' D Ms → Q (.bl false) H' := fun e H' o' => by
        have q := k H' o'
        rw [show isWd (.str z) = false from e] at q
        exact q
      walk_at "go"
      refine G.r_ite (fun h2 => ?_) (fun h2 => ?_)
      · walk_at "go"
        refine G.r_ite (fun h3 => ?_) (fun h3 => ?_)
        · have h4 : decide ((z.length : Int) ≤ 4) = false := by
            cases e : decide ((z.length : Int) ≤ 4)
            · rfl
            · rw [e] at h3
              cases h3
          walk_at "go"
          exact fal (by unfold okWord; rw [h4, Bool.and_false]; rfl) _ o
        · have h4 : decide ((z.length : Int) ≤ 4) = true := by
            cases e : decide ((z.length : Int) ≤ 4)
            · rw [e] at h3
              cases h3
            · rfl
          walk_at "go"
          refine G.lcMap (fun i => V.bl (decide (z.cps.toList.getD i 0 ∈ lets))) walk_str o (Nat.le_trans hz (by decide)) (fun _ _ _ _ => trivial) ?_ ?_
          · rintro i x L acc H' H'' Ny Nn hi o' ⟨rfl, c, hc, rfl⟩ q
            walk_at "go"
            refine ⟨rfl, ?_⟩
            walk_at "go"
            refine G.r_inC ?_
            have e : c = z.cps.toList.getD i 0 := by
              rw [List.getD_eq_getElem?_getD, Array.getElem?_toList, hc]
              rfl
            rw [e]
            exact q _ o'
          · intro L H' o'
            walk_at "go"
            refine G.r_all (bs := z.cps.toList.map fun c => decide (c ∈ lets)) (SqL.of (o'.at1 (.head _))) ?_ ?_
            · rw [List.map_map]
              refine List.ext_getElem (by simp) fun j h5 h6 => ?_
              simp at h5
              simp [h5]
            · have e : isWd (.str z) = ((z.cps.toList.map fun c => decide (c ∈ lets)).all id) := by
                show okWord z = _
                unfold okWord
                rw [h2, h4, List.all_map]
                rfl
              rw [← e]
              exact k _ o'.drop
      · walk_at "go"
        exact fal (by unfold okWord; rw [h2]; rfl) _ o
end
end PP

namespace PP
open PySem PySem.Spec PyProof.Rows L2 G
/-! the class Wish -/
def sp_Wish_init (a : A) : Sp := fun vs H Q _ => ∃ (D : Hp) (R : List (List Cell)) (p dx : Addr) (o : Int) (z : Str) (pr m : Int), vs = [.ref p, .int o, .str z, .int pr, .int m] ∧ Ok H D ([(p, .ins a.c_Wish dx [])] :: R) ∧
  ∀ H' t q, Ok H' D (cW a.c_Wish ⟨p, dx, t, q⟩ ⟨o, z, pr, m, true, [], []⟩ :: R) → Q .non H'
def sp_Wish_free (a : A) : Sp := fun vs H Q _ => ∃ (D : Hp) (R : List (List Cell)) (x : WA) (w : W), vs = [.ref x.p] ∧ Ok H D (cW a.c_Wish x w :: R) ∧ WOk w ∧ ∀ H', Ok H' D (cW a.c_Wish x w :: R) → Q (.int (free w)) H'
def sp_Wish_lacking (a : A) : Sp := fun vs H Q _ => ∃ (D : Hp) (R : List (List Cell)) (x : WA) (w : W), vs = [.ref x.p] ∧ Ok H D (cW a.c_Wish x w :: R) ∧ WOk w ∧ ∀ H', Ok H' D (cW a.c_Wish x w :: R) → Q (.int (lacking w)) H'
def sp_Wish_done (a : A) : Sp := fun vs H Q _ => ∃ (D : Hp) (R : List (List Cell)) (x : WA) (w : W), vs = [.ref x.p] ∧ Ok H D (cW a.c_Wish x w :: R) ∧ WOk w ∧ ∀ H' D' T L1 L2 as1 as2, Ok H' D' ([(L1, .lst (as1.map V.ref)), (L2, .lst (as2.map V.ref))] :: cW a.c_Wish x w :: R) → Same D D' →
  D' T = some (.tup [.bl w.st, .ref L1, .ref L2]) → Prs D' as1 (srt w.tk) → Prs D' as2 (srt w.pl) → Q (.ref T) H'
section
variable {P : Program} {w : World} {K : PySem.W.Frag} {mg : Str → Option Value} {base : Heap} {a : A} {H D : Hp} {Q : VK} {E : XK} {Ms : List (List G.Cell)}
theorem ok_Wish_init (T : Txt K mg a) : FnOk P w K mg base (L2.CX P w) 1 a.f_Wish_init a.d_Wish_init ["self", "owner", "word", "price", "many"] (sp_Wish_init a) := by
  refine T.Wish_init.F.okX sc_Wish_init (fun vs H Q E h => ?_) (fun cdv A outer s H vs Q E hr h => ?_)
  · obtain ⟨D, R, p, dx, o, z, pr, m, rfl, _⟩ := h
    rfl
  · obtain ⟨D, R, p, dx, ow, z, pr, m, rfl, o, k⟩ := h
    have := T.cl_Wish; have := T.na_Wish_owner; have := T.na_Wish_word; have := T.na_Wish_price; have := T.na_Wish_many; have := T.na_Wish_stands; have := T.na_Wish_takings; have := T.na_Wish_pledges
    refine ⟨_, (pss_cons (G.k_sfld (K := K) (pv 0) (pv 1) rfl)
  (pss_cons (G.k_sfld (K := K) (pv 0) (pv 2) rfl)
  (pss_cons (G.k_sfld (K := K) (pv 0) (pv 3) rfl)
  (pss_cons (G.k_sfld (K := K) (pv 0) (pv 4) rfl)
  (pss_cons (G.k_sfld (K := K) (pv 0) pe_bl rfl)
  (pss_cons (G.k_sfld (K := K) (pv 0) pe_dnewK rfl)
  (pss_one (G.k_sfld (K := K) (pv 0) pe_dnewK rfl)))))))), ?_⟩
    walk_at "go"
    exact k _ _ _ (Ok.shutW (by walk_at "fin"))
theorem ok_Wish_free (T : Txt K mg a) : FnOk P w K mg base (L2.CX P w) 1 a.f_Wish_free a.d_Wish_free ["self"] (sp_Wish_free a) := by
  refine T.Wish_free.F.okX sc_Wish_free (fun vs H Q E h => ?_) (fun cdv A outer s H vs Q E hr h => ?_)
  · obtain ⟨D, R, x, w, rfl, _⟩ := h
    rfl
  · obtain ⟨D, R, x, w, rfl, o, hw, k⟩ := h
    have := T.cl_Wish; have := T.na_Wish_owner; have := T.na_Wish_word; have := T.na_Wish_price; have := T.na_Wish_many; have := T.na_Wish_stands; have := T.na_Wish_takings; have := T.na_Wish_pledges
    refine ⟨_, (pss_cons (ps_set (i := 1) sc_Wish_free.nd rfl (by first | exact Or.inl rfl | exact Or.inr rfl) (pe_op (G.k_addU (K := K)) (pe_callB (G.k_sum (K := K) rfl) (by rfl) T.n_sum (by decide +kernel) (pa_cons (pe_lock (pe_lc (own := [("person", 2)]) (g := (gName 2)) (tt := tYes) rfl sc_Wish_free.nd (pi_keys (G.k_fld (K := K) (pv 0) rfl)) (blkOk_by (own := [("person", 2)]) (N := ["self", "held", "person"]) (sc := defScope s_Wish_free) (by decide +kernel)) (fun _ _ _ _ _ => (pg_name (i := 2) sc_Wish_free.nd rfl (by first | exact Or.inl rfl | exact Or.inr rfl))) (fun _ _ _ _ _ => pts_nil) (fun _ _ _ _ _ => (pe_ix (G.k_ixU (K := K) (hu_of hr)) (G.k_fld (K := K) (pv 0) rfl) (pv 2) (fun _ _ => rfl))))) pa_nil)) (pe_callTy call_int1 (by rfl) T.n_int (by decide +kernel) (pa_cons (pe_cmpR (G.k_neU (K := K) hr) (G.k_fld (K := K) (pv 0) rfl) pe_dnewK (nomark _)) pa_nil))))
  (pss_one (ps_ret (pe_callB (call_max2 rfl) (by rfl) T.n_max (by decide +kernel) (pa_cons pe_int (pa_cons (pe_op op_sub (G.k_fld (K := K) (pv 0) rfl) (pv 1)) pa_nil)))))), ?_⟩
    have o := o.openW
    walk_at "go"
    refine comp_self (l := w.tk) (fun x => rfl) rfl o (.there .here) (.head _) (by assumption) (by assumption) rfl hw.nt (Nat.le_trans hw.lt (by decide)) (fun L H1 o1 => ?_) rfl
    walk_at "go"
    refine r_sumAL (SqL.of (o1.at1 (.tail _ (.head _)))) ?_
    walk_at "go"
    have e : free w = if w.many - (alSum w.tk + if (!(kvs w.pl).isEmpty) = true then 1 else 0) > 0 then w.many - (alSum w.tk + if (!(kvs w.pl).isEmpty) = true then 1 else 0) else 0 := by
      unfold free held
      rw [kvs_isEmpty]
      cases w.pl <;> rfl
    rw [e] at k
    exact k _ (Ok.shutW (by walk_at "fin"))
theorem ok_Wish_lacking (T : Txt K mg a) : FnOk P w K mg base (L2.CX P w) 1 a.f_Wish_lacking a.d_Wish_lacking ["self"] (sp_Wish_lacking a) := by
  refine T.Wish_lacking.F.okX sc_Wish_lacking (fun vs H Q E h => ?_) (fun cdv A outer s H vs Q E hr h => ?_)
  · obtain ⟨D, R, x, w, rfl, _⟩ := h
    rfl
  · obtain ⟨D, R, x, w, rfl, o, hw, k⟩ := h
    have := T.cl_Wish; have := T.na_Wish_owner; have := T.na_Wish_word; have := T.na_Wish_price; have := T.na_Wish_many; have := T.na_Wish_stands; have := T.na_Wish_takings; have := T.na_Wish_pledges
    refine ⟨_, (pss_one (ps_ret (pe_op op_sub (G.k_fld (K := K) (pv 0) rfl) (pe_callB (G.k_sum (K := K) rfl) (by rfl) T.n_sum (by decide +kernel) (pa_cons (pe_lock (pe_lc (own := [("person", 1)]) (g := (gName 1)) (tt := tYes) rfl sc_Wish_lacking.nd (pi_keys (G.k_fld (K := K) (pv 0) rfl)) (blkOk_by (own := [("person", 1)]) (N := ["self", "person"]) (sc := defScope s_Wish_lacking) (by decide +kernel)) (fun _ _ _ _ _ => (pg_name (i := 1) sc_Wish_lacking.nd rfl (by first | exact Or.inl rfl | exact Or.inr rfl))) (fun _ _ _ _ _ => pts_nil) (fun _ _ _ _ _ => (pe_ix (G.k_ixU (K := K) (hu_of hr)) (G.k_fld (K := K) (pv 0) rfl) (pv 1) (fun _ _ => rfl))))) pa_nil))))), ?_⟩
    have o := o.openW
    walk_at "go"
    refine comp_self (l := w.pl) (fun x => rfl) rfl o (.there (.there .here)) (.head _) (by assumption) (by assumption) rfl hw.np (Nat.le_trans hw.lp (by decide)) (fun L H1 o1 => ?_) rfl
    walk_at "go"
    refine r_sumAL (SqL.of (o1.at1 (.tail _ (.head _)))) ?_
    walk_at "go"
    exact k _ (Ok.shutW (by walk_at "fin"))
theorem ok_Wish_done (T : Txt K mg a) : FnOk P w K mg base (L2.CX P w) 1 a.f_Wish_done a.d_Wish_done ["self"] (sp_Wish_done a) := by
  refine T.Wish_done.F.okX sc_Wish_done (fun vs H Q E h => ?_) (fun cdv A outer s H vs Q E hr h => ?_)
  · obtain ⟨D, R, x, w, rfl, _⟩ := h
    rfl
  · obtain ⟨D, R, x, w, rfl, o, hw, k⟩ := h
    have := T.cl_Wish; have := T.na_Wish_owner; have := T.na_Wish_word; have := T.na_Wish_price; have := T.na_Wish_many; have := T.na_Wish_stands; have := T.na_Wish_takings; have := T.na_Wish_pledges
    refine ⟨_, (pss_cons (ps_setLc (i := 1) (own := [("person", 3)]) (g := (gName 3)) (tt := tYes) rfl sc_Wish_done.nd rfl rfl (sw_true rfl rfl rfl (by decide +kernel)) (G.k_seq (K := K) (pe_callB (G.k_sorted (K := K) rfl) (by rfl) T.n_sorted (by decide +kernel) (pa_cons (G.k_fld (K := K) (pv 0) rfl) pa_nil))) (blkOk_by (own := [("person", 3)]) (N := ["self", "takings", "pledges", "person"]) (sc := defScope s_Wish_done) (by decide +kernel)) (fun _ _ _ _ _ => (pg_name (i := 3) sc_Wish_done.nd rfl (by first | exact Or.inl rfl | exact Or.inr rfl))) (fun _ _ _ _ _ => pts_nil) (fun _ _ _ _ _ => (pe_tup (pa_cons (pv 3) (pa_cons (pe_ix (G.k_ixU (K := K) (hu_of hr)) (G.k_fld (K := K) (pv 0) rfl) (pv 3) (fun _ _ => rfl)) pa_nil)))))
  (pss_cons (ps_setLc (i := 2) (own := [("person", 3)]) (g := (gName 3)) (tt := tYes) rfl sc_Wish_done.nd rfl rfl (sw_true rfl rfl rfl (by decide +kernel)) (G.k_seq (K := K) (pe_callB (G.k_sorted (K := K) rfl) (by rfl) T.n_sorted (by decide +kernel) (pa_cons (G.k_fld (K := K) (pv 0) rfl) pa_nil))) (blkOk_by (own := [("person", 3)]) (N := ["self", "takings", "pledges", "person"]) (sc := defScope s_Wish_done) (by decide +kernel)) (fun _ _ _ _ _ => (pg_name (i := 3) sc_Wish_done.nd rfl (by first | exact Or.inl rfl | exact Or.inr rfl))) (fun _ _ _ _ _ => pts_nil) (fun _ _ _ _ _ => (pe_tup (pa_cons (pv 3) (pa_cons (pe_ix (G.k_ixU (K := K) (hu_of hr)) (G.k_fld (K := K) (pv 0) rfl) (pv 3) (fun _ _ => rfl)) pa_nil)))))
  (pss_one (ps_ret (pe_tup (pa_cons (G.k_fld (K := K) (pv 0) rfl) (pa_cons (pv 1) (pa_cons (pv 2) pa_nil)))))))), ?_⟩
    have o := o.openW
    refine r_seq ?_
    refine comp_pairs (l := w.tk) rfl (fun x => rfl) rfl o (.tail _ (.head _)) (.head _) (by assumption) (by assumption) rfl hw.nt hw.lt (fun L1 H1 D1 as1 o1 s1 p1 => ?_)
    refine r_seq ?_
    refine comp_pairs (l := w.pl) rfl (fun x => rfl) rfl o1 (.tail _ (.tail _ (.tail _ (.head _)))) (.tail _ (.head _)) (by assumption) (by assumption) rfl hw.np hw.lp (fun L2 H2 D2 as2 o2 s2 p2 => ?_)
    walk_at "go"
    rename_i TT H3 o3
    obtain ⟨o4, s4, e4⟩ := o3.frz
    refine k _ _ TT L1 L2 as1 as2 ?_ ((s1.trans s2).trans s4) (e4 _ (.head _)) (p1.mono (s2.trans s4)) (p2.mono s4)
    refine o4.re ?_
    simp [cW]
    exact .swap _ _ _
end
end PP

namespace PP
open PySem PySem.Spec PyProof.Rows L2 G
/-! the class Gifts -/
structure GR where
  g : Addr
  dx : Addr
  l : Addr
  pe : Int
  xs : XS
def cGr (a : A) (Y : GR) : List Cell := cG a.c_Gifts a.c_Wish Y.g Y.dx Y.l Y.pe Y.xs
structure GOk (Y : GR) : Prop where
  w : ∀ x ∈ Y.xs, WOk x.2
  n : Y.xs.length ≤ 8
  p : 1 ≤ Y.pe ∧ Y.pe ≤ 5
def clsOf (a : A) : Err → Addr
  | .people => a.c_BadPeople
  | .person => a.c_BadPerson
  | .word => a.c_BadWord
  | .price => a.c_BadPrice
  | .many => a.c_BadMany
  | .wish => a.c_BadWish
  | .amount => a.c_BadAmount
  | .none => a.c_NoneFree
  | .much => a.c_TooMuch
  | .toomany => a.c_TooMany
theorem nt {b : Bool} (h : (!b) = true) : b = false := by cases b <;> first | rfl | cases h
theorem nf {b : Bool} (h : (!b) = false) : b = true := by cases b <;> first | rfl | cases h
def sp_Gifts_init (K : PySem.W.Frag) (a : A) : Sp := fun vs H Q E => ∃ (D : Hp) (R : List (List Cell)) (g dx : Addr) (p : V) (t : String), vs = [.ref g, p] ∧ Ok H D ([(g, .ins a.c_Gifts dx [])] :: R) ∧ Tv K D p t ∧
  (isC 1 5 p = true → ∀ H' l, Ok H' D (cGr a ⟨g, dx, l, intOf p, []⟩ :: R) → Q .non H') ∧ (isC 1 5 p = false → ∀ H', Ok H' D R → E (.ref a.c_BadPeople) none H')
def sp_look_at (K : PySem.W.Frag) (a : A) : Sp := fun vs H Q E => ∃ (D : Hp) (R : List (List Cell)) (Y : GR) (p : V) (t : String), vs = [.ref Y.g, p] ∧ Ok H D (cGr a Y :: R) ∧ Tv K D p t ∧
  (isC 0 (Y.pe - 1) p = true → ∀ H', Ok H' D (cGr a Y :: R) → Q .non H') ∧ (isC 0 (Y.pe - 1) p = false → ∀ H', Ok H' D (cGr a Y :: R) → E (.ref a.c_BadPerson) none H')
def sp_find (K : PySem.W.Frag) (a : A) (f : Int → List W → V → V → Except Err (Nat × W)) : Sp := fun vs H Q E => ∃ (D : Hp) (R : List (List Cell)) (Y : GR) (p n : V) (t u : String), vs = [.ref Y.g, p, n] ∧ Ok H D (cGr a Y :: R) ∧ Tv K D p t ∧ Tv K D n u ∧ GOk Y ∧
  (∀ i x, f Y.pe (wsOf Y.xs) p n = .ok (i, x.2) → Y.xs[i]? = some x → ∀ H', Ok H' D (cGr a Y :: R) → Q (.ref x.1.p) H') ∧ (∀ e, f Y.pe (wsOf Y.xs) p n = .error e → ∀ H', Ok H' D (cGr a Y :: R) → E (.ref (clsOf a e)) none H')
section
variable {P : Program} {w : World} {K : PySem.W.Frag} {mg : Str → Option Value} {base : Heap} {a : A} {H D : Hp} {Q : VK} {E : XK} {Ms R : List (List G.Cell)}
theorem openGr {Y : GR} (o : Ok H D (cGr a Y :: R)) : Ok H D ([(Y.g, .ins a.c_Gifts Y.dx (gF Y.pe Y.l))] :: [(Y.l, .lst (refs Y.xs))] :: WS a.c_Wish Y.xs :: R) := o.openG
theorem shutGr {Y : GR} (o : Ok H D ([(Y.g, .ins a.c_Gifts Y.dx (gF Y.pe Y.l))] :: [(Y.l, .lst (refs Y.xs))] :: WS a.c_Wish Y.xs :: R)) : Ok H D (cGr a Y :: R) := o.shutG
theorem g_me {Y : GR} {m : Str} {P : Prop} (o : Ok H D Ms) (k : cGr a Y ∈ Ms) (l : (gF Y.pe Y.l).lookup m = none) (q : P) : ∃ b dx fs, V.ref Y.g = .ref b ∧ H b = some (.ins a.c_Gifts dx fs) ∧ fs.lookup m = none ∧ P := ⟨Y.g, Y.dx, _, rfl, o.atC k (.head _), l, q⟩
local macro_rules | `(tactic| walk_at "g3") => `(tactic| ((with_reducible refine' g_me (by assumption) ?k ?l ?_); (case k => walk_at "mem"); (case l => rfl)))
theorem ok_Gifts_init (T : Txt K mg a) : FnOk P w K mg base (L2.CX P w) 3 a.f_Gifts_init a.d_Gifts_init ["self", "people"] (sp_Gifts_init K a) := by
  refine T.Gifts_init.F.okX sc_Gifts_init (fun vs H Q E h => ?_) (fun cdv A outer s H vs Q E hr h => ?_)
  · obtain ⟨D, R, g, dx, p, t, rfl, _⟩ := h
    rfl
  · obtain ⟨D, R, g, dx, p, t, rfl, o, hp, k1, k2⟩ := h
    have := T.cl_Gifts; have := T.na_Gifts_people; have := T.na_Gifts_wishes
    refine ⟨_, (pss_cons (ps_if (pt_not (pt_val (pe_callS (ok_is_count (K := K) T) (hr.mono (by decide)) rfl T.is_count.g T.is_count.k T.is_count.b (fun σ => passAt (takes_of rfl rfl rfl rfl) σ) (pa_cons (pv 1) (pa_cons pe_int (pa_cons (pe_glob (v := .int 5) rfl T.g_MOST_PEOPLE ⟨_, rfl⟩) pa_nil)))))) (pss_one (ps_raise rfl (takes_of rfl rfl rfl rfl) (pmk_own PySem.F.excBase_ValueError T.x_BadPeople.x T.x_BadPeople.g T.x_BadPeople.k (raises_own T.x_BadPeople.b T.x_BadPeople.t) rfl))) pss_nil)
  (pss_cons (G.k_sfld (K := K) (pv 0) (pv 1) rfl)
  (pss_one (G.k_sfld (K := K) (pv 0) (pe_lst pa_nil) rfl)))), ?_⟩
    walk_at "go"
    refine u_is_count (hp.mono o.sub) ?_
    walk_at "go"
    refine r_ite (fun h1 => ?_) (fun h1 => ?_)
    · walk_at "go"
      exact k2 (nt h1) _ o.drop
    · obtain ⟨i, rfl, _⟩ := isC_is (nf h1)
      walk_at "go"
      exact k1 (nf h1) _ _ (shutGr (by
        simp only [WS, refs, List.flatMap_nil, List.map_nil]
        exact Ok.sel (Ok.nil (by assumption)) (.pick (.there .here) (.pick (.there .here) (.pick .here (.done .here))))))
theorem ok_Gifts_look_at (T : Txt K mg a) : FnOk P w K mg base (L2.CX P w) 3 a.f_Gifts_look_at a.d_Gifts_look_at ["self", "person"] (sp_look_at K a) := by
  refine T.Gifts_look_at.F.okX sc_Gifts_look_at (fun vs H Q E h => ?_) (fun cdv A outer s H vs Q E hr h => ?_)
  · obtain ⟨D, R, Y, p, t, rfl, _⟩ := h
    rfl
  · obtain ⟨D, R, Y, p, t, rfl, o, hp, k1, k2⟩ := h
    have := T.cl_Gifts; have := T.na_Gifts_people; have := T.na_Gifts_wishes
    refine ⟨_, (pss_one (ps_if (pt_not (pt_val (pe_callS (ok_is_count (K := K) T) (hr.mono (by decide)) rfl T.is_count.g T.is_count.k T.is_count.b (fun σ => passAt (takes_of rfl rfl rfl rfl) σ) (pa_cons (pv 1) (pa_cons pe_int (pa_cons (pe_op op_sub (G.k_fld (K := K) (pv 0) rfl) pe_int) pa_nil)))))) (pss_one (ps_raise rfl (takes_of rfl rfl rfl rfl) (pmk_own PySem.F.excBase_ValueError T.x_BadPerson.x T.x_BadPerson.g T.x_BadPerson.k (raises_own T.x_BadPerson.b T.x_BadPerson.t) rfl))) pss_nil)), ?_⟩
    have o := openGr o
    walk_at "go"
    refine u_is_count (hp.mono o.sub) ?_
    walk_at "go"
    refine r_ite (fun h1 => ?_) (fun h1 => ?_)
    · walk_at "go"
      exact k2 (nt h1) _ (shutGr o)
    · walk_at "go"
      exact k1 (nf h1) _ (shutGr o)
theorem u_look_at {Y : GR} {p : V} {t : String} (o : Ok H D Ms) (k : Pk Ms (cGr a Y) R) (h : Tv K D p t) (q1 : isC 0 (Y.pe - 1) p = true → ∀ H', Ok H' D (cGr a Y :: R) → Q .non H') (q2 : isC 0 (Y.pe - 1) p = false → ∀ H', Ok H' D (cGr a Y :: R) → E (.ref a.c_BadPerson) none H') :
    sp_look_at K a [.ref Y.g, p] H Q E := ⟨D, R, Y, p, t, rfl, o.pk k, h, q1, q2⟩
theorem openAt {Y : GR} {i : Nat} {x : WA × W} (o : Ok H D (cGr a Y :: R)) (h : Y.xs[i]? = some x) : Ok H D ([(x.1.p, .ins a.c_Wish x.1.dx (wishF x.2 x.1.t x.1.q))] :: [(x.1.t, .dK (kvs x.2.tk))] :: [(x.1.q, .dK (kvs x.2.pl))] :: [(Y.g, .ins a.c_Gifts Y.dx (gF Y.pe Y.l))] :: [(Y.l, .lst (refs Y.xs))] :: WSx a.c_Wish Y.xs i :: R) :=
  (Ok.openW (((openGr o).pk (.there (.there .here))).openI h)).sel (.pick .here (.pick .here (.pick .here (.pick (.there .here) (.pick (.there .here) (.pick .here (.done .here)))))))
theorem shutAt {Y : GR} {i : Nat} {x : WA × W} {w' : W} (h : Y.xs[i]? = some x) (o : Ok H D ([(x.1.p, .ins a.c_Wish x.1.dx (wishF w' x.1.t x.1.q))] :: [(x.1.t, .dK (kvs w'.tk))] :: [(x.1.q, .dK (kvs w'.pl))] :: [(Y.g, .ins a.c_Gifts Y.dx (gF Y.pe Y.l))] :: [(Y.l, .lst (refs Y.xs))] :: WSx a.c_Wish Y.xs i :: R)) :
    Ok H D (cGr a { Y with xs := Y.xs.set i (x.1, w') } :: R) := by
  refine shutGr (Y := { Y with xs := Y.xs.set i (x.1, w') }) ?_
  have o1 : Ok H D (cW a.c_Wish (x.1, w').1 (x.1, w').2 :: WSx a.c_Wish Y.xs i :: [(Y.g, .ins a.c_Gifts Y.dx (gF Y.pe Y.l))] :: [(Y.l, .lst (refs Y.xs))] :: R) :=
    (Ok.shutW o).sel (.pick .here (.pick (.there (.there .here)) (.pick .here (.pick .here (.done .here)))))
  have o2 := o1.shutI (List.getElem?_eq_some_iff.mp h).1
  show Ok H D (_ :: [(Y.l, .lst (refs (Y.xs.set i (x.1, w'))))] :: _ :: R)
  rw [refs_set (x' := (x.1, w')) h rfl]
  exact o2.sel (.pick (.there .here) (.pick (.there .here) (.pick .here (.done .here))))
theorem ok_Gifts_own_wish (T : Txt K mg a) : FnOk P w K mg base (L2.CX P w) 4 a.f_Gifts_own_wish a.d_Gifts_own_wish ["self", "owner", "wish"] (sp_find K a ownAt) := by
  refine T.Gifts_own_wish.F.okX sc_Gifts_own_wish (fun vs H Q E h => ?_) (fun cdv A outer s H vs Q E hr h => ?_)
  · obtain ⟨D, R, Y, p, n, t, u, rfl, _⟩ := h
    rfl
  · obtain ⟨D, R, Y, p, n, t, u, rfl, o, hp, hn, hY, k1, k2⟩ := h
    have := T.cl_Gifts; have := T.na_Gifts_people; have := T.na_Gifts_wishes; have := T.cl_Wish; have := T.na_Wish_owner; have := T.na_Wish_word; have := T.na_Wish_price; have := T.na_Wish_many; have := T.na_Wish_stands; have := T.na_Wish_takings; have := T.na_Wish_pledges
    refine ⟨_, (pss_cons (ps_expr (G.pe_me (pv 0) T.cl_Gifts T.Gifts_look_at.m (ok_Gifts_look_at (K := K) T) (hr.mono (by decide)) T.Gifts_look_at.b (passes_call (takes_of rfl rfl rfl rfl) (fun _ _ _ _ h => h)) (pa_cons (pv 1) pa_nil)))
  (pss_cons (ps_if (pt_not (pt_val (pe_callS (ok_is_count (K := K) T) (hr.mono (by decide)) rfl T.is_count.g T.is_count.k T.is_count.b (fun σ => passAt (takes_of rfl rfl rfl rfl) σ) (pa_cons (pv 2) (pa_cons pe_int (pa_cons (pe_op op_sub (pe_callB (G.k_lenU (K := K)) (by rfl) T.n_len (by decide +kernel) (pa_cons (G.k_fld (K := K) (pv 0) rfl) pa_nil)) pe_int) pa_nil)))))) (pss_one (ps_raise rfl (takes_of rfl rfl rfl rfl) (pmk_own PySem.F.excBase_ValueError T.x_BadWish.x T.x_BadWish.g T.x_BadWish.k (raises_own T.x_BadWish.b T.x_BadWish.t) rfl))) pss_nil)
  (pss_cons (ps_set (i := 3) sc_Gifts_own_wish.nd rfl (by first | exact Or.inl rfl | exact Or.inr rfl) (pe_ix (G.k_ixU (K := K) (hu_of hr)) (G.k_fld (K := K) (pv 0) rfl) (pv 2) (fun _ _ => rfl)))
  (pss_cons (ps_if (PW.pt (pw_or (pt_cmpR (G.k_neU (K := K) hr) (G.k_fld (K := K) (pv 3) rfl) (pv 1) (nomark _)) (pw_or1 (pt_not (pt_val (G.k_fld (K := K) (pv 3) rfl)))))) (pss_one (ps_raise rfl (takes_of rfl rfl rfl rfl) (pmk_own PySem.F.excBase_ValueError T.x_BadWish.x T.x_BadWish.g T.x_BadWish.k (raises_own T.x_BadWish.b T.x_BadWish.t) rfl))) pss_nil)
  (pss_one (ps_ret (pv 3))))))), ?_⟩
    walk_at "go"
    refine u_look_at o .here hp (fun h1 H1 o1 => ?_) (fun h1 H1 o1 => k2 .person (ownAt_p h1) _ o1)
    have o2 := openGr o1
    walk_at "go"
    refine u_is_count (hn.mono o2.sub) ?_
    rw [show ((refs Y.xs).length : Int) = ((wsOf Y.xs).length : Int) by rw [refs_len, wsOf_len]]
    walk_at "go"
    refine r_ite (fun h2 => ?_) (fun h2 => ?_)
    · walk_at "go"
      exact k2 .wish (ownAt_w h1 (nt h2)) _ o1
    · have h2 := nf h2
      obtain ⟨j, rfl, _⟩ := isC_is h1
      obtain ⟨m, rfl, h3, h4⟩ := isC_is h2
      obtain ⟨x, hx⟩ : ∃ x, Y.xs[m.toNat]? = some x := ⟨_, List.getElem?_eq_getElem (by rw [wsOf_len] at h4; omega)⟩
      have ef := ownAt_e (x := x.2) h1 h2 (by rw [wsOf_get, hx]; rfl)
      walk_at "go"
      refine r_ixL (SqL.of (o2.at1 (.tail _ (.head _)))) (at_wish h3 hx) ?_
      have o3 := openAt o1 hx
      walk_at "go"
      rw [decV]
      refine r_ite (fun h5 => ?_) (fun h5 => ?_)
      · walk_at "go"
        exact k2 .wish (by rw [ef, h5]; rfl) _ o1
      · walk_at "go"
        refine r_ite (fun h6 => ?_) (fun h6 => ?_)
        · walk_at "go"
          exact k2 .wish (by rw [ef, h5, h6]; rfl) _ o1
        · walk_at "go"
          exact k1 _ x (by rw [ef, h5, h6]; rfl) hx _ o1
theorem ok_Gifts_other_wish (T : Txt K mg a) : FnOk P w K mg base (L2.CX P w) 4 a.f_Gifts_other_wish a.d_Gifts_other_wish ["self", "person", "wish"] (sp_find K a otherAt) := by
  refine T.Gifts_other_wish.F.okX sc_Gifts_other_wish (fun vs H Q E h => ?_) (fun cdv A outer s H vs Q E hr h => ?_)
  · obtain ⟨D, R, Y, p, n, t, u, rfl, _⟩ := h
    rfl
  · obtain ⟨D, R, Y, p, n, t, u, rfl, o, hp, hn, hY, k1, k2⟩ := h
    have := T.cl_Gifts; have := T.na_Gifts_people; have := T.na_Gifts_wishes; have := T.cl_Wish; have := T.na_Wish_owner; have := T.na_Wish_word; have := T.na_Wish_price; have := T.na_Wish_many; have := T.na_Wish_stands; have := T.na_Wish_takings; have := T.na_Wish_pledges
    refine ⟨_, (pss_cons (ps_expr (G.pe_me (pv 0) T.cl_Gifts T.Gifts_look_at.m (ok_Gifts_look_at (K := K) T) (hr.mono (by decide)) T.Gifts_look_at.b (passes_call (takes_of rfl rfl rfl rfl) (fun _ _ _ _ h => h)) (pa_cons (pv 1) pa_nil)))
  (pss_cons (ps_if (pt_not (pt_val (pe_callS (ok_is_count (K := K) T) (hr.mono (by decide)) rfl T.is_count.g T.is_count.k T.is_count.b (fun σ => passAt (takes_of rfl rfl rfl rfl) σ) (pa_cons (pv 2) (pa_cons pe_int (pa_cons (pe_op op_sub (pe_callB (G.k_lenU (K := K)) (by rfl) T.n_len (by decide +kernel) (pa_cons (G.k_fld (K := K) (pv 0) rfl) pa_nil)) pe_int) pa_nil)))))) (pss_one (ps_raise rfl (takes_of rfl rfl rfl rfl) (pmk_own PySem.F.excBase_ValueError T.x_BadWish.x T.x_BadWish.g T.x_BadWish.k (raises_own T.x_BadWish.b T.x_BadWish.t) rfl))) pss_nil)
  (pss_cons (ps_set (i := 3) sc_Gifts_other_wish.nd rfl (by first | exact Or.inl rfl | exact Or.inr rfl) (pe_ix (G.k_ixU (K := K) (hu_of hr)) (G.k_fld (K := K) (pv 0) rfl) (pv 2) (fun _ _ => rfl)))
  (pss_cons (ps_if (PW.pt (pw_or (pt_cmpR (G.k_eqU (K := K) hr) (G.k_fld (K := K) (pv 3) rfl) (pv 1) (nomark _)) (pw_or1 (pt_not (pt_val (G.k_fld (K := K) (pv 3) rfl)))))) (pss_one (ps_raise rfl (takes_of rfl rfl rfl rfl) (pmk_own PySem.F.excBase_ValueError T.x_BadWish.x T.x_BadWish.g T.x_BadWish.k (raises_own T.x_BadWish.b T.x_BadWish.t) rfl))) pss_nil)
  (pss_one (ps_ret (pv 3))))))), ?_⟩
    walk_at "go"
    refine u_look_at o .here hp (fun h1 H1 o1 => ?_) (fun h1 H1 o1 => k2 .person (otherAt_p h1) _ o1)
    have o2 := openGr o1
    walk_at "go"
    refine u_is_count (hn.mono o2.sub) ?_
    rw [show ((refs Y.xs).length : Int) = ((wsOf Y.xs).length : Int) by rw [refs_len, wsOf_len]]
    walk_at "go"
    refine r_ite (fun h2 => ?_) (fun h2 => ?_)
    · walk_at "go"
      exact k2 .wish (otherAt_w h1 (nt h2)) _ o1
    · have h2 := nf h2
      obtain ⟨j, rfl, _⟩ := isC_is h1
      obtain ⟨m, rfl, h3, h4⟩ := isC_is h2
      obtain ⟨x, hx⟩ : ∃ x, Y.xs[m.toNat]? = some x := ⟨_, List.getElem?_eq_getElem (by rw [wsOf_len] at h4; omega)⟩
      have ef := otherAt_e (x := x.2) h1 h2 (by rw [wsOf_get, hx]; rfl)
      walk_at "go"
      refine r_ixL (SqL.of (o2.at1 (.tail _ (.head _)))) (at_wish h3 hx) ?_
      have o3 := openAt o1 hx
      walk_at "go"
      rw [decV]
      refine r_ite (fun h5 => ?_) (fun h5 => ?_)
      · walk_at "go"
        exact k2 .wish (by rw [ef, h5]; rfl) _ o1
      · walk_at "go"
        refine r_ite (fun h6 => ?_) (fun h6 => ?_)
        · walk_at "go"
          exact k2 .wish (by rw [ef, h5, h6]; rfl) _ o1
        · walk_at "go"
          exact k1 _ x (by rw [ef, h5, h6]; rfl) hx _ o1
end
end PP

namespace PP
open PySem PySem.Spec PyProof.Rows L2 G
/-! the deeds on a list -/
def sp_m3 (K : PySem.W.Frag) (a : A) (f : Int → List W → V → V → V → Except Err (List W × Int)) : Sp := fun vs H Q E => ∃ (D : Hp) (R : List (List Cell)) (Y : GR) (p n c : V) (t u v : String), vs = [.ref Y.g, p, n, c] ∧ Ok H D (cGr a Y :: R) ∧ Tv K D p t ∧ Tv K D n u ∧ Tv K D c v ∧ GOk Y ∧
  (∀ ws' r, f Y.pe (wsOf Y.xs) p n c = .ok (ws', r) → ∀ H' xs', wsOf xs' = ws' → Ok H' D (cGr a { Y with xs := xs' } :: R) → Q (.int r) H') ∧ (∀ e, f Y.pe (wsOf Y.xs) p n c = .error e → ∀ H', Ok H' D (cGr a Y :: R) → E (.ref (clsOf a e)) none H')
section
variable {P : Program} {w : World} {K : PySem.W.Frag} {mg : Str → Option Value} {base : Heap} {a : A} {H D : Hp} {Q : VK} {E : XK} {Ms R : List (List G.Cell)}
local macro_rules | `(tactic| walk_at "g3") => `(tactic| ((with_reducible refine' g_me (by assumption) ?k ?l ?_); (case k => walk_at "mem"); (case l => rfl)))
theorem u_find {f : Int → List W → V → V → Except Err (Nat × W)} {Y : GR} {p n : V} {t u : String} (o : Ok H D Ms) (k : Pk Ms (cGr a Y) R) (hp : Tv K D p t) (hn : Tv K D n u) (hY : GOk Y)
  (q1 : ∀ i x, f Y.pe (wsOf Y.xs) p n = .ok (i, x.2) → Y.xs[i]? = some x → ∀ H', Ok H' D (cGr a Y :: R) → Q (.ref x.1.p) H') (q2 : ∀ e, f Y.pe (wsOf Y.xs) p n = .error e → ∀ H', Ok H' D (cGr a Y :: R) → E (.ref (clsOf a e)) none H') :
    sp_find K a f [.ref Y.g, p, n] H Q E := ⟨D, R, Y, p, n, t, u, rfl, o.pk k, hp, hn, hY, q1, q2⟩
theorem pk_append {α : Type} {Ms R : List α} {C : α} (k : Pk Ms C R) : C ∈ Ms := k.mem
theorem u_W {C : Addr} {x : WA} {w' : W} {d : Addr} {Ns : List (List Cell)} (o : Ok H D ([(x.p, .ins C x.dx (wishF w' x.t x.q))] :: [(x.t, .dK (kvs w'.tk))] :: [(x.q, .dK (kvs w'.pl))] :: Ns)) : Ok H D (cW C x w' :: Ns) := Ok.shutW o
theorem ok_Gifts_alter (T : Txt K mg a) : FnOk P w K mg base (L2.CX P w) 5 a.f_Gifts_alter a.d_Gifts_alter ["self", "owner", "wish", "many"] (sp_m3 K a mAlter) := by
  refine T.Gifts_alter.F.okX sc_Gifts_alter (fun vs H Q E h => ?_) (fun cdv A outer s H vs Q E hr h => ?_)
  · obtain ⟨D, R, Y, p, n, c, t, u, v, rfl, _⟩ := h
    rfl
  · obtain ⟨D, R, Y, p, n, c, t, u, v, rfl, o, hp, hn, hc, hY, k1, k2⟩ := h
    have := T.cl_Gifts; have := T.na_Gifts_people; have := T.na_Gifts_wishes; have := T.cl_Wish; have := T.na_Wish_owner; have := T.na_Wish_word; have := T.na_Wish_price; have := T.na_Wish_many; have := T.na_Wish_stands; have := T.na_Wish_takings; have := T.na_Wish_pledges
    refine ⟨_, (pss_cons (ps_set (i := 4) sc_Gifts_alter.nd rfl (by first | exact Or.inl rfl | exact Or.inr rfl) (G.pe_me (pv 0) T.cl_Gifts T.Gifts_own_wish.m (ok_Gifts_own_wish (K := K) T) (hr.mono (by decide)) T.Gifts_own_wish.b (passes_call (takes_of rfl rfl rfl rfl) (fun _ _ _ _ h => h)) (pa_cons (pv 1) (pa_cons (pv 2) pa_nil))))
  (pss_cons (ps_if (pt_not (pt_val (pe_callS (ok_is_count (K := K) T) (hr.mono (by decide)) rfl T.is_count.g T.is_count.k T.is_count.b (fun σ => passAt (takes_of rfl rfl rfl rfl) σ) (pa_cons (pv 3) (pa_cons pe_int (pa_cons (pe_glob (v := .int 3) rfl T.g_MOST_PIECES ⟨_, rfl⟩) pa_nil)))))) (pss_one (ps_raise rfl (takes_of rfl rfl rfl rfl) (pmk_own PySem.F.excBase_ValueError T.x_BadMany.x T.x_BadMany.g T.x_BadMany.k (raises_own T.x_BadMany.b T.x_BadMany.t) rfl))) pss_nil)
  (pss_cons (ps_set (i := 5) sc_Gifts_alter.nd rfl (by first | exact Or.inl rfl | exact Or.inr rfl) (G.k_fld (K := K) (pv 4) rfl))
  (pss_cons (G.k_sfld (K := K) (pv 4) (pv 3) rfl)
  (pss_one (ps_ret (pv 5))))))), ?_⟩
    walk_at "go"
    refine u_find o .here hp hn hY (fun i x ef hx H1 o1 => ?_) (fun e ef H1 o1 => k2 e (by unfold mAlter; rw [ef]) _ o1)
    walk_at "go"
    refine u_is_count (hc.mono o1.sub) ?_
    walk_at "go"
    refine r_ite (fun h2 => ?_) (fun h2 => ?_)
    · walk_at "go"
      exact k2 .many (by unfold mAlter; rw [ef]; simp only [nt h2]; rfl) _ o1
    · have h2 := nf h2
      obtain ⟨m, rfl, h3, h4⟩ := isC_is h2
      have o3 := openAt o1 hx
      have hw := hY.w x (List.mem_of_getElem? hx)
      walk_at "go"
      exact k1 _ _ (by unfold mAlter; rw [ef]; simp only [h2]; rfl) _ (Y.xs.set i (x.1, { x.2 with many := m })) (wsOf_set) (shutAt hx (by walk_at "fin"))
theorem u_free {C : Addr} {x : WA} {w' : W} {Ns : List (List Cell)} (ec : C = a.c_Wish) (o : Ok H D ([(x.p, .ins C x.dx (wishF w' x.t x.q))] :: [(x.t, .dK (kvs w'.tk))] :: [(x.q, .dK (kvs w'.pl))] :: Ns)) (hw : WOk w')
  (q : ∀ H', Ok H' D ([(x.p, .ins C x.dx (wishF w' x.t x.q))] :: [(x.t, .dK (kvs w'.tk))] :: [(x.q, .dK (kvs w'.pl))] :: Ns) → Q (.int (free w')) H') : sp_Wish_free a [.ref x.p] H Q E := by
  subst ec
  exact ⟨D, Ns, x, w', rfl, Ok.shutW o, hw, fun H' o' => q H' o'.openW⟩
theorem u_lacking {C : Addr} {x : WA} {w' : W} {Ns : List (List Cell)} (ec : C = a.c_Wish) (o : Ok H D ([(x.p, .ins C x.dx (wishF w' x.t x.q))] :: [(x.t, .dK (kvs w'.tk))] :: [(x.q, .dK (kvs w'.pl))] :: Ns)) (hw : WOk w')
  (q : ∀ H', Ok H' D ([(x.p, .ins C x.dx (wishF w' x.t x.q))] :: [(x.t, .dK (kvs w'.tk))] :: [(x.q, .dK (kvs w'.pl))] :: Ns) → Q (.int (lacking w')) H') : sp_Wish_lacking a [.ref x.p] H Q E := by
  subst ec
  exact ⟨D, Ns, x, w', rfl, Ok.shutW o, hw, fun H' o' => q H' o'.openW⟩
theorem ok_Gifts_take (T : Txt K mg a) : FnOk P w K mg base (L2.CX P w) 5 a.f_Gifts_take a.d_Gifts_take ["self", "person", "wish", "count"] (sp_m3 K a mTake) := by
  refine T.Gifts_take.F.okX sc_Gifts_take (fun vs H Q E h => ?_) (fun cdv A outer s H vs Q E hr h => ?_)
  · obtain ⟨D, R, Y, p, n, c, t, u, v, rfl, _⟩ := h
    rfl
  · obtain ⟨D, R, Y, p, n, c, t, u, v, rfl, o, hp, hn, hc, hY, k1, k2⟩ := h
    have := T.cl_Gifts; have := T.na_Gifts_people; have := T.na_Gifts_wishes; have := T.cl_Wish; have := T.na_Wish_owner; have := T.na_Wish_word; have := T.na_Wish_price; have := T.na_Wish_many; have := T.na_Wish_stands; have := T.na_Wish_takings; have := T.na_Wish_pledges
    refine ⟨_, (pss_cons (ps_set (i := 4) sc_Gifts_take.nd rfl (by first | exact Or.inl rfl | exact Or.inr rfl) (G.pe_me (pv 0) T.cl_Gifts T.Gifts_other_wish.m (ok_Gifts_other_wish (K := K) T) (hr.mono (by decide)) T.Gifts_other_wish.b (passes_call (takes_of rfl rfl rfl rfl) (fun _ _ _ _ h => h)) (pa_cons (pv 1) (pa_cons (pv 2) pa_nil))))
  (pss_cons (ps_if (pt_not (pt_val (pe_callS (ok_is_count (K := K) T) (hr.mono (by decide)) rfl T.is_count.g T.is_count.k T.is_count.b (fun σ => passAt (takes_of rfl rfl rfl rfl) σ) (pa_cons (pv 3) (pa_cons pe_int (pa_cons (pe_glob (v := .int 3) rfl T.g_MOST_PIECES ⟨_, rfl⟩) pa_nil)))))) (pss_one (ps_raise rfl (takes_of rfl rfl rfl rfl) (pmk_own PySem.F.excBase_ValueError T.x_BadMany.x T.x_BadMany.g T.x_BadMany.k (raises_own T.x_BadMany.b T.x_BadMany.t) rfl))) pss_nil)
  (pss_cons (ps_if (pt_cmpR op_lt (G.pe_me0 (pv 4) T.cl_Wish T.Wish_free.m (ok_Wish_free (K := K) T) (hr.mono (by decide)) T.Wish_free.b (passes_call (takes_of rfl rfl rfl rfl) (fun _ _ _ _ h => h))) (pv 3) (nomark _)) (pss_one (ps_raise rfl (takes_of rfl rfl rfl rfl) (pmk_own PySem.F.excBase_ValueError T.x_NoneFree.x T.x_NoneFree.g T.x_NoneFree.k (raises_own T.x_NoneFree.b T.x_NoneFree.t) rfl))) pss_nil)
  (pss_cons (ps_asg (pe_op (G.k_addU (K := K)) (pe_dget2 (hu_of hr) (G.k_fld (K := K) (pv 4) rfl) (pv 1) pe_int ⟨rfl, rfl, rfl, rfl⟩) (pv 3)) (pg_sub (G.k_fld (K := K) (pv 4) rfl) (pv 1) (G.set_U (hu_of hr))))
  (pss_one (ps_ret (G.pe_me0 (pv 4) T.cl_Wish T.Wish_free.m (ok_Wish_free (K := K) T) (hr.mono (by decide)) T.Wish_free.b (passes_call (takes_of rfl rfl rfl rfl) (fun _ _ _ _ h => h))))))))), ?_⟩
    walk_at "go"
    refine u_find o .here hp hn hY (fun i x ef hx H1 o1 => ?_) (fun e ef H1 o1 => k2 e (by unfold mTake; rw [ef]) _ o1)
    walk_at "go"
    refine u_is_count (hc.mono o1.sub) ?_
    walk_at "go"
    refine r_ite (fun h2 => ?_) (fun h2 => ?_)
    · walk_at "go"
      exact k2 .many (by unfold mTake; rw [ef]; simp only [nt h2]; rfl) _ o1
    · have h2 := nf h2
      obtain ⟨m, rfl, h3, h4⟩ := isC_is h2
      have o3 := openAt o1 hx
      have hw := hY.w x (List.mem_of_getElem? hx)
      obtain ⟨j, rfl, h5, h6⟩ := isC_is (otherAt_ok ef).1
      have hj : 0 ≤ j ∧ j < 5 := ⟨h5, by have := hY.p; omega⟩
      walk_at "go"
      refine u_free rfl o3 hw fun H2 o4 => ?_
      walk_at "go"
      refine r_ite (fun h7 => ?_) (fun h7 => ?_)
      · walk_at "go"
        exact k2 .none (mTake_n ef h2 h7) _ (by
          have q := shutAt hx o4
          rw [set_same hx] at q
          exact q)
      · walk_at "go"
        rw [al_getD]
        walk_at "go"
        refine r_setDI (by assumption) (.there .here) (kvs_lt hw.lt) fun H3 o5 => ?_
        rw [kvs_put hw.nt] at o5
        have o6 := o5.sel (.pick (.there .here) (.pick .here (.done .here)))
        walk_at "go"
        refine u_free (w' := takeW x.2 j m) rfl o6 (hw.take hj) fun H4 o7 => ?_
        walk_at "go"
        exact k1 _ _ (mTake_o ef h2 h7) _ _ wsOf_set (shutAt hx o7)
theorem ok_Gifts_pledge (T : Txt K mg a) : FnOk P w K mg base (L2.CX P w) 5 a.f_Gifts_pledge a.d_Gifts_pledge ["self", "person", "wish", "amount"] (sp_m3 K a mPledge) := by
  refine T.Gifts_pledge.F.okX sc_Gifts_pledge (fun vs H Q E h => ?_) (fun cdv A outer s H vs Q E hr h => ?_)
  · obtain ⟨D, R, Y, p, n, c, t, u, v, rfl, _⟩ := h
    rfl
  · obtain ⟨D, R, Y, p, n, c, t, u, v, rfl, o, hp, hn, hc, hY, k1, k2⟩ := h
    have := T.cl_Gifts; have := T.na_Gifts_people; have := T.na_Gifts_wishes; have := T.cl_Wish; have := T.na_Wish_owner; have := T.na_Wish_word; have := T.na_Wish_price; have := T.na_Wish_many; have := T.na_Wish_stands; have := T.na_Wish_takings; have := T.na_Wish_pledges
    refine ⟨_, (pss_cons (ps_set (i := 4) sc_Gifts_pledge.nd rfl (by first | exact Or.inl rfl | exact Or.inr rfl) (G.pe_me (pv 0) T.cl_Gifts T.Gifts_other_wish.m (ok_Gifts_other_wish (K := K) T) (hr.mono (by decide)) T.Gifts_other_wish.b (passes_call (takes_of rfl rfl rfl rfl) (fun _ _ _ _ h => h)) (pa_cons (pv 1) (pa_cons (pv 2) pa_nil))))
  (pss_cons (ps_if (pt_not (pt_val (pe_callS (ok_is_count (K := K) T) (hr.mono (by decide)) rfl T.is_count.g T.is_count.k T.is_count.b (fun σ => passAt (takes_of rfl rfl rfl rfl) σ) (pa_cons (pv 3) (pa_cons pe_int (pa_cons (pe_glob (v := .int 20) rfl T.g_MOST_PRICE ⟨_, rfl⟩) pa_nil)))))) (pss_one (ps_raise rfl (takes_of rfl rfl rfl rfl) (pmk_own PySem.F.excBase_ValueError T.x_BadAmount.x T.x_BadAmount.g T.x_BadAmount.k (raises_own T.x_BadAmount.b T.x_BadAmount.t) rfl))) pss_nil)
  (pss_cons (ps_if (PW.pt (pw_and (pt_cmpR (G.k_eqU (K := K) hr) (G.k_fld (K := K) (pv 4) rfl) pe_dnewK (nomark _)) (pw_and1 (pt_cmpR (G.k_eqU (K := K) hr) (G.pe_me0 (pv 4) T.cl_Wish T.Wish_free.m (ok_Wish_free (K := K) T) (hr.mono (by decide)) T.Wish_free.b (passes_call (takes_of rfl rfl rfl rfl) (fun _ _ _ _ h => h))) pe_int (nomark _))))) (pss_one (ps_raise rfl (takes_of rfl rfl rfl rfl) (pmk_own PySem.F.excBase_ValueError T.x_NoneFree.x T.x_NoneFree.g T.x_NoneFree.k (raises_own T.x_NoneFree.b T.x_NoneFree.t) rfl))) pss_nil)
  (pss_cons (ps_if (pt_cmpR op_gt (pv 3) (G.pe_me0 (pv 4) T.cl_Wish T.Wish_lacking.m (ok_Wish_lacking (K := K) T) (hr.mono (by decide)) T.Wish_lacking.b (passes_call (takes_of rfl rfl rfl rfl) (fun _ _ _ _ h => h))) (nomark _)) (pss_one (ps_raise rfl (takes_of rfl rfl rfl rfl) (pmk_own PySem.F.excBase_ValueError T.x_TooMuch.x T.x_TooMuch.g T.x_TooMuch.k (raises_own T.x_TooMuch.b T.x_TooMuch.t) rfl))) pss_nil)
  (pss_cons (ps_asg (pe_op (G.k_addU (K := K)) (pe_dget2 (hu_of hr) (G.k_fld (K := K) (pv 4) rfl) (pv 1) pe_int ⟨rfl, rfl, rfl, rfl⟩) (pv 3)) (pg_sub (G.k_fld (K := K) (pv 4) rfl) (pv 1) (G.set_U (hu_of hr))))
  (pss_one (ps_ret (G.pe_me0 (pv 4) T.cl_Wish T.Wish_lacking.m (ok_Wish_lacking (K := K) T) (hr.mono (by decide)) T.Wish_lacking.b (passes_call (takes_of rfl rfl rfl rfl) (fun _ _ _ _ h => h)))))))))), ?_⟩
    walk_at "go"
    refine u_find o .here hp hn hY (fun i x ef hx H1 o1 => ?_) (fun e ef H1 o1 => k2 e (by unfold mPledge; rw [ef]) _ o1)
    walk_at "go"
    refine u_is_count (hc.mono o1.sub) ?_
    walk_at "go"
    refine r_ite (fun h2 => ?_) (fun h2 => ?_)
    · walk_at "go"
      exact k2 .amount (by unfold mPledge; rw [ef]; simp only [nt h2]; rfl) _ o1
    · have h2 := nf h2
      obtain ⟨m, rfl, h3, h4⟩ := isC_is h2
      have o3 := openAt o1 hx
      have hw := hY.w x (List.mem_of_getElem? hx)
      obtain ⟨j, rfl, h5, h6⟩ := isC_is (otherAt_ok ef).1
      have hj : 0 ≤ j ∧ j < 5 := ⟨h5, by have := hY.p; omega⟩
      have same : ∀ H', Ok H' D ([(x.1.p, .ins a.c_Wish x.1.dx (wishF x.2 x.1.t x.1.q))] :: [(x.1.t, .dK (kvs x.2.tk))] :: [(x.1.q, .dK (kvs x.2.pl))] :: [(Y.g, .ins a.c_Gifts Y.dx (gF Y.pe Y.l))] :: [(Y.l, .lst (refs Y.xs))] :: WSx a.c_Wish Y.xs i :: R) → Ok H' D (cGr a Y :: R) := fun H' o' => by
        have q := shutAt hx o'
        rw [set_same hx] at q
        exact q
      repeat (first | (with_reducible refine r_next ?_) | (with_reducible refine r_seq ?_))
      refine (r_ifJ (x.2.pl.isEmpty && decide (free x.2 = 0)) (fun H' => Ok H' D ([(x.1.p, .ins a.c_Wish x.1.dx (wishF x.2 x.1.t x.1.q))] :: [(x.1.t, .dK (kvs x.2.tk))] :: [(x.1.q, .dK (kvs x.2.pl))] :: [(Y.g, .ins a.c_Gifts Y.dx (gF Y.pe Y.l))] :: [(Y.l, .lst (refs Y.xs))] :: WSx a.c_Wish Y.xs i :: R)) (fun B hB => ?_) (fun h7 H2 o4 => ?_) (fun h7 H2 o4 => ?_))
      · walk_at "go"
        have o9 := (by assumption : Ok _ D ([(_, .dK [])] :: [(x.1.p, _)] :: _)).drop
        rw [kvs_isEmpty]
        refine r_ite (fun h5' => ?_) (fun h5' => ?_)
        · walk_at "go"
          refine u_free rfl o9 hw fun H2 o4 => ?_
          walk_at "go"
          rw [decV]
          have q := hB _ o4
          rw [h5', Bool.true_and] at q
          exact q
        · have q := hB _ o9
          rw [h5', Bool.false_and] at q
          exact q
      · walk_at "go"
        exact k2 .none (mPledge_n ef h2 h7) _ (same _ o4)
      · walk_at "go"
        refine u_lacking rfl o4 hw fun H3 o5 => ?_
        walk_at "go"
        refine r_ite (fun h8 => ?_) (fun h8 => ?_)
        · walk_at "go"
          exact k2 .much (mPledge_m ef h2 h7 h8) _ (same _ o5)
        · walk_at "go"
          rw [al_getD]
          walk_at "go"
          refine r_setDI (by assumption) (.there (.there .here)) (kvs_lt hw.lp) fun H3 o5 => ?_
          rw [kvs_put hw.np] at o5
          have o6 := o5.sel (.pick (.there .here) (.pick (.there .here) (.pick .here (.done .here))))
          walk_at "go"
          refine u_lacking (w' := pledgeW x.2 j m) rfl o6 (hw.pledge hj) fun H4 o7 => ?_
          walk_at "go"
          exact k1 _ _ (mPledge_o ef h2 h7 h8) _ _ wsOf_set (shutAt hx o7)
end
end PP

namespace PP
open PySem PySem.Spec PyProof.Rows L2 G
/-! drop, back, wish -/
def sp_drop (K : PySem.W.Frag) (a : A) : Sp := fun vs H Q E => ∃ (D : Hp) (R : List (List Cell)) (Y : GR) (p n : V) (t u : String), vs = [.ref Y.g, p, n] ∧ Ok H D (cGr a Y :: R) ∧ Tv K D p t ∧ Tv K D n u ∧ GOk Y ∧
  (∀ ws', mDrop Y.pe (wsOf Y.xs) p n = .ok ws' → ∀ H' xs', wsOf xs' = ws' → Ok H' D (cGr a { Y with xs := xs' } :: R) → Q .non H') ∧ (∀ e, mDrop Y.pe (wsOf Y.xs) p n = .error e → ∀ H', Ok H' D (cGr a Y :: R) → E (.ref (clsOf a e)) none H')
def sp_back (K : PySem.W.Frag) (a : A) : Sp := fun vs H Q E => ∃ (D : Hp) (R : List (List Cell)) (Y : GR) (p n : V) (t u : String), vs = [.ref Y.g, p, n] ∧ Ok H D (cGr a Y :: R) ∧ Tv K D p t ∧ Tv K D n u ∧ GOk Y ∧
  (∀ ws' r1 r2, mBack Y.pe (wsOf Y.xs) p n = .ok (ws', r1, r2) → ∀ H' xs' T, wsOf xs' = ws' → Ok H' D ([(T, .tup [.int r1, .int r2])] :: cGr a { Y with xs := xs' } :: R) → Q (.ref T) H') ∧ (∀ e, mBack Y.pe (wsOf Y.xs) p n = .error e → ∀ H', Ok H' D (cGr a Y :: R) → E (.ref (clsOf a e)) none H')
def sp_wish (K : PySem.W.Frag) (a : A) : Sp := fun vs H Q E => ∃ (D : Hp) (R : List (List Cell)) (Y : GR) (o z p m : V) (t1 t2 t3 t4 : String), vs = [.ref Y.g, o, z, p, m] ∧ Ok H D (cGr a Y :: R) ∧ Tv K D o t1 ∧ Tv K D z t2 ∧ Tv K D p t3 ∧ Tv K D m t4 ∧ (∀ y, z = .str y → y.length ≤ 1000) ∧ GOk Y ∧
  (∀ ws' r, mWish Y.pe (wsOf Y.xs) o z p m = .ok (ws', r) → ∀ H' xs', wsOf xs' = ws' → Ok H' D (cGr a { Y with xs := xs' } :: R) → Q (.int r) H') ∧ (∀ e, mWish Y.pe (wsOf Y.xs) o z p m = .error e → ∀ H', Ok H' D (cGr a Y :: R) → E (.ref (clsOf a e)) none H')
section
variable {P : Program} {w : World} {K : PySem.W.Frag} {mg : Str → Option Value} {base : Heap} {a : A} {H D : Hp} {Q : VK} {E : XK} {Ms R : List (List G.Cell)}
local macro_rules | `(tactic| walk_at "g3") => `(tactic| ((with_reducible refine' g_me (by assumption) ?k ?l ?_); (case k => walk_at "mem"); (case l => rfl)))
theorem ok_Gifts_drop (T : Txt K mg a) : FnOk P w K mg base (L2.CX P w) 5 a.f_Gifts_drop a.d_Gifts_drop ["self", "owner", "wish"] (sp_drop K a) := by
  refine T.Gifts_drop.F.okX sc_Gifts_drop (fun vs H Q E h => ?_) (fun cdv A outer s H vs Q E hr h => ?_)
  · obtain ⟨D, R, Y, p, n, t, u, rfl, _⟩ := h
    rfl
  · obtain ⟨D, R, Y, p, n, t, u, rfl, o, hp, hn, hY, k1, k2⟩ := h
    have := T.cl_Gifts; have := T.na_Gifts_people; have := T.na_Gifts_wishes; have := T.cl_Wish; have := T.na_Wish_owner; have := T.na_Wish_word; have := T.na_Wish_price; have := T.na_Wish_many; have := T.na_Wish_stands; have := T.na_Wish_takings; have := T.na_Wish_pledges
    refine ⟨_, (pss_cons (ps_set (i := 3) sc_Gifts_drop.nd rfl (by first | exact Or.inl rfl | exact Or.inr rfl) (G.pe_me (pv 0) T.cl_Gifts T.Gifts_own_wish.m (ok_Gifts_own_wish (K := K) T) (hr.mono (by decide)) T.Gifts_own_wish.b (passes_call (takes_of rfl rfl rfl rfl) (fun _ _ _ _ h => h)) (pa_cons (pv 1) (pa_cons (pv 2) pa_nil))))
  (pss_one (G.k_sfld (K := K) (pv 3) pe_bl rfl))), ?_⟩
    walk_at "go"
    refine u_find o .here hp hn hY (fun i x ef hx H1 o1 => ?_) (fun e ef H1 o1 => k2 e (by unfold mDrop; rw [ef]) _ o1)
    have o3 := openAt o1 hx
    walk_at "go"
    exact k1 _ (by unfold mDrop; rw [ef]) _ (Y.xs.set i (x.1, { x.2 with st := false })) (wsOf_set) (shutAt hx (by walk_at "fin"))
theorem ok_Gifts_back (T : Txt K mg a) : FnOk P w K mg base (L2.CX P w) 4 a.f_Gifts_back a.d_Gifts_back ["self", "person", "wish"] (sp_back K a) := by
  refine T.Gifts_back.F.okX sc_Gifts_back (fun vs H Q E h => ?_) (fun cdv A outer s H vs Q E hr h => ?_)
  · obtain ⟨D, R, Y, p, n, t, u, rfl, _⟩ := h
    rfl
  · obtain ⟨D, R, Y, p, n, t, u, rfl, o, hp, hn, hY, k1, k2⟩ := h
    have := T.cl_Gifts; have := T.na_Gifts_people; have := T.na_Gifts_wishes; have := T.cl_Wish; have := T.na_Wish_owner; have := T.na_Wish_word; have := T.na_Wish_price; have := T.na_Wish_many; have := T.na_Wish_stands; have := T.na_Wish_takings; have := T.na_Wish_pledges
    refine ⟨_, (pss_cons (ps_expr (G.pe_me (pv 0) T.cl_Gifts T.Gifts_look_at.m (ok_Gifts_look_at (K := K) T) (hr.mono (by decide)) T.Gifts_look_at.b (passes_call (takes_of rfl rfl rfl rfl) (fun _ _ _ _ h => h)) (pa_cons (pv 1) pa_nil)))
  (pss_cons (ps_if (pt_not (pt_val (pe_callS (ok_is_count (K := K) T) (hr.mono (by decide)) rfl T.is_count.g T.is_count.k T.is_count.b (fun σ => passAt (takes_of rfl rfl rfl rfl) σ) (pa_cons (pv 2) (pa_cons pe_int (pa_cons (pe_op op_sub (pe_callB (G.k_lenU (K := K)) (by rfl) T.n_len (by decide +kernel) (pa_cons (G.k_fld (K := K) (pv 0) rfl) pa_nil)) pe_int) pa_nil)))))) (pss_one (ps_raise rfl (takes_of rfl rfl rfl rfl) (pmk_own PySem.F.excBase_ValueError T.x_BadWish.x T.x_BadWish.g T.x_BadWish.k (raises_own T.x_BadWish.b T.x_BadWish.t) rfl))) pss_nil)
  (pss_cons (ps_set (i := 3) sc_Gifts_back.nd rfl (by first | exact Or.inl rfl | exact Or.inr rfl) (pe_ix (G.k_ixU (K := K) (hu_of hr)) (G.k_fld (K := K) (pv 0) rfl) (pv 2) (fun _ _ => rfl)))
  (pss_cons (ps_if (PW.pt (pw_and (pt_cmpR (G.k_ninU (K := K) hr) (pv 1) (G.k_fld (K := K) (pv 3) rfl) (by first | rfl | exact nomark _)) (pw_and1 (pt_cmpR (G.k_ninU (K := K) hr) (pv 1) (G.k_fld (K := K) (pv 3) rfl) (by first | rfl | exact nomark _))))) (pss_one (ps_raise rfl (takes_of rfl rfl rfl rfl) (pmk_own PySem.F.excBase_ValueError T.x_BadWish.x T.x_BadWish.g T.x_BadWish.k (raises_own T.x_BadWish.b T.x_BadWish.t) rfl))) pss_nil)
  (pss_one (ps_ret (pe_tup (pa_cons (pe_dpop2 (G.k_fld (K := K) (pv 3) rfl) (pv 1) pe_int ⟨rfl, rfl, rfl, rfl⟩) (pa_cons (pe_dpop2 (G.k_fld (K := K) (pv 3) rfl) (pv 1) pe_int ⟨rfl, rfl, rfl, rfl⟩) pa_nil))))))))), ?_⟩
    walk_at "go"
    refine u_look_at o .here hp (fun h1 H1 o1 => ?_) (fun h1 H1 o1 => k2 .person (by unfold mBack; rw [h1]; rfl) _ o1)
    have o2 := openGr o1
    walk_at "go"
    refine u_is_count (hn.mono o2.sub) ?_
    rw [show ((refs Y.xs).length : Int) = ((wsOf Y.xs).length : Int) by rw [refs_len, wsOf_len]]
    walk_at "go"
    refine r_ite (fun h2 => ?_) (fun h2 => ?_)
    · walk_at "go"
      exact k2 .wish (by unfold mBack; rw [h1, nt h2]; rfl) _ o1
    · have h2 := nf h2
      obtain ⟨j, rfl, _⟩ := isC_is h1
      obtain ⟨m, rfl, h3, h4⟩ := isC_is h2
      obtain ⟨x, hx⟩ : ∃ x, Y.xs[m.toNat]? = some x := ⟨_, List.getElem?_eq_getElem (by rw [wsOf_len] at h4; omega)⟩
      have hw := hY.w x (List.mem_of_getElem? hx)
      have ef : mBack Y.pe (wsOf Y.xs) (.int j) (.int m) = bif !(alGet x.2.tk j).isSome && !(alGet x.2.pl j).isSome then .error .wish else
          .ok ((wsOf Y.xs).set m.toNat (backW x.2 j), (alGet x.2.tk j).getD 0, (alGet x.2.pl j).getD 0) := by
        unfold mBack
        rw [h1, h2]
        show (match (wsOf Y.xs)[m.toNat]? with | none => _ | some x => _) = _
        rw [wsOf_get, hx]
        rfl
      walk_at "go"
      refine r_ixL (SqL.of (o2.at1 (.tail _ (.head _)))) (at_wish h3 hx) ?_
      have o3 := openAt o1 hx
      repeat (first | (with_reducible refine r_name ?_) | (with_reducible refine r_next ?_) | (with_reducible refine r_seq ?_))
      refine r_ifJ (!(alGet x.2.tk j).isSome && !(alGet x.2.pl j).isSome) (fun H' => H' = H1) (fun B hB => ?_) (fun h7 H2 o4 => ?_) (fun h7 H2 o4 => ?_)
      · walk_at "go"
        rw [al_some]
        refine r_ite (fun h5' => ?_) (fun h5' => ?_)
        · walk_at "go"
          rw [al_some]
          have q := hB _ rfl
          rw [h5', Bool.true_and] at q
          exact q
        · have q := hB _ rfl
          rw [h5', Bool.false_and] at q
          exact q
      · subst o4
        walk_at "go"
        exact k2 .wish (by rw [ef, h7]; rfl) _ o1
      · subst o4
        walk_at "go"
        -- the two pops: there or not
        have fin : ∀ (H' : Hp) (T : Addr), Ok H' D ([(T, .tup [.int ((alGet x.2.tk j).getD 0), .int ((alGet x.2.pl j).getD 0)])] :: [(x.1.p, .ins a.c_Wish x.1.dx (wishF (backW x.2 j) x.1.t x.1.q))] :: [(x.1.t, .dK (kvs (backW x.2 j).tk))] :: [(x.1.q, .dK (kvs (backW x.2 j).pl))] :: [(Y.g, .ins a.c_Gifts Y.dx (gF Y.pe Y.l))] :: [(Y.l, .lst (refs Y.xs))] :: WSx a.c_Wish Y.xs m.toNat :: R) → Q (.ref T) H' := fun H' T o' =>
          k1 _ _ _ (by rw [ef, h7]; rfl) H' (Y.xs.set m.toNat (x.1, backW x.2 j)) T wsOf_set ((shutAt hx (o'.sel (.pick (.there .here) (.pick (.there .here) (.pick (.there .here) (.pick (.there .here) (.pick (.there .here) (.pick (.there .here) (.pick .here (.done .here))))))))) : Ok H' D (_ :: [(T, _)] :: R)).sel (.pick (.there .here) (.pick .here (.done .here))))
        refine r_dpopA o3 (.there .here) fun H3 o4 => ?_
        walk_at "go"
        refine r_dpopA o4 (.there (.there .here)) fun H4 o5 => ?_
        walk_at "go"
        exact fin _ _ (by walk_at "fin")
theorem refs_snoc {xs : XS} {y : WA × W} : refs (xs ++ [y]) = refs xs ++ [.ref y.1.p] := by simp [refs]
theorem WS_snoc {C : Addr} {xs : XS} {y : WA × W} : WS C (xs ++ [y]) = WS C xs ++ cW C y.1 y.2 := by simp [WS]
theorem u_is_word2 {x : V} {t : String} (h : Tv K D x t) (o : Ok H D Ms) (l : ∀ z, x = .str z → z.length ≤ 1000) (q : ∀ H', Ok H' D Ms → Q (.bl (isWd x)) H') : sp_is_word K [x] H Q E := u_is_word (h.mono o.sub) o l q
theorem ok_Gifts_wish (T : Txt K mg a) : FnOk P w K mg base (L2.CX P w) 4 a.f_Gifts_wish a.d_Gifts_wish ["self", "owner", "word", "price", "many"] (sp_wish K a) := by
  refine T.Gifts_wish.F.okX sc_Gifts_wish (fun vs H Q E h => ?_) (fun cdv A outer s H vs Q E hr h => ?_)
  · obtain ⟨D, R, Y, o, z, p, m, t1, t2, t3, t4, rfl, _⟩ := h
    rfl
  · obtain ⟨D, R, Y, ow, z, p, m, t1, t2, t3, t4, rfl, o, g1, g2, g3, g4, hz, hY, k1, k2⟩ := h
    have := T.cl_Gifts; have := T.na_Gifts_people; have := T.na_Gifts_wishes; have := T.cl_Wish; have := T.na_Wish_owner; have := T.na_Wish_word; have := T.na_Wish_price; have := T.na_Wish_many; have := T.na_Wish_stands; have := T.na_Wish_takings; have := T.na_Wish_pledges
    refine ⟨_, (pss_cons (ps_expr (G.pe_me (pv 0) T.cl_Gifts T.Gifts_look_at.m (ok_Gifts_look_at (K := K) T) (hr.mono (by decide)) T.Gifts_look_at.b (passes_call (takes_of rfl rfl rfl rfl) (fun _ _ _ _ h => h)) (pa_cons (pv 1) pa_nil)))
  (pss_cons (ps_if (pt_not (pt_val (pe_callS (ok_is_word (K := K) T) (hr.mono (by decide)) rfl T.is_word.g T.is_word.k T.is_word.b (fun σ => passAt (takes_of rfl rfl rfl rfl) σ) (pa_cons (pv 2) pa_nil)))) (pss_one (ps_raise rfl (takes_of rfl rfl rfl rfl) (pmk_own PySem.F.excBase_ValueError T.x_BadWord.x T.x_BadWord.g T.x_BadWord.k (raises_own T.x_BadWord.b T.x_BadWord.t) rfl))) pss_nil)
  (pss_cons (ps_if (pt_not (pt_val (pe_callS (ok_is_count (K := K) T) (hr.mono (by decide)) rfl T.is_count.g T.is_count.k T.is_count.b (fun σ => passAt (takes_of rfl rfl rfl rfl) σ) (pa_cons (pv 3) (pa_cons pe_int (pa_cons (pe_glob (v := .int 20) rfl T.g_MOST_PRICE ⟨_, rfl⟩) pa_nil)))))) (pss_one (ps_raise rfl (takes_of rfl rfl rfl rfl) (pmk_own PySem.F.excBase_ValueError T.x_BadPrice.x T.x_BadPrice.g T.x_BadPrice.k (raises_own T.x_BadPrice.b T.x_BadPrice.t) rfl))) pss_nil)
  (pss_cons (ps_if (pt_not (pt_val (pe_callS (ok_is_count (K := K) T) (hr.mono (by decide)) rfl T.is_count.g T.is_count.k T.is_count.b (fun σ => passAt (takes_of rfl rfl rfl rfl) σ) (pa_cons (pv 4) (pa_cons pe_int (pa_cons (pe_glob (v := .int 3) rfl T.g_MOST_PIECES ⟨_, rfl⟩) pa_nil)))))) (pss_one (ps_raise rfl (takes_of rfl rfl rfl rfl) (pmk_own PySem.F.excBase_ValueError T.x_BadMany.x T.x_BadMany.g T.x_BadMany.k (raises_own T.x_BadMany.b T.x_BadMany.t) rfl))) pss_nil)
  (pss_cons (ps_if (pt_cmpR (G.k_eqU (K := K) hr) (pe_callB (G.k_lenU (K := K)) (by rfl) T.n_len (by decide +kernel) (pa_cons (G.k_fld (K := K) (pv 0) rfl) pa_nil)) (pe_glob (v := .int 8) rfl T.g_MOST_WISHES ⟨_, rfl⟩) (nomark _)) (pss_one (ps_raise rfl (takes_of rfl rfl rfl rfl) (pmk_own PySem.F.excBase_ValueError T.x_TooMany.x T.x_TooMany.g T.x_TooMany.k (raises_own T.x_TooMany.b T.x_TooMany.t) rfl))) pss_nil)
  (pss_cons (ps_expr (G.k_bm (K := K) (pe_bm PySem.F.plainAttrs_list PySem.F.slot_list_append PySem.F.type_list_append mt_append (G.k_fld (K := K) (pv 0) rfl) (pa_cons (G.pe_mk T.mk_Wish (ok_Wish_init (K := K) T) (hr.mono (by decide)) rfl T.c_Wish T.Wish_init.b (passes_call (takes_of rfl rfl rfl rfl) (fun _ _ _ _ h => h)) (pa_cons (pv 1) (pa_cons (pv 2) (pa_cons (pv 3) (pa_cons (pv 4) pa_nil))))) pa_nil))))
  (pss_one (ps_ret (pe_op op_sub (pe_callB (G.k_lenU (K := K)) (by rfl) T.n_len (by decide +kernel) (pa_cons (G.k_fld (K := K) (pv 0) rfl) pa_nil)) pe_int))))))))), ?_⟩
    walk_at "go"
    refine u_look_at o .here g1 (fun h1 H1 o1 => ?_) (fun h1 H1 o1 => k2 .person (by unfold mWish; rw [h1]; rfl) _ o1)
    walk_at "go"
    refine u_is_word2 g2 o1 hz fun H2 o2 => ?_
    walk_at "go"
    refine r_ite (fun h2 => ?_) (fun h2 => ?_)
    · walk_at "go"
      exact k2 .word (by unfold mWish; rw [h1, nt h2]; rfl) _ o2
    have h2 := nf h2
    walk_at "go"
    refine u_is_count (g3.mono o2.sub) ?_
    walk_at "go"
    refine r_ite (fun h3 => ?_) (fun h3 => ?_)
    · walk_at "go"
      exact k2 .price (by unfold mWish; rw [h1, h2, nt h3]; rfl) _ o2
    have h3 := nf h3
    walk_at "go"
    refine u_is_count (g4.mono o2.sub) ?_
    walk_at "go"
    refine r_ite (fun h4 => ?_) (fun h4 => ?_)
    · walk_at "go"
      exact k2 .many (by unfold mWish; rw [h1, h2, h3, nt h4]; rfl) _ o2
    have h4 := nf h4
    have o3 := openGr o2
    obtain ⟨i1, rfl, _⟩ := isC_is h1
    obtain ⟨z1, rfl, _⟩ := isWd_is h2
    obtain ⟨i2, rfl, _⟩ := isC_is h3
    obtain ⟨i3, rfl, _⟩ := isC_is h4
    walk_at "go"
    rw [decV, show decide (((refs Y.xs).length : Int) = 8) = decide ((wsOf Y.xs).length = 8) by rw [refs_len, wsOf_len]; exact decide_eq_decide.mpr (by omega)]
    refine r_ite (fun h5 => ?_) (fun h5 => ?_)
    · walk_at "go"
      exact k2 .toomany (by unfold mWish; rw [h1, h2, h3, h4, h5]; rfl) _ o2
    walk_at "go"
    rename_i x dx H3 o4
    refine ⟨D, _, _, _, i1, z1, i2, i3, rfl, o4, fun H4 t q o4 => ⟨rfl, ?_⟩⟩
    have o5 := o4.pk (.there (.there .here))
    have hn := hY.n
    walk_at "go"
    refine r_app o5 .here (Nat.lt_of_le_of_lt (show _ ≤ 8 by rw [refs_len]; exact hn) (by decide)) fun H5 o6 => ?_
    walk_at "go"
    have el : ((refs Y.xs ++ [V.ref x]).length : Int) - 1 = ((wsOf Y.xs).length : Int) := by
      rw [List.length_append, refs_len, wsOf_len, List.length_singleton]
      omega
    rw [el]
    refine k1 _ _ (by unfold mWish; rw [h1, h2, h3, h4, h5]; rfl) H5 (Y.xs ++ [(⟨x, dx, t, q⟩, ⟨i1, z1, i2, i3, true, [], []⟩)]) (by unfold wsOf; rw [List.map_append]; rfl) (shutGr ?_)
    show Ok H5 D (_ :: [(Y.l, .lst (refs (Y.xs ++ _)))] :: WS a.c_Wish (Y.xs ++ _) :: R)
    rw [refs_snoc, WS_snoc]
    refine (o6.sel (.pick (.there (.there .here)) (.pick .here (.pick (.there .here) (.pick .here (.done .here)))))).re ?_
    simp
end
end PP

namespace PP
open PySem PySem.Spec PyProof.Rows L2 G
/-! seen -/
def sp_seen (K : PySem.W.Frag) (a : A) : Sp := fun vs H Q E => ∃ (D : Hp) (R : List (List Cell)) (Y : GR) (p : V) (t : String), vs = [.ref Y.g, p] ∧ Ok H D (cGr a Y :: R) ∧ Tv K D p t ∧ GOk Y ∧
  (isC 0 (Y.pe - 1) p = true → ∀ H' D' L lc ts, Ok H' D' ([(L, .lst (ts.map V.ref))] :: lc :: cGr a Y :: R) → Same D D' → RowsIs D' lc ts (seenM (intOf p) (wsOf Y.xs)) → Q (.ref L) H') ∧
  (isC 0 (Y.pe - 1) p = false → ∀ H', Ok H' D (cGr a Y :: R) → E (.ref a.c_BadPerson) none H')
section
variable {P : Program} {w : World} {K : PySem.W.Frag} {mg : Str → Option Value} {base : Heap} {a : A} {H D : Hp} {Q : VK} {E : XK} {Ms R : List (List G.Cell)}
local macro_rules | `(tactic| walk_at "g3") => `(tactic| ((with_reducible refine' g_me (by assumption) ?k ?l ?_); (case k => walk_at "mem"); (case l => rfl)))
theorem seenFrom_len (p : Int) : ∀ (i : Nat) (ws : List W), (seenFrom p i ws).length ≤ ws.length
  | _, [] => Nat.le_refl _
  | i, w :: r => by
    have h := seenFrom_len p (i + 1) r
    have h2 : (rowOf p i w).toList.length ≤ 1 := by cases rowOf p i w <;> simp
    show ((rowOf p i w).toList ++ seenFrom p (i + 1) r).length ≤ _
    rw [List.length_append, List.length_cons]
    omega
theorem ok_Gifts_seen (T : Txt K mg a) : FnOk P w K mg base (L2.CX P w) 4 a.f_Gifts_seen a.d_Gifts_seen ["self", "person"] (sp_seen K a) := by
  refine T.Gifts_seen.F.okX sc_Gifts_seen (fun vs H Q E h => ?_) (fun cdv A outer s H vs Q E hr h => ?_)
  · obtain ⟨D, R, Y, p, t, rfl, _⟩ := h
    rfl
  · obtain ⟨D, R, Y, p, t, rfl, o, hp, hY, k1, k2⟩ := h
    have := T.cl_Gifts; have := T.na_Gifts_people; have := T.na_Gifts_wishes; have := T.cl_Wish; have := T.na_Wish_owner; have := T.na_Wish_word; have := T.na_Wish_price; have := T.na_Wish_many; have := T.na_Wish_stands; have := T.na_Wish_takings; have := T.na_Wish_pledges
    refine ⟨_, (pss_cons (ps_expr (G.pe_me (pv 0) T.cl_Gifts T.Gifts_look_at.m (ok_Gifts_look_at (K := K) T) (hr.mono (by decide)) T.Gifts_look_at.b (passes_call (takes_of rfl rfl rfl rfl) (fun _ _ _ _ h => h)) (pa_cons (pv 1) pa_nil)))
  (pss_cons (ps_set (i := 2) sc_Gifts_seen.nd rfl (by first | exact Or.inl rfl | exact Or.inr rfl) (pe_lst pa_nil))
  (pss_cons (ps_for (passes_of rfl) rfl (G.k_enum (K := K) rfl T.n_enumerate (pa_cons (G.k_fld (K := K) (pv 0) rfl) pa_nil)) (G.k_gtup (K := K) rfl (pgs_cons (pg_name (i := 3) sc_Gifts_seen.nd rfl (by first | exact Or.inl rfl | exact Or.inr rfl)) (pgs_cons (pg_name (i := 4) sc_Gifts_seen.nd rfl (by first | exact Or.inl rfl | exact Or.inr rfl)) pgs_nil)))
  (pss_cons (ps_set (i := 5) sc_Gifts_seen.nd rfl (by first | exact Or.inl rfl | exact Or.inr rfl) (pe_or (pe_cmpR (G.k_neU (K := K) hr) (G.k_fld (K := K) (pv 4) rfl) pe_dnewK (nomark _)) (pe_one (pe_cmpR (G.k_neU (K := K) hr) (G.k_fld (K := K) (pv 4) rfl) pe_dnewK (nomark _)))))
  (pss_one (ps_if (PW.pt (pw_or (pt_val (G.k_fld (K := K) (pv 4) rfl)) (pw_or1 (PW.pt (pw_and (pt_val (pv 5)) (pw_and1 (pt_cmpR (G.k_neU (K := K) hr) (G.k_fld (K := K) (pv 4) rfl) (pv 1) (nomark _)))))))) (pss_cons (ps_set (i := 6) sc_Gifts_seen.nd rfl (by first | exact Or.inl rfl | exact Or.inr rfl) (pe_ifExp (pt_cmpR (G.k_eqU (K := K) hr) (G.k_fld (K := K) (pv 4) rfl) (pv 1) (nomark _)) pe_non (G.pe_me0 (pv 4) T.cl_Wish T.Wish_done.m (ok_Wish_done (K := K) T) (hr.mono (by decide)) T.Wish_done.b (passes_call (takes_of rfl rfl rfl rfl) (fun _ _ _ _ h => h)))))
  (pss_one (ps_expr (G.k_bm (K := K) (pe_bm PySem.F.plainAttrs_list PySem.F.slot_list_append PySem.F.type_list_append mt_append (pv 2) (pa_cons (pe_tup (pa_cons (pv 3) (pa_cons (G.k_fld (K := K) (pv 4) rfl) (pa_cons (G.k_fld (K := K) (pv 4) rfl) (pa_cons (G.k_fld (K := K) (pv 4) rfl) (pa_cons (G.k_fld (K := K) (pv 4) rfl) (pa_cons (pv 6) pa_nil))))))) pa_nil)))))) pss_nil))))
  (pss_one (ps_ret (pv 2)))))), ?_⟩
    walk_at "go"
    refine u_look_at o .here hp (fun h1 H1 o1 => ?_) (fun h1 H1 o1 => k2 h1 _ o1)
    obtain ⟨j, rfl, _⟩ := isC_is h1
    walk_at "go"
    rename_i L H2 o2
    have o3 := openGr (o2.pk (.there .here))
    walk_at "go"
    refine r_ienum (SqL.of (o3.at1 (.tail _ (.head _)))) ?_
    refine for_it (walk_enum (xs := refs Y.xs)) (fun i σ H' => ∃ v1 v2 v3 v4 D' lc ts, σ = [some (.ref Y.g), some (.int j), some (.ref L), v1, v2, v3, v4] ∧ Ok H' D' ([(L, .lst (ts.map V.ref))] :: lc :: cGr a Y :: R) ∧ Same D D' ∧ RowsIs D' lc ts (seenFrom j 0 ((wsOf Y.xs).take i)))
      ⟨none, none, none, none, D, [], [], rfl, o2.sel (.pick .here (.done .here)) |>.nil.sel (.pick (.there .here) (.pick .here (.done .here))), Same.refl D, .nil⟩ ?_ ?_ ?_
    · rintro i σ H' _ ⟨v1, v2, v3, v4, D', lc, ts, rfl, o', s', hr'⟩
      exact SqL.of ((openGr (o'.pk (.there (.there .here)))).at1 (.tail _ (.head _)))
    · rintro i y σ H' H'' hi ⟨v1, v2, v3, v4, D', lc, ts, rfl, o', s', hr'⟩ ⟨TT, x1, x2, rfl, nT, rfl, ex1, ex2⟩
      obtain rfl := Option.some.inj ex1
      rw [refs_len] at hi
      obtain ⟨x, hx⟩ : ∃ x, Y.xs[i]? = some x := ⟨_, List.getElem?_eq_getElem hi⟩
      have ex3 : (refs Y.xs)[i]? = some (.ref x.1.p) := by unfold refs; rw [List.getElem?_map, hx]; rfl
      have ex2 : (refs Y.xs)[i]? = some x2 := ex2
      rw [ex3] at ex2
      obtain rfl := Option.some.inj ex2
      have oT := o'.new (o := .tup [.int (i : Nat), .ref x.1.p]) nT
      refine r_gtup (SqT.of (oT.at1 (.head _))) rfl ?_
      have o4 := openAt (oT.sel (.pick (.there (.there (.there .here))) (.pick (.there .here) (.pick (.there .here) (.done (.there .here)))))) hx
      have hw := hY.w x (List.mem_of_getElem? hx)
      generalize upd H' TT (.tup [.int (i : Nat), .ref x.1.p]) = H3 at o4 oT ⊢
      have hlt : ts.length ≤ 8 := by
        have e1 := Paired.length hr'
        have e2 := seenFrom_len j 0 ((wsOf Y.xs).take i)
        have e3 := hY.n
        rw [List.length_take] at e2
        omega
      have etk : (wsOf Y.xs).take (i + 1) = (wsOf Y.xs).take i ++ [x.2] := by
        rw [List.take_succ, wsOf_get, hx]
        rfl
      have ei : 0 + ((wsOf Y.xs).take i).length = i := by
        rw [List.length_take, wsOf_len]
        omega
      have esn : seenFrom j 0 ((wsOf Y.xs).take (i + 1)) = seenFrom j 0 ((wsOf Y.xs).take i) ++ (rowOf j i x.2).toList := by
        rw [etk, seenFrom_snoc, ei]
      have shut : ∀ {H4 D4 : Hp} {lc4 : List Cell} {zs : List V}, Ok H4 D4 ([(x.1.p, .ins a.c_Wish x.1.dx (wishF x.2 x.1.t x.1.q))] :: [(x.1.t, .dK (kvs x.2.tk))] :: [(x.1.q, .dK (kvs x.2.pl))] :: [(Y.g, .ins a.c_Gifts Y.dx (gF Y.pe Y.l))] :: [(Y.l, .lst (refs Y.xs))] :: WSx a.c_Wish Y.xs i :: [(L, .lst zs)] :: lc4 :: R) → Ok H4 D4 ([(L, .lst zs)] :: lc4 :: cGr a Y :: R) := fun o5 => by
        have q := shutAt hx o5
        rw [set_same hx] at q
        exact q.sel (.pick (.there .here) (.pick (.there .here) (.pick .here (.done .here))))
      clear oT
      iterate 7 walk_at "g1"
      refine r_valJ (te := tOrV _ _) (.bl (!x.2.tk.isEmpty || !x.2.pl.isEmpty)) (fun H4 => Ok H4 D' ([(x.1.p, .ins a.c_Wish x.1.dx (wishF x.2 x.1.t x.1.q))] :: [(x.1.t, .dK (kvs x.2.tk))] :: [(x.1.q, .dK (kvs x.2.pl))] :: [(Y.g, .ins a.c_Gifts Y.dx (gF Y.pe Y.l))] :: [(Y.l, .lst (refs Y.xs))] :: WSx a.c_Wish Y.xs i :: [(L, .lst (ts.map V.ref))] :: lc :: R)) (fun Q' k => ?_) (fun H4 o5 => ?_)
      · walk_at "go"
        refine r_ite (fun h => ?_) (fun h => ?_)
        · rw [kvs_empty] at h
          rw [h] at k
          exact k _ (by walk_at "fin")
        · walk_at "go"
          rw [kvs_empty] at h ⊢
          rw [h] at k
          exact k _ (by walk_at "fin")
      · walk_at "g1"
        with_reducible refine r_ifJ (x.2.st || ((!x.2.tk.isEmpty || !x.2.pl.isEmpty) && !decide (x.2.ow = j))) (fun H4 => Ok H4 D' ([(x.1.p, .ins a.c_Wish x.1.dx (wishF x.2 x.1.t x.1.q))] :: [(x.1.t, .dK (kvs x.2.tk))] :: [(x.1.q, .dK (kvs x.2.pl))] :: [(Y.g, .ins a.c_Gifts Y.dx (gF Y.pe Y.l))] :: [(Y.l, .lst (refs Y.xs))] :: WSx a.c_Wish Y.xs i :: [(L, .lst (ts.map V.ref))] :: lc :: R)) (fun B k => ?_) (fun hc H5 o6 => ?_) (fun hc H5 o6 => ?_)
        · walk_at "go"
          refine r_ite (fun h => ?_) (fun h => ?_)
          · rw [h] at k
            exact k _ o5
          · walk_at "go"
            refine r_ite (fun h2 => ?_) (fun h2 => ?_)
            · walk_at "go"
              rw [decV]
              rw [h, h2] at k
              exact k _ o5
            · rw [h, h2] at k
              exact k _ o5
        · walk_at "go"
          rw [decV]
          refine r_ite (fun h => ?_) (fun h => ?_)
          · walk_at "go"
            rename_i T6 H6 o7 H7 o8
            obtain ⟨o9, s9, e9⟩ := (o8.pk (.there .here)).frz
            have e := e9 _ (.head _)
            have o10 : Ok _ _ ([(x.1.p, .ins a.c_Wish x.1.dx (wishF x.2 x.1.t x.1.q))] :: [(x.1.t, .dK (kvs x.2.tk))] :: [(x.1.q, .dK (kvs x.2.pl))] :: [(Y.g, .ins a.c_Gifts Y.dx (gF Y.pe Y.l))] :: [(Y.l, .lst (refs Y.xs))] :: WSx a.c_Wish Y.xs i :: [(L, .lst (ts.map V.ref ++ [.ref T6]))] :: lc :: R) := o9.sel (by walk_at "sel")
            have o11 := shut o10
            have er : rowOf j i x.2 = some ⟨i, x.2.ow, x.2.word, x.2.price, x.2.many, none⟩ := by
              unfold rowOf
              rw [hc, if_pos (of_decide_eq_true h)]
              rfl
            refine ⟨_, _, _, _, _, lc, ts ++ [T6], rfl, (by rw [List.map_append]; exact o11), s'.trans s9, ?_⟩
            rw [esn, er]
            exact Paired.snoc (hr'.mono s9 fun c h => h) ⟨_, e, rfl⟩
          · walk_at "go"
            refine ⟨D', _, x.1, x.2, rfl, Ok.shutW o6, hw, fun H6 D6 T6 L1 L2 as1 as2 o7 s7 e7 p1 p2 => ?_⟩
            have o8 := (o7.pk (.there .here)).openW
            clear o7
            walk_at "go"
            rename_i T7 H7 o7 H8 o9
            obtain ⟨o9, s9, e9⟩ := (o9.pk (.there .here)).frz
            have e := e9 _ (.head _)
            have o10 : Ok _ _ ([(x.1.p, .ins a.c_Wish x.1.dx (wishF x.2 x.1.t x.1.q))] :: [(x.1.t, .dK (kvs x.2.tk))] :: [(x.1.q, .dK (kvs x.2.pl))] :: [(Y.g, .ins a.c_Gifts Y.dx (gF Y.pe Y.l))] :: [(Y.l, .lst (refs Y.xs))] :: WSx a.c_Wish Y.xs i :: [(L, .lst (ts.map V.ref ++ [.ref T7]))] :: [(L1, .lst (as1.map V.ref)), (L2, .lst (as2.map V.ref))] :: lc :: R) := o9.sel (by walk_at "sel")
            have o11 := shut (zs := ts.map V.ref ++ [.ref T7]) (lc4 := (L1, .lst (as1.map V.ref)) :: (L2, .lst (as2.map V.ref)) :: lc) (o10.re (.of_eq (by simp only [List.flatten_cons, List.cons_append, List.nil_append])))
            have er : rowOf j i x.2 = some ⟨i, x.2.ow, x.2.word, x.2.price, x.2.many, some (x.2.st, srt x.2.tk, srt x.2.pl)⟩ := by
              unfold rowOf
              rw [hc, if_neg (of_decide_eq_false h)]
              rfl
            refine ⟨_, _, _, _, _, _, ts ++ [T7], rfl, (by rw [List.map_append]; exact o11), (s'.trans s7).trans s9, ?_⟩
            rw [esn, er]
            exact Paired.snoc (hr'.mono (s7.trans s9) fun c h => .tail _ (.tail _ h)) ⟨_, e, T6, L1, L2, as1, as2, rfl, s9 _ _ e7, .head _, .tail _ (.head _), p1.mono s9, p2.mono s9⟩
        · walk_at "go"
          refine ⟨_, _, _, _, D', lc, ts, rfl, shut o6, s', ?_⟩
          rw [esn]
          have e : rowOf j i x.2 = none := by unfold rowOf; rw [hc]; rfl
          rw [e]
          simpa using hr'
    · rintro σ H' ⟨v1, v2, v3, v4, D', lc, ts, rfl, o', s', hr'⟩
      rw [refs_len, ← wsOf_len, List.take_length] at hr'
      walk_at "go"
      exact k1 h1 _ _ _ _ _ o' s' hr'
end
end PP

namespace PP
open PySem PySem.Spec PyProof.Rows L2 G
/-! the law's numbers -/
theorem big_add {i j : Int} {a : Nat} (ha : i.natAbs < 2 ^ a) (hb : j.natAbs < 2 ^ a) : (i + j).natAbs < 2 ^ (a + 1) := by
  rw [Nat.pow_succ]
  omega
theorem big_up {i : Int} {a b : Nat} (ha : i.natAbs < 2 ^ a) (h : a ≤ b) : i.natAbs < 2 ^ b := Nat.lt_of_lt_of_le ha (Nat.pow_le_pow_right (by decide) h)
theorem big_small {i : Int} {b : Nat} (h0 : -1048576 < i) (h1 : i < 1048576) (h : 20 ≤ b) : i.natAbs < 2 ^ b := by
  have e : (2 : Nat) ^ 20 = 1048576 := by decide
  have h2 : i.natAbs < 2 ^ 20 := by omega
  exact big_up h2 h
theorem mulG {i j : Int} {a b : Nat} (ha : i.natAbs < 2 ^ a) (hb : j.natAbs < 2 ^ b) (h : 20 ≤ a ∧ 20 ≤ b ∧ a ≤ 20000000 ∧ b ≤ 20000000) : CMulG i j := by
  have x := PySem.Flt.log2_lt_of (show 0 < a by omega) ha
  have y := PySem.Flt.log2_lt_of (show 0 < b by omega) hb
  unfold CMulG
  omega
theorem mulS {i j : Int} (hi : -1048576 < i ∧ i < 1048576) (hj : -1048576 < j ∧ j < 1048576) : CMulG i j := mulG (a := 20) (b := 20) (big_small hi.1 hi.2 (by decide)) (big_small hj.1 hj.2 (by decide)) (by omega)
theorem atI_all {ns : List Int} {m : Int} (P : Int → Prop) (h0 : 0 ≤ m) (h1 : m < ns.length) (hp : ∀ z ∈ ns, P z) : ∃ z, atI (ns.map V.int) m = some (.int z) ∧ P z := by
  have hi : m.toNat < ns.length := by omega
  refine ⟨ns[m.toNat], ?_, hp _ (List.getElem_mem hi)⟩
  have e : atI (ns.map V.int) ((m.toNat : Nat) : Int) = some (.int ns[m.toNat]) := atI_nat (by rw [List.getElem?_map, List.getElem?_eq_getElem hi]; rfl)
  rwa [show ((m.toNat : Nat) : Int) = m by omega] at e
def sp_law_cell_at (K : PySem.W.Frag) : Sp := fun vs H Q _ => ∃ (b : Nat) (a : Addr) (ns : List Int) (k : Int), vs = [.ref a, .int k] ∧ 0 ≤ k ∧ SqL K H a (ns.map V.int) ∧ (∀ z ∈ ns, z.natAbs < 2 ^ b) ∧ ∀ m : Int, m.natAbs < 2 ^ b → Q (.int m) H
def sp_law_draw : Sp := fun vs H Q _ => ∃ (D : Hp) (R : List (List Cell)) (b : Nat) (c k m : Int), vs = [.int c, .int k, .int m] ∧ Ok H D R ∧ (20 ≤ b ∧ b ≤ 20000000) ∧ c.natAbs < 2 ^ b ∧ (0 ≤ k ∧ k ≤ 100) ∧ 0 < m ∧ ∀ H' r, Ok H' D R → 0 ≤ r → r < m → Q (.int r) H'
def sp_law_value : Sp := fun vs H Q _ => ∃ (D : Hp) (R : List (List Cell)) (b : Nat) (c k : Int), vs = [.int c, .int k] ∧ Ok H D R ∧ (100 ≤ b ∧ b ≤ 4000000) ∧ c.natAbs < 2 ^ b ∧ (0 ≤ k ∧ k ≤ 100) ∧ ∀ H' r, Ok H' D R → r.natAbs < 2 ^ (b + 1) → Q (.int r) H'
section
variable {P : Program} {w : World} {K : PySem.W.Frag} {mg : Str → Option Value} {base : Heap} {a : A} {H D : Hp} {Q : VK} {E : XK} {Ms R : List (List G.Cell)}
theorem ok_law_cell_at (T : Txt K mg a) : FnOk P w K mg base (L2.CX P w) 1 a.f_law_cell_at a.d_law_cell_at ["_law_script", "_law_k"] (sp_law_cell_at K) := by
  refine T.law_cell_at.F.okX sc_law_cell_at (fun vs H Q E h => ?_) (fun cdv A outer s H vs Q E hr h => ?_)
  · obtain ⟨b, l, ns, k, rfl, _⟩ := h
    rfl
  · obtain ⟨b, l, ns, k, rfl, h0, hs, hb, q⟩ := h
    refine ⟨_, (pss_cons (ps_if (pt_cmpR op_lt (pv 1) (pe_callB (G.k_lenU (K := K)) (by rfl) T.n_len (by decide +kernel) (pa_cons (pv 0) pa_nil)) (nomark _)) (pss_one (ps_ret (pe_ix (G.k_ixU (K := K) (hu_of hr)) (pv 0) (pv 1) (fun _ _ => rfl)))) pss_nil)
  (pss_one (ps_ret pe_int))), ?_⟩
    walk_at "go"
    refine r_ite (fun h => ?_) (fun h => ?_)
    · have h1 := of_decide_eq_true h
      obtain ⟨z, e, hz⟩ := atI_all (fun z => z.natAbs < 2 ^ b) h0 (by simpa using h1) hb
      walk_at "g1"
      walk_at "g1"
      walk_at "g1"
      walk_at "g1"
      exact r_ixL hs e (q _ hz)
    · walk_at "go"
      exact q 0 (by exact Nat.two_pow_pos _)
local macro_rules | `(tactic| walk_at "g3") => `(tactic| first
  | ((with_reducible refine' G.r_mulI ?c ?_); (case c => first | exact mulS (by omega) (by omega) | exact mulG (by assumption) (by assumption) (by omega) | exact mulG (by assumption) (big_small (b := 20) (by omega) (by omega) (by decide)) (by omega) | exact mulG (big_small (b := 20) (by omega) (by omega) (by decide)) (by assumption) (by omega)))
  | ((with_reducible refine' G.r_I ?c ?_); (case c => first | assumption | (show (0 : Int) < _; omega) | (show (0 : Int) ≤ _; omega) | exact ⟨by decide, by decide, by decide⟩ | exact wide_div (b := 30) (by omega) (by decide) (by decide) (by decide)))
  | fail)
theorem ok_law_draw (T : Txt K mg a) : FnOk P w K mg base (L2.CX P w) 1 a.f_law_draw a.d_law_draw ["_law_cell", "_law_k", "_law_many"] sp_law_draw := by
  refine T.law_draw.F.okX sc_law_draw (fun vs H Q E h => ?_) (fun cdv A outer s H vs Q E hr h => ?_)
  · obtain ⟨D, R, b, c, k, m, rfl, _⟩ := h
    rfl
  · obtain ⟨D, R, b, c, k, m, rfl, o, hb, hc, hk, hm, q⟩ := h
    refine ⟨_, (pss_cons (ps_set (i := 3) sc_law_draw.nd rfl (by first | exact Or.inl rfl | exact Or.inr rfl) (pe_tup (pa_cons pe_int (pa_cons pe_int (pa_cons pe_int (pa_cons pe_int (pa_cons pe_int (pa_cons pe_int (pa_cons pe_int (pa_cons pe_int (pa_cons pe_int (pa_cons pe_int (pa_cons pe_int (pa_cons pe_int (pa_cons pe_int (pa_cons pe_int (pa_cons pe_int (pa_cons pe_int pa_nil))))))))))))))))))
  (pss_one (ps_ret (pe_op op_mod (pe_op op_mod (pe_op (G.k_addU (K := K)) (pe_op G.op_mulU (pv 0) pe_int) (pe_op G.op_mulU (pv 1) pe_int)) (pe_ix (G.k_ixU (K := K) (hu_of hr)) (pv 3) (pe_op op_mod (pv 1) pe_int) (fun _ _ => rfl))) (pv 2))))), ?_⟩
    walk_at "go"
    rename_i TT H1 o1
    obtain ⟨z, ez, hz⟩ := atI_all (ns := [1000003, 1000033, 1000037, 1000039, 1000081, 1000099, 1000117, 1000121, 1000133, 1000151, 1000159, 1000171, 1000183, 1000187, 1000193, 1000199]) (m := k % 16) (fun z => 0 < z) (by omega) (by show k % 16 < 16; omega) (by decide)
    refine r_ixT (SqT.of (o1.at1 (.head _))) ez ?_
    walk_at "go"
    exact q _ _ (by walk_at "fin") (Int.emod_nonneg _ (by omega)) (Int.emod_lt_of_pos _ hm)
theorem ok_law_value (T : Txt K mg a) : FnOk P w K mg base (L2.CX P w) 2 a.f_law_value a.d_law_value ["_law_cell", "_law_turn"] sp_law_value := by
  refine T.law_value.F.okX sc_law_value (fun vs H Q E h => ?_) (fun cdv A outer s H vs Q E hr h => ?_)
  · obtain ⟨D, R, b, c, k, rfl, _⟩ := h
    rfl
  · obtain ⟨D, R, b, c, k, rfl, o, hb, hc, hk, q⟩ := h
    refine ⟨_, (pss_cons (ps_if (pt_cmpR op_ge (pv 0) (pe_op op_pow pe_int pe_int) (nomark _)) (pss_one (ps_ret (pe_op op_shr (pe_op op_sub (pv 0) (pe_op op_pow pe_int pe_int)) (pe_op G.op_mulU pe_int (pv 1))))) pss_nil)
  (pss_cons (ps_set (i := 2) sc_law_value.nd rfl (by first | exact Or.inl rfl | exact Or.inr rfl) (pe_callS (ok_law_draw (K := K) T) (hr.mono (by decide)) rfl T.law_draw.g T.law_draw.k T.law_draw.b (fun σ => passAt (takes_of rfl rfl rfl rfl) σ) (pa_cons (pe_op G.op_mulU (pe_op (G.k_addU (K := K)) (pv 0) (pe_op G.op_mulU pe_int (pv 1))) (pe_op (G.k_addU (K := K)) (pe_op (G.k_addU (K := K)) (pv 0) (pe_op G.op_mulU pe_int (pv 1))) pe_int)) (pa_cons (pe_op (G.k_addU (K := K)) (pe_op op_mod (pv 1) pe_int) pe_int) (pa_cons pe_int pa_nil)))))
  (pss_one (ps_ret (pe_op (G.k_addU (K := K)) (pe_op G.op_mulU (pv 2) pe_int) (pe_callS (ok_law_draw (K := K) T) (hr.mono (by decide)) rfl T.law_draw.g T.law_draw.k T.law_draw.b (fun σ => passAt (takes_of rfl rfl rfl rfl) σ) (pa_cons (pe_op (G.k_addU (K := K)) (pe_op G.op_mulU (pe_op (G.k_addU (K := K)) (pv 0) (pe_op G.op_mulU pe_int (pv 1))) (pe_op (G.k_addU (K := K)) (pv 0) pe_int)) (pe_op G.op_mulU pe_int (pv 1))) (pa_cons (pe_op (G.k_addU (K := K)) (pe_op op_mod (pv 1) pe_int) pe_int) (pa_cons pe_int pa_nil))))))))), ?_⟩
    walk_at "go"
    have e0 : (2 : Nat) ^ 40 = 1099511627776 := by decide
    have hk2 : k.natAbs < 2 ^ b := big_small (by omega) (by omega) (by omega)
    refine r_ite (fun h => ?_) (fun h => ?_)
    · have h1 := of_decide_eq_true h
      have hX : (0 : Int) ≤ 10 ^ Int.toNat 18 := by decide
      walk_at "go"
      generalize (10 : Int) ^ Int.toNat 18 = X at h1 hX ⊢
      refine q _ _ o (Nat.lt_of_le_of_lt (Int.natAbs_ediv_le_natAbs _ _) ?_)
      rw [Nat.pow_succ]
      omega
    · have q1 : (c + 977 * k).natAbs < 2 ^ (b + 1) := big_add hc (big_small (by omega) (by omega) (by omega))
      have q2 : (c + 31 * k + 5).natAbs < 2 ^ (b + 2) := big_add (big_add hc (big_small (by omega) (by omega) (by omega))) (big_small (by omega) (by omega) (by omega))
      have q3 : (c + 31 * k).natAbs < 2 ^ (b + 1) := big_add hc (big_small (by omega) (by omega) (by omega))
      have q4 : (c + 7).natAbs < 2 ^ (b + 1) := big_add hc (big_small (by omega) (by omega) (by omega))
      have q5 := wide_lt q1 q2
      have q6 := big_add (big_up (wide_lt q3 q4) (show _ ≤ 2 * b + 2 by omega)) (big_small (b := 2 * b + 2) (show -1048576 < 977 * k by omega) (by omega) (by omega))
      walk_at "go"
      refine ⟨D, R, 2 * b + 3, _, _, _, rfl, o, by omega, big_up q5 (by omega), by omega, by decide, fun H1 r1 o1 l1 u1 => ?_⟩
      walk_at "go"
      refine ⟨D, R, 2 * b + 3, _, _, _, rfl, o1, by omega, big_up q6 (by omega), by omega, by decide, fun H2 r2 o2 l2 u2 => ?_⟩
      walk_at "go"
      refine q _ _ o2 (big_up (a := 41) ?_ (by omega))
      rw [Nat.pow_succ, e0]
      omega
end
end PP

namespace PP
open PySem PySem.Spec PyProof.Rows L2 G
/-! strange things, what is due, what are no words -/
def strangeD (z : Int) : List PyData := [.none, .str "1", .bool true, .bool false, .list [.int 1], .tuple [.int 1], .dict [], .int (-1), .int (-1 - z)]
def sp_law_strange : Sp := fun vs H Q _ => ∃ (D : Hp) (R : List (List Cell)) (z : Int), vs = [.int z] ∧ Ok H D R ∧ ∀ H' D' v, Ok H' D' R → Same D D' → Fz D' v (.list (strangeD z)) → Q v H'
def dueB (k : Int) : List Bool := (List.range 12).map fun (i : Nat) => decide (k = (i : Int))
def sp_law_due_of : Sp := fun vs H Q _ => ∃ (D : Hp) (R : List (List Cell)) (k : Int), vs = [.int k] ∧ Ok H D R ∧ ∀ H' p, Ok H' D ([(p, .lst ((dueB k).map V.bl ++ [.bl true]))] :: R) → Q (.ref p) H'
def cntD (lo hi : Int) : PyData → Bool
  | .int i => decide (lo ≤ i) && decide (i ≤ hi)
  | _ => false
theorem isC_fz {D : Hp} {v : V} {d : PyData} {lo hi : Int} (f : Fz D v d) : isC lo hi v = cntD lo hi d := by cases f <;> rfl
def tyD : PyData → String
  | .none => "NoneType"
  | .bool _ => "bool"
  | .int _ => "int"
  | .str _ => "str"
  | .list _ => "list"
  | .tuple _ => "tuple"
  | .dict _ => "dict"
theorem fz_tv {K : PySem.W.Frag} {D H : Hp} {v : V} {d : PyData} (e : Same D H) (h : Fz D v d) : Tv K H v (tyD d) := by
  cases h with
  | non => exact .non
  | bl b => exact .bl b
  | int i => exact .int i
  | str x => exact .str x
  | lst h _ => exact .lst (e _ _ h)
  | tup h _ => exact .tup (e _ _ h)
  | dct h => exact .dct (e _ _ h)
def noWd : PyData → Bool
  | .str y => !okWord y && decide (y.length ≤ 1000)
  | _ => true
def noWordsD (n : Int) : List PyData := [.none, .int 5, .list [.str "a"], .tuple [.str "a"], .dict [], .bool true, .str "", .str "A", .str "a b", .str "a1", .str "abcde", .str (repS "z" n), .str "a-", .str "\n", .str "abc\n"]
theorem noWd_rep {n : Int} (h : 5 ≤ n ∧ n ≤ 13) : noWd (.str (repS "z" n)) = true := by
  have e : (repS "z" n).length = n.toNat := repS_len rfl
  show (!(decide (1 ≤ ((repS "z" n).length : Int)) && decide (((repS "z" n).length : Int) ≤ 4) && _) && decide ((repS "z" n).length ≤ 1000)) = true
  rw [e, decide_eq_false (show ¬ ((n.toNat : Nat) : Int) ≤ 4 by omega), decide_eq_true (show n.toNat ≤ 1000 by omega)]
  simp
theorem noWords_all {n : Int} (h : 5 ≤ n ∧ n ≤ 13) : (noWordsD n).all noWd = true := by
  have e1 : [PyData.none, .int 5, .list [.str "a"], .tuple [.str "a"], .dict [], .bool true, .str "", .str "A", .str "a b", .str "a1", .str "abcde"].all noWd = true := by decide +kernel
  have e2 : [PyData.str "a-", .str "\n", .str "abc\n"].all noWd = true := by decide +kernel
  refine List.all_eq_true.mpr fun d hd => ?_
  unfold noWordsD at hd
  have hd : d ∈ [PyData.none, .int 5, .list [.str "a"], .tuple [.str "a"], .dict [], .bool true, .str "", .str "A", .str "a b", .str "a1", .str "abcde"] ++ .str (repS "z" n) :: [PyData.str "a-", .str "\n", .str "abc\n"] := hd
  rcases List.mem_append.mp hd with h1 | h1
  · exact List.all_eq_true.mp e1 d h1
  · rcases List.mem_cons.mp h1 with rfl | h1
    · exact noWd_rep h
    · exact List.all_eq_true.mp e2 d h1
theorem isWd_fz {D : Hp} {v : V} {d : PyData} (f : Fz D v d) (h : noWd d = true) : isWd v = false ∧ ∀ y, v = .str y → y.length ≤ 1000 := by
  cases f <;> first | exact ⟨rfl, nofun⟩ | skip
  rename_i y
  unfold noWd at h
  rw [Bool.and_eq_true] at h
  refine ⟨?_, fun z e => by cases e; exact of_decide_eq_true h.2⟩
  have h1 := h.1
  show okWord y = false
  simpa using h1
def sp_law_no_words : Sp := fun vs H Q _ => ∃ (D : Hp) (R : List (List Cell)) (z : Int), vs = [.int z] ∧ Ok H D R ∧ ∀ H' D' v ds, Ok H' D' R → Same D D' → Fz D' v (.list ds) → ds.all noWd = true → ds.length = 15 → Q v H'
section
variable {P : Program} {w : World} {K : PySem.W.Frag} {mg : Str → Option Value} {base : Heap} {a : A} {H D : Hp} {Q : VK} {E : XK} {Ms R : List (List G.Cell)}
theorem u_strange {z : Int} (o : Ok H D R) (q : ∀ H' D' v, Ok H' D' R → Same D D' → Fz D' v (.list (strangeD z)) → Q v H') : sp_law_strange [.int z] H Q E := ⟨D, R, z, rfl, o, q⟩
theorem ok_law_strange (T : Txt K mg a) : FnOk P w K mg base (L2.CX P w) 1 a.f_law_strange a.d_law_strange ["_law_far"] sp_law_strange := by
  refine T.law_strange.F.okX sc_law_strange (fun vs H Q E h => ?_) (fun cdv A outer s H vs Q E hr h => ?_)
  · obtain ⟨D, R, z, rfl, _⟩ := h
    rfl
  · obtain ⟨D, R, z, rfl, o, k⟩ := h
    refine ⟨_, (pss_one (ps_ret (pe_lst (pa_cons pe_non (pa_cons pe_str (pa_cons pe_bl (pa_cons pe_bl (pa_cons (pe_lst (pa_cons pe_int pa_nil)) (pa_cons (pe_tup (pa_cons pe_int pa_nil)) (pa_cons pe_dnewK (pa_cons (pe_un un_neg pe_int) (pa_cons (pe_op op_sub (pe_un un_neg pe_int) (pv 0)) pa_nil)))))))))))), ?_⟩
    refine r_ret (r_lite o (show LitE _ D _ (.list (strangeD z)) by unfold strangeD; walk_at "lite") fun H' D' v o' s' f' => ?_)
    exact k H' D' v o' s' f'
theorem ok_law_due_of (T : Txt K mg a) : FnOk P w K mg base (L2.CX P w) 1 a.f_law_due_of a.d_law_due_of ["_law_at"] sp_law_due_of := by
  refine T.law_due_of.F.okX sc_law_due_of (fun vs H Q E h => ?_) (fun cdv A outer s H vs Q E hr h => ?_)
  · obtain ⟨D, R, z, rfl, _⟩ := h
    rfl
  · obtain ⟨D, R, z, rfl, o, k⟩ := h
    refine ⟨_, (pss_one (ps_ret (pe_op (G.k_addU (K := K)) (pe_lc (own := [("_law_one", 1)]) (g := (gName 1)) (tt := tYes) rfl sc_law_due_of.nd (pi_range1 rfl T.n_range (pa_cons pe_int pa_nil)) (blkOk_by (own := [("_law_one", 1)]) (N := ["_law_at", "_law_one"]) (sc := defScope s_law_due_of) (by decide +kernel)) (fun _ _ _ _ _ => (pg_name (i := 1) sc_law_due_of.nd rfl (by first | exact Or.inl rfl | exact Or.inr rfl))) (fun _ _ _ _ _ => pts_nil) (fun _ _ _ _ _ => (pe_cmpR (G.k_eqU (K := K) hr) (pv 0) (pv 1) (nomark _)))) (pe_lst (pa_cons pe_bl pa_nil))))), ?_⟩
    walk_at "go"
    refine r_irng1 (by decide) ?_
    refine lcMap (fun i => V.bl (decide (z = (i : Int)))) walk_range o (by decide) (fun _ _ _ _ => trivial) ?_ ?_
    · rintro i x L acc H' H'' Ny Nn hi o' ⟨rfl, ex⟩ kk
      have ex : x = .int (i : Int) := by rw [show x = .int (0 + (i : Int)) from ex, Int.zero_add]
      subst ex
      clear o
      walk_at "g1"
      refine ⟨rfl, ?_⟩
      walk_at "go"
      rw [decV]
      exact kk _ o'
    · intro L H' o'
      clear o
      walk_at "go"
      rename_i p2 H2 o2
      refine r_addL o2 (o2.at1 (.tail _ (.head _))) (o2.at1 (.head _)) (by show 13 ≤ sizeLine; decide) fun p3 H3 o3 => ?_
      refine k H3 p3 ?_
      have e : (List.range (Int.toNat 12)).map (fun (i : Nat) => V.bl (decide (z = (i : Int)))) = (dueB z).map V.bl := by
        unfold dueB
        rw [List.map_map]
        rfl
      rw [e] at o3
      exact o3.sel (.pick .here (.done (.there (.there .here))))
theorem ok_law_no_words (T : Txt K mg a) : FnOk P w K mg base (L2.CX P w) 1 a.f_law_no_words a.d_law_no_words ["_law_far"] sp_law_no_words := by
  refine T.law_no_words.F.okX sc_law_no_words (fun vs H Q E h => ?_) (fun cdv A outer s H vs Q E hr h => ?_)
  · obtain ⟨D, R, z, rfl, _⟩ := h
    rfl
  · obtain ⟨D, R, z, rfl, o, k⟩ := h
    refine ⟨_, (pss_cons (ps_set (i := 1) sc_law_no_words.nd rfl (by first | exact Or.inl rfl | exact Or.inr rfl) (pe_lst (pa_cons pe_non (pa_cons pe_int (pa_cons (pe_lst (pa_cons pe_str pa_nil)) (pa_cons (pe_tup (pa_cons pe_str pa_nil)) (pa_cons pe_dnewK (pa_cons pe_bl (pa_cons pe_str (pa_cons pe_str (pa_cons pe_str (pa_cons pe_str (pa_cons pe_str (pa_cons (pe_op G.op_mulS pe_str (pe_op (G.k_addU (K := K)) pe_int (pe_op op_mod (pv 0) pe_int))) (pa_cons pe_str (pa_cons pe_str (pa_cons pe_str pa_nil)))))))))))))))))
  (pss_one (ps_ret (pv 1)))), ?_⟩
    have hm := Int.emod_nonneg z (show (9 : Int) ≠ 0 by decide)
    have hm2 := Int.emod_lt_of_pos z (show (0 : Int) < 9 by decide)
    refine r_seq (r_asg (r_lite o (show LitE _ D _ (.list (noWordsD (5 + z % 9))) from .lst ?_ rfl) fun H1 D1 v1 o1 s1 f1 => r_name ?_))
    · unfold noWordsD
      walk_at "lite"
      refine G.LitE.evs fun H Q q => ?_
      walk_at "go"
      refine r_I (show (0 : Int) < 9 by decide) ?_
      walk_at "go"
      exact ⟨"z", _, rfl, rfl, rfl, by omega, by omega, q⟩
    · walk_at "g1"
      refine r_ret (r_var rfl ?_)
      exact k H1 D1 v1 _ o1 s1 f1 (noWords_all (by omega)) rfl
end
end PP

namespace PP
open PySem PySem.Spec PyProof.Rows L2 G LamX
/-! a refusal asked for -/
section
variable {P : Program} {w : World} {K : PySem.W.Frag} {mg : Str → Option Value} {base : Heap} {a : A} {H D : Hp} {Q : VK} {Ms R : List (List G.Cell)}
theorem isK_BadPeople (T : Txt K mg a) : IsK K a a.c_BadPeople (dueB 0) := by
  refine ⟨T.e_BadPeople, T.m_BadPeople, fun i c h => ?_, T.v_BadPeople, rfl⟩
  match i, h with
  | 0, h => obtain rfl := Option.some.inj (show some a.c_BadPeople = some c from h); exact ⟨true, rfl, T.k_BadPeople_BadPeople⟩
  | 1, h => obtain rfl := Option.some.inj (show some a.c_BadPerson = some c from h); exact ⟨false, rfl, T.k_BadPeople_BadPerson⟩
  | 2, h => obtain rfl := Option.some.inj (show some a.c_BadWord = some c from h); exact ⟨false, rfl, T.k_BadPeople_BadWord⟩
  | 3, h => obtain rfl := Option.some.inj (show some a.c_BadPrice = some c from h); exact ⟨false, rfl, T.k_BadPeople_BadPrice⟩
  | 4, h => obtain rfl := Option.some.inj (show some a.c_BadMany = some c from h); exact ⟨false, rfl, T.k_BadPeople_BadMany⟩
  | 5, h => obtain rfl := Option.some.inj (show some a.c_BadWish = some c from h); exact ⟨false, rfl, T.k_BadPeople_BadWish⟩
  | 6, h => obtain rfl := Option.some.inj (show some a.c_BadAmount = some c from h); exact ⟨false, rfl, T.k_BadPeople_BadAmount⟩
  | 7, h => obtain rfl := Option.some.inj (show some a.c_BadDeeds = some c from h); exact ⟨false, rfl, T.k_BadPeople_BadDeeds⟩
  | 8, h => obtain rfl := Option.some.inj (show some a.c_BadPurses = some c from h); exact ⟨false, rfl, T.k_BadPeople_BadPurses⟩
  | 9, h => obtain rfl := Option.some.inj (show some a.c_NoneFree = some c from h); exact ⟨false, rfl, T.k_BadPeople_NoneFree⟩
  | 10, h => obtain rfl := Option.some.inj (show some a.c_TooMuch = some c from h); exact ⟨false, rfl, T.k_BadPeople_TooMuch⟩
  | 11, h => obtain rfl := Option.some.inj (show some a.c_TooMany = some c from h); exact ⟨false, rfl, T.k_BadPeople_TooMany⟩
  | n + 12, h => cases h
theorem isK_BadPerson (T : Txt K mg a) : IsK K a a.c_BadPerson (dueB 1) := by
  refine ⟨T.e_BadPerson, T.m_BadPerson, fun i c h => ?_, T.v_BadPerson, rfl⟩
  match i, h with
  | 0, h => obtain rfl := Option.some.inj (show some a.c_BadPeople = some c from h); exact ⟨false, rfl, T.k_BadPerson_BadPeople⟩
  | 1, h => obtain rfl := Option.some.inj (show some a.c_BadPerson = some c from h); exact ⟨true, rfl, T.k_BadPerson_BadPerson⟩
  | 2, h => obtain rfl := Option.some.inj (show some a.c_BadWord = some c from h); exact ⟨false, rfl, T.k_BadPerson_BadWord⟩
  | 3, h => obtain rfl := Option.some.inj (show some a.c_BadPrice = some c from h); exact ⟨false, rfl, T.k_BadPerson_BadPrice⟩
  | 4, h => obtain rfl := Option.some.inj (show some a.c_BadMany = some c from h); exact ⟨false, rfl, T.k_BadPerson_BadMany⟩
  | 5, h => obtain rfl := Option.some.inj (show some a.c_BadWish = some c from h); exact ⟨false, rfl, T.k_BadPerson_BadWish⟩
  | 6, h => obtain rfl := Option.some.inj (show some a.c_BadAmount = some c from h); exact ⟨false, rfl, T.k_BadPerson_BadAmount⟩
  | 7, h => obtain rfl := Option.some.inj (show some a.c_BadDeeds = some c from h); exact ⟨false, rfl, T.k_BadPerson_BadDeeds⟩
  | 8, h => obtain rfl := Option.some.inj (show some a.c_BadPurses = some c from h); exact ⟨false, rfl, T.k_BadPerson_BadPurses⟩
  | 9, h => obtain rfl := Option.some.inj (show some a.c_NoneFree = some c from h); exact ⟨false, rfl, T.k_BadPerson_NoneFree⟩
  | 10, h => obtain rfl := Option.some.inj (show some a.c_TooMuch = some c from h); exact ⟨false, rfl, T.k_BadPerson_TooMuch⟩
  | 11, h => obtain rfl := Option.some.inj (show some a.c_TooMany = some c from h); exact ⟨false, rfl, T.k_BadPerson_TooMany⟩
  | n + 12, h => cases h
theorem isK_BadWord (T : Txt K mg a) : IsK K a a.c_BadWord (dueB 2) := by
  refine ⟨T.e_BadWord, T.m_BadWord, fun i c h => ?_, T.v_BadWord, rfl⟩
  match i, h with
  | 0, h => obtain rfl := Option.some.inj (show some a.c_BadPeople = some c from h); exact ⟨false, rfl, T.k_BadWord_BadPeople⟩
  | 1, h => obtain rfl := Option.some.inj (show some a.c_BadPerson = some c from h); exact ⟨false, rfl, T.k_BadWord_BadPerson⟩
  | 2, h => obtain rfl := Option.some.inj (show some a.c_BadWord = some c from h); exact ⟨true, rfl, T.k_BadWord_BadWord⟩
  | 3, h => obtain rfl := Option.some.inj (show some a.c_BadPrice = some c from h); exact ⟨false, rfl, T.k_BadWord_BadPrice⟩
  | 4, h => obtain rfl := Option.some.inj (show some a.c_BadMany = some c from h); exact ⟨false, rfl, T.k_BadWord_BadMany⟩
  | 5, h => obtain rfl := Option.some.inj (show some a.c_BadWish = some c from h); exact ⟨false, rfl, T.k_BadWord_BadWish⟩
  | 6, h => obtain rfl := Option.some.inj (show some a.c_BadAmount = some c from h); exact ⟨false, rfl, T.k_BadWord_BadAmount⟩
  | 7, h => obtain rfl := Option.some.inj (show some a.c_BadDeeds = some c from h); exact ⟨false, rfl, T.k_BadWord_BadDeeds⟩
  | 8, h => obtain rfl := Option.some.inj (show some a.c_BadPurses = some c from h); exact ⟨false, rfl, T.k_BadWord_BadPurses⟩
  | 9, h => obtain rfl := Option.some.inj (show some a.c_NoneFree = some c from h); exact ⟨false, rfl, T.k_BadWord_NoneFree⟩
  | 10, h => obtain rfl := Option.some.inj (show some a.c_TooMuch = some c from h); exact ⟨false, rfl, T.k_BadWord_TooMuch⟩
  | 11, h => obtain rfl := Option.some.inj (show some a.c_TooMany = some c from h); exact ⟨false, rfl, T.k_BadWord_TooMany⟩
  | n + 12, h => cases h
theorem isK_BadPrice (T : Txt K mg a) : IsK K a a.c_BadPrice (dueB 3) := by
  refine ⟨T.e_BadPrice, T.m_BadPrice, fun i c h => ?_, T.v_BadPrice, rfl⟩
  match i, h with
  | 0, h => obtain rfl := Option.some.inj (show some a.c_BadPeople = some c from h); exact ⟨false, rfl, T.k_BadPrice_BadPeople⟩
  | 1, h => obtain rfl := Option.some.inj (show some a.c_BadPerson = some c from h); exact ⟨false, rfl, T.k_BadPrice_BadPerson⟩
  | 2, h => obtain rfl := Option.some.inj (show some a.c_BadWord = some c from h); exact ⟨false, rfl, T.k_BadPrice_BadWord⟩
  | 3, h => obtain rfl := Option.some.inj (show some a.c_BadPrice = some c from h); exact ⟨true, rfl, T.k_BadPrice_BadPrice⟩
  | 4, h => obtain rfl := Option.some.inj (show some a.c_BadMany = some c from h); exact ⟨false, rfl, T.k_BadPrice_BadMany⟩
  | 5, h => obtain rfl := Option.some.inj (show some a.c_BadWish = some c from h); exact ⟨false, rfl, T.k_BadPrice_BadWish⟩
  | 6, h => obtain rfl := Option.some.inj (show some a.c_BadAmount = some c from h); exact ⟨false, rfl, T.k_BadPrice_BadAmount⟩
  | 7, h => obtain rfl := Option.some.inj (show some a.c_BadDeeds = some c from h); exact ⟨false, rfl, T.k_BadPrice_BadDeeds⟩
  | 8, h => obtain rfl := Option.some.inj (show some a.c_BadPurses = some c from h); exact ⟨false, rfl, T.k_BadPrice_BadPurses⟩
  | 9, h => obtain rfl := Option.some.inj (show some a.c_NoneFree = some c from h); exact ⟨false, rfl, T.k_BadPrice_NoneFree⟩
  | 10, h => obtain rfl := Option.some.inj (show some a.c_TooMuch = some c from h); exact ⟨false, rfl, T.k_BadPrice_TooMuch⟩
  | 11, h => obtain rfl := Option.some.inj (show some a.c_TooMany = some c from h); exact ⟨false, rfl, T.k_BadPrice_TooMany⟩
  | n + 12, h => cases h
theorem isK_BadMany (T : Txt K mg a) : IsK K a a.c_BadMany (dueB 4) := by
  refine ⟨T.e_BadMany, T.m_BadMany, fun i c h => ?_, T.v_BadMany, rfl⟩
  match i, h with
  | 0, h => obtain rfl := Option.some.inj (show some a.c_BadPeople = some c from h); exact ⟨false, rfl, T.k_BadMany_BadPeople⟩
  | 1, h => obtain rfl := Option.some.inj (show some a.c_BadPerson = some c from h); exact ⟨false, rfl, T.k_BadMany_BadPerson⟩
  | 2, h => obtain rfl := Option.some.inj (show some a.c_BadWord = some c from h); exact ⟨false, rfl, T.k_BadMany_BadWord⟩
  | 3, h => obtain rfl := Option.some.inj (show some a.c_BadPrice = some c from h); exact ⟨false, rfl, T.k_BadMany_BadPrice⟩
  | 4, h => obtain rfl := Option.some.inj (show some a.c_BadMany = some c from h); exact ⟨true, rfl, T.k_BadMany_BadMany⟩
  | 5, h => obtain rfl := Option.some.inj (show some a.c_BadWish = some c from h); exact ⟨false, rfl, T.k_BadMany_BadWish⟩
  | 6, h => obtain rfl := Option.some.inj (show some a.c_BadAmount = some c from h); exact ⟨false, rfl, T.k_BadMany_BadAmount⟩
  | 7, h => obtain rfl := Option.some.inj (show some a.c_BadDeeds = some c from h); exact ⟨false, rfl, T.k_BadMany_BadDeeds⟩
  | 8, h => obtain rfl := Option.some.inj (show some a.c_BadPurses = some c from h); exact ⟨false, rfl, T.k_BadMany_BadPurses⟩
  | 9, h => obtain rfl := Option.some.inj (show some a.c_NoneFree = some c from h); exact ⟨false, rfl, T.k_BadMany_NoneFree⟩
  | 10, h => obtain rfl := Option.some.inj (show some a.c_TooMuch = some c from h); exact ⟨false, rfl, T.k_BadMany_TooMuch⟩
  | 11, h => obtain rfl := Option.some.inj (show some a.c_TooMany = some c from h); exact ⟨false, rfl, T.k_BadMany_TooMany⟩
  | n + 12, h => cases h
theorem isK_BadWish (T : Txt K mg a) : IsK K a a.c_BadWish (dueB 5) := by
  refine ⟨T.e_BadWish, T.m_BadWish, fun i c h => ?_, T.v_BadWish, rfl⟩
  match i, h with
  | 0, h => obtain rfl := Option.some.inj (show some a.c_BadPeople = some c from h); exact ⟨false, rfl, T.k_BadWish_BadPeople⟩
  | 1, h => obtain rfl := Option.some.inj (show some a.c_BadPerson = some c from h); exact ⟨false, rfl, T.k_BadWish_BadPerson⟩
  | 2, h => obtain rfl := Option.some.inj (show some a.c_BadWord = some c from h); exact ⟨false, rfl, T.k_BadWish_BadWord⟩
  | 3, h => obtain rfl := Option.some.inj (show some a.c_BadPrice = some c from h); exact ⟨false, rfl, T.k_BadWish_BadPrice⟩
  | 4, h => obtain rfl := Option.some.inj (show some a.c_BadMany = some c from h); exact ⟨false, rfl, T.k_BadWish_BadMany⟩
  | 5, h => obtain rfl := Option.some.inj (show some a.c_BadWish = some c from h); exact ⟨true, rfl, T.k_BadWish_BadWish⟩
  | 6, h => obtain rfl := Option.some.inj (show some a.c_BadAmount = some c from h); exact ⟨false, rfl, T.k_BadWish_BadAmount⟩
  | 7, h => obtain rfl := Option.some.inj (show some a.c_BadDeeds = some c from h); exact ⟨false, rfl, T.k_BadWish_BadDeeds⟩
  | 8, h => obtain rfl := Option.some.inj (show some a.c_BadPurses = some c from h); exact ⟨false, rfl, T.k_BadWish_BadPurses⟩
  | 9, h => obtain rfl := Option.some.inj (show some a.c_NoneFree = some c from h); exact ⟨false, rfl, T.k_BadWish_NoneFree⟩
  | 10, h => obtain rfl := Option.some.inj (show some a.c_TooMuch = some c from h); exact ⟨false, rfl, T.k_BadWish_TooMuch⟩
  | 11, h => obtain rfl := Option.some.inj (show some a.c_TooMany = some c from h); exact ⟨false, rfl, T.k_BadWish_TooMany⟩
  | n + 12, h => cases h
theorem isK_BadAmount (T : Txt K mg a) : IsK K a a.c_BadAmount (dueB 6) := by
  refine ⟨T.e_BadAmount, T.m_BadAmount, fun i c h => ?_, T.v_BadAmount, rfl⟩
  match i, h with
  | 0, h => obtain rfl := Option.some.inj (show some a.c_BadPeople = some c from h); exact ⟨false, rfl, T.k_BadAmount_BadPeople⟩
  | 1, h => obtain rfl := Option.some.inj (show some a.c_BadPerson = some c from h); exact ⟨false, rfl, T.k_BadAmount_BadPerson⟩
  | 2, h => obtain rfl := Option.some.inj (show some a.c_BadWord = some c from h); exact ⟨false, rfl, T.k_BadAmount_BadWord⟩
  | 3, h => obtain rfl := Option.some.inj (show some a.c_BadPrice = some c from h); exact ⟨false, rfl, T.k_BadAmount_BadPrice⟩
  | 4, h => obtain rfl := Option.some.inj (show some a.c_BadMany = some c from h); exact ⟨false, rfl, T.k_BadAmount_BadMany⟩
  | 5, h => obtain rfl := Option.some.inj (show some a.c_BadWish = some c from h); exact ⟨false, rfl, T.k_BadAmount_BadWish⟩
  | 6, h => obtain rfl := Option.some.inj (show some a.c_BadAmount = some c from h); exact ⟨true, rfl, T.k_BadAmount_BadAmount⟩
  | 7, h => obtain rfl := Option.some.inj (show some a.c_BadDeeds = some c from h); exact ⟨false, rfl, T.k_BadAmount_BadDeeds⟩
  | 8, h => obtain rfl := Option.some.inj (show some a.c_BadPurses = some c from h); exact ⟨false, rfl, T.k_BadAmount_BadPurses⟩
  | 9, h => obtain rfl := Option.some.inj (show some a.c_NoneFree = some c from h); exact ⟨false, rfl, T.k_BadAmount_NoneFree⟩
  | 10, h => obtain rfl := Option.some.inj (show some a.c_TooMuch = some c from h); exact ⟨false, rfl, T.k_BadAmount_TooMuch⟩
  | 11, h => obtain rfl := Option.some.inj (show some a.c_TooMany = some c from h); exact ⟨false, rfl, T.k_BadAmount_TooMany⟩
  | n + 12, h => cases h
theorem isK_NoneFree (T : Txt K mg a) : IsK K a a.c_NoneFree (dueB 9) := by
  refine ⟨T.e_NoneFree, T.m_NoneFree, fun i c h => ?_, T.v_NoneFree, rfl⟩
  match i, h with
  | 0, h => obtain rfl := Option.some.inj (show some a.c_BadPeople = some c from h); exact ⟨false, rfl, T.k_NoneFree_BadPeople⟩
  | 1, h => obtain rfl := Option.some.inj (show some a.c_BadPerson = some c from h); exact ⟨false, rfl, T.k_NoneFree_BadPerson⟩
  | 2, h => obtain rfl := Option.some.inj (show some a.c_BadWord = some c from h); exact ⟨false, rfl, T.k_NoneFree_BadWord⟩
  | 3, h => obtain rfl := Option.some.inj (show some a.c_BadPrice = some c from h); exact ⟨false, rfl, T.k_NoneFree_BadPrice⟩
  | 4, h => obtain rfl := Option.some.inj (show some a.c_BadMany = some c from h); exact ⟨false, rfl, T.k_NoneFree_BadMany⟩
  | 5, h => obtain rfl := Option.some.inj (show some a.c_BadWish = some c from h); exact ⟨false, rfl, T.k_NoneFree_BadWish⟩
  | 6, h => obtain rfl := Option.some.inj (show some a.c_BadAmount = some c from h); exact ⟨false, rfl, T.k_NoneFree_BadAmount⟩
  | 7, h => obtain rfl := Option.some.inj (show some a.c_BadDeeds = some c from h); exact ⟨false, rfl, T.k_NoneFree_BadDeeds⟩
  | 8, h => obtain rfl := Option.some.inj (show some a.c_BadPurses = some c from h); exact ⟨false, rfl, T.k_NoneFree_BadPurses⟩
  | 9, h => obtain rfl := Option.some.inj (show some a.c_NoneFree = some c from h); exact ⟨true, rfl, T.k_NoneFree_NoneFree⟩
  | 10, h => obtain rfl := Option.some.inj (show some a.c_TooMuch = some c from h); exact ⟨false, rfl, T.k_NoneFree_TooMuch⟩
  | 11, h => obtain rfl := Option.some.inj (show some a.c_TooMany = some c from h); exact ⟨false, rfl, T.k_NoneFree_TooMany⟩
  | n + 12, h => cases h
theorem isK_TooMuch (T : Txt K mg a) : IsK K a a.c_TooMuch (dueB 10) := by
  refine ⟨T.e_TooMuch, T.m_TooMuch, fun i c h => ?_, T.v_TooMuch, rfl⟩
  match i, h with
  | 0, h => obtain rfl := Option.some.inj (show some a.c_BadPeople = some c from h); exact ⟨false, rfl, T.k_TooMuch_BadPeople⟩
  | 1, h => obtain rfl := Option.some.inj (show some a.c_BadPerson = some c from h); exact ⟨false, rfl, T.k_TooMuch_BadPerson⟩
  | 2, h => obtain rfl := Option.some.inj (show some a.c_BadWord = some c from h); exact ⟨false, rfl, T.k_TooMuch_BadWord⟩
  | 3, h => obtain rfl := Option.some.inj (show some a.c_BadPrice = some c from h); exact ⟨false, rfl, T.k_TooMuch_BadPrice⟩
  | 4, h => obtain rfl := Option.some.inj (show some a.c_BadMany = some c from h); exact ⟨false, rfl, T.k_TooMuch_BadMany⟩
  | 5, h => obtain rfl := Option.some.inj (show some a.c_BadWish = some c from h); exact ⟨false, rfl, T.k_TooMuch_BadWish⟩
  | 6, h => obtain rfl := Option.some.inj (show some a.c_BadAmount = some c from h); exact ⟨false, rfl, T.k_TooMuch_BadAmount⟩
  | 7, h => obtain rfl := Option.some.inj (show some a.c_BadDeeds = some c from h); exact ⟨false, rfl, T.k_TooMuch_BadDeeds⟩
  | 8, h => obtain rfl := Option.some.inj (show some a.c_BadPurses = some c from h); exact ⟨false, rfl, T.k_TooMuch_BadPurses⟩
  | 9, h => obtain rfl := Option.some.inj (show some a.c_NoneFree = some c from h); exact ⟨false, rfl, T.k_TooMuch_NoneFree⟩
  | 10, h => obtain rfl := Option.some.inj (show some a.c_TooMuch = some c from h); exact ⟨true, rfl, T.k_TooMuch_TooMuch⟩
  | 11, h => obtain rfl := Option.some.inj (show some a.c_TooMany = some c from h); exact ⟨false, rfl, T.k_TooMuch_TooMany⟩
  | n + 12, h => cases h
theorem isK_TooMany (T : Txt K mg a) : IsK K a a.c_TooMany (dueB 11) := by
  refine ⟨T.e_TooMany, T.m_TooMany, fun i c h => ?_, T.v_TooMany, rfl⟩
  match i, h with
  | 0, h => obtain rfl := Option.some.inj (show some a.c_BadPeople = some c from h); exact ⟨false, rfl, T.k_TooMany_BadPeople⟩
  | 1, h => obtain rfl := Option.some.inj (show some a.c_BadPerson = some c from h); exact ⟨false, rfl, T.k_TooMany_BadPerson⟩
  | 2, h => obtain rfl := Option.some.inj (show some a.c_BadWord = some c from h); exact ⟨false, rfl, T.k_TooMany_BadWord⟩
  | 3, h => obtain rfl := Option.some.inj (show some a.c_BadPrice = some c from h); exact ⟨false, rfl, T.k_TooMany_BadPrice⟩
  | 4, h => obtain rfl := Option.some.inj (show some a.c_BadMany = some c from h); exact ⟨false, rfl, T.k_TooMany_BadMany⟩
  | 5, h => obtain rfl := Option.some.inj (show some a.c_BadWish = some c from h); exact ⟨false, rfl, T.k_TooMany_BadWish⟩
  | 6, h => obtain rfl := Option.some.inj (show some a.c_BadAmount = some c from h); exact ⟨false, rfl, T.k_TooMany_BadAmount⟩
  | 7, h => obtain rfl := Option.some.inj (show some a.c_BadDeeds = some c from h); exact ⟨false, rfl, T.k_TooMany_BadDeeds⟩
  | 8, h => obtain rfl := Option.some.inj (show some a.c_BadPurses = some c from h); exact ⟨false, rfl, T.k_TooMany_BadPurses⟩
  | 9, h => obtain rfl := Option.some.inj (show some a.c_NoneFree = some c from h); exact ⟨false, rfl, T.k_TooMany_NoneFree⟩
  | 10, h => obtain rfl := Option.some.inj (show some a.c_TooMuch = some c from h); exact ⟨false, rfl, T.k_TooMany_TooMuch⟩
  | 11, h => obtain rfl := Option.some.inj (show some a.c_TooMany = some c from h); exact ⟨true, rfl, T.k_TooMany_TooMany⟩
  | n + 12, h => cases h
def dueD (k : Int) : PyData := .list ((dueB k ++ [true]).map PyData.bool)
theorem dp_bools : ∀ bs : List Bool, DpAll K H (bs.map V.bl) (bs.map PyData.bool)
  | [] => .nil
  | b :: r => .cons (.bl b) (dp_bools r)
theorem dp_due {p : Addr} {k : Int} (h : H p = some (.lst ((dueB k).map V.bl ++ [.bl true]))) : Dp K H (.ref p) (dueD k) := by
  have e : (dueB k).map V.bl ++ [V.bl true] = (dueB k ++ [true]).map V.bl := by rw [List.map_append]; rfl
  rw [e] at h
  exact .lst (SqL.of h) (dp_bools _)
theorem shaped_bools (bs : List Bool) : SeqAt.shaped (.list (bs.map PyData.bool)) = true := by
  have l : PyData.canLayAll0 (bs.map PyData.bool) = true := by
    induction bs with
    | nil => rfl
    | cons b r ih =>
      show (PyData.canLay0 (.bool b) && PyData.canLayAll0 (r.map PyData.bool)) = true
      rw [ih]
      rfl
  have dp : PyData.depthAll (bs.map PyData.bool) ≤ 1 := by
    clear l
    induction bs with
    | nil => simp [PyData.depthAll]
    | cons b r ih =>
      rw [List.map_cons, PyData.depthAll]
      exact Nat.max_le.mpr ⟨by simp [PyData.depth], ih⟩
  unfold SeqAt.shaped
  rw [Bool.and_eq_true]
  refine ⟨l, decide_eq_true ?_⟩
  show PyData.depth (.list _) ≤ 64
  rw [PyData.depth]
  omega
/-- the law's kinds of a thing that is refused -/
theorem u_ask0 {σ : L2.St} {Pt C : Addr} {q : Str} {ps : Array Value} {k : Int} {t : XK → TE} (o : Ok H D ([(Pt, .tbl ps)] :: R)) (nt : NT D) (pl : PlC R) (tk : TabOk D q ps) (ik : IsK K a C (dueB k))
    (hc : ∀ (E : XK) (Z : VK) (H1 D1 : Hp) (M1 M2 : List Cell), Ok H1 D1 (M1 :: M2 :: R) → Same D D1 → (∀ H2 D2, Ok H2 D2 (M1 :: M2 :: R) → Same D1 D2 → E (.ref C) none H2) → t E σ H1 Z)
    (k1 : ∀ H' D' ps' p, Ok H' D' ([(p, .lst ((dueB k).map V.bl ++ [.bl true]))] :: [(Pt, .tbl ps')] :: R) → Same D D' → NT D' → TabOk D' q ps' → Q (.ref p) H') : tLam [(Pt, q)] (TKinds K a) t σ H Q := by
  refine r_lam o pl tk fun H1 D1 ps1 o1 s1 tk1 F0 nF Z _ => ?_
  have s2 : Same D D1 := (nt.same (Same.refl D)).trans s1
  refine hc _ Z _ D1 _ _ (o1.new nF) s2 fun H2 D2 o2 s3 => ⟨C, dueB k, noT D2, _, rfl, rfl, ik, o2.noT, fun p H3 o3 => ?_⟩
  exact k1 H3 (noT D2) ps1 p (o3.sel (.pick .here (.done (.there .here)))) (nt.same (s2.trans s3)) (NT.noT D2) (tk1.mono s3).noT
theorem u_ask {σ : L2.St} {Pt C : Addr} {q : Str} {ps : Array Value} {k : Int} {t : XK → TE} {B : Bool → Hp → Prop} {W : L2.St → XK} (o : Ok H D ([(Pt, .tbl ps)] :: R)) (nt : NT D) (pl : PlC R) (tk : TabOk D q ps) (ik : IsK K a C (dueB k))
    (hc : ∀ (E : XK) (Z : VK) (H1 D1 : Hp) (M1 M2 : List Cell), Ok H1 D1 (M1 :: M2 :: R) → Same D D1 → (∀ H2 D2, Ok H2 D2 (M1 :: M2 :: R) → Same D1 D2 → E (.ref C) none H2) → t E σ H1 Z)
    (k1 : ∀ H' D' ps', Ok H' D' ([(Pt, .tbl ps')] :: R) → Same D D' → NT D' → TabOk D' q ps' → B false H') :
    tTest (tOp (rNeU K) (tLam [(Pt, q)] (TKinds K a) t) (tCallS sp_law_due_of W (tCons (tC (.int k)) tNil))) σ H B := by
  refine r_test (r_op (u_ask0 o nt pl tk ik hc fun H1 D1 ps1 p o1 s1 nt1 tk1 => ?_))
  refine r_callS (r_cons (r_c (r_nil ⟨D1, _, k, rfl, o1, fun H2 p2 o2 => ?_⟩)))
  refine r_neD (dp_due (o2.at1 (.tail _ (.head _)))) (dp_due (o2.at1 (.head _))) (shaped_bools _) (shaped_bools _) ?_
  rw [show PyData.eqv (dueD k) (dueD k) = true from refl_of (shaped_bools _)]
  exact ⟨false, rfl, k1 H2 D1 ps1 o2.drop.drop s1 nt1 tk1⟩
/-! refusals asked for, where several defs make lambdas -/
def tabsA (a : A) : List (Addr × Str) := [(a.cP_law_persons_right, (("_law_persons_right" ++ ".<locals>.") ++ "<lambda>" : Str)), (a.cP_law_wishes_right, (("_law_wishes_right" ++ ".<locals>.") ++ "<lambda>" : Str)), (a.cP_law_numbers_right, (("_law_numbers_right" ++ ".<locals>.") ++ "<lambda>" : Str)), (a.cP_law, (("law" ++ ".<locals>.") ++ "<lambda>" : Str))]
theorem tm_law_persons_right {a : A} : (a.cP_law_persons_right, (("_law_persons_right" ++ ".<locals>.") ++ "<lambda>" : Str)) ∈ tabsA a := by simp [tabsA]
theorem tu_law_persons_right {K : PySem.W.Frag} {mg : Str → Option Value} {a : A} (T : Txt K mg a) : ∀ p ∈ tabsA a, p.1 = a.cP_law_persons_right → p.2 = (("_law_persons_right" ++ ".<locals>.") ++ "<lambda>" : Str) := by
  intro p hp e
  simp only [tabsA, List.mem_cons, List.not_mem_nil, or_false] at hp
  rcases hp with rfl | rfl | rfl | rfl
  · rfl
  · exact absurd e (Ne.symm T.td_01)
  · exact absurd e (Ne.symm T.td_02)
  · exact absurd e (Ne.symm T.td_03)
theorem tm_law_wishes_right {a : A} : (a.cP_law_wishes_right, (("_law_wishes_right" ++ ".<locals>.") ++ "<lambda>" : Str)) ∈ tabsA a := by simp [tabsA]
theorem tu_law_wishes_right {K : PySem.W.Frag} {mg : Str → Option Value} {a : A} (T : Txt K mg a) : ∀ p ∈ tabsA a, p.1 = a.cP_law_wishes_right → p.2 = (("_law_wishes_right" ++ ".<locals>.") ++ "<lambda>" : Str) := by
  intro p hp e
  simp only [tabsA, List.mem_cons, List.not_mem_nil, or_false] at hp
  rcases hp with rfl | rfl | rfl | rfl
  · exact absurd e T.td_01
  · rfl
  · exact absurd e (Ne.symm T.td_12)
  · exact absurd e (Ne.symm T.td_13)
theorem tm_law_numbers_right {a : A} : (a.cP_law_numbers_right, (("_law_numbers_right" ++ ".<locals>.") ++ "<lambda>" : Str)) ∈ tabsA a := by simp [tabsA]
theorem tu_law_numbers_right {K : PySem.W.Frag} {mg : Str → Option Value} {a : A} (T : Txt K mg a) : ∀ p ∈ tabsA a, p.1 = a.cP_law_numbers_right → p.2 = (("_law_numbers_right" ++ ".<locals>.") ++ "<lambda>" : Str) := by
  intro p hp e
  simp only [tabsA, List.mem_cons, List.not_mem_nil, or_false] at hp
  rcases hp with rfl | rfl | rfl | rfl
  · exact absurd e T.td_02
  · exact absurd e T.td_12
  · rfl
  · exact absurd e (Ne.symm T.td_23)
theorem tm_law {a : A} : (a.cP_law, (("law" ++ ".<locals>.") ++ "<lambda>" : Str)) ∈ tabsA a := by simp [tabsA]
theorem tu_law {K : PySem.W.Frag} {mg : Str → Option Value} {a : A} (T : Txt K mg a) : ∀ p ∈ tabsA a, p.1 = a.cP_law → p.2 = (("law" ++ ".<locals>.") ++ "<lambda>" : Str) := by
  intro p hp e
  simp only [tabsA, List.mem_cons, List.not_mem_nil, or_false] at hp
  rcases hp with rfl | rfl | rfl | rfl
  · exact absurd e T.td_03
  · exact absurd e T.td_13
  · exact absurd e T.td_23
  · rfl
theorem pl_cG {Y : GR} : ∀ c ∈ cGr a Y, Pl c.2 := by
  intro c hc
  unfold cGr cG at hc
  rcases List.mem_cons.mp hc with rfl | hc
  · exact pl_ins
  · rcases List.mem_cons.mp hc with rfl | hc
    · exact pl_lst
    · unfold WS at hc
      obtain ⟨x, _, hx⟩ := List.mem_flatMap.mp hc
      unfold cW at hx
      simp only [List.mem_cons, List.not_mem_nil, or_false] at hx
      rcases hx with rfl | rfl | rfl
      · exact pl_ins
      · exact pl_dK
      · exact pl_dK
/-- data in D0 and more, the tables, what may change -/
def St (a : A) (H D0 : Hp) (R : List (List Cell)) : Prop := ∃ D pss, Ok H D (cT (tabsA a) pss :: R) ∧ Same D0 D ∧ NT D ∧ TabsOk D (tabsA a) pss
theorem u_askT0 {σ : L2.St} {D0 : Hp} {C : Addr} {k : Int} {t : XK → TE} (S : St a H D0 R) (pl : PlC R) (ik : IsK K a C (dueB k))
    (hc : ∀ (E : XK) (Z : VK) (H1 D1 : Hp) (M1 M2 : List Cell), Ok H1 D1 (M1 :: M2 :: R) → Same D0 D1 → (∀ H2 D2, Ok H2 D2 (M1 :: M2 :: R) → Same D1 D2 → E (.ref C) none H2) → t E σ H1 Z)
    (k1 : ∀ H' D' pss' p, Ok H' D' ([(p, .lst ((dueB k).map V.bl ++ [.bl true]))] :: cT (tabsA a) pss' :: R) → Same D0 D' → NT D' → TabsOk D' (tabsA a) pss' → Q (.ref p) H') : tLam (tabsA a) (TKinds K a) t σ H Q := by
  obtain ⟨D, pss, o, s0, nt, tk⟩ := S
  refine r_lamT o pl tk fun H1 D1 pss1 o1 s1 tk1 F0 nF Z _ => ?_
  have s2 : Same D D1 := (nt.same (Same.refl D)).trans s1
  refine hc _ Z _ D1 _ _ (o1.new nF) (s0.trans s2) fun H2 D2 o2 s3 => ⟨C, dueB k, noT D2, _, rfl, rfl, ik, o2.noT, fun p H3 o3 => ?_⟩
  exact k1 H3 (noT D2) pss1 p (o3.sel (.pick .here (.done (.there .here)))) (s0.trans (nt.same (s2.trans s3))) (NT.noT D2) (tk1.mono s3).noT
theorem u_askT {σ : L2.St} {D0 : Hp} {C : Addr} {k : Int} {t : XK → TE} {B : Bool → Hp → Prop} {W : L2.St → XK} (S : St a H D0 R) (pl : PlC R) (ik : IsK K a C (dueB k))
    (hc : ∀ (E : XK) (Z : VK) (H1 D1 : Hp) (M1 M2 : List Cell), Ok H1 D1 (M1 :: M2 :: R) → Same D0 D1 → (∀ H2 D2, Ok H2 D2 (M1 :: M2 :: R) → Same D1 D2 → E (.ref C) none H2) → t E σ H1 Z)
    (k1 : ∀ H', St a H' D0 R → B false H') : tTest (tOp (rNeU K) (tLam (tabsA a) (TKinds K a) t) (tCallS sp_law_due_of W (tCons (tC (.int k)) tNil))) σ H B := by
  refine r_test (r_op (u_askT0 S pl ik hc fun H1 D1 ps1 p o1 s1 nt1 tk1 => ?_))
  refine r_callS (r_cons (r_c (r_nil ⟨D1, _, k, rfl, o1, fun H2 p2 o2 => ?_⟩)))
  refine r_neD (dp_due (o2.at1 (.tail _ (.head _)))) (dp_due (o2.at1 (.head _))) (shaped_bools _) (shaped_bools _) ?_
  rw [show PyData.eqv (dueD k) (dueD k) = true from refl_of (shaped_bools _)]
  exact ⟨false, rfl, k1 H2 ⟨D1, ps1, o2.drop.drop, s1, nt1, tk1⟩⟩
theorem u_askE {σ : L2.St} {D0 : Hp} {C : Addr} {k : Int} {t : XK → TE} {W : L2.St → XK} (S : St a H D0 R) (pl : PlC R) (ik : IsK K a C (dueB k))
    (hc : ∀ (E : XK) (Z : VK) (H1 D1 : Hp) (M1 M2 : List Cell), Ok H1 D1 (M1 :: M2 :: R) → Same D0 D1 → (∀ H2 D2, Ok H2 D2 (M1 :: M2 :: R) → Same D1 D2 → E (.ref C) none H2) → t E σ H1 Z)
    (k1 : ∀ H', St a H' D0 R → Q (.bl true) H') : tOp (rEqU K) (tLam (tabsA a) (TKinds K a) t) (tCallS sp_law_due_of W (tCons (tC (.int k)) tNil)) σ H Q := by
  refine r_op (u_askT0 S pl ik hc fun H1 D1 ps1 p o1 s1 nt1 tk1 => ?_)
  refine r_callS (r_cons (r_c (r_nil ⟨D1, _, k, rfl, o1, fun H2 p2 o2 => ?_⟩)))
  refine r_eqD (dp_due (o2.at1 (.tail _ (.head _)))) (dp_due (o2.at1 (.head _))) (shaped_bools _) (shaped_bools _) ?_
  rw [show PyData.eqv (dueD k) (dueD k) = true from refl_of (shaped_bools _)]
  exact k1 H2 ⟨D1, ps1, o2.drop.drop, s1, nt1, tk1⟩
theorem u_askC {σ : L2.St} {D0 : Hp} {C : Addr} {k : Int} {t : XK → TE} {W : XK} (S : St a H D0 R) (pl : PlC R) (ik : IsK K a C (dueB k))
    (hc : ∀ (E : XK) (Z : VK) (H1 D1 : Hp) (M1 M2 : List Cell), Ok H1 D1 (M1 :: M2 :: R) → Same D0 D1 → (∀ H2 D2, Ok H2 D2 (M1 :: M2 :: R) → Same D1 D2 → E (.ref C) none H2) → t E σ H1 Z)
    (k1 : ∀ H', St a H' D0 R → Q (.bl true) H') : tOp (rEqU K) (tLam (tabsA a) (TKinds K a) t) (tCall sp_law_due_of [] W (tCons (tC (.int k)) tNil)) σ H Q := by
  refine r_op (u_askT0 S pl ik hc fun H1 D1 ps1 p o1 s1 nt1 tk1 => ?_)
  refine r_call (r_cons (r_c (r_nil ⟨D1, _, k, rfl, o1, fun H2 p2 o2 => ?_⟩)))
  refine r_eqD (dp_due (o2.at1 (.tail _ (.head _)))) (dp_due (o2.at1 (.head _))) (shaped_bools _) (shaped_bools _) ?_
  rw [show PyData.eqv (dueD k) (dueD k) = true from refl_of (shaped_bools _)]
  exact k1 H2 ⟨D1, ps1, o2.drop.drop, s1, nt1, tk1⟩
theorem St.ok {D0 : Hp} (S : St a H D0 R) : ∃ D pss, Ok H D (cT (tabsA a) pss :: R) ∧ Same D0 D ∧ NT D ∧ TabsOk D (tabsA a) pss := S
theorem St.re {D0 D' : Hp} {pss : List (Array Value)} {R' : List (List Cell)} (o : Ok H D' (cT (tabsA a) pss :: R')) (nt : NT D0) (s : Same D0 D') (tk : TabsOk D' (tabsA a) pss) : St a H D0 R' := ⟨noT D', pss, o.noT, nt.same s, NT.noT D', tk.noT⟩
/-! the doors' refusals -/
section
variable {Y : GR} {o z p m n c : V} {t1 t2 t3 t4 : String} {e : Err}
theorem u_initE {g dx : Addr} (ok : Ok H D ([(g, .ins a.c_Gifts dx [])] :: R)) (h1 : Tv K D p t1) (he : isC 1 5 p = false) (q : ∀ H', Ok H' D R → E (.ref a.c_BadPeople) none H') : sp_Gifts_init K a [.ref g, p] H Q E := ⟨D, R, g, dx, p, t1, rfl, ok, h1, fun h => absurd h (by rw [he]; decide), fun _ => q⟩
theorem u_wishE (ok : Ok H D (cGr a Y :: R)) (h1 : Tv K D o t1) (h2 : Tv K D z t2) (h3 : Tv K D p t3) (h4 : Tv K D m t4) (hz : ∀ y, z = .str y → y.length ≤ 1000) (hY : GOk Y) (he : mWish Y.pe (wsOf Y.xs) o z p m = .error e) (q : ∀ H', Ok H' D (cGr a Y :: R) → E (.ref (clsOf a e)) none H') : sp_wish K a [.ref Y.g, o, z, p, m] H Q E := by
  refine ⟨D, R, Y, o, z, p, m, t1, t2, t3, t4, rfl, ok, h1, h2, h3, h4, hz, hY, fun ws' r h => ?_, fun e' h H' o' => ?_⟩
  · rw [he] at h; cases h
  · rw [he] at h; cases h; exact q H' o'
theorem u_m3E {f : Int → List W → V → V → V → Except Err (List W × Int)} (ok : Ok H D (cGr a Y :: R)) (h1 : Tv K D p t1) (h2 : Tv K D n t2) (h3 : Tv K D c t3) (hY : GOk Y) (he : f Y.pe (wsOf Y.xs) p n c = .error e) (q : ∀ H', Ok H' D (cGr a Y :: R) → E (.ref (clsOf a e)) none H') : sp_m3 K a f [.ref Y.g, p, n, c] H Q E := by
  refine ⟨D, R, Y, p, n, c, t1, t2, t3, rfl, ok, h1, h2, h3, hY, fun ws' r h => ?_, fun e' h H' o' => ?_⟩
  · rw [he] at h; cases h
  · rw [he] at h; cases h; exact q H' o'
theorem u_dropE (ok : Ok H D (cGr a Y :: R)) (h1 : Tv K D p t1) (h2 : Tv K D n t2) (hY : GOk Y) (he : mDrop Y.pe (wsOf Y.xs) p n = .error e) (q : ∀ H', Ok H' D (cGr a Y :: R) → E (.ref (clsOf a e)) none H') : sp_drop K a [.ref Y.g, p, n] H Q E := by
  refine ⟨D, R, Y, p, n, t1, t2, rfl, ok, h1, h2, hY, fun ws' h => ?_, fun e' h H' o' => ?_⟩
  · rw [he] at h; cases h
  · rw [he] at h; cases h; exact q H' o'
theorem u_backE (ok : Ok H D (cGr a Y :: R)) (h1 : Tv K D p t1) (h2 : Tv K D n t2) (hY : GOk Y) (he : mBack Y.pe (wsOf Y.xs) p n = .error e) (q : ∀ H', Ok H' D (cGr a Y :: R) → E (.ref (clsOf a e)) none H') : sp_back K a [.ref Y.g, p, n] H Q E := by
  refine ⟨D, R, Y, p, n, t1, t2, rfl, ok, h1, h2, hY, fun ws' r1 r2 h => ?_, fun e' h H' o' => ?_⟩
  · rw [he] at h; cases h
  · rw [he] at h; cases h; exact q H' o'
theorem u_seenE (ok : Ok H D (cGr a Y :: R)) (h1 : Tv K D p t1) (hY : GOk Y) (he : isC 0 (Y.pe - 1) p = false) (q : ∀ H', Ok H' D (cGr a Y :: R) → E (.ref a.c_BadPerson) none H') : sp_seen K a [.ref Y.g, p] H Q E := ⟨D, R, Y, p, t1, rfl, ok, h1, hY, fun h => absurd h (by rw [he]; decide), fun _ => q⟩
/-- what a list refuses, asked for -/
theorem u_askG0 {σ : L2.St} {D0 : Hp} {C : Addr} {k : Int} {t : XK → TE} (S : St a H D0 (cGr a Y :: R)) (pl : PlC R) (ik : IsK K a C (dueB k))
    (hc : ∀ (E : XK) (Z : VK) (H1 D1 : Hp) (R1 : List (List Cell)), Ok H1 D1 (cGr a Y :: R1) → Same D0 D1 → (∀ H2, Ok H2 D1 (cGr a Y :: R1) → E (.ref C) none H2) → t E σ H1 Z)
    {B : Bool → Hp → Prop} {W : L2.St → XK} (k1 : ∀ H', St a H' D0 (cGr a Y :: R) → B false H') : tTest (tOp (rNeU K) (tLam (tabsA a) (TKinds K a) t) (tCallS sp_law_due_of W (tCons (tC (.int k)) tNil))) σ H B :=
  u_askT S (PlC.cons pl_cG pl) ik (fun E Z H1 D1 M1 M2 o1 s1 hE => hc E Z H1 D1 (M1 :: M2 :: R) (o1.sel (.pick (.there (.there .here)) (.pick .here (.pick .here (.done .here))))) s1 fun H2 o2 => hE H2 D1 (o2.sel (.pick (.there .here) (.pick (.there .here) (.pick .here (.done .here))))) (Same.refl _)) k1
theorem u_askG1 {σ : L2.St} {D0 : Hp} {C : Addr} {k : Int} {t : XK → TE} (S : St a H D0 (cGr a Y :: R)) (pl : PlC R) (ik : IsK K a C (dueB k))
    (hc : ∀ (E : XK) (Z : VK) (H1 D1 : Hp) (R1 : List (List Cell)), Ok H1 D1 (cGr a Y :: R1) → Same D0 D1 → (∀ H2, Ok H2 D1 (cGr a Y :: R1) → E (.ref C) none H2) → t E σ H1 Z)
    {W : L2.St → XK} (k1 : ∀ H', St a H' D0 (cGr a Y :: R) → Q (.bl true) H') : tOp (rEqU K) (tLam (tabsA a) (TKinds K a) t) (tCallS sp_law_due_of W (tCons (tC (.int k)) tNil)) σ H Q :=
  u_askE S (PlC.cons pl_cG pl) ik (fun E Z H1 D1 M1 M2 o1 s1 hE => hc E Z H1 D1 (M1 :: M2 :: R) (o1.sel (.pick (.there (.there .here)) (.pick .here (.pick .here (.done .here))))) s1 fun H2 o2 => hE H2 D1 (o2.sel (.pick (.there .here) (.pick (.there .here) (.pick .here (.done .here))))) (Same.refl _)) k1
theorem u_askGE {σ : L2.St} {D0 : Hp} {C : Addr} {k : Int} {t : XK → TE} {L : Addr} {acc : List V} (S : St a H D0 ([(L, .lst acc)] :: cGr a Y :: R)) (pl : PlC R) (ik : IsK K a C (dueB k))
    (hc : ∀ (E : XK) (Z : VK) (H1 D1 : Hp) (R1 : List (List Cell)), Ok H1 D1 (cGr a Y :: R1) → Same D0 D1 → (∀ H2, Ok H2 D1 (cGr a Y :: R1) → E (.ref C) none H2) → t E σ H1 Z)
    {W : XK} (k1 : ∀ H', St a H' D0 ([(L, .lst acc)] :: cGr a Y :: R) → Q (.bl true) H') : tOp (rEqU K) (tLam (tabsA a) (TKinds K a) t) (tCall sp_law_due_of [] W (tCons (tC (.int k)) tNil)) σ H Q :=
  u_askC S (PlC.cons (fun c hc => by rw [List.mem_singleton.mp hc]; exact pl_lst) (PlC.cons pl_cG pl)) ik (fun E Z H1 D1 M1 M2 o1 s1 hE => hc E Z H1 D1 (M1 :: M2 :: [(L, .lst acc)] :: R) (o1.sel (.pick (.there (.there (.there .here))) (.pick .here (.pick .here (.pick .here (.done .here)))))) s1 fun H2 o2 => hE H2 D1 (o2.sel (.pick (.there .here) (.pick (.there .here) (.pick (.there .here) (.pick .here (.done .here)))))) (Same.refl _)) k1
end
end
end PP

namespace PP
open PySem PySem.Spec PyProof.Rows L2 G LamX
/-! no persons -/
def ws9 : List W := [⟨0, "a", 5, 1, true, [(1, 1)], []⟩, ⟨1, "zzzz", 20, 3, false, [(0, 2)], []⟩, ⟨0, "q", 9, 1, true, [], [(1, 2)]⟩]
def sp_rights (a : A) : Sp := fun vs H Q _ => ∃ (D : Hp) (Y : GR) (R : List (List Cell)) (z : Int), vs = [.ref Y.g, .int z] ∧ St a H D (cGr a Y :: R) ∧ NT D ∧ PlC R ∧ GOk Y ∧ Y.pe = 3 ∧ wsOf Y.xs = ws9 ∧ 1 ≤ z ∧ ∀ H', St a H' D (cGr a Y :: R) → Q (.bl true) H'
section
variable {P : Program} {w : World} {K : PySem.W.Frag} {mg : Str → Option Value} {base : Heap} {a : A} {H D : Hp} {Q : VK} {E : XK} {Ms R : List (List G.Cell)} {σ : L2.St}
theorem St.dat {D0 : Hp} {b : Addr} {u : HO} (S : St a H D0 R) (h : D0 b = some u) : H b = some u := by
  obtain ⟨D, pss, o, s, _⟩ := S
  exact o.dat (s _ _ h)
theorem St.thin {D0 D1 : Hp} (s : Same D0 D1) (S : St a H D1 R) : St a H D0 R := by
  obtain ⟨D, pss, o, s1, nt, tk⟩ := S
  exact ⟨D, pss, o, s.trans s1, nt, tk⟩
theorem strS {z : Int} {te : TE} {es : List PyData} (S : St a H D R) (nt : NT D) (he : ∀ D', LitE σ D' te (.list es)) (hl : es.length ≤ 100)
    (k : ∀ H' D' L xs, St a H' D' R → NT D' → Same D D' → D' L = some (.lst xs) → FzAll D' xs (strangeD z ++ es) → Q (.ref L) H') : sp_law_strange [.int z] H (fun v H' => te σ H' fun u H'' => rAddU K v u H'' Q) E := by
  obtain ⟨D1, pss1, o1, s1, nt1, tk1⟩ := S
  refine u_strange o1 fun H2 D2 v2 o2 s2 f2 => ?_
  refine r_lite o2 (he D2) fun H3 D3 v3 o3 s3 f3 => ?_
  refine r_addFz o3 (f2.mono s3) f3 (by show 9 + _ ≤ 1000; omega) fun H4 D4 v4 o4 s4 f4 => ?_
  obtain ⟨L, xs, rfl, hL, g⟩ := fz_lst f4.noT
  exact k H4 (noT D4) L xs ⟨noT D4, pss1, o4.noT, Same.refl _, NT.noT D4, (tk1.mono (s2.trans (s3.trans s4))).noT⟩ (NT.noT D4) (nt.same (s1.trans (s2.trans (s3.trans s4)))) hL g
theorem str3 {z : Int} (hz : 1 ≤ z) : ∀ d ∈ strangeD z ++ [.int 3, .int (2 + z + 1)], cntD 0 2 d = false := by
  intro o ho
  unfold strangeD at ho
  simp only [List.cons_append, List.nil_append, List.mem_cons, List.not_mem_nil, or_false] at ho
  rcases ho with rfl | rfl | rfl | rfl | rfl | rfl | rfl | rfl | rfl | rfl | rfl <;> first | rfl | (unfold cntD; simp; omega)
section
variable {pe : Int} {ws : List W} {o z p m n c : V}
theorem mW_p (h : isC 0 (pe - 1) o = false) : mWish pe ws o z p m = .error .person := by unfold mWish; rw [h]; rfl
theorem mA_p (h : isC 0 (pe - 1) o = false) : mAlter pe ws o n m = .error .person := by unfold mAlter; rw [ownAt_p h]
theorem mD_p (h : isC 0 (pe - 1) o = false) : mDrop pe ws o n = .error .person := by unfold mDrop; rw [ownAt_p h]
theorem mT_p (h : isC 0 (pe - 1) o = false) : mTake pe ws o n m = .error .person := by unfold mTake; rw [otherAt_p h]
theorem mP_p (h : isC 0 (pe - 1) o = false) : mPledge pe ws o n m = .error .person := by unfold mPledge; rw [otherAt_p h]
theorem mB_p (h : isC 0 (pe - 1) o = false) : mBack pe ws o n = .error .person := by unfold mBack; rw [h]; rfl
end
local macro_rules | `(tactic| walk_at "g3") => `(tactic| ((with_reducible refine' g_me (by assumption) ?k ?l ?_); (case k => walk_at "mem"); (case l => rfl)))
set_option maxHeartbeats 8000000 in
theorem ok_law_persons_right (T : Txt K mg a) (B_law_persons_right : TabB base mg a.cc_law_persons_right a.cP_law_persons_right) : FnOk P w K mg base (L2.CX P w) 8 a.f_law_persons_right a.d_law_persons_right ["_law_gifts", "_law_far"] (sp_rights a) := by
  refine T.lam_law_persons_right.ok sc_law_persons_right (fun vs H Q E h => ?_) (fun A outer s H vs Q E hr h => ?_)
  · obtain ⟨D, Y, R, z, rfl, _⟩ := h
    rfl
  · obtain ⟨D, Y, R, z, rfl, S, nt, pl, hY, hp, hw, hz, k⟩ := h
    refine ⟨_, (pss_cons (ps_for (passes_of rfl) rfl (G.k_seq (K := K) (pe_op (G.k_addU (K := K)) (pe_callS (ok_law_strange (K := K) T) (hr.mono (by decide)) rfl T.law_strange.g T.law_strange.k T.law_strange.b (fun σ => passAt (takes_of rfl rfl rfl rfl) σ) (pa_cons (pv 1) pa_nil)) (pe_lst (pa_cons pe_int (pa_cons (pe_op (G.k_addU (K := K)) (pe_op (G.k_addU (K := K)) pe_int (pv 1)) pe_int) pa_nil))))) (pg_name (i := 2) sc_law_persons_right.nd rfl (by first | exact Or.inl rfl | exact Or.inr rfl))
  (pss_cons (ps_if (pt_cmpR (G.k_neU (K := K) hr) (pe_kindsT (k := 5) (q := (("_law_persons_right" ++ ".<locals>.") ++ "<lambda>" : Str)) T (B_law_persons_right) tm_law_persons_right (tu_law_persons_right T) (fun _ _ _ _ _ _ _ hr => (G.pe_me (pv 0) T.cl_Gifts T.Gifts_wish.m (ok_Gifts_wish (K := K) T) (hr.mono (by decide)) T.Gifts_wish.b (passes_call (takes_of rfl rfl rfl rfl) (fun _ _ _ _ h => h)) (pa_cons (pv 2) (pa_cons pe_non (pa_cons pe_non (pa_cons pe_non pa_nil)))))) (hr.mono (by decide)) (lamS_by (sc := defScope s_law_persons_right) (by decide +kernel))) (pe_callS (ok_law_due_of (K := K) T) (hr.mono (by decide)) rfl T.law_due_of.g T.law_due_of.k T.law_due_of.b (fun σ => passAt (takes_of rfl rfl rfl rfl) σ) (pa_cons pe_int pa_nil)) (nomark _)) (pss_one (ps_ret pe_bl)) pss_nil)
  (pss_cons (ps_if (pt_cmpR (G.k_neU (K := K) hr) (pe_kindsT (k := 5) (q := (("_law_persons_right" ++ ".<locals>.") ++ "<lambda>" : Str)) T (B_law_persons_right) tm_law_persons_right (tu_law_persons_right T) (fun _ _ _ _ _ _ _ hr => (G.pe_me (pv 0) T.cl_Gifts T.Gifts_alter.m (ok_Gifts_alter (K := K) T) (hr.mono (by decide)) T.Gifts_alter.b (passes_call (takes_of rfl rfl rfl rfl) (fun _ _ _ _ h => h)) (pa_cons (pv 2) (pa_cons pe_non (pa_cons pe_non pa_nil))))) (hr.mono (by decide)) (lamS_by (sc := defScope s_law_persons_right) (by decide +kernel))) (pe_callS (ok_law_due_of (K := K) T) (hr.mono (by decide)) rfl T.law_due_of.g T.law_due_of.k T.law_due_of.b (fun σ => passAt (takes_of rfl rfl rfl rfl) σ) (pa_cons pe_int pa_nil)) (nomark _)) (pss_one (ps_ret pe_bl)) pss_nil)
  (pss_cons (ps_if (pt_cmpR (G.k_neU (K := K) hr) (pe_kindsT (k := 5) (q := (("_law_persons_right" ++ ".<locals>.") ++ "<lambda>" : Str)) T (B_law_persons_right) tm_law_persons_right (tu_law_persons_right T) (fun _ _ _ _ _ _ _ hr => (G.pe_me (pv 0) T.cl_Gifts T.Gifts_take.m (ok_Gifts_take (K := K) T) (hr.mono (by decide)) T.Gifts_take.b (passes_call (takes_of rfl rfl rfl rfl) (fun _ _ _ _ h => h)) (pa_cons (pv 2) (pa_cons pe_non (pa_cons pe_non pa_nil))))) (hr.mono (by decide)) (lamS_by (sc := defScope s_law_persons_right) (by decide +kernel))) (pe_callS (ok_law_due_of (K := K) T) (hr.mono (by decide)) rfl T.law_due_of.g T.law_due_of.k T.law_due_of.b (fun σ => passAt (takes_of rfl rfl rfl rfl) σ) (pa_cons pe_int pa_nil)) (nomark _)) (pss_one (ps_ret pe_bl)) pss_nil)
  (pss_cons (ps_if (pt_cmpR (G.k_neU (K := K) hr) (pe_kindsT (k := 5) (q := (("_law_persons_right" ++ ".<locals>.") ++ "<lambda>" : Str)) T (B_law_persons_right) tm_law_persons_right (tu_law_persons_right T) (fun _ _ _ _ _ _ _ hr => (G.pe_me (pv 0) T.cl_Gifts T.Gifts_pledge.m (ok_Gifts_pledge (K := K) T) (hr.mono (by decide)) T.Gifts_pledge.b (passes_call (takes_of rfl rfl rfl rfl) (fun _ _ _ _ h => h)) (pa_cons (pv 2) (pa_cons pe_non (pa_cons pe_non pa_nil))))) (hr.mono (by decide)) (lamS_by (sc := defScope s_law_persons_right) (by decide +kernel))) (pe_callS (ok_law_due_of (K := K) T) (hr.mono (by decide)) rfl T.law_due_of.g T.law_due_of.k T.law_due_of.b (fun σ => passAt (takes_of rfl rfl rfl rfl) σ) (pa_cons pe_int pa_nil)) (nomark _)) (pss_one (ps_ret pe_bl)) pss_nil)
  (pss_cons (ps_if (pt_cmpR (G.k_neU (K := K) hr) (pe_kindsT (k := 5) (q := (("_law_persons_right" ++ ".<locals>.") ++ "<lambda>" : Str)) T (B_law_persons_right) tm_law_persons_right (tu_law_persons_right T) (fun _ _ _ _ _ _ _ hr => (G.pe_me (pv 0) T.cl_Gifts T.Gifts_drop.m (ok_Gifts_drop (K := K) T) (hr.mono (by decide)) T.Gifts_drop.b (passes_call (takes_of rfl rfl rfl rfl) (fun _ _ _ _ h => h)) (pa_cons (pv 2) (pa_cons pe_non pa_nil)))) (hr.mono (by decide)) (lamS_by (sc := defScope s_law_persons_right) (by decide +kernel))) (pe_callS (ok_law_due_of (K := K) T) (hr.mono (by decide)) rfl T.law_due_of.g T.law_due_of.k T.law_due_of.b (fun σ => passAt (takes_of rfl rfl rfl rfl) σ) (pa_cons pe_int pa_nil)) (nomark _)) (pss_one (ps_ret pe_bl)) pss_nil)
  (pss_cons (ps_if (pt_cmpR (G.k_neU (K := K) hr) (pe_kindsT (k := 5) (q := (("_law_persons_right" ++ ".<locals>.") ++ "<lambda>" : Str)) T (B_law_persons_right) tm_law_persons_right (tu_law_persons_right T) (fun _ _ _ _ _ _ _ hr => (G.pe_me (pv 0) T.cl_Gifts T.Gifts_back.m (ok_Gifts_back (K := K) T) (hr.mono (by decide)) T.Gifts_back.b (passes_call (takes_of rfl rfl rfl rfl) (fun _ _ _ _ h => h)) (pa_cons (pv 2) (pa_cons pe_non pa_nil)))) (hr.mono (by decide)) (lamS_by (sc := defScope s_law_persons_right) (by decide +kernel))) (pe_callS (ok_law_due_of (K := K) T) (hr.mono (by decide)) rfl T.law_due_of.g T.law_due_of.k T.law_due_of.b (fun σ => passAt (takes_of rfl rfl rfl rfl) σ) (pa_cons pe_int pa_nil)) (nomark _)) (pss_one (ps_ret pe_bl)) pss_nil)
  (pss_one (ps_if (pt_cmpR (G.k_neU (K := K) hr) (pe_kindsT (k := 5) (q := (("_law_persons_right" ++ ".<locals>.") ++ "<lambda>" : Str)) T (B_law_persons_right) tm_law_persons_right (tu_law_persons_right T) (fun _ _ _ _ _ _ _ hr => (G.pe_me (pv 0) T.cl_Gifts T.Gifts_seen.m (ok_Gifts_seen (K := K) T) (hr.mono (by decide)) T.Gifts_seen.b (passes_call (takes_of rfl rfl rfl rfl) (fun _ _ _ _ h => h)) (pa_cons (pv 2) pa_nil))) (hr.mono (by decide)) (lamS_by (sc := defScope s_law_persons_right) (by decide +kernel))) (pe_callS (ok_law_due_of (K := K) T) (hr.mono (by decide)) rfl T.law_due_of.g T.law_due_of.k T.law_due_of.b (fun σ => passAt (takes_of rfl rfl rfl rfl) σ) (pa_cons pe_int pa_nil)) (nomark _)) (pss_one (ps_ret pe_bl)) pss_nil)))))))))
  (pss_one (ps_ret pe_bl))), ?_⟩
    walk_at "go"
    refine strS (es := [.int 3, .int (2 + z + 1)]) S nt (fun D' => by walk_at "lite") (by simp) fun H2 D2 L xs S2 nt2 s2 hL g => ?_
    refine r_iseqL (SqL.of (S2.dat hL)) ?_
    refine for_it (walk_list (xs := xs)) (fun i σ H' => ∃ v1, σ = [some (.ref Y.g), some (.int z), v1] ∧ St a H' D2 (cGr a Y :: R)) ⟨_, rfl, S2⟩ ?_ ?_ ?_
    · rintro i σ H' _ ⟨v1, rfl, S'⟩
      exact SqL.of (S'.dat hL)
    · rintro i y σ H' H'' hi ⟨v1, rfl, S'⟩ ⟨rfl, ey⟩
      have ey : xs[i]? = some y := ey
      obtain ⟨d, hd, fd⟩ := g.get ey
      have hno : isC 0 (Y.pe - 1) y = false := by rw [hp]; exact (isC_fz fd).trans (str3 hz d (List.mem_of_getElem? hd))
      clear S S2
      refine r_name ?_
      walk_at "g1"
      refine r_ifS (u_askG0 S' pl (isK_BadPerson T) (fun E Z H1 D1 R1 o1 s1 hE => ?_) fun H1 S1 => r_iteF ?_)
      · walk_at "go"
        exact u_wishE o1 (fz_tv (Same.refl _) (fd.mono s1)) .non .non .non nofun hY (mW_p hno) hE
      walk_at "g1"
      refine r_ifS (u_askG0 S1 pl (isK_BadPerson T) (fun E Z H1 D1 R1 o1 s1 hE => ?_) fun H2 S2 => r_iteF ?_)
      · walk_at "go"
        exact u_m3E o1 (fz_tv (Same.refl _) (fd.mono s1)) .non .non hY (mA_p hno) hE
      walk_at "g1"
      refine r_ifS (u_askG0 S2 pl (isK_BadPerson T) (fun E Z H1 D1 R1 o1 s1 hE => ?_) fun H3 S3 => r_iteF ?_)
      · walk_at "go"
        exact u_m3E o1 (fz_tv (Same.refl _) (fd.mono s1)) .non .non hY (mT_p hno) hE
      walk_at "g1"
      refine r_ifS (u_askG0 S3 pl (isK_BadPerson T) (fun E Z H1 D1 R1 o1 s1 hE => ?_) fun H4 S4 => r_iteF ?_)
      · walk_at "go"
        exact u_m3E o1 (fz_tv (Same.refl _) (fd.mono s1)) .non .non hY (mP_p hno) hE
      walk_at "g1"
      refine r_ifS (u_askG0 S4 pl (isK_BadPerson T) (fun E Z H1 D1 R1 o1 s1 hE => ?_) fun H5 S5 => r_iteF ?_)
      · walk_at "go"
        exact u_dropE o1 (fz_tv (Same.refl _) (fd.mono s1)) .non hY (mD_p hno) hE
      walk_at "g1"
      refine r_ifS (u_askG0 S5 pl (isK_BadPerson T) (fun E Z H1 D1 R1 o1 s1 hE => ?_) fun H6 S6 => r_iteF ?_)
      · walk_at "go"
        exact u_backE o1 (fz_tv (Same.refl _) (fd.mono s1)) .non hY (mB_p hno) hE
      walk_at "g1"
      refine r_ifS (u_askG0 S6 pl (isK_BadPerson T) (fun E Z H1 D1 R1 o1 s1 hE => ?_) fun H7 S7 => r_iteF ?_)
      · walk_at "go"
        exact u_seenE o1 (fz_tv (Same.refl _) (fd.mono s1)) hY hno hE
      exact ⟨_, rfl, S7⟩
    · rintro σ H' ⟨v1, rfl, S'⟩
      walk_at "go"
      exact k _ (S'.thin s2)
end
end PP

namespace PP
open PySem PySem.Spec PyProof.Rows L2 G LamX
/-! no wishes -/
section
variable {P : Program} {w : World} {K : PySem.W.Frag} {mg : Str → Option Value} {base : Heap} {a : A} {H D : Hp} {Q : VK} {E : XK} {Ms R : List (List G.Cell)} {σ : L2.St}
def noW (v : V) : Prop := isC 0 2 v = false ∨ v = .int 1
theorem strW {z : Int} (hz : 1 ≤ z) : ∀ d ∈ strangeD z ++ [.int 3, .int (2 + z + 1), .int 1], cntD 0 2 d = false ∨ d = .int 1 := by
  intro o ho
  unfold strangeD at ho
  simp only [List.cons_append, List.nil_append, List.mem_cons, List.not_mem_nil, or_false] at ho
  rcases ho with rfl | rfl | rfl | rfl | rfl | rfl | rfl | rfl | rfl | rfl | rfl | rfl <;> first | exact .inl rfl | exact .inr rfl | (refine .inl ?_; unfold cntD; simp; omega)
theorem noW_fz {v : V} {d : PyData} (f : Fz D v d) (h : cntD 0 2 d = false ∨ d = .int 1) : noW v := by
  rcases h with h | rfl
  · exact .inl ((isC_fz f).trans h)
  · exact .inr (fz_int f)
section
variable {m n : V}
theorem own9 (h : noW n) : ownAt 3 ws9 (.int 0) n = .error .wish := by
  rcases h with h | rfl
  · exact ownAt_w (by decide) h
  · rfl
theorem other9 (h : noW n) : otherAt 3 ws9 (.int 2) n = .error .wish := by
  rcases h with h | rfl
  · exact otherAt_w (by decide) h
  · rfl
theorem mA_w (h : noW n) : mAlter 3 ws9 (.int 0) n m = .error .wish := by unfold mAlter; rw [own9 h]
theorem mD_w (h : noW n) : mDrop 3 ws9 (.int 0) n = .error .wish := by unfold mDrop; rw [own9 h]
theorem mT_w (h : noW n) : mTake 3 ws9 (.int 2) n m = .error .wish := by unfold mTake; rw [other9 h]
theorem mP_w (h : noW n) : mPledge 3 ws9 (.int 2) n m = .error .wish := by unfold mPledge; rw [other9 h]
theorem mB_w (h : noW n) : mBack 3 ws9 (.int 2) n = .error .wish := by
  rcases h with h | rfl
  · unfold mBack
    rw [show isC 0 (3 - 1) (.int 2) = true from rfl, show isC 0 ((ws9.length : Int) - 1) n = false from h]
    rfl
  · rfl
end
local macro_rules | `(tactic| walk_at "g3") => `(tactic| first
  | ((with_reducible refine' g_me (by assumption) ?k ?l ?_); (case k => walk_at "mem"); (case l => rfl))
  | fail)
set_option maxHeartbeats 8000000 in
theorem ok_law_wishes_right (T : Txt K mg a) (B_law_wishes_right : TabB base mg a.cc_law_wishes_right a.cP_law_wishes_right) : FnOk P w K mg base (L2.CX P w) 8 a.f_law_wishes_right a.d_law_wishes_right ["_law_gifts", "_law_far"] (sp_rights a) := by
  refine T.lam_law_wishes_right.ok sc_law_wishes_right (fun vs H Q E h => ?_) (fun A outer s H vs Q E hr h => ?_)
  · obtain ⟨D, Y, R, z, rfl, _⟩ := h
    rfl
  · obtain ⟨D, Y, R, z, rfl, S, nt, pl, hY, hp, hw, hz, k⟩ := h
    refine ⟨_, (pss_cons (ps_for (passes_of rfl) rfl (G.k_seq (K := K) (pe_op (G.k_addU (K := K)) (pe_callS (ok_law_strange (K := K) T) (hr.mono (by decide)) rfl T.law_strange.g T.law_strange.k T.law_strange.b (fun σ => passAt (takes_of rfl rfl rfl rfl) σ) (pa_cons (pv 1) pa_nil)) (pe_lst (pa_cons pe_int (pa_cons (pe_op (G.k_addU (K := K)) (pe_op (G.k_addU (K := K)) pe_int (pv 1)) pe_int) (pa_cons pe_int pa_nil)))))) (pg_name (i := 2) sc_law_wishes_right.nd rfl (by first | exact Or.inl rfl | exact Or.inr rfl))
  (pss_cons (ps_if (pt_cmpR (G.k_neU (K := K) hr) (pe_kindsT (k := 5) (q := (("_law_wishes_right" ++ ".<locals>.") ++ "<lambda>" : Str)) T (B_law_wishes_right) tm_law_wishes_right (tu_law_wishes_right T) (fun _ _ _ _ _ _ _ hr => (G.pe_me (pv 0) T.cl_Gifts T.Gifts_alter.m (ok_Gifts_alter (K := K) T) (hr.mono (by decide)) T.Gifts_alter.b (passes_call (takes_of rfl rfl rfl rfl) (fun _ _ _ _ h => h)) (pa_cons pe_int (pa_cons (pv 2) (pa_cons pe_non pa_nil))))) (hr.mono (by decide)) (lamS_by (sc := defScope s_law_wishes_right) (by decide +kernel))) (pe_callS (ok_law_due_of (K := K) T) (hr.mono (by decide)) rfl T.law_due_of.g T.law_due_of.k T.law_due_of.b (fun σ => passAt (takes_of rfl rfl rfl rfl) σ) (pa_cons pe_int pa_nil)) (nomark _)) (pss_one (ps_ret pe_bl)) pss_nil)
  (pss_cons (ps_if (pt_cmpR (G.k_neU (K := K) hr) (pe_kindsT (k := 5) (q := (("_law_wishes_right" ++ ".<locals>.") ++ "<lambda>" : Str)) T (B_law_wishes_right) tm_law_wishes_right (tu_law_wishes_right T) (fun _ _ _ _ _ _ _ hr => (G.pe_me (pv 0) T.cl_Gifts T.Gifts_drop.m (ok_Gifts_drop (K := K) T) (hr.mono (by decide)) T.Gifts_drop.b (passes_call (takes_of rfl rfl rfl rfl) (fun _ _ _ _ h => h)) (pa_cons pe_int (pa_cons (pv 2) pa_nil)))) (hr.mono (by decide)) (lamS_by (sc := defScope s_law_wishes_right) (by decide +kernel))) (pe_callS (ok_law_due_of (K := K) T) (hr.mono (by decide)) rfl T.law_due_of.g T.law_due_of.k T.law_due_of.b (fun σ => passAt (takes_of rfl rfl rfl rfl) σ) (pa_cons pe_int pa_nil)) (nomark _)) (pss_one (ps_ret pe_bl)) pss_nil)
  (pss_cons (ps_if (pt_cmpR (G.k_neU (K := K) hr) (pe_kindsT (k := 5) (q := (("_law_wishes_right" ++ ".<locals>.") ++ "<lambda>" : Str)) T (B_law_wishes_right) tm_law_wishes_right (tu_law_wishes_right T) (fun _ _ _ _ _ _ _ hr => (G.pe_me (pv 0) T.cl_Gifts T.Gifts_take.m (ok_Gifts_take (K := K) T) (hr.mono (by decide)) T.Gifts_take.b (passes_call (takes_of rfl rfl rfl rfl) (fun _ _ _ _ h => h)) (pa_cons pe_int (pa_cons (pv 2) (pa_cons pe_non pa_nil))))) (hr.mono (by decide)) (lamS_by (sc := defScope s_law_wishes_right) (by decide +kernel))) (pe_callS (ok_law_due_of (K := K) T) (hr.mono (by decide)) rfl T.law_due_of.g T.law_due_of.k T.law_due_of.b (fun σ => passAt (takes_of rfl rfl rfl rfl) σ) (pa_cons pe_int pa_nil)) (nomark _)) (pss_one (ps_ret pe_bl)) pss_nil)
  (pss_cons (ps_if (pt_cmpR (G.k_neU (K := K) hr) (pe_kindsT (k := 5) (q := (("_law_wishes_right" ++ ".<locals>.") ++ "<lambda>" : Str)) T (B_law_wishes_right) tm_law_wishes_right (tu_law_wishes_right T) (fun _ _ _ _ _ _ _ hr => (G.pe_me (pv 0) T.cl_Gifts T.Gifts_pledge.m (ok_Gifts_pledge (K := K) T) (hr.mono (by decide)) T.Gifts_pledge.b (passes_call (takes_of rfl rfl rfl rfl) (fun _ _ _ _ h => h)) (pa_cons pe_int (pa_cons (pv 2) (pa_cons pe_non pa_nil))))) (hr.mono (by decide)) (lamS_by (sc := defScope s_law_wishes_right) (by decide +kernel))) (pe_callS (ok_law_due_of (K := K) T) (hr.mono (by decide)) rfl T.law_due_of.g T.law_due_of.k T.law_due_of.b (fun σ => passAt (takes_of rfl rfl rfl rfl) σ) (pa_cons pe_int pa_nil)) (nomark _)) (pss_one (ps_ret pe_bl)) pss_nil)
  (pss_one (ps_if (pt_cmpR (G.k_neU (K := K) hr) (pe_kindsT (k := 5) (q := (("_law_wishes_right" ++ ".<locals>.") ++ "<lambda>" : Str)) T (B_law_wishes_right) tm_law_wishes_right (tu_law_wishes_right T) (fun _ _ _ _ _ _ _ hr => (G.pe_me (pv 0) T.cl_Gifts T.Gifts_back.m (ok_Gifts_back (K := K) T) (hr.mono (by decide)) T.Gifts_back.b (passes_call (takes_of rfl rfl rfl rfl) (fun _ _ _ _ h => h)) (pa_cons pe_int (pa_cons (pv 2) pa_nil)))) (hr.mono (by decide)) (lamS_by (sc := defScope s_law_wishes_right) (by decide +kernel))) (pe_callS (ok_law_due_of (K := K) T) (hr.mono (by decide)) rfl T.law_due_of.g T.law_due_of.k T.law_due_of.b (fun σ => passAt (takes_of rfl rfl rfl rfl) σ) (pa_cons pe_int pa_nil)) (nomark _)) (pss_one (ps_ret pe_bl)) pss_nil)))))))
  (pss_cons (ps_for (passes_of rfl) rfl (G.k_tup (K := K) (pe_tup (pa_cons pe_int (pa_cons pe_int pa_nil)))) (pg_name (i := 3) sc_law_wishes_right.nd rfl (by first | exact Or.inl rfl | exact Or.inr rfl))
  (pss_cons (ps_if (pt_cmpR (G.k_neU (K := K) hr) (pe_kindsT (k := 5) (q := (("_law_wishes_right" ++ ".<locals>.") ++ "<lambda>" : Str)) T (B_law_wishes_right) tm_law_wishes_right (tu_law_wishes_right T) (fun _ _ _ _ _ _ _ hr => (G.pe_me (pv 0) T.cl_Gifts T.Gifts_take.m (ok_Gifts_take (K := K) T) (hr.mono (by decide)) T.Gifts_take.b (passes_call (takes_of rfl rfl rfl rfl) (fun _ _ _ _ h => h)) (pa_cons pe_int (pa_cons (pv 3) (pa_cons pe_non pa_nil))))) (hr.mono (by decide)) (lamS_by (sc := defScope s_law_wishes_right) (by decide +kernel))) (pe_callS (ok_law_due_of (K := K) T) (hr.mono (by decide)) rfl T.law_due_of.g T.law_due_of.k T.law_due_of.b (fun σ => passAt (takes_of rfl rfl rfl rfl) σ) (pa_cons pe_int pa_nil)) (nomark _)) (pss_one (ps_ret pe_bl)) pss_nil)
  (pss_cons (ps_if (pt_cmpR (G.k_neU (K := K) hr) (pe_kindsT (k := 5) (q := (("_law_wishes_right" ++ ".<locals>.") ++ "<lambda>" : Str)) T (B_law_wishes_right) tm_law_wishes_right (tu_law_wishes_right T) (fun _ _ _ _ _ _ _ hr => (G.pe_me (pv 0) T.cl_Gifts T.Gifts_pledge.m (ok_Gifts_pledge (K := K) T) (hr.mono (by decide)) T.Gifts_pledge.b (passes_call (takes_of rfl rfl rfl rfl) (fun _ _ _ _ h => h)) (pa_cons pe_int (pa_cons (pv 3) (pa_cons pe_non pa_nil))))) (hr.mono (by decide)) (lamS_by (sc := defScope s_law_wishes_right) (by decide +kernel))) (pe_callS (ok_law_due_of (K := K) T) (hr.mono (by decide)) rfl T.law_due_of.g T.law_due_of.k T.law_due_of.b (fun σ => passAt (takes_of rfl rfl rfl rfl) σ) (pa_cons pe_int pa_nil)) (nomark _)) (pss_one (ps_ret pe_bl)) pss_nil)
  (pss_cons (ps_if (pt_cmpR (G.k_neU (K := K) hr) (pe_kindsT (k := 5) (q := (("_law_wishes_right" ++ ".<locals>.") ++ "<lambda>" : Str)) T (B_law_wishes_right) tm_law_wishes_right (tu_law_wishes_right T) (fun _ _ _ _ _ _ _ hr => (G.pe_me (pv 0) T.cl_Gifts T.Gifts_back.m (ok_Gifts_back (K := K) T) (hr.mono (by decide)) T.Gifts_back.b (passes_call (takes_of rfl rfl rfl rfl) (fun _ _ _ _ h => h)) (pa_cons pe_int (pa_cons (pv 3) pa_nil)))) (hr.mono (by decide)) (lamS_by (sc := defScope s_law_wishes_right) (by decide +kernel))) (pe_callS (ok_law_due_of (K := K) T) (hr.mono (by decide)) rfl T.law_due_of.g T.law_due_of.k T.law_due_of.b (fun σ => passAt (takes_of rfl rfl rfl rfl) σ) (pa_cons pe_int pa_nil)) (nomark _)) (pss_one (ps_ret pe_bl)) pss_nil)
  (pss_one (ps_if (pt_cmpR (G.k_neU (K := K) hr) (pe_kindsT (k := 5) (q := (("_law_wishes_right" ++ ".<locals>.") ++ "<lambda>" : Str)) T (B_law_wishes_right) tm_law_wishes_right (tu_law_wishes_right T) (fun _ _ _ _ _ _ _ hr => (G.pe_me (pv 0) T.cl_Gifts T.Gifts_alter.m (ok_Gifts_alter (K := K) T) (hr.mono (by decide)) T.Gifts_alter.b (passes_call (takes_of rfl rfl rfl rfl) (fun _ _ _ _ h => h)) (pa_cons pe_int (pa_cons (pv 3) (pa_cons pe_non pa_nil))))) (hr.mono (by decide)) (lamS_by (sc := defScope s_law_wishes_right) (by decide +kernel))) (pe_callS (ok_law_due_of (K := K) T) (hr.mono (by decide)) rfl T.law_due_of.g T.law_due_of.k T.law_due_of.b (fun σ => passAt (takes_of rfl rfl rfl rfl) σ) (pa_cons pe_int pa_nil)) (nomark _)) (pss_one (ps_ret pe_bl)) pss_nil))))))
  (pss_one (ps_ret pe_bl)))), ?_⟩
    walk_at "go"
    refine strS (es := [.int 3, .int (2 + z + 1), .int 1]) S nt (fun D' => by walk_at "lite") (by simp) fun H2 D2 L xs S2 nt2 s2 hL g => ?_
    refine r_iseqL (SqL.of (S2.dat hL)) ?_
    refine for_it (walk_list (xs := xs)) (fun i σ H' => ∃ v1, σ = [some (.ref Y.g), some (.int z), v1, none] ∧ St a H' D2 (cGr a Y :: R)) ⟨_, rfl, S2⟩ ?_ ?_ ?_
    · rintro i σ H' _ ⟨v1, rfl, S'⟩
      exact SqL.of (S'.dat hL)
    · rintro i y σ H' H'' hi ⟨v1, rfl, S'⟩ ⟨rfl, ey⟩
      have ey : xs[i]? = some y := ey
      obtain ⟨d, hd, fd⟩ := g.get ey
      have hno : noW y := noW_fz fd (strW hz d (List.mem_of_getElem? hd))
      clear S S2
      refine r_name ?_
      walk_at "g1"
      refine r_ifS (u_askG0 S' pl (isK_BadWish T) (fun E Z H1 D1 R1 o1 s1 hE => ?_) fun H1 S1 => r_iteF ?_)
      · walk_at "go"
        exact u_m3E (e := .wish) o1 (.int _) (fz_tv (Same.refl _) (fd.mono s1)) .non hY (by rw [hp, hw]; exact mA_w hno) hE
      walk_at "g1"
      refine r_ifS (u_askG0 S1 pl (isK_BadWish T) (fun E Z H1 D1 R1 o1 s1 hE => ?_) fun H2 S2 => r_iteF ?_)
      · walk_at "go"
        exact u_dropE (e := .wish) o1 (.int _) (fz_tv (Same.refl _) (fd.mono s1)) hY (by rw [hp, hw]; exact mD_w hno) hE
      walk_at "g1"
      refine r_ifS (u_askG0 S2 pl (isK_BadWish T) (fun E Z H1 D1 R1 o1 s1 hE => ?_) fun H3 S3 => r_iteF ?_)
      · walk_at "go"
        exact u_m3E (e := .wish) o1 (.int _) (fz_tv (Same.refl _) (fd.mono s1)) .non hY (by rw [hp, hw]; exact mT_w hno) hE
      walk_at "g1"
      refine r_ifS (u_askG0 S3 pl (isK_BadWish T) (fun E Z H1 D1 R1 o1 s1 hE => ?_) fun H4 S4 => r_iteF ?_)
      · walk_at "go"
        exact u_m3E (e := .wish) o1 (.int _) (fz_tv (Same.refl _) (fd.mono s1)) .non hY (by rw [hp, hw]; exact mP_w hno) hE
      walk_at "g1"
      refine r_ifS (u_askG0 S4 pl (isK_BadWish T) (fun E Z H1 D1 R1 o1 s1 hE => ?_) fun H5 S5 => r_iteF ?_)
      · walk_at "go"
        exact u_backE (e := .wish) o1 (.int _) (fz_tv (Same.refl _) (fd.mono s1)) hY (by rw [hp, hw]; exact mB_w hno) hE
      exact ⟨_, rfl, S5⟩
    · rintro σ H' ⟨v1, rfl, S'⟩
      clear S S2
      obtain ⟨D3, pss3, o3, s3, nt3, tk3⟩ := S'
      walk_at "go"
      rename_i TT H4 o4
      obtain ⟨D5, o5, s5, e5⟩ := okFrzN [[(TT, .tup [V.int 0, V.int 2])]] (R := cT (tabsA a) pss3 :: cGr a Y :: R) o4
      have hTT := noT_at (e5 _ (.head _) _ (.head _)) nofun
      have S6 : St a H4 (noT D5) (cGr a Y :: R) := ⟨noT D5, pss3, o5.noT, Same.refl _, NT.noT D5, (tk3.mono s5).noT⟩
      have s6 := nt.same (s2.trans (s3.trans s5))
      generalize noT D5 = D6 at hTT S6 s6
      clear o3 o4 o5
      refine r_itupE (SqT.of (S6.dat hTT)) ?_
      refine for_it (walk_tup (xs := [V.int 0, V.int 2])) (fun i σ H' => ∃ v2, σ = [some (.ref Y.g), some (.int z), v1, v2] ∧ St a H' D6 (cGr a Y :: R)) ⟨_, rfl, S6⟩ ?_ ?_ ?_
      · rintro i σ H' _ ⟨v2, rfl, S'⟩
        exact SqT.of (S'.dat hTT)
      · rintro i y σ H' H'' hi ⟨v2, rfl, S'⟩ ⟨rfl, ey⟩
        have ey : [V.int 0, V.int 2][i]? = some y := ey
        have hy : y = .int 0 ∨ y = .int 2 := by
          match i, ey with
          | 0, ey => exact .inl (Option.some.inj ey).symm
          | 1, ey => exact .inr (Option.some.inj ey).symm
          | n + 2, ey => cases ey
        obtain ⟨j, rfl⟩ : ∃ j, y = .int j := by rcases hy with rfl | rfl <;> exact ⟨_, rfl⟩
        clear S6
        refine r_name ?_
        walk_at "g1"
        refine r_ifS (u_askG0 S' pl (isK_BadWish T) (fun E Z H1 D1 R1 o1 s1 hE => ?_) fun H1 S1 => r_iteF ?_)
        · walk_at "go"
          exact u_m3E (e := .wish) o1 (.int _) (.int _) .non hY (by rw [hp, hw]; rcases hy with h | h <;> cases h <;> rfl) hE
        walk_at "g1"
        refine r_ifS (u_askG0 S1 pl (isK_BadWish T) (fun E Z H1 D1 R1 o1 s1 hE => ?_) fun H2 S2 => r_iteF ?_)
        · walk_at "go"
          exact u_m3E (e := .wish) o1 (.int _) (.int _) .non hY (by rw [hp, hw]; rcases hy with h | h <;> cases h <;> rfl) hE
        walk_at "g1"
        refine r_ifS (u_askG0 S2 pl (isK_BadWish T) (fun E Z H1 D1 R1 o1 s1 hE => ?_) fun H3 S3 => r_iteF ?_)
        · walk_at "go"
          exact u_backE (e := .wish) o1 (.int _) (.int _) hY (by rw [hp, hw]; rcases hy with h | h <;> cases h <;> rfl) hE
        walk_at "g1"
        refine r_ifS (u_askG0 S3 pl (isK_BadWish T) (fun E Z H1 D1 R1 o1 s1 hE => ?_) fun H4 S4 => r_iteF ?_)
        · walk_at "go"
          exact u_m3E (e := .wish) o1 (.int _) (.int _) .non hY (by rw [hp, hw]; rcases hy with h | h <;> cases h <;> rfl) hE
        exact ⟨_, rfl, S4⟩
      · rintro σ H' ⟨v2, rfl, S'⟩
        walk_at "go"
        exact k _ (S'.thin s6)
end
end PP

namespace PP
open PySem PySem.Spec PyProof.Rows L2 G LamX
/-! no words, prices, counts, amounts; pieces that aren't free; more than is lacking -/
section
variable {P : Program} {w : World} {K : PySem.W.Frag} {mg : Str → Option Value} {base : Heap} {a : A} {H D : Hp} {Q : VK} {E : XK} {Ms R : List (List G.Cell)} {σ : L2.St}
theorem strP {z : Int} (hz : 1 ≤ z) : ∀ d ∈ strangeD z ++ [.int 0, .int 21, .int (20 + z)], cntD 1 20 d = false := by
  intro o ho
  unfold strangeD at ho
  simp only [List.cons_append, List.nil_append, List.mem_cons, List.not_mem_nil, or_false] at ho
  rcases ho with rfl | rfl | rfl | rfl | rfl | rfl | rfl | rfl | rfl | rfl | rfl | rfl <;> first | rfl | (unfold cntD; simp; omega)
theorem strM {z : Int} (hz : 1 ≤ z) : ∀ d ∈ strangeD z ++ [.int 0, .int 4, .int (3 + z)], cntD 1 3 d = false := by
  intro o ho
  unfold strangeD at ho
  simp only [List.cons_append, List.nil_append, List.mem_cons, List.not_mem_nil, or_false] at ho
  rcases ho with rfl | rfl | rfl | rfl | rfl | rfl | rfl | rfl | rfl | rfl | rfl | rfl <;> first | rfl | (unfold cntD; simp; omega)
theorem wd_a : isWd (.str "a") = true := by decide +kernel
section
variable {n m : V}
theorem mW_w (h : isWd n = false) {p q : V} : mWish 3 ws9 (.int 0) n p q = .error .word := by
  unfold mWish
  rw [show isC 0 (3 - 1) (.int 0) = true from rfl, h]
  rfl
theorem mW_pr (h : isC 1 20 n = false) {q : V} : mWish 3 ws9 (.int 0) (.str "a") n q = .error .price := by
  unfold mWish
  rw [show isC 0 (3 - 1) (.int 0) = true from rfl, wd_a, h]
  rfl
theorem mW_m (h : isC 1 3 n = false) : mWish 3 ws9 (.int 0) (.str "a") (.int 1) n = .error .many := by
  unfold mWish
  rw [show isC 0 (3 - 1) (.int 0) = true from rfl, wd_a, h]
  rfl
theorem mP_a (h : isC 1 20 n = false) : mPledge 3 ws9 (.int 2) (.int 0) n = .error .amount := by
  unfold mPledge
  rw [show otherAt 3 ws9 (.int 2) (.int 0) = .ok (0, ⟨0, "a", 5, 1, true, [(1, 1)], []⟩) from rfl]
  show (bif !(isC 1 20 n) then _ else _) = _
  rw [h]
  rfl
theorem mA_m (h : isC 1 3 n = false) : mAlter 3 ws9 (.int 0) (.int 0) n = .error .many := by
  unfold mAlter
  rw [show ownAt 3 ws9 (.int 0) (.int 0) = .ok (0, ⟨0, "a", 5, 1, true, [(1, 1)], []⟩) from rfl]
  show (bif !(isC 1 3 n) then _ else _) = _
  rw [h]
  rfl
theorem mT_m (h : isC 1 3 n = false) : mTake 3 ws9 (.int 2) (.int 0) n = .error .many := by
  unfold mTake
  rw [show otherAt 3 ws9 (.int 2) (.int 0) = .ok (0, ⟨0, "a", 5, 1, true, [(1, 1)], []⟩) from rfl]
  show (bif !(isC 1 3 n) then _ else _) = _
  rw [h]
  rfl
end
local macro_rules | `(tactic| walk_at "g3") => `(tactic| first
  | ((with_reducible refine' g_me (by assumption) ?k ?l ?_); (case k => walk_at "mem"); (case l => rfl))
  | fail)
set_option maxHeartbeats 8000000 in
theorem ok_law_numbers_right (T : Txt K mg a) (B_law_numbers_right : TabB base mg a.cc_law_numbers_right a.cP_law_numbers_right) : FnOk P w K mg base (L2.CX P w) 8 a.f_law_numbers_right a.d_law_numbers_right ["_law_gifts", "_law_far"] (sp_rights a) := by
  refine T.lam_law_numbers_right.ok sc_law_numbers_right (fun vs H Q E h => ?_) (fun A outer s H vs Q E hr h => ?_)
  · obtain ⟨D, Y, R, z, rfl, _⟩ := h
    rfl
  · obtain ⟨D, Y, R, z, rfl, S, nt, pl, hY, hp, hw, hz, k⟩ := h
    refine ⟨_, (pss_cons (ps_for (passes_of rfl) rfl (G.k_seq (K := K) (pe_callS (ok_law_no_words (K := K) T) (hr.mono (by decide)) rfl T.law_no_words.g T.law_no_words.k T.law_no_words.b (fun σ => passAt (takes_of rfl rfl rfl rfl) σ) (pa_cons (pv 1) pa_nil))) (pg_name (i := 2) sc_law_numbers_right.nd rfl (by first | exact Or.inl rfl | exact Or.inr rfl))
  (pss_one (ps_if (pt_cmpR (G.k_neU (K := K) hr) (pe_kindsT (k := 5) (q := (("_law_numbers_right" ++ ".<locals>.") ++ "<lambda>" : Str)) T (B_law_numbers_right) tm_law_numbers_right (tu_law_numbers_right T) (fun _ _ _ _ _ _ _ hr => (G.pe_me (pv 0) T.cl_Gifts T.Gifts_wish.m (ok_Gifts_wish (K := K) T) (hr.mono (by decide)) T.Gifts_wish.b (passes_call (takes_of rfl rfl rfl rfl) (fun _ _ _ _ h => h)) (pa_cons pe_int (pa_cons (pv 2) (pa_cons pe_non (pa_cons pe_non pa_nil)))))) (hr.mono (by decide)) (lamS_by (sc := defScope s_law_numbers_right) (by decide +kernel))) (pe_callS (ok_law_due_of (K := K) T) (hr.mono (by decide)) rfl T.law_due_of.g T.law_due_of.k T.law_due_of.b (fun σ => passAt (takes_of rfl rfl rfl rfl) σ) (pa_cons pe_int pa_nil)) (nomark _)) (pss_one (ps_ret pe_bl)) pss_nil)))
  (pss_cons (ps_for (passes_of rfl) rfl (G.k_seq (K := K) (pe_op (G.k_addU (K := K)) (pe_callS (ok_law_strange (K := K) T) (hr.mono (by decide)) rfl T.law_strange.g T.law_strange.k T.law_strange.b (fun σ => passAt (takes_of rfl rfl rfl rfl) σ) (pa_cons (pv 1) pa_nil)) (pe_lst (pa_cons pe_int (pa_cons pe_int (pa_cons (pe_op (G.k_addU (K := K)) pe_int (pv 1)) pa_nil)))))) (pg_name (i := 2) sc_law_numbers_right.nd rfl (by first | exact Or.inl rfl | exact Or.inr rfl))
  (pss_cons (ps_if (pt_cmpR (G.k_neU (K := K) hr) (pe_kindsT (k := 5) (q := (("_law_numbers_right" ++ ".<locals>.") ++ "<lambda>" : Str)) T (B_law_numbers_right) tm_law_numbers_right (tu_law_numbers_right T) (fun _ _ _ _ _ _ _ hr => (G.pe_me (pv 0) T.cl_Gifts T.Gifts_wish.m (ok_Gifts_wish (K := K) T) (hr.mono (by decide)) T.Gifts_wish.b (passes_call (takes_of rfl rfl rfl rfl) (fun _ _ _ _ h => h)) (pa_cons pe_int (pa_cons pe_str (pa_cons (pv 2) (pa_cons pe_non pa_nil)))))) (hr.mono (by decide)) (lamS_by (sc := defScope s_law_numbers_right) (by decide +kernel))) (pe_callS (ok_law_due_of (K := K) T) (hr.mono (by decide)) rfl T.law_due_of.g T.law_due_of.k T.law_due_of.b (fun σ => passAt (takes_of rfl rfl rfl rfl) σ) (pa_cons pe_int pa_nil)) (nomark _)) (pss_one (ps_ret pe_bl)) pss_nil)
  (pss_one (ps_if (pt_cmpR (G.k_neU (K := K) hr) (pe_kindsT (k := 5) (q := (("_law_numbers_right" ++ ".<locals>.") ++ "<lambda>" : Str)) T (B_law_numbers_right) tm_law_numbers_right (tu_law_numbers_right T) (fun _ _ _ _ _ _ _ hr => (G.pe_me (pv 0) T.cl_Gifts T.Gifts_pledge.m (ok_Gifts_pledge (K := K) T) (hr.mono (by decide)) T.Gifts_pledge.b (passes_call (takes_of rfl rfl rfl rfl) (fun _ _ _ _ h => h)) (pa_cons pe_int (pa_cons pe_int (pa_cons (pv 2) pa_nil))))) (hr.mono (by decide)) (lamS_by (sc := defScope s_law_numbers_right) (by decide +kernel))) (pe_callS (ok_law_due_of (K := K) T) (hr.mono (by decide)) rfl T.law_due_of.g T.law_due_of.k T.law_due_of.b (fun σ => passAt (takes_of rfl rfl rfl rfl) σ) (pa_cons pe_int pa_nil)) (nomark _)) (pss_one (ps_ret pe_bl)) pss_nil))))
  (pss_cons (ps_for (passes_of rfl) rfl (G.k_seq (K := K) (pe_op (G.k_addU (K := K)) (pe_callS (ok_law_strange (K := K) T) (hr.mono (by decide)) rfl T.law_strange.g T.law_strange.k T.law_strange.b (fun σ => passAt (takes_of rfl rfl rfl rfl) σ) (pa_cons (pv 1) pa_nil)) (pe_lst (pa_cons pe_int (pa_cons pe_int (pa_cons (pe_op (G.k_addU (K := K)) pe_int (pv 1)) pa_nil)))))) (pg_name (i := 2) sc_law_numbers_right.nd rfl (by first | exact Or.inl rfl | exact Or.inr rfl))
  (pss_cons (ps_if (pt_cmpR (G.k_neU (K := K) hr) (pe_kindsT (k := 5) (q := (("_law_numbers_right" ++ ".<locals>.") ++ "<lambda>" : Str)) T (B_law_numbers_right) tm_law_numbers_right (tu_law_numbers_right T) (fun _ _ _ _ _ _ _ hr => (G.pe_me (pv 0) T.cl_Gifts T.Gifts_wish.m (ok_Gifts_wish (K := K) T) (hr.mono (by decide)) T.Gifts_wish.b (passes_call (takes_of rfl rfl rfl rfl) (fun _ _ _ _ h => h)) (pa_cons pe_int (pa_cons pe_str (pa_cons pe_int (pa_cons (pv 2) pa_nil)))))) (hr.mono (by decide)) (lamS_by (sc := defScope s_law_numbers_right) (by decide +kernel))) (pe_callS (ok_law_due_of (K := K) T) (hr.mono (by decide)) rfl T.law_due_of.g T.law_due_of.k T.law_due_of.b (fun σ => passAt (takes_of rfl rfl rfl rfl) σ) (pa_cons pe_int pa_nil)) (nomark _)) (pss_one (ps_ret pe_bl)) pss_nil)
  (pss_cons (ps_if (pt_cmpR (G.k_neU (K := K) hr) (pe_kindsT (k := 5) (q := (("_law_numbers_right" ++ ".<locals>.") ++ "<lambda>" : Str)) T (B_law_numbers_right) tm_law_numbers_right (tu_law_numbers_right T) (fun _ _ _ _ _ _ _ hr => (G.pe_me (pv 0) T.cl_Gifts T.Gifts_alter.m (ok_Gifts_alter (K := K) T) (hr.mono (by decide)) T.Gifts_alter.b (passes_call (takes_of rfl rfl rfl rfl) (fun _ _ _ _ h => h)) (pa_cons pe_int (pa_cons pe_int (pa_cons (pv 2) pa_nil))))) (hr.mono (by decide)) (lamS_by (sc := defScope s_law_numbers_right) (by decide +kernel))) (pe_callS (ok_law_due_of (K := K) T) (hr.mono (by decide)) rfl T.law_due_of.g T.law_due_of.k T.law_due_of.b (fun σ => passAt (takes_of rfl rfl rfl rfl) σ) (pa_cons pe_int pa_nil)) (nomark _)) (pss_one (ps_ret pe_bl)) pss_nil)
  (pss_one (ps_if (pt_cmpR (G.k_neU (K := K) hr) (pe_kindsT (k := 5) (q := (("_law_numbers_right" ++ ".<locals>.") ++ "<lambda>" : Str)) T (B_law_numbers_right) tm_law_numbers_right (tu_law_numbers_right T) (fun _ _ _ _ _ _ _ hr => (G.pe_me (pv 0) T.cl_Gifts T.Gifts_take.m (ok_Gifts_take (K := K) T) (hr.mono (by decide)) T.Gifts_take.b (passes_call (takes_of rfl rfl rfl rfl) (fun _ _ _ _ h => h)) (pa_cons pe_int (pa_cons pe_int (pa_cons (pv 2) pa_nil))))) (hr.mono (by decide)) (lamS_by (sc := defScope s_law_numbers_right) (by decide +kernel))) (pe_callS (ok_law_due_of (K := K) T) (hr.mono (by decide)) rfl T.law_due_of.g T.law_due_of.k T.law_due_of.b (fun σ => passAt (takes_of rfl rfl rfl rfl) σ) (pa_cons pe_int pa_nil)) (nomark _)) (pss_one (ps_ret pe_bl)) pss_nil)))))
  (pss_cons (ps_for (passes_of rfl) rfl (G.k_tup (K := K) (pe_tup (pa_cons pe_int (pa_cons pe_int (pa_cons pe_int pa_nil))))) (pg_name (i := 3) sc_law_numbers_right.nd rfl (by first | exact Or.inl rfl | exact Or.inr rfl))
  (pss_one (ps_if (pt_cmpR (G.k_neU (K := K) hr) (pe_kindsT (k := 5) (q := (("_law_numbers_right" ++ ".<locals>.") ++ "<lambda>" : Str)) T (B_law_numbers_right) tm_law_numbers_right (tu_law_numbers_right T) (fun _ _ _ _ _ _ _ hr => (G.pe_me (pv 0) T.cl_Gifts T.Gifts_take.m (ok_Gifts_take (K := K) T) (hr.mono (by decide)) T.Gifts_take.b (passes_call (takes_of rfl rfl rfl rfl) (fun _ _ _ _ h => h)) (pa_cons pe_int (pa_cons pe_int (pa_cons (pv 3) pa_nil))))) (hr.mono (by decide)) (lamS_by (sc := defScope s_law_numbers_right) (by decide +kernel))) (pe_callS (ok_law_due_of (K := K) T) (hr.mono (by decide)) rfl T.law_due_of.g T.law_due_of.k T.law_due_of.b (fun σ => passAt (takes_of rfl rfl rfl rfl) σ) (pa_cons pe_int pa_nil)) (nomark _)) (pss_one (ps_ret pe_bl)) pss_nil)))
  (pss_cons (ps_if (pt_cmpR (G.k_neU (K := K) hr) (pe_kindsT (k := 5) (q := (("_law_numbers_right" ++ ".<locals>.") ++ "<lambda>" : Str)) T (B_law_numbers_right) tm_law_numbers_right (tu_law_numbers_right T) (fun _ _ _ _ _ _ _ hr => (G.pe_me (pv 0) T.cl_Gifts T.Gifts_pledge.m (ok_Gifts_pledge (K := K) T) (hr.mono (by decide)) T.Gifts_pledge.b (passes_call (takes_of rfl rfl rfl rfl) (fun _ _ _ _ h => h)) (pa_cons pe_int (pa_cons pe_int (pa_cons pe_int pa_nil))))) (hr.mono (by decide)) (lamS_by (sc := defScope s_law_numbers_right) (by decide +kernel))) (pe_callS (ok_law_due_of (K := K) T) (hr.mono (by decide)) rfl T.law_due_of.g T.law_due_of.k T.law_due_of.b (fun σ => passAt (takes_of rfl rfl rfl rfl) σ) (pa_cons pe_int pa_nil)) (nomark _)) (pss_one (ps_ret pe_bl)) pss_nil)
  (pss_one (ps_ret (pe_callB (G.k_all (K := K) rfl) (by rfl) T.n_all (by decide +kernel) (pa_cons (pe_lc (own := [("_law_much", 4)]) (g := (gName 4)) (tt := tYes) rfl sc_law_numbers_right.nd (G.k_tup (K := K) (pe_tup (pa_cons pe_int (pa_cons pe_int (pa_cons pe_int pa_nil))))) (blkOk_by (own := [("_law_much", 4)]) (N := ["_law_gifts", "_law_far", "_law_bad", "_law_count", "_law_much"]) (sc := defScope s_law_numbers_right) (by decide +kernel)) (fun _ _ _ _ _ => (pg_name (i := 4) sc_law_numbers_right.nd rfl (by first | exact Or.inl rfl | exact Or.inr rfl))) (fun _ _ _ _ _ => pts_nil) (fun _ _ _ _ _ => (pe_cmpR (G.k_eqU (K := K) hr) (by exact pe_kindsT (k := 5) (q := (("_law_numbers_right" ++ ".<locals>.") ++ "<lambda>" : Str)) T (B_law_numbers_right) tm_law_numbers_right (tu_law_numbers_right T) (fun _ _ _ _ _ _ _ hr => (G.pe_me (pv 0) T.cl_Gifts T.Gifts_pledge.m (ok_Gifts_pledge (K := K) T) (hr.mono (by decide)) T.Gifts_pledge.b (passes_call (takes_of rfl rfl rfl rfl) (fun _ _ _ _ h => h)) (pa_cons pe_int (pa_cons pe_int (pa_cons (pv 4) pa_nil))))) (hr.mono (by decide)) (lamS_by (sc := ({ kind := .function, names := [(".0", .local), ("_law_much", .cell), ("_law_kinds", .globalImplicit), ("_law_due_of", .globalImplicit), ("_law_gifts", .cell)], isGenerator := false, isCoroutine := false } : Scope)) (by decide +kernel))) (pe_call (ok_law_due_of (K := K) T) (hr.mono (by decide)) rfl T.law_due_of.g T.law_due_of.k T.law_due_of.b .nil passL (pa_cons pe_int pa_nil)) (nomark _)))) pa_nil))))))))), ?_⟩
    have S0 := S
    obtain ⟨D1, pss1, o1, s1, nt1, tk1⟩ := S
    walk_at "go"
    refine ⟨D1, _, z, rfl, o1, fun H2 D2 v2 ds2 o2 s2 f2 hb2 hl2 => ?_⟩
    obtain ⟨L2, xs2, rfl, hL2, g2⟩ := fz_lst f2.noT
    have S2 : St a H2 (noT D2) (cGr a Y :: R) := ⟨noT D2, pss1, o2.noT, Same.refl _, NT.noT D2, (tk1.mono s2).noT⟩
    have s2' := nt.same (s1.trans s2)
    have nt2 := NT.noT D2
    generalize noT D2 = D3 at hL2 g2 S2 s2' nt2
    clear o1 o2 S0 f2
    refine r_iseqL (SqL.of (S2.dat hL2)) ?_
    refine for_it (walk_list (xs := xs2)) (fun i σ H' => ∃ v1, σ = [some (.ref Y.g), some (.int z), v1, none, none] ∧ St a H' D3 (cGr a Y :: R)) ⟨_, rfl, S2⟩ ?_ ?_ ?_
    · rintro i σ H' _ ⟨v1, rfl, S'⟩
      exact SqL.of (S'.dat hL2)
    · rintro i y σ H' H'' hi ⟨v1, rfl, S'⟩ ⟨rfl, ey⟩
      have ey : xs2[i]? = some y := ey
      obtain ⟨d, hd, fd⟩ := g2.get ey
      obtain ⟨hno, hsh⟩ := isWd_fz fd (List.all_eq_true.mp hb2 d (List.mem_of_getElem? hd))
      clear S2
      refine r_name ?_
      walk_at "g1"
      refine r_ifS (u_askG0 S' pl (isK_BadWord T) (fun E Z H1 D1 R1 o1 s1 hE => ?_) fun H1 S1 => r_iteF ?_)
      · walk_at "go"
        exact u_wishE (e := .word) o1 (.int _) (fz_tv (Same.refl _) (fd.mono s1)) .non .non hsh hY (by rw [hp, hw]; exact mW_w hno) hE
      exact ⟨_, rfl, S1⟩
    · rintro σ H4 ⟨v1, rfl, S4⟩
      clear S2
      walk_at "go"
      refine strS (es := [.int 0, .int 21, .int (20 + z)]) S4 nt2 (fun D' => by walk_at "lite") (by simp) fun H5 D5 L5 xs5 S5 nt5 s5 hL5 g5 => ?_
      refine r_iseqL (SqL.of (S5.dat hL5)) ?_
      refine for_it (walk_list (xs := xs5)) (fun i σ H' => ∃ v1, σ = [some (.ref Y.g), some (.int z), v1, none, none] ∧ St a H' D5 (cGr a Y :: R)) ⟨_, rfl, S5⟩ ?_ ?_ ?_
      · rintro i σ H' _ ⟨v1, rfl, S'⟩
        exact SqL.of (S'.dat hL5)
      · rintro i y σ H' H'' hi ⟨v1, rfl, S'⟩ ⟨rfl, ey⟩
        have ey : xs5[i]? = some y := ey
        obtain ⟨d, hd, fd⟩ := g5.get ey
        have hno : isC 1 20 y = false := (isC_fz fd).trans (strP hz d (List.mem_of_getElem? hd))
        clear S5 S4
        refine r_name ?_
        walk_at "g1"
        refine r_ifS (u_askG0 S' pl (isK_BadPrice T) (fun E Z H1 D1 R1 o1 s1 hE => ?_) fun H1 S1 => r_iteF ?_)
        · walk_at "go"
          exact u_wishE (e := .price) o1 (.int _) (.str _) (fz_tv (Same.refl _) (fd.mono s1)) .non (fun y e => by cases e; decide) hY (by rw [hp, hw]; exact mW_pr hno) hE
        walk_at "g1"
        refine r_ifS (u_askG0 S1 pl (isK_BadAmount T) (fun E Z H1 D1 R1 o1 s1 hE => ?_) fun H1 S2 => r_iteF ?_)
        · walk_at "go"
          exact u_m3E (e := .amount) o1 (.int _) (.int _) (fz_tv (Same.refl _) (fd.mono s1)) hY (by rw [hp, hw]; exact mP_a hno) hE
        exact ⟨_, rfl, S2⟩
      · rintro σ H6 ⟨v1, rfl, S6⟩
        clear S5 S4
        walk_at "go"
        refine strS (es := [.int 0, .int 4, .int (3 + z)]) S6 nt5 (fun D' => by walk_at "lite") (by simp) fun H7 D7 L7 xs7 S7 nt7 s7 hL7 g7 => ?_
        refine r_iseqL (SqL.of (S7.dat hL7)) ?_
        refine for_it (walk_list (xs := xs7)) (fun i σ H' => ∃ v1, σ = [some (.ref Y.g), some (.int z), v1, none, none] ∧ St a H' D7 (cGr a Y :: R)) ⟨_, rfl, S7⟩ ?_ ?_ ?_
        · rintro i σ H' _ ⟨v1, rfl, S'⟩
          exact SqL.of (S'.dat hL7)
        · rintro i y σ H' H'' hi ⟨v1, rfl, S'⟩ ⟨rfl, ey⟩
          have ey : xs7[i]? = some y := ey
          obtain ⟨d, hd, fd⟩ := g7.get ey
          have hno : isC 1 3 y = false := (isC_fz fd).trans (strM hz d (List.mem_of_getElem? hd))
          clear S7 S6
          refine r_name ?_
          walk_at "g1"
          refine r_ifS (u_askG0 S' pl (isK_BadMany T) (fun E Z H1 D1 R1 o1 s1 hE => ?_) fun H1 S1 => r_iteF ?_)
          · walk_at "go"
            exact u_wishE (e := .many) o1 (.int _) (.str _) (.int _) (fz_tv (Same.refl _) (fd.mono s1)) (fun y e => by cases e; decide) hY (by rw [hp, hw]; exact mW_m hno) hE
          walk_at "g1"
          refine r_ifS (u_askG0 S1 pl (isK_BadMany T) (fun E Z H1 D1 R1 o1 s1 hE => ?_) fun H1 S2 => r_iteF ?_)
          · walk_at "go"
            exact u_m3E (e := .many) o1 (.int _) (.int _) (fz_tv (Same.refl _) (fd.mono s1)) hY (by rw [hp, hw]; exact mA_m hno) hE
          walk_at "g1"
          refine r_ifS (u_askG0 S2 pl (isK_BadMany T) (fun E Z H1 D1 R1 o1 s1 hE => ?_) fun H1 S3 => r_iteF ?_)
          · walk_at "go"
            exact u_m3E (e := .many) o1 (.int _) (.int _) (fz_tv (Same.refl _) (fd.mono s1)) hY (by rw [hp, hw]; exact mT_m hno) hE
          exact ⟨_, rfl, S3⟩
        · rintro σ H8 ⟨v1', rfl, S8⟩
          clear S7 S6
          obtain ⟨D9, pss9, o9, s9, nt9, tk9⟩ := S8
          walk_at "go"
          rename_i TT H10 o10
          obtain ⟨D11, o11, s11, e11⟩ := okFrzN [[(TT, .tup [V.int 1, V.int 2, V.int 3])]] (R := cT (tabsA a) pss9 :: cGr a Y :: R) o10
          have hTT := noT_at (e11 _ (.head _) _ (.head _)) nofun
          have S12 : St a H10 (noT D11) (cGr a Y :: R) := ⟨noT D11, pss9, o11.noT, Same.refl _, NT.noT D11, (tk9.mono s11).noT⟩
          have s12 := nt.same (s2'.trans (s5.trans (s7.trans (s9.trans s11))))
          have nt12 := NT.noT D11
          generalize noT D11 = D12 at hTT S12 s12 nt12
          clear o9 o10 o11
          refine r_itupE (SqT.of (S12.dat hTT)) ?_
          refine for_it (walk_tup (xs := [V.int 1, V.int 2, V.int 3])) (fun i σ H' => ∃ v2, σ = [some (.ref Y.g), some (.int z), v1', v2, none] ∧ St a H' D12 (cGr a Y :: R)) ⟨_, rfl, S12⟩ ?_ ?_ ?_
          · rintro i σ H' _ ⟨v2, rfl, S'⟩
            exact SqT.of (S'.dat hTT)
          · rintro i y σ H' H'' hi ⟨v2, rfl, S'⟩ ⟨rfl, ey⟩
            have ey : [V.int 1, V.int 2, V.int 3][i]? = some y := ey
            obtain ⟨j, rfl, hj⟩ : ∃ j, y = .int j ∧ mTake 3 ws9 (.int 2) (.int 0) (.int j) = .error .none := by
              match i, ey with
              | 0, ey => exact ⟨1, (Option.some.inj ey).symm, rfl⟩
              | 1, ey => exact ⟨2, (Option.some.inj ey).symm, rfl⟩
              | 2, ey => exact ⟨3, (Option.some.inj ey).symm, rfl⟩
              | n + 3, ey => cases ey
            clear S12
            refine r_name ?_
            walk_at "g1"
            refine r_ifS (u_askG0 S' pl (isK_NoneFree T) (fun E Z H1 D1 R1 o1 s1 hE => ?_) fun H1 S1 => r_iteF ?_)
            · walk_at "go"
              exact u_m3E (e := .none) o1 (.int _) (.int _) (.int _) hY (by rw [hp, hw]; exact hj) hE
            exact ⟨_, rfl, S1⟩
          · rintro σ H13 ⟨v2, rfl, S13⟩
            clear S12
            walk_at "g1"
            walk_at "g1"
            refine r_ifS (u_askG0 S13 pl (isK_NoneFree T) (fun E Z H1 D1 R1 o1 s1 hE => ?_) fun H14 S14 => r_iteF ?_)
            · walk_at "go"
              exact u_m3E (e := .none) o1 (.int _) (.int _) (.int _) hY (by rw [hp, hw]; rfl) hE
            obtain ⟨D15, pss15, o15, s15, nt15, tk15⟩ := S14
            clear S13
            walk_at "go"
            rename_i T16 H16 o16
            obtain ⟨D17, o17, s17, e17⟩ := okFrzN [[(T16, .tup [V.int 8, V.int 9, V.int 20])]] (R := cT (tabsA a) pss15 :: cGr a Y :: R) o16
            have hT17 := noT_at (e17 _ (.head _) _ (.head _)) nofun
            have o18 := o17.noT
            have nt18 := NT.noT D17
            have tk18 := (tk15.mono s17).noT
            have s18 := nt12.same (s15.trans s17)
            generalize noT D17 = D18 at hT17 o18 nt18 tk18 s18
            clear o15 o16 o17
            refine r_itupE (SqT.of (o18.dat hT17)) ?_
            refine lcX (Mf := fun pss' => cT (tabsA a) pss' :: cGr a Y :: R) (walk_tup (xs := [V.int 8, V.int 9, V.int 20])) o18 (fun i acc D' pss' => acc = List.replicate i (.bl true) ∧ NT D' ∧ TabsOk D' (tabsA a) pss') (by decide) ⟨rfl, nt18, tk18⟩ ?_ ?_ ?_ ?_
            · rintro i acc D' ps' ⟨rfl, _⟩
              rw [List.length_replicate]
              exact Nat.le_refl _
            · rintro i LX acc H' D' ps' o' s' _
              exact SqT.of (o'.dat (s' _ _ hT17))
            · rintro i y LX acc H' H'' D' ps' Ny Nn hi o' s' ⟨rfl, nt', tk'⟩ ⟨rfl, ey⟩ kk
              have ey : [V.int 8, V.int 9, V.int 20][i]? = some y := ey
              obtain ⟨j, rfl, hj⟩ : ∃ j, y = .int j ∧ mPledge 3 ws9 (.int 2) (.int 2) (.int j) = .error .much := by
                match i, ey with
                | 0, ey => exact ⟨8, (Option.some.inj ey).symm, rfl⟩
                | 1, ey => exact ⟨9, (Option.some.inj ey).symm, rfl⟩
                | 2, ey => exact ⟨20, (Option.some.inj ey).symm, rfl⟩
                | n + 3, ey => cases ey
              have S19 : St a _ D' ([(LX, .lst (List.replicate i (V.bl true)))] :: cGr a Y :: R) := ⟨D', ps', o'.sel (.pick (.there .here) (.done .here)), Same.refl _, nt', tk'⟩
              clear o18 o'
              walk_at "g1"
              refine ⟨rfl, ?_⟩
              walk_at "g1"
              refine u_askGE S19 pl (isK_TooMuch T) (fun E Z H1 D1 R1 o1 s1 hE => ?_) fun H20 S20 => ?_
              · walk_at "go"
                exact u_m3E (e := .much) o1 (.int _) (.int _) (.int _) hY (by rw [hp, hw]; exact hj) hE
              · obtain ⟨D21, pss21, o21, s21, nt21, tk21⟩ := S20
                exact kk _ H20 D21 pss21 (o21.sel (.pick (.there .here) (.done .here))) (s'.trans s21) ⟨List.replicate_succ'.symm, nt21, tk21⟩
            · rintro LX acc H' D' ps' o' s' ⟨rfl, nt', tk'⟩
              clear o18
              walk_at "go"
              refine r_all (bs := List.replicate 3 true) (SqL.of (o'.at1 (.head _))) rfl ?_
              rw [show (List.replicate 3 true).all id = true from rfl]
              exact k _ ⟨D', ps', o'.drop, s12.trans (s18.trans s'), nt', tk'⟩
end
end PP

namespace PP
open PySem PySem.Spec PyProof.Rows L2 G LamX
/-! the law k09 -/
def sp_law (K : PySem.W.Frag) (a : A) : Sp := fun vs H Q _ => ∃ (D : Hp) (b : Nat) (l : Addr) (ns : List Int), vs = [.ref l] ∧ Ok H D [cT (tabsA a) (List.replicate (tabsA a).length #[])] ∧ NT D ∧ SqL K D l (ns.map V.int) ∧ ns.length ≤ 1000 ∧ (100 ≤ b ∧ b ≤ 2000000) ∧ (∀ z ∈ ns, z.natAbs < 2 ^ b) ∧ ∀ H' : Hp, Q (.bl true) H'
theorem tabs_nil {D : Hp} {Ts : List (Addr × Str)} : TabsOk D Ts (List.replicate Ts.length #[]) := ⟨List.length_replicate, fun i p ps _ e => by
  obtain ⟨_, rfl⟩ := List.getElem?_eq_some_iff.mp e
  rw [List.getElem_replicate]
  exact TabOk.nil⟩
instance decEx {α : Type} [DecidableEq α] : DecidableEq (Except Err α) := fun x y => match x, y with
  | .ok u, .ok v => if h : u = v then isTrue (by rw [h]) else isFalse fun e => h (by cases e; rfl)
  | .error u, .error v => if h : u = v then isTrue (by rw [h]) else isFalse fun e => h (by cases e; rfl)
  | .ok _, .error _ => isFalse nofun
  | .error _, .ok _ => isFalse nofun
def wokB (x : W) : Bool := decide (x.tk.map (·.1)).Nodup && decide (x.pl.map (·.1)).Nodup && (x.tk.all fun p => decide (0 ≤ p.1) && decide (p.1 < 5)) && (x.pl.all fun p => decide (0 ≤ p.1) && decide (p.1 < 5)) && decide (x.word.length ≤ 1000)
theorem wokB_ok {x : W} (h : wokB x = true) : WOk x := by
  unfold wokB at h
  simp only [Bool.and_eq_true] at h
  obtain ⟨⟨⟨⟨h1, h2⟩, h3⟩, h4⟩, h5⟩ := h
  have h1 : (x.tk.map (·.1)).Nodup := of_decide_eq_true h1
  have h2 : (x.pl.map (·.1)).Nodup := of_decide_eq_true h2
  refine ⟨h1, h2, fun p hp => ?_, fun p hp => ?_, of_decide_eq_true h5⟩
  · have := List.all_eq_true.mp h3 p hp
    simpa using this
  · have := List.all_eq_true.mp h4 p hp
    simpa using this
theorem gok_of {Y : GR} {ws : List W} (h : wsOf Y.xs = ws) (hb : ws.all wokB = true) (hl : ws.length ≤ 8) (hp : 1 ≤ Y.pe ∧ Y.pe ≤ 5) : GOk Y := by
  refine ⟨fun x hx => ?_, ?_, hp⟩
  · exact wokB_ok (List.all_eq_true.mp hb _ (by rw [← h]; exact List.mem_map_of_mem hx))
  · rw [← wsOf_len, h]
    exact hl
def ws3 : List W := [⟨0, "a", 5, 1, true, [], []⟩, ⟨1, "zzzz", 20, 3, true, [], []⟩, ⟨0, "q", 9, 1, true, [], []⟩]
def ws4 : List W := [⟨0, "a", 5, 1, true, [(1, 1)], []⟩, ⟨1, "zzzz", 20, 3, true, [], []⟩, ⟨0, "q", 9, 1, true, [], []⟩]
def ws5 : List W := [⟨0, "a", 5, 1, true, [(1, 1)], []⟩, ⟨1, "zzzz", 20, 3, true, [(0, 2)], []⟩, ⟨0, "q", 9, 1, true, [], []⟩]
def ws6 : List W := [⟨0, "a", 5, 1, true, [(1, 1)], []⟩, ⟨1, "zzzz", 20, 3, false, [(0, 2)], []⟩, ⟨0, "q", 9, 1, true, [], []⟩]
def keptD : PyData := .list ((List.range 3).map fun (i : Nat) => rowsD (seenM (i : Int) ws9))
theorem kept_shaped : SeqAt.shaped keptD = true := by decide +kernel
def wF : W := ⟨0, "abcd", 20, 3, true, [], []⟩
def goneW (i : Nat) : List W := (List.range i).map fun (j : Nat) => ⟨(j : Int) % 2, "abcd", 20, 3, decide ((j : Int) % 3 = 0), [], []⟩
theorem mW_3 {i : Nat} {x : W} (hi : i < 3) (hx : ws3[i]? = some x) : mWish 3 (ws3.take i) (.int x.ow) (.str x.word) (.int x.price) (.int x.many) = .ok (ws3.take (i + 1), i) := by
  match i, hi with
  | 0, _ => obtain rfl := Option.some.inj hx; decide +kernel
  | 1, _ => obtain rfl := Option.some.inj hx; decide +kernel
  | 2, _ => obtain rfl := Option.some.inj hx; decide +kernel
theorem full_step : ∀ i : Nat, i < 8 → mWish 1 (List.replicate i wF) (.int 0) (.str "abcd") (.int 20) (.int 3) = .ok (List.replicate (i + 1) wF, (i : Int)) := by decide +kernel
theorem gone_step : ∀ i : Nat, i < 8 → mWish 2 (goneW i) (.int ((i : Int) % 2)) (.str "abcd") (.int 20) (.int 3) = .ok (goneW i ++ [⟨(i : Int) % 2, "abcd", 20, 3, true, [], []⟩], (i : Int)) := by decide +kernel
theorem gone_drop : ∀ i : Nat, i < 8 → 0 < (i : Int) % 3 → mDrop 2 (goneW i ++ [⟨(i : Int) % 2, "abcd", 20, 3, true, [], []⟩]) (.int ((i : Int) % 2)) (.int (i : Int)) = .ok (goneW (i + 1)) := by decide +kernel
theorem gone_stay : ∀ i : Nat, i < 8 → ¬ 0 < (i : Int) % 3 → goneW i ++ [⟨(i : Int) % 2, "abcd", 20, 3, true, [], []⟩] = goneW (i + 1) := by decide +kernel
theorem dpA_app {K : PySem.W.Frag} {D : Hp} {xs ys : List V} {d e : List PyData} (h : DpAll K D xs d) (k : DpAll K D ys e) : DpAll K D (xs ++ ys) (d ++ e) := by
  induction xs generalizing d with
  | nil => cases h; exact k
  | cons x r ih => cases h with | cons h1 h2 => exact .cons h1 (ih h2)
theorem dp_noT {K : PySem.W.Frag} {D : Hp} : ∀ {v : V} {d : PyData}, Dp K D v d → Dp K (noT D) v d := by
  intro v d h
  refine Dp.rec (motive_1 := fun v d _ => Dp K (noT D) v d) (motive_2 := fun vs ds _ => DpAll K (noT D) vs ds) .non (fun b => .bl b) (fun i => .int i) (fun x => .str x) ?_ ?_ .nil (fun {v vs d ds} _ _ i1 i2 => .cons i1 i2) h
  · intro b xs ds q _ ih
    exact .lst (SqL.noT q) ih
  · intro b xs ds q _ ih
    refine .tup ?_ ih
    rcases q with (q | ⟨o, q⟩) | q
    · exact .inl (.inl (noT_at q nofun))
    · exact .inl (.inr ⟨o, noT_at q nofun⟩)
    · exact .inr q
theorem rep_wok (i : Nat) : (List.replicate i wF).all wokB = true := List.all_eq_true.mpr fun x hx => by
  rw [List.eq_of_mem_replicate hx]
  decide +kernel
theorem gone_wok : ∀ i : Nat, i < 9 → (goneW i).all wokB = true := by decide +kernel
theorem gone_wok2 : ∀ i : Nat, i < 8 → (goneW i ++ [(⟨(i : Int) % 2, "abcd", 20, 3, true, [], []⟩ : W)]).all wokB = true := by decide +kernel
theorem gone_len (i : Nat) : (goneW i).length = i := by unfold goneW; rw [List.length_map, List.length_range]
theorem p1 : (1 : Int) ≤ 1 ∧ (1 : Int) ≤ 5 := by decide
theorem p2 : (1 : Int) ≤ 2 ∧ (2 : Int) ≤ 5 := by decide
theorem full_no : mWish 1 (List.replicate 8 wF) (.int 0) (.str "a") (.int 1) (.int 1) = .error .toomany := by decide +kernel
theorem full_no4 : mWish 1 (List.replicate 8 wF) (.int 0) (.str "a") (.int 1) (.int 4) = .error .many := by decide +kernel
theorem gone_no : mWish 2 (goneW 8) (.int 1) (.str "a") (.int 1) (.int 1) = .error .toomany := by decide +kernel
theorem p3 : (1 : Int) ≤ 3 ∧ (3 : Int) ≤ 5 := by decide
theorem t4 : mTake 3 ws3 (.int 1) (.int 0) (.int 1) = .ok (ws4, 0) := by decide +kernel
theorem t5 : mTake 3 ws4 (.int 0) (.int 1) (.int 2) = .ok (ws5, 1) := by decide +kernel
theorem t6 : mDrop 3 ws5 (.int 1) (.int 1) = .ok ws6 := by decide +kernel
theorem t7 : mPledge 3 ws6 (.int 1) (.int 2) (.int 2) = .ok (ws9, 7) := by decide +kernel
theorem strPe {z : Int} (hz : 1 ≤ z) : ∀ d ∈ strangeD z ++ [.int 0, .int 6, .int (5 + z)], cntD 1 5 d = false := by
  intro o ho
  unfold strangeD at ho
  simp only [List.cons_append, List.nil_append, List.mem_cons, List.not_mem_nil, or_false] at ho
  rcases ho with rfl | rfl | rfl | rfl | rfl | rfl | rfl | rfl | rfl | rfl | rfl | rfl <;> first | rfl | (unfold cntD; simp; omega)
def cutG {α : Type} (ns : List α) (lo hi : Option Int) : List α := (ns.drop (HT.sIx ns.length 0 lo)).take (HT.sIx ns.length ns.length hi - HT.sIx ns.length 0 lo)
theorem cutV_map {α : Type} (f : α → V) (ns : List α) (lo hi : Option Int) : cutV (ns.map f) lo hi = (cutG ns lo hi).map f := by
  unfold cutV cutG
  rw [List.length_map, List.map_take, List.map_drop]
theorem cutG_mem {α : Type} {ns : List α} {lo hi : Option Int} {z : α} (h : z ∈ cutG ns lo hi) : z ∈ ns := List.mem_of_mem_drop (List.mem_of_mem_take h)
section
variable {P : Program} {w : World} {K : PySem.W.Frag} {mg : Str → Option Value} {base : Heap} {a : A} {H D : Hp} {Q : VK} {E : XK} {Ms R : List (List G.Cell)} {σ : L2.St}
theorem u_value {b : Nat} {c k : Int} (o : Ok H D R) (hb : 100 ≤ b ∧ b ≤ 4000000) (hc : c.natAbs < 2 ^ b) (hk : 0 ≤ k ∧ k ≤ 100) (q : ∀ H' r, Ok H' D R → r.natAbs < 2 ^ (b + 1) → Q (.int r) H') : sp_law_value [.int c, .int k] H Q E := ⟨D, R, b, c, k, rfl, o, hb, hc, hk, q⟩
theorem u_cell {b : Nat} {l : Addr} {ns : List Int} {k : Int} (h0 : 0 ≤ k) (h : SqL K H l (ns.map V.int)) (hb : ∀ z ∈ ns, z.natAbs < 2 ^ b) (q : ∀ m : Int, m.natAbs < 2 ^ b → Q (.int m) H) : sp_law_cell_at K [.ref l, .int k] H Q E := ⟨b, l, ns, k, rfl, h0, h, hb, q⟩
section
variable {Y : GR} {o z p m n c : V} {t1 t2 t3 t4 : String} {ws' : List W} {r : Int}
theorem u_initO {g dx : Addr} {i : Int} (ok : Ok H D ([(g, .ins a.c_Gifts dx [])] :: R)) (he : 1 ≤ i ∧ i ≤ 5) (q : ∀ H' l, Ok H' D (cGr a ⟨g, dx, l, i, []⟩ :: R) → Q .non H') : sp_Gifts_init K a [.ref g, .int i] H Q E := ⟨D, R, g, dx, .int i, "int", rfl, ok, .int i, fun _ => q, fun h => absurd (isC_t he) (by rw [h]; decide)⟩
theorem u_wishO (ok : Ok H D Ms) (k : Pk Ms (cGr a Y) R) (h1 : Tv K D o t1) (h2 : Tv K D z t2) (h3 : Tv K D p t3) (h4 : Tv K D m t4) (hz : ∀ y, z = .str y → y.length ≤ 1000) (hY : GOk Y) (he : mWish Y.pe (wsOf Y.xs) o z p m = .ok (ws', r)) (q : ∀ H' xs', wsOf xs' = ws' → Ok H' D (cGr a { Y with xs := xs' } :: R) → Q (.int r) H') : sp_wish K a [.ref Y.g, o, z, p, m] H Q E := by
  refine ⟨D, R, Y, o, z, p, m, t1, t2, t3, t4, rfl, ok.pk k, h1, h2, h3, h4, hz, hY, fun ws'' r' h => ?_, fun e' h H' o' => ?_⟩
  · rw [he] at h; cases h; exact q
  · rw [he] at h; cases h
theorem u_m3O {f : Int → List W → V → V → V → Except Err (List W × Int)} (ok : Ok H D Ms) (k : Pk Ms (cGr a Y) R) (h1 : Tv K D p t1) (h2 : Tv K D n t2) (h3 : Tv K D c t3) (hY : GOk Y) (he : f Y.pe (wsOf Y.xs) p n c = .ok (ws', r)) (q : ∀ H' xs', wsOf xs' = ws' → Ok H' D (cGr a { Y with xs := xs' } :: R) → Q (.int r) H') : sp_m3 K a f [.ref Y.g, p, n, c] H Q E := by
  refine ⟨D, R, Y, p, n, c, t1, t2, t3, rfl, ok.pk k, h1, h2, h3, hY, fun ws'' r' h => ?_, fun e' h H' o' => ?_⟩
  · rw [he] at h; cases h; exact q
  · rw [he] at h; cases h
theorem u_dropO (ok : Ok H D Ms) (k : Pk Ms (cGr a Y) R) (h1 : Tv K D p t1) (h2 : Tv K D n t2) (hY : GOk Y) (he : mDrop Y.pe (wsOf Y.xs) p n = .ok ws') (q : ∀ H' xs', wsOf xs' = ws' → Ok H' D (cGr a { Y with xs := xs' } :: R) → Q .non H') : sp_drop K a [.ref Y.g, p, n] H Q E := by
  refine ⟨D, R, Y, p, n, t1, t2, rfl, ok.pk k, h1, h2, hY, fun ws'' h => ?_, fun e' h H' o' => ?_⟩
  · rw [he] at h; cases h; exact q
  · rw [he] at h; cases h
theorem u_seenO {i : Int} (ok : Ok H D Ms) (k : Pk Ms (cGr a Y) R) (hY : GOk Y) (hi : 0 ≤ i ∧ i ≤ Y.pe - 1) (q : ∀ (H' D' : Hp) (L : Addr) (ts : List Addr), Ok H' D' (cGr a Y :: R) → Same D D' → D' L = some (.lst (ts.map V.ref)) → ts.length = (seenM i (wsOf Y.xs)).length → Dp K D' (.ref L) (rowsD (seenM i (wsOf Y.xs))) → Q (.ref L) H') : sp_seen K a [.ref Y.g, .int i] H Q E := by
  refine ⟨D, R, Y, .int i, "int", rfl, ok.pk k, .int i, hY, fun _ H1 D1 L lc ts o1 s1 r1 => ?_, fun h => absurd (isC_t hi) (by rw [h]; decide)⟩
  obtain ⟨D2, o2, s2, e2⟩ := okFrzN [[(L, .lst (ts.map V.ref))], lc] (R := cGr a Y :: R) o1
  exact q H1 D2 L ts o2 (s1.trans s2) (e2 _ (.head _) _ (.head _)) (Paired.length r1) (dp_rows (lc := lc) s2 (fun c hc => e2 _ (.tail _ (.head _)) c hc) (e2 _ (.head _) _ (.head _)) r1)
end
theorem g_meX {g dx l : Addr} {pe : Int} {xs : XS} {m : Str} {P : Prop} (o : Ok H D Ms) (k : cGr a ⟨g, dx, l, pe, xs⟩ ∈ Ms) (l : (gF pe l).lookup m = none) (q : P) : ∃ b dx fs, V.ref g = .ref b ∧ H b = some (.ins a.c_Gifts dx fs) ∧ fs.lookup m = none ∧ P := g_me (Y := ⟨g, dx, _, pe, xs⟩) o k l q
local macro_rules | `(tactic| walk_at "g3") => `(tactic| first
  | ((with_reducible refine' G.r_gtup ?h ?l ?_); (case h => walk_at "sqT"); (case l => rfl))
  | ((with_reducible refine' G.r_I ?c ?_); (case c => first | (show (0 : Int) < _; omega) | exact ⟨by decide, by decide, by decide⟩))
  | ((with_reducible refine' g_meX (by assumption) ?k ?l ?_); (case k => walk_at "mem"); (case l => rfl))
  | fail)
set_option maxHeartbeats 8000000 in
theorem ok_law (T : Txt K mg a) (B_law_persons_right : TabB base mg a.cc_law_persons_right a.cP_law_persons_right) (B_law_wishes_right : TabB base mg a.cc_law_wishes_right a.cP_law_wishes_right) (B_law_numbers_right : TabB base mg a.cc_law_numbers_right a.cP_law_numbers_right) (B_law : TabB base mg a.cc_law a.cP_law) : FnOk P w K mg base (L2.CX P w) 11 a.f_law a.d_law ["_law_script"] (sp_law K a) := by
  refine T.lam_law.ok sc_law (fun vs H Q E h => ?_) (fun A outer s H vs Q E hr h => ?_)
  · obtain ⟨D, b, l, ns, rfl, _⟩ := h
    rfl
  · obtain ⟨D, b, l, ns, rfl, o, nt, hs, hl, hb, hn, k⟩ := h
    have := T.cl_Gifts; have := T.na_Gifts_people; have := T.na_Gifts_wishes
    refine ⟨_, (pss_cons (ps_set (i := 0) sc_law.nd rfl (by first | exact Or.inl rfl | exact Or.inr rfl) (pe_slice (G.k_slU (K := K)) (pv 0) po_none (po_some pe_int)))
  (pss_cons (ps_for (passes_of rfl) rfl (G.k_tup (K := K) (pe_tup (pa_cons pe_int (pa_cons pe_int pa_nil)))) (pg_name (i := 1) sc_law.nd rfl (by first | exact Or.inl rfl | exact Or.inr rfl))
  (pss_cons (ps_set (i := 2) sc_law.nd rfl (by first | exact Or.inl rfl | exact Or.inr rfl) (pe_op (G.k_addU (K := K)) pe_int (pe_op op_mod (pe_callS (ok_law_value (K := K) T) (hr.mono (by decide)) rfl T.law_value.g T.law_value.k T.law_value.b (fun σ => passAt (takes_of rfl rfl rfl rfl) σ) (pa_cons (pe_callS (ok_law_cell_at (K := K) T) (hr.mono (by decide)) rfl T.law_cell_at.g T.law_cell_at.k T.law_cell_at.b (fun σ => passAt (takes_of rfl rfl rfl rfl) σ) (pa_cons (pv 0) (pa_cons (pv 1) pa_nil))) (pa_cons pe_int pa_nil))) (pe_op op_pow pe_int pe_int))))
  (pss_cons (ps_for (passes_of rfl) rfl (G.k_seq (K := K) (pe_op (G.k_addU (K := K)) (pe_callS (ok_law_strange (K := K) T) (hr.mono (by decide)) rfl T.law_strange.g T.law_strange.k T.law_strange.b (fun σ => passAt (takes_of rfl rfl rfl rfl) σ) (pa_cons (pv 2) pa_nil)) (pe_lst (pa_cons pe_int (pa_cons pe_int (pa_cons (pe_op (G.k_addU (K := K)) pe_int (pv 2)) pa_nil)))))) (pg_name (i := 3) sc_law.nd rfl (by first | exact Or.inl rfl | exact Or.inr rfl))
  (pss_one (ps_if (pt_cmpR (G.k_neU (K := K) hr) (pe_kindsT (k := 8) (q := (("law" ++ ".<locals>.") ++ "<lambda>" : Str)) T (B_law) tm_law (tu_law T) (fun _ _ _ _ _ _ _ hr => (G.pe_mk T.mk_Gifts (ok_Gifts_init (K := K) T) (hr.mono (by decide)) rfl T.c_Gifts T.Gifts_init.b (passes_call (takes_of rfl rfl rfl rfl) (fun _ _ _ _ h => h)) (pa_cons (pv 3) pa_nil))) (hr.mono (by decide)) (lamS_by (sc := defScope s_law) (by decide +kernel))) (pe_callS (ok_law_due_of (K := K) T) (hr.mono (by decide)) rfl T.law_due_of.g T.law_due_of.k T.law_due_of.b (fun σ => passAt (takes_of rfl rfl rfl rfl) σ) (pa_cons pe_int pa_nil)) (nomark _)) (pss_one (ps_ret pe_bl)) pss_nil)))
  (pss_cons (ps_set (i := 4) sc_law.nd rfl (by first | exact Or.inl rfl | exact Or.inr rfl) (G.pe_mk T.mk_Gifts (ok_Gifts_init (K := K) T) (hr.mono (by decide)) rfl T.c_Gifts T.Gifts_init.b (passes_call (takes_of rfl rfl rfl rfl) (fun _ _ _ _ h => h)) (pa_cons pe_int pa_nil)))
  (pss_cons (ps_for (passes_of rfl) rfl (G.k_tup (K := K) (pe_tup (pa_cons (pe_tup (pa_cons pe_int (pa_cons pe_str (pa_cons pe_int (pa_cons pe_int pa_nil))))) (pa_cons (pe_tup (pa_cons pe_int (pa_cons pe_str (pa_cons pe_int (pa_cons pe_int pa_nil))))) (pa_cons (pe_tup (pa_cons pe_int (pa_cons pe_str (pa_cons pe_int (pa_cons pe_int pa_nil))))) pa_nil))))) (G.k_gtup (K := K) rfl (pgs_cons (pg_name (i := 5) sc_law.nd rfl (by first | exact Or.inl rfl | exact Or.inr rfl)) (pgs_cons (pg_name (i := 6) sc_law.nd rfl (by first | exact Or.inl rfl | exact Or.inr rfl)) (pgs_cons (pg_name (i := 7) sc_law.nd rfl (by first | exact Or.inl rfl | exact Or.inr rfl)) (pgs_cons (pg_name (i := 8) sc_law.nd rfl (by first | exact Or.inl rfl | exact Or.inr rfl)) pgs_nil)))))
  (pss_one (ps_expr (G.pe_me (pv 4) T.cl_Gifts T.Gifts_wish.m (ok_Gifts_wish (K := K) T) (hr.mono (by decide)) T.Gifts_wish.b (passes_call (takes_of rfl rfl rfl rfl) (fun _ _ _ _ h => h)) (pa_cons (pv 5) (pa_cons (pv 6) (pa_cons (pv 7) (pa_cons (pv 8) pa_nil))))))))
  (pss_cons (ps_set (i := 9) sc_law.nd rfl (by first | exact Or.inl rfl | exact Or.inr rfl) (pe_lst (pa_cons (G.pe_me (pv 4) T.cl_Gifts T.Gifts_take.m (ok_Gifts_take (K := K) T) (hr.mono (by decide)) T.Gifts_take.b (passes_call (takes_of rfl rfl rfl rfl) (fun _ _ _ _ h => h)) (pa_cons pe_int (pa_cons pe_int (pa_cons pe_int pa_nil)))) (pa_cons (G.pe_me (pv 4) T.cl_Gifts T.Gifts_take.m (ok_Gifts_take (K := K) T) (hr.mono (by decide)) T.Gifts_take.b (passes_call (takes_of rfl rfl rfl rfl) (fun _ _ _ _ h => h)) (pa_cons pe_int (pa_cons pe_int (pa_cons pe_int pa_nil)))) (pa_cons (G.pe_me (pv 4) T.cl_Gifts T.Gifts_drop.m (ok_Gifts_drop (K := K) T) (hr.mono (by decide)) T.Gifts_drop.b (passes_call (takes_of rfl rfl rfl rfl) (fun _ _ _ _ h => h)) (pa_cons pe_int (pa_cons pe_int pa_nil))) (pa_cons (G.pe_me (pv 4) T.cl_Gifts T.Gifts_pledge.m (ok_Gifts_pledge (K := K) T) (hr.mono (by decide)) T.Gifts_pledge.b (passes_call (takes_of rfl rfl rfl rfl) (fun _ _ _ _ h => h)) (pa_cons pe_int (pa_cons pe_int (pa_cons pe_int pa_nil)))) pa_nil))))))
  (pss_cons (ps_setLc (i := 10) (own := [("_law_person", 14)]) (g := (gName 14)) (tt := tYes) rfl sc_law.nd rfl rfl (sw_true rfl rfl rfl (by decide +kernel)) (pi_range1 rfl T.n_range (pa_cons pe_int pa_nil)) (blkOk_by (own := [("_law_person", 14)]) (N := ["_law_script", "_law_by", "_law_far", "_law_bad", "_law_gifts", "_law_owner", "_law_word", "_law_price", "_law_many", "_law_heard", "_law_kept", "_law_full", "_law_turn", "_law_gone", "_law_person"]) (sc := defScope s_law) (by decide +kernel)) (fun _ _ _ _ _ => (pg_name (i := 14) sc_law.nd rfl (by first | exact Or.inl rfl | exact Or.inr rfl))) (fun _ _ _ _ _ => pts_nil) (fun _ _ _ _ _ => (G.pe_me (pv 4) T.cl_Gifts T.Gifts_seen.m (ok_Gifts_seen (K := K) T) (hr.mono (by decide)) T.Gifts_seen.b passL (pa_cons (pv 14) pa_nil))))
  (pss_cons (ps_if (PW.pt (pw_or (pt_cmpR (G.k_neU (K := K) hr) (pv 9) (pe_lst (pa_cons pe_int (pa_cons pe_int (pa_cons pe_non (pa_cons pe_int pa_nil))))) (nomark _)) (pw_or (pt_not (pt_val (pe_callS (ok_law_persons_right (K := K) T B_law_persons_right) (hr.mono (by decide)) rfl T.law_persons_right.g T.law_persons_right.k T.law_persons_right.b (fun σ => passAt (takes_of rfl rfl rfl rfl) σ) (pa_cons (pv 4) (pa_cons (pv 2) pa_nil))))) (pw_or1 (pt_not (pt_val (pe_callS (ok_law_wishes_right (K := K) T B_law_wishes_right) (hr.mono (by decide)) rfl T.law_wishes_right.g T.law_wishes_right.k T.law_wishes_right.b (fun σ => passAt (takes_of rfl rfl rfl rfl) σ) (pa_cons (pv 4) (pa_cons (pv 2) pa_nil))))))))) (pss_one (ps_ret pe_bl)) pss_nil)
  (pss_one (ps_if (PW.pt (pw_or (pt_not (pt_val (pe_callS (ok_law_numbers_right (K := K) T B_law_numbers_right) (hr.mono (by decide)) rfl T.law_numbers_right.g T.law_numbers_right.k T.law_numbers_right.b (fun σ => passAt (takes_of rfl rfl rfl rfl) σ) (pa_cons (pv 4) (pa_cons (pv 2) pa_nil))))) (pw_or1 (pt_cmpR (G.k_neU (K := K) hr) (pe_lc (own := [("_law_person", 14)]) (g := (gName 14)) (tt := tYes) rfl sc_law.nd (pi_range1 rfl T.n_range (pa_cons pe_int pa_nil)) (blkOk_by (own := [("_law_person", 14)]) (N := ["_law_script", "_law_by", "_law_far", "_law_bad", "_law_gifts", "_law_owner", "_law_word", "_law_price", "_law_many", "_law_heard", "_law_kept", "_law_full", "_law_turn", "_law_gone", "_law_person"]) (sc := defScope s_law) (by decide +kernel)) (fun _ _ _ _ _ => (pg_name (i := 14) sc_law.nd rfl (by first | exact Or.inl rfl | exact Or.inr rfl))) (fun _ _ _ _ _ => pts_nil) (fun _ _ _ _ _ => (G.pe_me (pv 4) T.cl_Gifts T.Gifts_seen.m (ok_Gifts_seen (K := K) T) (hr.mono (by decide)) T.Gifts_seen.b passL (pa_cons (pv 14) pa_nil)))) (pv 10) (nomark _))))) (pss_one (ps_ret pe_bl)) pss_nil))))))))))
  (pss_cons (ps_set (i := 11) sc_law.nd rfl (by first | exact Or.inl rfl | exact Or.inr rfl) (G.pe_mk T.mk_Gifts (ok_Gifts_init (K := K) T) (hr.mono (by decide)) rfl T.c_Gifts T.Gifts_init.b (passes_call (takes_of rfl rfl rfl rfl) (fun _ _ _ _ h => h)) (pa_cons pe_int pa_nil)))
  (pss_cons (ps_for (passes_of rfl) rfl (pi_range1 rfl T.n_range (pa_cons pe_int pa_nil)) (pg_name (i := 12) sc_law.nd rfl (by first | exact Or.inl rfl | exact Or.inr rfl))
  (pss_one (ps_expr (G.pe_me (pv 11) T.cl_Gifts T.Gifts_wish.m (ok_Gifts_wish (K := K) T) (hr.mono (by decide)) T.Gifts_wish.b (passes_call (takes_of rfl rfl rfl rfl) (fun _ _ _ _ h => h)) (pa_cons pe_int (pa_cons pe_str (pa_cons pe_int (pa_cons pe_int pa_nil))))))))
  (pss_cons (ps_if (pt_cmpR (G.k_neU (K := K) hr) (pe_kindsT (k := 8) (q := (("law" ++ ".<locals>.") ++ "<lambda>" : Str)) T (B_law) tm_law (tu_law T) (fun _ _ _ _ _ _ _ hr => (G.pe_me (pv 11) T.cl_Gifts T.Gifts_wish.m (ok_Gifts_wish (K := K) T) (hr.mono (by decide)) T.Gifts_wish.b (passes_call (takes_of rfl rfl rfl rfl) (fun _ _ _ _ h => h)) (pa_cons pe_int (pa_cons pe_str (pa_cons pe_int (pa_cons pe_int pa_nil)))))) (hr.mono (by decide)) (lamS_by (sc := defScope s_law) (by decide +kernel))) (pe_callS (ok_law_due_of (K := K) T) (hr.mono (by decide)) rfl T.law_due_of.g T.law_due_of.k T.law_due_of.b (fun σ => passAt (takes_of rfl rfl rfl rfl) σ) (pa_cons pe_int pa_nil)) (nomark _)) (pss_one (ps_ret pe_bl)) pss_nil)
  (pss_cons (ps_set (i := 13) sc_law.nd rfl (by first | exact Or.inl rfl | exact Or.inr rfl) (G.pe_mk T.mk_Gifts (ok_Gifts_init (K := K) T) (hr.mono (by decide)) rfl T.c_Gifts T.Gifts_init.b (passes_call (takes_of rfl rfl rfl rfl) (fun _ _ _ _ h => h)) (pa_cons pe_int pa_nil)))
  (pss_cons (ps_for (passes_of rfl) rfl (pi_range1 rfl T.n_range (pa_cons pe_int pa_nil)) (pg_name (i := 12) sc_law.nd rfl (by first | exact Or.inl rfl | exact Or.inr rfl))
  (pss_one (ps_if (PW.pt (pw_or (pt_cmpR (G.k_neU (K := K) hr) (G.pe_me (pv 13) T.cl_Gifts T.Gifts_wish.m (ok_Gifts_wish (K := K) T) (hr.mono (by decide)) T.Gifts_wish.b (passes_call (takes_of rfl rfl rfl rfl) (fun _ _ _ _ h => h)) (pa_cons (pe_op op_mod (pv 12) pe_int) (pa_cons pe_str (pa_cons pe_int (pa_cons pe_int pa_nil))))) (pv 12) (nomark _)) (pw_or1 (PW.pt (pw_and (pt_cmpR op_gt (pe_op op_mod (pv 12) pe_int) pe_int (nomark _)) (pw_and1 (pt_cmpR op_notN (G.pe_me (pv 13) T.cl_Gifts T.Gifts_drop.m (ok_Gifts_drop (K := K) T) (hr.mono (by decide)) T.Gifts_drop.b (passes_call (takes_of rfl rfl rfl rfl) (fun _ _ _ _ h => h)) (pa_cons (pe_op op_mod (pv 12) pe_int) (pa_cons (pv 12) pa_nil))) pe_non (nomark _)))))))) (pss_one (ps_ret pe_bl)) pss_nil)))
  (pss_cons (ps_if (PW.pt (pw_or (pt_cmpR (G.k_neU (K := K) hr) (pe_kindsT (k := 8) (q := (("law" ++ ".<locals>.") ++ "<lambda>" : Str)) T (B_law) tm_law (tu_law T) (fun _ _ _ _ _ _ _ hr => (G.pe_me (pv 13) T.cl_Gifts T.Gifts_wish.m (ok_Gifts_wish (K := K) T) (hr.mono (by decide)) T.Gifts_wish.b (passes_call (takes_of rfl rfl rfl rfl) (fun _ _ _ _ h => h)) (pa_cons pe_int (pa_cons pe_str (pa_cons pe_int (pa_cons pe_int pa_nil)))))) (hr.mono (by decide)) (lamS_by (sc := defScope s_law) (by decide +kernel))) (pe_callS (ok_law_due_of (K := K) T) (hr.mono (by decide)) rfl T.law_due_of.g T.law_due_of.k T.law_due_of.b (fun σ => passAt (takes_of rfl rfl rfl rfl) σ) (pa_cons pe_int pa_nil)) (nomark _)) (pw_or1 (pt_cmpR (G.k_neU (K := K) hr) (pe_callB (G.k_lenU (K := K)) (by rfl) T.n_len (by decide +kernel) (pa_cons (G.pe_me (pv 13) T.cl_Gifts T.Gifts_seen.m (ok_Gifts_seen (K := K) T) (hr.mono (by decide)) T.Gifts_seen.b (passes_call (takes_of rfl rfl rfl rfl) (fun _ _ _ _ h => h)) (pa_cons pe_int pa_nil)) pa_nil)) pe_int (nomark _))))) (pss_one (ps_ret pe_bl)) pss_nil)
  (pss_one (ps_ret (pe_and (pe_cmpR (G.k_eqU (K := K) hr) (pe_kindsT (k := 8) (q := (("law" ++ ".<locals>.") ++ "<lambda>" : Str)) T (B_law) tm_law (tu_law T) (fun _ _ _ _ _ _ _ hr => (G.pe_me (pv 11) T.cl_Gifts T.Gifts_wish.m (ok_Gifts_wish (K := K) T) (hr.mono (by decide)) T.Gifts_wish.b (passes_call (takes_of rfl rfl rfl rfl) (fun _ _ _ _ h => h)) (pa_cons pe_int (pa_cons pe_str (pa_cons pe_int (pa_cons pe_int pa_nil)))))) (hr.mono (by decide)) (lamS_by (sc := defScope s_law) (by decide +kernel))) (pe_callS (ok_law_due_of (K := K) T) (hr.mono (by decide)) rfl T.law_due_of.g T.law_due_of.k T.law_due_of.b (fun σ => passAt (takes_of rfl rfl rfl rfl) σ) (pa_cons pe_int pa_nil)) (nomark _)) (pe_one (pe_cmpR (G.k_eqU (K := K) hr) (pe_callB (G.k_lenU (K := K)) (by rfl) T.n_len (by decide +kernel) (pa_cons (G.pe_me (pv 11) T.cl_Gifts T.Gifts_seen.m (ok_Gifts_seen (K := K) T) (hr.mono (by decide)) T.Gifts_seen.b (passes_call (takes_of rfl rfl rfl rfl) (fun _ _ _ _ h => h)) (pa_cons pe_int pa_nil)) pa_nil)) pe_int (nomark _)))))))))))))), ?_⟩
    have sl := sizeLine_eq
    walk_at "go"
    refine r_slL o (o.sqL hs) fun S H1 o1 => ?_
    rw [cutV_map] at o1
    obtain ⟨D1, f1, s1, e1⟩ := okFrzN [[(S, .lst ((cutG ns none (some 63)).map V.int))]] (R := [cT (tabsA a) (List.replicate (tabsA a).length #[])]) o1
    have hS := SqL.of (K := K) (noT_at (e1 _ (.head _) _ (.head _)) nofun)
    have hn1 : ∀ z ∈ cutG ns none (some 63), z.natAbs < 2 ^ b := fun z hz => hn z (cutG_mem hz)
    have f2 := f1.noT
    have nt2 := NT.noT D1
    generalize cutG ns none (some 63) = ns1 at hS hn1
    generalize noT D1 = D2 at hS f2 nt2
    clear o o1 f1
    walk_at "go"
    rename_i TT H3 o3
    obtain ⟨D4, o4, s4, e4⟩ := okFrzN [[(TT, .tup [V.int 0, V.int 3])]] (R := [cT (tabsA a) (List.replicate (tabsA a).length #[])]) o3
    have hTT := noT_at (e4 _ (.head _) _ (.head _)) nofun
    have s5 := nt2.same s4
    have nt5 := NT.noT D4
    have hS := s5.seq hS
    have S5 : St a H3 (noT D4) [] := ⟨noT D4, _, o4.noT, Same.refl _, nt5, tabs_nil⟩
    generalize noT D4 = D5 at hTT s5 nt5 hS S5
    clear f2 o3 o4
    refine r_itupE (SqT.of (S5.dat hTT)) ?_
    refine for_it (walk_tup (xs := [V.int 0, V.int 3])) (fun i σ H' => ∃ v1 v2 v3 v4 v5 v6 v7 v8 v9 v10, σ = [some (.ref S), v1, v2, v3, v4, v5, v6, v7, v8, v9, v10, none, none, none, none] ∧ St a H' D5 [])
      ⟨_, _, _, _, _, _, _, _, _, _, rfl, S5⟩ ?_ ?_ ?_
    · rintro i σ H' _ ⟨v1, v2, v3, v4, v5, v6, v7, v8, v9, v10, rfl, S'⟩
      exact SqT.of (S'.dat hTT)
    · rintro i y σ H' H'' hi ⟨v1, v2, v3, v4, v5, v6, v7, v8, v9, v10, rfl, S'⟩ ⟨rfl, ey⟩
      have ey : [V.int 0, V.int 3][i]? = some y := ey
      obtain ⟨j, hj, rfl⟩ : ∃ j : Int, 0 ≤ j ∧ y = .int j := by
        match i, ey with
        | 0, ey => exact ⟨0, by decide, (Option.some.inj ey).symm⟩
        | 1, ey => exact ⟨3, by decide, (Option.some.inj ey).symm⟩
        | n + 2, ey => cases ey
      obtain ⟨D6, pss6, o6, s6, nt6, tk6⟩ := S'
      have hS' := s6.seq hS
      clear S5
      walk_at "go"
      refine u_cell (b := b) hj (o6.sqL hS') hn1 fun c hc => ?_
      walk_at "go"
      refine u_value (b := b) o6 (by omega) hc (by decide) fun H7 r7 o7 _ => ?_
      clear o6
      walk_at "go"
      have hX : (0 : Int) < 10 ^ Int.toNat 20 := by decide
      generalize (10 : Int) ^ Int.toNat 20 = X at hX ⊢
      refine r_I hX ?_
      have hm := Int.emod_nonneg r7 (show X ≠ 0 by omega)
      have S7 : St a H7 D6 [] := ⟨D6, pss6, o7, Same.refl _, nt6, tk6⟩
      clear o7
      walk_at "go"
      have hz : 1 ≤ 1 + r7 % X := by omega
      generalize 1 + r7 % X = z at hz ⊢
      refine strS (es := [.int 0, .int 6, .int (5 + z)]) S7 nt6 (fun D' => by walk_at "lite") (by simp) fun H8 D8 L8 xs8 S8 nt8 s8 hL8 g8 => ?_
      clear S7
      refine r_iseqL (SqL.of (S8.dat hL8)) ?_
      refine for_it (walk_list (xs := xs8)) (fun i σ H' => ∃ v3, σ = [some (.ref S), some (.int j), some (.int z), v3, v4, v5, v6, v7, v8, v9, v10, none, none, none, none] ∧ St a H' D8 []) ⟨_, rfl, S8⟩ ?_ ?_ ?_
      · rintro i σ H' _ ⟨v3, rfl, S'⟩
        exact SqL.of (S'.dat hL8)
      · rintro i y σ H' H'' hi ⟨v3, rfl, S'⟩ ⟨rfl, ey⟩
        have ey : xs8[i]? = some y := ey
        obtain ⟨d, hd, fd⟩ := g8.get ey
        have hno : isC 1 5 y = false := (isC_fz fd).trans (strPe hz d (List.mem_of_getElem? hd))
        clear S8
        refine r_name ?_
        walk_at "g1"
        refine r_ifS (u_askT S' PlC.nil (isK_BadPeople T) (fun E Z H1 D1 M1 M2 o1 s1 hE => ?_) fun H1 S1 => r_iteF ?_)
        · walk_at "go"
          exact u_initE (by assumption) (fz_tv (Same.refl _) (fd.mono s1)) hno fun H2 o2 => hE H2 D1 o2 (Same.refl _)
        exact ⟨_, rfl, S1⟩
      · rintro σ H' ⟨v3, rfl, S'⟩
        clear S8
        obtain ⟨D9, pss9, o9, s9, nt9, tk9⟩ := S'
        walk_at "go"
        rename_i g dx H10 o10
        refine u_initO o10 (by decide) fun H11 l o11 => ⟨rfl, ?_⟩
        clear o9 o10
        walk_at "go"
        rename_i T1 H12 o12 T2 H13 o13 T3 H14 o14 T0 H15 o15
        obtain ⟨D16, o16, s16, e16⟩ := okFrzN [[(T0, .tup [V.ref T1, V.ref T2, V.ref T3])], [(T3, .tup [V.int 0, V.str "q", V.int 9, V.int 1])], [(T2, .tup [V.int 1, V.str "zzzz", V.int 20, V.int 3])], [(T1, .tup [V.int 0, V.str "a", V.int 5, V.int 1])]] (R := [cGr a ⟨g, dx, l, 3, []⟩, cT (tabsA a) pss9]) o15
        have hT0 := e16 _ (.head _) _ (.head _)
        have hT3 := e16 _ (.tail _ (.head _)) _ (.head _)
        have hT2 := e16 _ (.tail _ (.tail _ (.head _))) _ (.head _)
        have hT1 := e16 _ (.tail _ (.tail _ (.tail _ (.head _)))) _ (.head _)
        clear o11 o12 o13 o14 o15
        refine r_itupE (SqT.of (o16.dat hT0)) ?_
        refine for_it (walk_tup (xs := [V.ref T1, V.ref T2, V.ref T3])) (fun i σ H' => ∃ w5 w6 w7 w8 xs', σ = [some (.ref S), some (.int j), some (.int z), v3, some (.ref g), w5, w6, w7, w8, v9, v10, none, none, none, none] ∧ Ok H' D16 [cGr a ⟨g, dx, l, 3, xs'⟩, cT (tabsA a) pss9] ∧ wsOf xs' = ws3.take i)
          ⟨_, _, _, _, _, rfl, o16, rfl⟩ ?_ ?_ ?_
        · rintro i σ H' _ ⟨w5, w6, w7, w8, xs', rfl, o', _⟩
          exact SqT.of (o'.dat hT0)
        · rintro i y σ H' H'' hi ⟨w5, w6, w7, w8, xs', rfl, o', hw⟩ ⟨rfl, ey⟩
          have ey : [V.ref T1, V.ref T2, V.ref T3][i]? = some y := ey
          have hi : i < 3 := hi
          obtain ⟨TT, x, rfl, hx, hTx⟩ : ∃ TT x, y = .ref TT ∧ ws3[i]? = some x ∧ D16 TT = some (.tup [.int x.ow, .str x.word, .int x.price, .int x.many]) := by
            match i, ey with
            | 0, ey => exact ⟨T1, _, (Option.some.inj ey).symm, rfl, hT1⟩
            | 1, ey => exact ⟨T2, _, (Option.some.inj ey).symm, rfl, hT2⟩
            | 2, ey => exact ⟨T3, _, (Option.some.inj ey).symm, rfl, hT3⟩
            | n + 3, ey => cases ey
          have hall : ws3.all wokB = true := by decide +kernel
          have hY : GOk ⟨g, dx, l, 3, xs'⟩ := gok_of hw (List.all_eq_true.mpr fun y hy => List.all_eq_true.mp hall y (List.mem_of_mem_take hy)) (by rw [List.length_take]; show min i 3 ≤ 8; omega) p3
          have hlw := (wokB_ok (List.all_eq_true.mp hall x (List.mem_of_getElem? hx))).lw
          clear o16
          refine r_gtup (SqT.of (o'.dat hTx)) rfl ?_
          walk_at "go"
          refine u_wishO (Y := ⟨g, dx, l, 3, xs'⟩) o' .here (.int _) (.str _) (.int _) (.int _) (fun y e => by cases e; exact hlw) hY (by show mWish 3 (wsOf xs') _ _ _ _ = _; rw [hw]; exact mW_3 hi hx) fun H2 xs2 e2 o2 => ?_
          clear o'
          walk_at "go"
          exact ⟨_, _, _, _, xs2, rfl, o2, e2⟩
        · rintro σ H17 ⟨w5, w6, w7, w8, xs3, rfl, o17, hw3⟩
          have hw3 : wsOf xs3 = ws3 := hw3
          clear o16
          walk_at "go"
          refine u_m3O (Y := ⟨g, dx, l, 3, xs3⟩) (ws' := ws4) (r := 0) o17 .here (.int _) (.int _) (.int _) (gok_of hw3 (by decide +kernel) (by decide) p3) (by show mTake 3 (wsOf xs3) _ _ _ = _; rw [hw3]; exact t4) fun H18 xs4 hw4 o18 => ?_
          clear o17
          walk_at "go"
          refine u_m3O (Y := ⟨g, dx, l, 3, xs4⟩) (ws' := ws5) (r := 1) o18 .here (.int _) (.int _) (.int _) (gok_of hw4 (by decide +kernel) (by decide) p3) (by show mTake 3 (wsOf xs4) _ _ _ = _; rw [hw4]; exact t5) fun H19 xs5 hw5 o19 => ?_
          clear o18
          walk_at "go"
          refine u_dropO (Y := ⟨g, dx, l, 3, xs5⟩) (ws' := ws6) o19 .here (.int _) (.int _) (gok_of hw5 (by decide +kernel) (by decide) p3) (by show mDrop 3 (wsOf xs5) _ _ = _; rw [hw5]; exact t6) fun H20 xs6 hw6 o20 => ?_
          clear o19
          walk_at "go"
          refine u_m3O (Y := ⟨g, dx, l, 3, xs6⟩) (ws' := ws9) (r := 7) o20 .here (.int _) (.int _) (.int _) (gok_of hw6 (by decide +kernel) (by decide) p3) (by show mPledge 3 (wsOf xs6) _ _ _ = _; rw [hw6]; exact t7) fun H21 xs7 hw7 o21 => ?_
          have hY : GOk ⟨g, dx, l, 3, xs7⟩ := gok_of hw7 (by decide +kernel) (by decide) p3
          clear o20
          walk_at "go"
          rename_i LH H22 o22
          clear o21
          obtain ⟨D23, o23, s23, e23⟩ := okFrzN [[(LH, .lst [V.int 0, V.int 1, V.non, V.int 7])]] (R := [cGr a ⟨g, dx, l, 3, xs7⟩, cT (tabsA a) pss9]) o22
          have hLH := e23 _ (.head _) _ (.head _)
          clear o22
          refine r_irng1 (by decide) ?_
          refine lcG walk_range o23 (fun i acc D' => acc.length = i ∧ DpAll K D' acc ((List.range i).map fun (p : Nat) => rowsD (seenM (p : Int) ws9))) (by decide) ⟨rfl, .nil⟩ ?_ (fun _ _ _ _ _ _ _ _ => trivial) ?_ ?_
          · rintro i acc D' ⟨h, _⟩
            omega
          · rintro i y L acc H' H'' D' Ny Nn hi o' s' ⟨hl, hd⟩ ⟨rfl, ey⟩ kk _
            have ey : y = .int (i : Int) := by rw [show y = .int (0 + (i : Int)) from ey, Int.zero_add]
            subst ey
            have hi : i < 3 := hi
            clear o23
            walk_at "g1"
            refine ⟨rfl, ?_⟩
            walk_at "go"
            refine u_seenO (Y := ⟨g, dx, l, 3, xs7⟩) o' (.there .here) hY ⟨by omega, by show (i : Int) ≤ 3 - 1; omega⟩ fun H2 D2 L2 ts o2 s2 h2 hl2 dp2 => ?_
            refine kk _ H2 D2 (o2.sel (.pick (.there .here) (.done .here))) s2 ⟨by rw [List.length_append, hl]; rfl, ?_⟩
            rw [List.range_succ, List.map_append]
            have dp2 : Dp K D2 (.ref L2) (rowsD (seenM (i : Int) ws9)) := by rw [← hw7]; exact dp2
            exact dpA_app (dpAll_mono s2 hd) (.cons dp2 .nil)
          · rintro L acc H24 D24 o24 s24 ⟨hl, hd⟩
            obtain ⟨D25, o25, s25, e25⟩ := okFrzN [[(L, .lst acc)]] (R := [cGr a ⟨g, dx, l, 3, xs7⟩, cT (tabsA a) pss9]) o24
            have dK : Dp K D25 (.ref L) keptD := .lst (SqL.of (e25 _ (.head _) _ (.head _))) (dpAll_mono s25 hd)
            have hLH' := s25 _ _ (s24 _ _ hLH)
            clear o23 o24
            walk_at "g1"
            walk_at "g1"
            walk_at "g1"
            have dK := dp_noT dK
            have hLH := noT_at hLH' nofun
            have o26 := o25.noT
            have nt26 := NT.noT D25
            have tk26 := (tk9.mono (s16.trans (s23.trans (s24.trans s25)))).noT
            have s26 := nt9.same (s16.trans (s23.trans (s24.trans s25)))
            generalize noT D25 = D26 at dK hLH o26 nt26 tk26 s26
            clear o25
            walk_at "go"
            rename_i p27 H27 o27
            refine r_neD (d := .list [.int 0, .int 1, .none, .int 7]) (e := .list [.int 0, .int 1, .none, .int 7]) (.lst (SqL.of (o27.dat hLH)) (.cons (.int _) (.cons (.int _) (.cons .non (.cons (.int _) .nil))))) (.lst (SqL.of (o27.at1 (.head _))) (.cons (.int _) (.cons (.int _) (.cons .non (.cons (.int _) .nil))))) rfl rfl ?_
            rw [show PyData.eqv (.list [.int 0, .int 1, .none, .int 7]) (.list [.int 0, .int 1, .none, .int 7]) = true from refl_of rfl]
            have S28 : St a H27 D26 [cGr a ⟨g, dx, l, 3, xs7⟩] := ⟨D26, pss9, o27.drop.sel (.pick (.there .here) (.done .here)), Same.refl _, nt26, tk26⟩
            clear o26 o27
            walk_at "go"
            refine ⟨D26, ⟨g, dx, l, 3, xs7⟩, [], z, rfl, S28, nt26, PlC.nil, hY, rfl, hw7, hz, fun H29 S29 => ?_⟩
            walk_at "go"
            refine ⟨D26, ⟨g, dx, l, 3, xs7⟩, [], z, rfl, S29, nt26, PlC.nil, hY, rfl, hw7, hz, fun H30 S30 => ?_⟩
            walk_at "go"
            refine ⟨D26, ⟨g, dx, l, 3, xs7⟩, [], z, rfl, S30, nt26, PlC.nil, hY, rfl, hw7, hz, fun H31 S31 => ?_⟩
            clear S28 S29 S30
            walk_at "go"
            obtain ⟨D32, pss32, o32, s32, nt32, tk32⟩ := S31
            have o33 : Ok H31 D32 [cGr a ⟨g, dx, l, 3, xs7⟩, cT (tabsA a) pss32] := o32.sel (.pick (.there .here) (.pick .here (.done .here)))
            clear o32
            refine r_irng1 (by decide) ?_
            refine lcG walk_range o33 (fun i acc D' => acc.length = i ∧ DpAll K D' acc ((List.range i).map fun (p : Nat) => rowsD (seenM (p : Int) ws9))) (by decide) ⟨rfl, .nil⟩ ?_ (fun _ _ _ _ _ _ _ _ => trivial) ?_ ?_
            · rintro i acc D' ⟨h, _⟩
              omega
            · rintro i y L acc H' H'' D' Ny Nn hi o' s' ⟨hl, hd⟩ ⟨rfl, ey⟩ kk _
              have ey : y = .int (i : Int) := by rw [show y = .int (0 + (i : Int)) from ey, Int.zero_add]
              subst ey
              have hi : i < 3 := hi
              clear o33
              walk_at "g1"
              refine ⟨rfl, ?_⟩
              walk_at "go"
              refine u_seenO (Y := ⟨g, dx, l, 3, xs7⟩) o' (.there .here) hY ⟨by omega, by show (i : Int) ≤ 3 - 1; omega⟩ fun H2 D2 L2 ts o2 s2 h2 hl2 dp2 => ?_
              refine kk _ H2 D2 (o2.sel (.pick (.there .here) (.done .here))) s2 ⟨by rw [List.length_append, hl]; rfl, ?_⟩
              rw [List.range_succ, List.map_append]
              have dp2 : Dp K D2 (.ref L2) (rowsD (seenM (i : Int) ws9)) := by rw [← hw7]; exact dp2
              exact dpA_app (dpAll_mono s2 hd) (.cons dp2 .nil)
            · rintro L2 acc2 H34 D34 o34 s34 ⟨hl2, hd2⟩
              have dL : Dp K H34 (.ref L2) keptD := .lst (SqL.of (o34.at1 (.head _))) (dpAll_mono o34.sub hd2)
              have dK' : Dp K H34 (.ref L) keptD := dp_mono (s32.trans (s34.trans o34.sub)) dK
              clear o33
              walk_at "go"
              refine r_neD dL dK' kept_shaped kept_shaped ?_
              rw [show PyData.eqv keptD keptD = true from refl_of kept_shaped]
              clear dL dK'
              walk_at "go"
              exact ⟨_, _, _, _, _, _, _, _, _, _, rfl, St.re (o34.drop.drop) nt5 (s6.trans (s8.trans (s9.trans (s26.trans (s32.trans s34))))) (tk32.mono s34)⟩
    · rintro σ H40 ⟨v1, v2, v3, v4, v5, v6, v7, v8, v9, v10, rfl, S40⟩
      clear S5
      obtain ⟨D41, pss41, o41, s41, nt41, tk41⟩ := S40
      walk_at "go"
      rename_i g dx H42 o42
      refine u_initO o42 (by decide) fun H43 l o43 => ⟨rfl, ?_⟩
      clear o41 o42
      walk_at "go"
      refine r_irng1 (by decide) ?_
      refine for_it walk_range (fun i σ H' => ∃ v12 xs', σ = [some (.ref S), v1, v2, v3, v4, v5, v6, v7, v8, v9, v10, some (.ref g), v12, none, none] ∧ Ok H' D41 [cGr a ⟨g, dx, l, 1, xs'⟩, cT (tabsA a) pss41] ∧ wsOf xs' = List.replicate i wF)
        ⟨_, _, rfl, o43, rfl⟩ (fun _ _ _ _ _ => trivial) ?_ ?_
      · rintro i y σ H' H'' hi ⟨v12, xs', rfl, o', hw⟩ ⟨rfl, ey⟩
        have hi : i < 8 := hi
        clear o43
        walk_at "go"
        refine u_wishO (Y := ⟨g, dx, l, 1, xs'⟩) o' .here (.int _) (.str _) (.int _) (.int _) (fun y e => by cases e; decide) (gok_of hw (rep_wok i) (by rw [List.length_replicate]; omega) p1) (by show mWish 1 (wsOf xs') _ _ _ _ = _; rw [hw]; exact full_step i hi) fun H2 xs2 e2 o2 => ?_
        clear o'
        walk_at "go"
        exact ⟨_, xs2, rfl, o2, e2⟩
      · rintro σ H44 ⟨v12, xf, rfl, o44, hwf⟩
        have hwf : wsOf xf = List.replicate 8 wF := hwf
        have hYf : GOk ⟨g, dx, l, 1, xf⟩ := gok_of hwf (rep_wok 8) (by decide) p1
        have S44 : St a H44 D41 [cGr a ⟨g, dx, l, 1, xf⟩] := ⟨D41, pss41, o44.sel (.pick (.there .here) (.done .here)), Same.refl _, nt41, tk41⟩
        clear o43 o44
        walk_at "g1"
        walk_at "g1"
        refine u_askG0 S44 PlC.nil (isK_TooMany T) (fun E Z H1 D1 R1 o1 s1 hE => ?_) fun H45 S45 => r_iteF ?_
        · walk_at "go"
          exact u_wishE (e := .toomany) o1 (.int _) (.str _) (.int _) (.int _) (fun y e => by cases e; decide) hYf (by show mWish 1 (wsOf xf) _ _ _ _ = _; rw [hwf]; exact full_no) hE
        obtain ⟨D46, pss46, o46, s46, nt46, tk46⟩ := S45
        clear S44
        walk_at "go"
        rename_i g2 dx2 H47 o47
        refine u_initO o47 (by decide) fun H48 l2 o48 => ⟨rfl, ?_⟩
        clear o46 o47
        walk_at "go"
        refine r_irng1 (by decide) ?_
        refine for_it walk_range (fun i σ H' => ∃ v12 xs', σ = [some (.ref S), v1, v2, v3, v4, v5, v6, v7, v8, v9, v10, some (.ref g), v12, some (.ref g2), none] ∧ Ok H' D46 [cGr a ⟨g2, dx2, l2, 2, xs'⟩, cT (tabsA a) pss46, cGr a ⟨g, dx, l, 1, xf⟩] ∧ wsOf xs' = goneW i)
          ⟨_, _, rfl, o48, rfl⟩ (fun _ _ _ _ _ => trivial) ?_ ?_
        · rintro i y σ H' H'' hi ⟨v12, xs', rfl, o', hw⟩ ⟨rfl, ey⟩
          have ey : y = .int (i : Int) := by rw [show y = .int (0 + (i : Int)) from ey, Int.zero_add]
          subst ey
          have hi : i < 8 := hi
          clear o48
          walk_at "go"
          refine u_wishO (Y := ⟨g2, dx2, l2, 2, xs'⟩) o' .here (.int _) (.str _) (.int _) (.int _) (fun y e => by cases e; decide) (gok_of hw (gone_wok i (by omega)) (by rw [gone_len]; omega) p2) (by show mWish 2 (wsOf xs') _ _ _ _ = _; rw [hw]; exact gone_step i hi) fun H2 xs2 e2 o2 => ?_
          clear o'
          walk_at "go"
          rw [show (!decide (V.int (i : Int) = V.int (i : Int))) = false by simp]
          walk_at "go"
          refine r_ite (fun h => ?_) (fun h => ?_)
          · have h := of_decide_eq_true h
            walk_at "go"
            refine u_dropO (Y := ⟨g2, dx2, l2, 2, xs2⟩) (ws' := goneW (i + 1)) o2 .here (.int _) (.int _) (gok_of e2 (gone_wok2 i hi) (by rw [List.length_append, gone_len]; show i + 1 ≤ 8; omega) p2) (by show mDrop 2 (wsOf xs2) _ _ = _; rw [e2]; exact gone_drop i hi h) fun H3 xs3 e3 o3 => ?_
            clear o2
            walk_at "go"
            refine ⟨rfl, !decide (V.non = V.non), rfl, ?_⟩
            rw [show (!decide (V.non = V.non)) = false by simp]
            walk_at "go"
            exact ⟨_, xs3, rfl, o3, e3⟩
          · have h := of_decide_eq_false h
            walk_at "go"
            exact ⟨_, xs2, rfl, o2, e2.trans (gone_stay i hi h)⟩
        · rintro σ H49 ⟨v12', xg, rfl, o49, hwg⟩
          have hwg : wsOf xg = goneW 8 := hwg
          have hYg : GOk ⟨g2, dx2, l2, 2, xg⟩ := gok_of hwg (gone_wok 8 (by decide)) (by decide) p2
          have S50 : St a H49 D46 [cGr a ⟨g2, dx2, l2, 2, xg⟩, cGr a ⟨g, dx, l, 1, xf⟩] := ⟨D46, pss46, o49.sel (.pick (.there .here) (.done .here)), Same.refl _, nt46, tk46⟩
          have plf : PlC [cGr a ⟨g, dx, l, 1, xf⟩] := PlC.cons pl_cG PlC.nil
          clear o48 o49
          walk_at "g1"
          walk_at "g1"
          walk_at "g1"
          refine u_askG0 S50 plf (isK_TooMany T) (fun E Z H1 D1 R1 o1 s1 hE => ?_) fun H51 S51 => ?_
          · walk_at "go"
            exact u_wishE (e := .toomany) o1 (.int _) (.str _) (.int _) (.int _) (fun y e => by cases e; decide) hYg (by show mWish 2 (wsOf xg) _ _ _ _ = _; rw [hwg]; exact gone_no) hE
          obtain ⟨D52, pss52, o52, s52, nt52, tk52⟩ := S51
          clear S50
          walk_at "go"
          refine u_seenO (Y := ⟨g2, dx2, l2, 2, xg⟩) (i := 0) o52 (.there .here) hYg (by show (0 : Int) ≤ 0 ∧ (0 : Int) ≤ 2 - 1; decide) fun H53 D53 L53 ts53 o53 s53 h53 hl53 _ => ?_
          rw [show (wsOf xg) = goneW 8 from hwg] at hl53
          have hl53 : ts53.length = 3 := hl53.trans (by decide +kernel)
          clear o52
          walk_at "go"
          rw [List.length_map, hl53, show (!decide (V.int ((3 : Nat) : Int) = V.int 3)) = false by simp]
          have S54 : St a H53 D46 [cGr a ⟨g, dx, l, 1, xf⟩] := St.re o53.drop nt46 (s52.trans s53) (tk52.mono s53)
          clear o53
          walk_at "g1"
          walk_at "g1"
          walk_at "g1"
          walk_at "g1"
          refine u_askG1 S54 PlC.nil (isK_BadMany T) (fun E Z H1 D1 R1 o1 s1 hE => ?_) fun H55 S55 => ⟨true, rfl, ?_⟩
          · walk_at "go"
            exact u_wishE (e := .many) o1 (.int _) (.str _) (.int _) (.int _) (fun y e => by cases e; decide) hYf (by show mWish 1 (wsOf xf) _ _ _ _ = _; rw [hwf]; exact full_no4) hE
          obtain ⟨D56, pss56, o56, s56, nt56, tk56⟩ := S55
          clear S54
          walk_at "go"
          refine u_seenO (Y := ⟨g, dx, l, 1, xf⟩) (i := 0) o56 (.there .here) hYf (by show (0 : Int) ≤ 0 ∧ (0 : Int) ≤ 1 - 1; decide) fun H57 D57 L57 ts57 o57 s57 h57 hl57 _ => ?_
          rw [show (wsOf xf) = List.replicate 8 wF from hwf] at hl57
          have hl57 : ts57.length = 8 := hl57.trans (by decide +kernel)
          clear o56
          walk_at "go"
          rw [List.length_map, hl57, show decide (V.int ((8 : Nat) : Int) = V.int 8) = true by simp]
          exact k _
end
end PP

namespace PP
open PySem PySem.Spec PyProof.Rows L2 G
theorem bits_big {z : Int} {n : Nat} (h : Builtin.Int.intBits z ≤ n) : z.natAbs < 2 ^ n := by
  unfold Builtin.Int.intBits at h
  split at h
  · rename_i e
    have : z.natAbs = 0 := by simp_all
    rw [this]
    exact Nat.two_pow_pos n
  · exact Nat.lt_of_lt_of_le Nat.lt_log2_self (Nat.pow_le_pow_right (by decide) h)
theorem tabs_noT {K : PySem.W.Frag} {H : Hp} {b : Addr} {xs : List V} (h : SqL K H b xs) : SqL K (noT H) b xs := by
  rcases h with (h | ⟨o, h⟩) | h
  · exact .inl (.inl (noT_at h nofun))
  · exact .inl (.inr ⟨o, noT_at h nofun⟩)
  · exact .inr h
theorem law_in {K : PySem.W.Frag} {H : Hp} {a : A} {l : Addr} {ns : List Int} (hl : ns.length ≤ 63) (hb : ∀ z ∈ ns, Builtin.Int.intBits z ≤ 1048576) (hc : ∀ p ∈ [(a.cc_law_persons_right, a.cP_law_persons_right), (a.cc_law_wishes_right, a.cP_law_wishes_right), (a.cc_law_numbers_right, a.cP_law_numbers_right), (a.cc_law, a.cP_law)], H p.2 = some (.tbl #[])) (hS : SqL K H l (ns.map V.int)) (n01 : a.cP_law_persons_right ≠ a.cP_law_wishes_right) (n02 : a.cP_law_persons_right ≠ a.cP_law_numbers_right) (n03 : a.cP_law_persons_right ≠ a.cP_law) (n12 : a.cP_law_wishes_right ≠ a.cP_law_numbers_right) (n13 : a.cP_law_wishes_right ≠ a.cP_law) (n23 : a.cP_law_numbers_right ≠ a.cP_law) : sp_law K a [.ref l] H (fun v _ => v = .bl true) fun _ _ _ => False := by
  have o : Ok H (noT H) [[(a.cP_law_persons_right, .tbl #[]), (a.cP_law_wishes_right, .tbl #[]), (a.cP_law_numbers_right, .tbl #[]), (a.cP_law, .tbl #[])]] := by
    have h0 : H a.cP_law_persons_right = some (.tbl #[]) := hc (a.cc_law_persons_right, a.cP_law_persons_right) (by simp)
    have h1 : H a.cP_law_wishes_right = some (.tbl #[]) := hc (a.cc_law_wishes_right, a.cP_law_wishes_right) (by simp)
    have h2 : H a.cP_law_numbers_right = some (.tbl #[]) := hc (a.cc_law_numbers_right, a.cP_law_numbers_right) (by simp)
    have h3 : H a.cP_law = some (.tbl #[]) := hc (a.cc_law, a.cP_law) (by simp)
    refine ⟨fun b u e => (noT_some e).1, fun M hM c hc => ?_, fun M hM c hc => ?_, ?_⟩
    · obtain rfl := List.mem_singleton.mp hM
      simp only [List.mem_cons, List.not_mem_nil, or_false] at hc
      rcases hc with rfl | rfl | rfl | rfl
      · exact h0
      · exact h1
      · exact h2
      · exact h3
    · obtain rfl := List.mem_singleton.mp hM
      simp only [List.mem_cons, List.not_mem_nil, or_false] at hc
      rcases hc with rfl | rfl | rfl | rfl
      · show noT H _ = none; unfold noT; rw [h0]
      · show noT H _ = none; unfold noT; rw [h1]
      · show noT H _ = none; unfold noT; rw [h2]
      · show noT H _ = none; unfold noT; rw [h3]
    · simp [n01, n02, n03, n12, n13, n23]
  exact ⟨noT H, 1048576, l, ns, rfl, o, NT.noT H, tabs_noT hS, by omega, by decide, fun z hz => bits_big (hb z hz), fun _ => rfl⟩
theorem law_out {P : Program} {w : World} {H : Hp} {s : Shared} {e : Value} {s' : Shared} : L2.CX P w [] H s (fun _ _ _ => False) e s' → False
  | ⟨_, _, _, _, _, _, _, _, _, _, _, _, h⟩ => h
/-- the law's call, by the tables of the code objects of some defs -/
theorem tabs_end {l : PySem.W.OpenLaw} {n k : Nat} {q : Program} {loose : List Str} {XP : (Str → Option Value) → Heap → Prop} {YP : World → Heap → Prop} {d : DefRec} {K : Params → PySem.W.Frag} {x : Str} (names : List Str)
    (e1 : l.most = some n) (e2 : n ≤ sizeLine) (e3 : d.params.defaults = []) (e4 : Room k callerA) (e5 : names.all (fun y => ((recsOf q).find? fun e => e.name == y).isSome) = true) (e6 : ∀ (w : World) (h : Heap), YP w h → (K w.params).In h)
    (F : ∀ (w : World) (mg : Str → Option Value) (fa : Addr) (h : Heap), (K w.params).In h → h.Ns mainGlobals mg → mg d.name = some (.ref fa) →
      (∀ (y : Str) (c Pt : Addr), y ∈ names → PySem.W.tabIn (K w.params) y = some (c, Pt) → PySem.W.CodeHd h c Pt ∧ h.get? Pt = some { cls := .none, data := .fields #[] }) → LamX.LawAtS l w (K w.params) (L2.CX l.prog w) k n x mg fa h) :
    PySem.W.WalkO q loose XP YP l.row.toRowW d [] (fun f vs => PySem.call f vs) := by
  refine Att.attach_callB e1 e3 fun w t0 t1 mg mb fa ob pm cd doc b us zs GG YY h1 h2 h3 h4 h5 h6 h7 h8 h9 => ?_
  have kin := e6 w _ YY
  obtain ⟨fd, cs, sp, a1, a2, a3, a4, a5, a6⟩ := F w mg fa _ kin GG.T.g h4 fun y c Pt hy ht => by
    obtain ⟨r, hr⟩ := Option.isSome_iff_exists.mp (List.all_eq_true.mp e5 y hy)
    exact PySem.W.tab_of GG.T kin hr ht
  exact LamX.law_callTs kin GG.T.g GG.T.b GG.T.builtins GG.T.nolimit h9 a1 a2 a3 GG.T.bmain h5 h6 (Nat.le_trans h7 e2) e4 a6 a4 (fun H z1 z2 => a5 H b zs h7 h8 z1 z2) fun H e s2 => law_out
theorem all_mk {w : World} {K : PySem.W.Frag} {h : Heap} {mg : Str → Option Value} {fa : Addr} (X : K.In h) (G : h.Ns mainGlobals mg) (hfa : mg "law" = some (.ref fa))
    {c_GiftError c_BadPeople c_BadPerson c_BadWord c_BadPrice c_BadMany c_BadWish c_BadAmount c_BadDeeds c_BadPurses c_NoneFree c_TooMuch c_TooMany c_Wish c_Gifts f_is_whole f_is_count f_is_word f_Wish_init f_Wish_free f_Wish_lacking f_Wish_done f_Gifts_init f_Gifts_look_at f_Gifts_own_wish f_Gifts_other_wish f_Gifts_wish f_Gifts_alter f_Gifts_drop f_Gifts_take f_Gifts_pledge f_Gifts_back f_Gifts_seen f_law_cell_at f_law_draw f_law_value f_law_kinds f_law_due_of f_law_strange f_law_no_words f_law_persons_right cc_law_persons_right cP_law_persons_right f_law_wishes_right cc_law_wishes_right cP_law_wishes_right f_law_numbers_right cc_law_numbers_right cP_law_numbers_right f_law cc_law cP_law : Addr}
    {t_LETTERS t_MOST_PEOPLE t_MOST_WORD t_MOST_PRICE t_MOST_PIECES t_MOST_WISHES : Tok}
    {ois_whole vis_whole dis_whole pis_whole ris_whole qis_whole ois_count vis_count dis_count pis_count ris_count qis_count ois_word vis_word dis_word pis_word ris_word qis_word oWish_init vWish_init dWish_init pWish_init rWish_init qWish_init oWish_free vWish_free dWish_free pWish_free rWish_free qWish_free oWish_lacking vWish_lacking dWish_lacking pWish_lacking rWish_lacking qWish_lacking oWish_done vWish_done dWish_done pWish_done rWish_done qWish_done oGifts_init vGifts_init dGifts_init pGifts_init rGifts_init qGifts_init oGifts_look_at vGifts_look_at dGifts_look_at pGifts_look_at rGifts_look_at qGifts_look_at oGifts_own_wish vGifts_own_wish dGifts_own_wish pGifts_own_wish rGifts_own_wish qGifts_own_wish oGifts_other_wish vGifts_other_wish dGifts_other_wish pGifts_other_wish rGifts_other_wish qGifts_other_wish oGifts_wish vGifts_wish dGifts_wish pGifts_wish rGifts_wish qGifts_wish oGifts_alter vGifts_alter dGifts_alter pGifts_alter rGifts_alter qGifts_alter oGifts_drop vGifts_drop dGifts_drop pGifts_drop rGifts_drop qGifts_drop oGifts_take vGifts_take dGifts_take pGifts_take rGifts_take qGifts_take oGifts_pledge vGifts_pledge dGifts_pledge pGifts_pledge rGifts_pledge qGifts_pledge oGifts_back vGifts_back dGifts_back pGifts_back rGifts_back qGifts_back oGifts_seen vGifts_seen dGifts_seen pGifts_seen rGifts_seen qGifts_seen olaw_cell_at vlaw_cell_at dlaw_cell_at plaw_cell_at rlaw_cell_at qlaw_cell_at olaw_draw vlaw_draw dlaw_draw plaw_draw rlaw_draw qlaw_draw olaw_value vlaw_value dlaw_value plaw_value rlaw_value qlaw_value olaw_kinds vlaw_kinds dlaw_kinds plaw_kinds rlaw_kinds qlaw_kinds olaw_due_of vlaw_due_of dlaw_due_of plaw_due_of rlaw_due_of qlaw_due_of olaw_strange vlaw_strange dlaw_strange plaw_strange rlaw_strange qlaw_strange olaw_no_words vlaw_no_words dlaw_no_words plaw_no_words rlaw_no_words qlaw_no_words olaw_persons_right vlaw_persons_right dlaw_persons_right plaw_persons_right rlaw_persons_right olaw_wishes_right vlaw_wishes_right dlaw_wishes_right plaw_wishes_right rlaw_wishes_right olaw_numbers_right vlaw_numbers_right dlaw_numbers_right plaw_numbers_right rlaw_numbers_right olaw vlaw dlaw plaw rlaw : Value} {eis_whole nis_whole eis_count nis_count eis_word nis_word eWish_init nWish_init eWish_free nWish_free eWish_lacking nWish_lacking eWish_done nWish_done eGifts_init nGifts_init eGifts_look_at nGifts_look_at eGifts_own_wish nGifts_own_wish eGifts_other_wish nGifts_other_wish eGifts_wish nGifts_wish eGifts_alter nGifts_alter eGifts_drop nGifts_drop eGifts_take nGifts_take eGifts_pledge nGifts_pledge eGifts_back nGifts_back eGifts_seen nGifts_seen elaw_cell_at nlaw_cell_at elaw_draw nlaw_draw elaw_value nlaw_value elaw_kinds nlaw_kinds elaw_due_of nlaw_due_of elaw_strange nlaw_strange elaw_no_words nlaw_no_words elaw_persons_right nlaw_persons_right elaw_wishes_right nlaw_wishes_right elaw_numbers_right nlaw_numbers_right elaw nlaw : Option Addr} {wis_whole wis_count wis_word wWish_init wWish_free wWish_lacking wWish_done wGifts_init wGifts_look_at wGifts_own_wish wGifts_other_wish wGifts_wish wGifts_alter wGifts_drop wGifts_take wGifts_pledge wGifts_back wGifts_seen wlaw_cell_at wlaw_draw wlaw_value wlaw_kinds wlaw_due_of wlaw_strange wlaw_no_words wlaw_persons_right wlaw_wishes_right wlaw_numbers_right wlaw : Array (Option Value)}
    (aC_GiftError : PySem.W.nsIn K mainGlobals "GiftError" = some (some (.ref c_GiftError)))
    (kC_GiftError : PySem.W.keepIn K (.ref c_GiftError) = true)
    (aC_BadPeople : PySem.W.nsIn K mainGlobals "BadPeople" = some (some (.ref c_BadPeople)))
    (kC_BadPeople : PySem.W.keepIn K (.ref c_BadPeople) = true)
    (aC_BadPerson : PySem.W.nsIn K mainGlobals "BadPerson" = some (some (.ref c_BadPerson)))
    (kC_BadPerson : PySem.W.keepIn K (.ref c_BadPerson) = true)
    (aC_BadWord : PySem.W.nsIn K mainGlobals "BadWord" = some (some (.ref c_BadWord)))
    (kC_BadWord : PySem.W.keepIn K (.ref c_BadWord) = true)
    (aC_BadPrice : PySem.W.nsIn K mainGlobals "BadPrice" = some (some (.ref c_BadPrice)))
    (kC_BadPrice : PySem.W.keepIn K (.ref c_BadPrice) = true)
    (aC_BadMany : PySem.W.nsIn K mainGlobals "BadMany" = some (some (.ref c_BadMany)))
    (kC_BadMany : PySem.W.keepIn K (.ref c_BadMany) = true)
    (aC_BadWish : PySem.W.nsIn K mainGlobals "BadWish" = some (some (.ref c_BadWish)))
    (kC_BadWish : PySem.W.keepIn K (.ref c_BadWish) = true)
    (aC_BadAmount : PySem.W.nsIn K mainGlobals "BadAmount" = some (some (.ref c_BadAmount)))
    (kC_BadAmount : PySem.W.keepIn K (.ref c_BadAmount) = true)
    (aC_BadDeeds : PySem.W.nsIn K mainGlobals "BadDeeds" = some (some (.ref c_BadDeeds)))
    (kC_BadDeeds : PySem.W.keepIn K (.ref c_BadDeeds) = true)
    (aC_BadPurses : PySem.W.nsIn K mainGlobals "BadPurses" = some (some (.ref c_BadPurses)))
    (kC_BadPurses : PySem.W.keepIn K (.ref c_BadPurses) = true)
    (aC_NoneFree : PySem.W.nsIn K mainGlobals "NoneFree" = some (some (.ref c_NoneFree)))
    (kC_NoneFree : PySem.W.keepIn K (.ref c_NoneFree) = true)
    (aC_TooMuch : PySem.W.nsIn K mainGlobals "TooMuch" = some (some (.ref c_TooMuch)))
    (kC_TooMuch : PySem.W.keepIn K (.ref c_TooMuch) = true)
    (aC_TooMany : PySem.W.nsIn K mainGlobals "TooMany" = some (some (.ref c_TooMany)))
    (kC_TooMany : PySem.W.keepIn K (.ref c_TooMany) = true)
    (aC_Wish : PySem.W.nsIn K mainGlobals "Wish" = some (some (.ref c_Wish)))
    (kC_Wish : PySem.W.keepIn K (.ref c_Wish) = true)
    (aC_Gifts : PySem.W.nsIn K mainGlobals "Gifts" = some (some (.ref c_Gifts)))
    (kC_Gifts : PySem.W.keepIn K (.ref c_Gifts) = true)
    (a_is_whole : PySem.W.nsIn K mainGlobals "is_whole" = some (some (.ref f_is_whole)))
    (l_is_whole : K.lookup f_is_whole = some ⟨ois_whole, eis_whole, .func (PySem.W.fnOf "is_whole" "is_whole" (defArgs s_is_whole) (defBody s_is_whole) (defScope s_is_whole) .none vis_whole dis_whole pis_whole nis_whole qis_whole ris_whole), wis_whole⟩)
    (b_is_whole : PySem.W.codeIn K qis_whole "is_whole" = true)
    (k_is_whole : PySem.W.keepIn K (.ref f_is_whole) = true)
    (a_is_count : PySem.W.nsIn K mainGlobals "is_count" = some (some (.ref f_is_count)))
    (l_is_count : K.lookup f_is_count = some ⟨ois_count, eis_count, .func (PySem.W.fnOf "is_count" "is_count" (defArgs s_is_count) (defBody s_is_count) (defScope s_is_count) .none vis_count dis_count pis_count nis_count qis_count ris_count), wis_count⟩)
    (b_is_count : PySem.W.codeIn K qis_count "is_count" = true)
    (k_is_count : PySem.W.keepIn K (.ref f_is_count) = true)
    (a_is_word : PySem.W.nsIn K mainGlobals "is_word" = some (some (.ref f_is_word)))
    (l_is_word : K.lookup f_is_word = some ⟨ois_word, eis_word, .func (PySem.W.fnOf "is_word" "is_word" (defArgs s_is_word) (defBody s_is_word) (defScope s_is_word) .none vis_word dis_word pis_word nis_word qis_word ris_word), wis_word⟩)
    (b_is_word : PySem.W.codeIn K qis_word "is_word" = true)
    (k_is_word : PySem.W.keepIn K (.ref f_is_word) = true)
    (a_Wish_init : PySem.W.findIn K (.ref c_Wish) "__init__" = some (some (.ref f_Wish_init)))
    (i_Wish_init : PySem.W.isFn K (.ref f_Wish_init) = true)
    (l_Wish_init : K.lookup f_Wish_init = some ⟨oWish_init, eWish_init, .func (PySem.W.fnOf "__init__" "Wish.__init__" (defArgs s_Wish_init) (defBody s_Wish_init) (defScope s_Wish_init) .none vWish_init dWish_init pWish_init nWish_init qWish_init rWish_init), wWish_init⟩)
    (b_Wish_init : PySem.W.codeIn K qWish_init "Wish.__init__" = true)
    (k_Wish_init : PySem.W.keepIn K (.ref f_Wish_init) = true)
    (a_Wish_free : PySem.W.findIn K (.ref c_Wish) "free" = some (some (.ref f_Wish_free)))
    (i_Wish_free : PySem.W.isFn K (.ref f_Wish_free) = true)
    (l_Wish_free : K.lookup f_Wish_free = some ⟨oWish_free, eWish_free, .func (PySem.W.fnOf "free" "Wish.free" (defArgs s_Wish_free) (defBody s_Wish_free) (defScope s_Wish_free) .none vWish_free dWish_free pWish_free nWish_free qWish_free rWish_free), wWish_free⟩)
    (b_Wish_free : PySem.W.codeIn K qWish_free "Wish.free" = true)
    (k_Wish_free : PySem.W.keepIn K (.ref f_Wish_free) = true)
    (a_Wish_lacking : PySem.W.findIn K (.ref c_Wish) "lacking" = some (some (.ref f_Wish_lacking)))
    (i_Wish_lacking : PySem.W.isFn K (.ref f_Wish_lacking) = true)
    (l_Wish_lacking : K.lookup f_Wish_lacking = some ⟨oWish_lacking, eWish_lacking, .func (PySem.W.fnOf "lacking" "Wish.lacking" (defArgs s_Wish_lacking) (defBody s_Wish_lacking) (defScope s_Wish_lacking) .none vWish_lacking dWish_lacking pWish_lacking nWish_lacking qWish_lacking rWish_lacking), wWish_lacking⟩)
    (b_Wish_lacking : PySem.W.codeIn K qWish_lacking "Wish.lacking" = true)
    (k_Wish_lacking : PySem.W.keepIn K (.ref f_Wish_lacking) = true)
    (a_Wish_done : PySem.W.findIn K (.ref c_Wish) "done" = some (some (.ref f_Wish_done)))
    (i_Wish_done : PySem.W.isFn K (.ref f_Wish_done) = true)
    (l_Wish_done : K.lookup f_Wish_done = some ⟨oWish_done, eWish_done, .func (PySem.W.fnOf "done" "Wish.done" (defArgs s_Wish_done) (defBody s_Wish_done) (defScope s_Wish_done) .none vWish_done dWish_done pWish_done nWish_done qWish_done rWish_done), wWish_done⟩)
    (b_Wish_done : PySem.W.codeIn K qWish_done "Wish.done" = true)
    (k_Wish_done : PySem.W.keepIn K (.ref f_Wish_done) = true)
    (a_Gifts_init : PySem.W.findIn K (.ref c_Gifts) "__init__" = some (some (.ref f_Gifts_init)))
    (i_Gifts_init : PySem.W.isFn K (.ref f_Gifts_init) = true)
    (l_Gifts_init : K.lookup f_Gifts_init = some ⟨oGifts_init, eGifts_init, .func (PySem.W.fnOf "__init__" "Gifts.__init__" (defArgs s_Gifts_init) (defBody s_Gifts_init) (defScope s_Gifts_init) .none vGifts_init dGifts_init pGifts_init nGifts_init qGifts_init rGifts_init), wGifts_init⟩)
    (b_Gifts_init : PySem.W.codeIn K qGifts_init "Gifts.__init__" = true)
    (k_Gifts_init : PySem.W.keepIn K (.ref f_Gifts_init) = true)
    (a_Gifts_look_at : PySem.W.findIn K (.ref c_Gifts) "look_at" = some (some (.ref f_Gifts_look_at)))
    (i_Gifts_look_at : PySem.W.isFn K (.ref f_Gifts_look_at) = true)
    (l_Gifts_look_at : K.lookup f_Gifts_look_at = some ⟨oGifts_look_at, eGifts_look_at, .func (PySem.W.fnOf "look_at" "Gifts.look_at" (defArgs s_Gifts_look_at) (defBody s_Gifts_look_at) (defScope s_Gifts_look_at) .none vGifts_look_at dGifts_look_at pGifts_look_at nGifts_look_at qGifts_look_at rGifts_look_at), wGifts_look_at⟩)
    (b_Gifts_look_at : PySem.W.codeIn K qGifts_look_at "Gifts.look_at" = true)
    (k_Gifts_look_at : PySem.W.keepIn K (.ref f_Gifts_look_at) = true)
    (a_Gifts_own_wish : PySem.W.findIn K (.ref c_Gifts) "own_wish" = some (some (.ref f_Gifts_own_wish)))
    (i_Gifts_own_wish : PySem.W.isFn K (.ref f_Gifts_own_wish) = true)
    (l_Gifts_own_wish : K.lookup f_Gifts_own_wish = some ⟨oGifts_own_wish, eGifts_own_wish, .func (PySem.W.fnOf "own_wish" "Gifts.own_wish" (defArgs s_Gifts_own_wish) (defBody s_Gifts_own_wish) (defScope s_Gifts_own_wish) .none vGifts_own_wish dGifts_own_wish pGifts_own_wish nGifts_own_wish qGifts_own_wish rGifts_own_wish), wGifts_own_wish⟩)
    (b_Gifts_own_wish : PySem.W.codeIn K qGifts_own_wish "Gifts.own_wish" = true)
    (k_Gifts_own_wish : PySem.W.keepIn K (.ref f_Gifts_own_wish) = true)
    (a_Gifts_other_wish : PySem.W.findIn K (.ref c_Gifts) "other_wish" = some (some (.ref f_Gifts_other_wish)))
    (i_Gifts_other_wish : PySem.W.isFn K (.ref f_Gifts_other_wish) = true)
    (l_Gifts_other_wish : K.lookup f_Gifts_other_wish = some ⟨oGifts_other_wish, eGifts_other_wish, .func (PySem.W.fnOf "other_wish" "Gifts.other_wish" (defArgs s_Gifts_other_wish) (defBody s_Gifts_other_wish) (defScope s_Gifts_other_wish) .none vGifts_other_wish dGifts_other_wish pGifts_other_wish nGifts_other_wish qGifts_other_wish rGifts_other_wish), wGifts_other_wish⟩)
    (b_Gifts_other_wish : PySem.W.codeIn K qGifts_other_wish "Gifts.other_wish" = true)
    (k_Gifts_other_wish : PySem.W.keepIn K (.ref f_Gifts_other_wish) = true)
    (a_Gifts_wish : PySem.W.findIn K (.ref c_Gifts) "wish" = some (some (.ref f_Gifts_wish)))
    (i_Gifts_wish : PySem.W.isFn K (.ref f_Gifts_wish) = true)
    (l_Gifts_wish : K.lookup f_Gifts_wish = some ⟨oGifts_wish, eGifts_wish, .func (PySem.W.fnOf "wish" "Gifts.wish" (defArgs s_Gifts_wish) (defBody s_Gifts_wish) (defScope s_Gifts_wish) .none vGifts_wish dGifts_wish pGifts_wish nGifts_wish qGifts_wish rGifts_wish), wGifts_wish⟩)
    (b_Gifts_wish : PySem.W.codeIn K qGifts_wish "Gifts.wish" = true)
    (k_Gifts_wish : PySem.W.keepIn K (.ref f_Gifts_wish) = true)
    (a_Gifts_alter : PySem.W.findIn K (.ref c_Gifts) "alter" = some (some (.ref f_Gifts_alter)))
    (i_Gifts_alter : PySem.W.isFn K (.ref f_Gifts_alter) = true)
    (l_Gifts_alter : K.lookup f_Gifts_alter = some ⟨oGifts_alter, eGifts_alter, .func (PySem.W.fnOf "alter" "Gifts.alter" (defArgs s_Gifts_alter) (defBody s_Gifts_alter) (defScope s_Gifts_alter) .none vGifts_alter dGifts_alter pGifts_alter nGifts_alter qGifts_alter rGifts_alter), wGifts_alter⟩)
    (b_Gifts_alter : PySem.W.codeIn K qGifts_alter "Gifts.alter" = true)
    (k_Gifts_alter : PySem.W.keepIn K (.ref f_Gifts_alter) = true)
    (a_Gifts_drop : PySem.W.findIn K (.ref c_Gifts) "drop" = some (some (.ref f_Gifts_drop)))
    (i_Gifts_drop : PySem.W.isFn K (.ref f_Gifts_drop) = true)
    (l_Gifts_drop : K.lookup f_Gifts_drop = some ⟨oGifts_drop, eGifts_drop, .func (PySem.W.fnOf "drop" "Gifts.drop" (defArgs s_Gifts_drop) (defBody s_Gifts_drop) (defScope s_Gifts_drop) .none vGifts_drop dGifts_drop pGifts_drop nGifts_drop qGifts_drop rGifts_drop), wGifts_drop⟩)
    (b_Gifts_drop : PySem.W.codeIn K qGifts_drop "Gifts.drop" = true)
    (k_Gifts_drop : PySem.W.keepIn K (.ref f_Gifts_drop) = true)
    (a_Gifts_take : PySem.W.findIn K (.ref c_Gifts) "take" = some (some (.ref f_Gifts_take)))
    (i_Gifts_take : PySem.W.isFn K (.ref f_Gifts_take) = true)
    (l_Gifts_take : K.lookup f_Gifts_take = some ⟨oGifts_take, eGifts_take, .func (PySem.W.fnOf "take" "Gifts.take" (defArgs s_Gifts_take) (defBody s_Gifts_take) (defScope s_Gifts_take) .none vGifts_take dGifts_take pGifts_take nGifts_take qGifts_take rGifts_take), wGifts_take⟩)
    (b_Gifts_take : PySem.W.codeIn K qGifts_take "Gifts.take" = true)
    (k_Gifts_take : PySem.W.keepIn K (.ref f_Gifts_take) = true)
    (a_Gifts_pledge : PySem.W.findIn K (.ref c_Gifts) "pledge" = some (some (.ref f_Gifts_pledge)))
    (i_Gifts_pledge : PySem.W.isFn K (.ref f_Gifts_pledge) = true)
    (l_Gifts_pledge : K.lookup f_Gifts_pledge = some ⟨oGifts_pledge, eGifts_pledge, .func (PySem.W.fnOf "pledge" "Gifts.pledge" (defArgs s_Gifts_pledge) (defBody s_Gifts_pledge) (defScope s_Gifts_pledge) .none vGifts_pledge dGifts_pledge pGifts_pledge nGifts_pledge qGifts_pledge rGifts_pledge), wGifts_pledge⟩)
    (b_Gifts_pledge : PySem.W.codeIn K qGifts_pledge "Gifts.pledge" = true)
    (k_Gifts_pledge : PySem.W.keepIn K (.ref f_Gifts_pledge) = true)
    (a_Gifts_back : PySem.W.findIn K (.ref c_Gifts) "back" = some (some (.ref f_Gifts_back)))
    (i_Gifts_back : PySem.W.isFn K (.ref f_Gifts_back) = true)
    (l_Gifts_back : K.lookup f_Gifts_back = some ⟨oGifts_back, eGifts_back, .func (PySem.W.fnOf "back" "Gifts.back" (defArgs s_Gifts_back) (defBody s_Gifts_back) (defScope s_Gifts_back) .none vGifts_back dGifts_back pGifts_back nGifts_back qGifts_back rGifts_back), wGifts_back⟩)
    (b_Gifts_back : PySem.W.codeIn K qGifts_back "Gifts.back" = true)
    (k_Gifts_back : PySem.W.keepIn K (.ref f_Gifts_back) = true)
    (a_Gifts_seen : PySem.W.findIn K (.ref c_Gifts) "seen" = some (some (.ref f_Gifts_seen)))
    (i_Gifts_seen : PySem.W.isFn K (.ref f_Gifts_seen) = true)
    (l_Gifts_seen : K.lookup f_Gifts_seen = some ⟨oGifts_seen, eGifts_seen, .func (PySem.W.fnOf "seen" "Gifts.seen" (defArgs s_Gifts_seen) (defBody s_Gifts_seen) (defScope s_Gifts_seen) .none vGifts_seen dGifts_seen pGifts_seen nGifts_seen qGifts_seen rGifts_seen), wGifts_seen⟩)
    (b_Gifts_seen : PySem.W.codeIn K qGifts_seen "Gifts.seen" = true)
    (k_Gifts_seen : PySem.W.keepIn K (.ref f_Gifts_seen) = true)
    (a_law_cell_at : PySem.W.nsIn K mainGlobals "_law_cell_at" = some (some (.ref f_law_cell_at)))
    (l_law_cell_at : K.lookup f_law_cell_at = some ⟨olaw_cell_at, elaw_cell_at, .func (PySem.W.fnOf "_law_cell_at" "_law_cell_at" (defArgs s_law_cell_at) (defBody s_law_cell_at) (defScope s_law_cell_at) .none vlaw_cell_at dlaw_cell_at plaw_cell_at nlaw_cell_at qlaw_cell_at rlaw_cell_at), wlaw_cell_at⟩)
    (b_law_cell_at : PySem.W.codeIn K qlaw_cell_at "_law_cell_at" = true)
    (k_law_cell_at : PySem.W.keepIn K (.ref f_law_cell_at) = true)
    (a_law_draw : PySem.W.nsIn K mainGlobals "_law_draw" = some (some (.ref f_law_draw)))
    (l_law_draw : K.lookup f_law_draw = some ⟨olaw_draw, elaw_draw, .func (PySem.W.fnOf "_law_draw" "_law_draw" (defArgs s_law_draw) (defBody s_law_draw) (defScope s_law_draw) .none vlaw_draw dlaw_draw plaw_draw nlaw_draw qlaw_draw rlaw_draw), wlaw_draw⟩)
    (b_law_draw : PySem.W.codeIn K qlaw_draw "_law_draw" = true)
    (k_law_draw : PySem.W.keepIn K (.ref f_law_draw) = true)
    (a_law_value : PySem.W.nsIn K mainGlobals "_law_value" = some (some (.ref f_law_value)))
    (l_law_value : K.lookup f_law_value = some ⟨olaw_value, elaw_value, .func (PySem.W.fnOf "_law_value" "_law_value" (defArgs s_law_value) (defBody s_law_value) (defScope s_law_value) .none vlaw_value dlaw_value plaw_value nlaw_value qlaw_value rlaw_value), wlaw_value⟩)
    (b_law_value : PySem.W.codeIn K qlaw_value "_law_value" = true)
    (k_law_value : PySem.W.keepIn K (.ref f_law_value) = true)
    (a_law_kinds : PySem.W.nsIn K mainGlobals "_law_kinds" = some (some (.ref f_law_kinds)))
    (l_law_kinds : K.lookup f_law_kinds = some ⟨olaw_kinds, elaw_kinds, .func (PySem.W.fnOf "_law_kinds" "_law_kinds" (defArgs s_law_kinds) (defBody s_law_kinds) (defScope s_law_kinds) .none vlaw_kinds dlaw_kinds plaw_kinds nlaw_kinds qlaw_kinds rlaw_kinds), wlaw_kinds⟩)
    (b_law_kinds : PySem.W.codeIn K qlaw_kinds "_law_kinds" = true)
    (k_law_kinds : PySem.W.keepIn K (.ref f_law_kinds) = true)
    (a_law_due_of : PySem.W.nsIn K mainGlobals "_law_due_of" = some (some (.ref f_law_due_of)))
    (l_law_due_of : K.lookup f_law_due_of = some ⟨olaw_due_of, elaw_due_of, .func (PySem.W.fnOf "_law_due_of" "_law_due_of" (defArgs s_law_due_of) (defBody s_law_due_of) (defScope s_law_due_of) .none vlaw_due_of dlaw_due_of plaw_due_of nlaw_due_of qlaw_due_of rlaw_due_of), wlaw_due_of⟩)
    (b_law_due_of : PySem.W.codeIn K qlaw_due_of "_law_due_of" = true)
    (k_law_due_of : PySem.W.keepIn K (.ref f_law_due_of) = true)
    (a_law_strange : PySem.W.nsIn K mainGlobals "_law_strange" = some (some (.ref f_law_strange)))
    (l_law_strange : K.lookup f_law_strange = some ⟨olaw_strange, elaw_strange, .func (PySem.W.fnOf "_law_strange" "_law_strange" (defArgs s_law_strange) (defBody s_law_strange) (defScope s_law_strange) .none vlaw_strange dlaw_strange plaw_strange nlaw_strange qlaw_strange rlaw_strange), wlaw_strange⟩)
    (b_law_strange : PySem.W.codeIn K qlaw_strange "_law_strange" = true)
    (k_law_strange : PySem.W.keepIn K (.ref f_law_strange) = true)
    (a_law_no_words : PySem.W.nsIn K mainGlobals "_law_no_words" = some (some (.ref f_law_no_words)))
    (l_law_no_words : K.lookup f_law_no_words = some ⟨olaw_no_words, elaw_no_words, .func (PySem.W.fnOf "_law_no_words" "_law_no_words" (defArgs s_law_no_words) (defBody s_law_no_words) (defScope s_law_no_words) .none vlaw_no_words dlaw_no_words plaw_no_words nlaw_no_words qlaw_no_words rlaw_no_words), wlaw_no_words⟩)
    (b_law_no_words : PySem.W.codeIn K qlaw_no_words "_law_no_words" = true)
    (k_law_no_words : PySem.W.keepIn K (.ref f_law_no_words) = true)
    (a_law_persons_right : PySem.W.nsIn K mainGlobals "_law_persons_right" = some (some (.ref f_law_persons_right)))
    (l_law_persons_right : K.lookup f_law_persons_right = some ⟨olaw_persons_right, elaw_persons_right, .func (PySem.W.fnOf "_law_persons_right" "_law_persons_right" (defArgs s_law_persons_right) (defBody s_law_persons_right) (defScope s_law_persons_right) .none vlaw_persons_right dlaw_persons_right plaw_persons_right nlaw_persons_right (.ref cc_law_persons_right) rlaw_persons_right), wlaw_persons_right⟩)
    (b_law_persons_right : PySem.W.codeIn K (.ref cc_law_persons_right) "_law_persons_right" = true)
    (tb_law_persons_right : PySem.W.tabIn K "_law_persons_right" = some (cc_law_persons_right, cP_law_persons_right))
    (tn_law_persons_right : K.lookup cP_law_persons_right = none)
    (k_law_persons_right : PySem.W.keepIn K (.ref f_law_persons_right) = true)
    (a_law_wishes_right : PySem.W.nsIn K mainGlobals "_law_wishes_right" = some (some (.ref f_law_wishes_right)))
    (l_law_wishes_right : K.lookup f_law_wishes_right = some ⟨olaw_wishes_right, elaw_wishes_right, .func (PySem.W.fnOf "_law_wishes_right" "_law_wishes_right" (defArgs s_law_wishes_right) (defBody s_law_wishes_right) (defScope s_law_wishes_right) .none vlaw_wishes_right dlaw_wishes_right plaw_wishes_right nlaw_wishes_right (.ref cc_law_wishes_right) rlaw_wishes_right), wlaw_wishes_right⟩)
    (b_law_wishes_right : PySem.W.codeIn K (.ref cc_law_wishes_right) "_law_wishes_right" = true)
    (tb_law_wishes_right : PySem.W.tabIn K "_law_wishes_right" = some (cc_law_wishes_right, cP_law_wishes_right))
    (tn_law_wishes_right : K.lookup cP_law_wishes_right = none)
    (k_law_wishes_right : PySem.W.keepIn K (.ref f_law_wishes_right) = true)
    (a_law_numbers_right : PySem.W.nsIn K mainGlobals "_law_numbers_right" = some (some (.ref f_law_numbers_right)))
    (l_law_numbers_right : K.lookup f_law_numbers_right = some ⟨olaw_numbers_right, elaw_numbers_right, .func (PySem.W.fnOf "_law_numbers_right" "_law_numbers_right" (defArgs s_law_numbers_right) (defBody s_law_numbers_right) (defScope s_law_numbers_right) .none vlaw_numbers_right dlaw_numbers_right plaw_numbers_right nlaw_numbers_right (.ref cc_law_numbers_right) rlaw_numbers_right), wlaw_numbers_right⟩)
    (b_law_numbers_right : PySem.W.codeIn K (.ref cc_law_numbers_right) "_law_numbers_right" = true)
    (tb_law_numbers_right : PySem.W.tabIn K "_law_numbers_right" = some (cc_law_numbers_right, cP_law_numbers_right))
    (tn_law_numbers_right : K.lookup cP_law_numbers_right = none)
    (k_law_numbers_right : PySem.W.keepIn K (.ref f_law_numbers_right) = true)
    (a_law : PySem.W.nsIn K mainGlobals "law" = some (some (.ref f_law)))
    (l_law : K.lookup f_law = some ⟨olaw, elaw, .func (PySem.W.fnOf "law" "law" (defArgs s_law) (defBody s_law) (defScope s_law) .none vlaw dlaw plaw nlaw (.ref cc_law) rlaw), wlaw⟩)
    (b_law : PySem.W.codeIn K (.ref cc_law) "law" = true)
    (tb_law : PySem.W.tabIn K "law" = some (cc_law, cP_law))
    (tn_law : K.lookup cP_law = none)
    (k_law : PySem.W.keepIn K (.ref f_law) = true)
    (td_01 : cP_law_persons_right ≠ cP_law_wishes_right)
    (td_02 : cP_law_persons_right ≠ cP_law_numbers_right)
    (td_03 : cP_law_persons_right ≠ cP_law)
    (td_12 : cP_law_wishes_right ≠ cP_law_numbers_right)
    (td_13 : cP_law_wishes_right ≠ cP_law)
    (td_23 : cP_law_numbers_right ≠ cP_law)
    (x1_GiftError : PySem.W.excIn K c_GiftError [.type "ValueError", .type "Exception", .type "BaseException", .type "object"] "ValueError.__new__" = true)
    (x2_GiftError : PySem.W.subIn K (.ref c_GiftError) (.type "BaseException") = some true)
    (x3_GiftError : PySem.W.typeIn K (.ref c_GiftError) = some (.type "type"))
    (x4_GiftError : PySem.W.isClsIn K c_GiftError = true)
    (x5_GiftError : PySem.W.subIn K (.ref c_GiftError) (.ref c_GiftError) = some true)
    (x6_GiftError : PySem.W.hasDictIn K c_GiftError = true)
    (x1_BadPeople : PySem.W.excIn K c_BadPeople [.type "ValueError", .type "Exception", .type "BaseException", .type "object"] "ValueError.__new__" = true)
    (x2_BadPeople : PySem.W.subIn K (.ref c_BadPeople) (.type "BaseException") = some true)
    (x3_BadPeople : PySem.W.typeIn K (.ref c_BadPeople) = some (.type "type"))
    (x4_BadPeople : PySem.W.isClsIn K c_BadPeople = true)
    (x5_BadPeople : PySem.W.subIn K (.ref c_BadPeople) (.ref c_GiftError) = some true)
    (ea_BadPeople : PySem.W.findIn K (.ref c_BadPeople) "__getattribute__" = some (some (.builtin "BaseException.__getattribute__")))
    (eb_BadPeople : PySem.W.findIn K (.ref c_BadPeople) "__getattr__" = some none)
    (ed_BadPeople : PySem.W.hasDictIn K c_BadPeople = true)
    (ee_BadPeople : PySem.W.findIn K (.ref c_BadPeople) "__class__" = some (some (.builtin "object.__class__")))
    (ef_BadPeople : PySem.W.specialIn K (.builtin "object.__class__") "__get__" = some (some (.builtin "getset_descriptor.__get__")))
    (eg_BadPeople : PySem.W.takesIn K (.builtin "object.__class__") = some true)
    (eh_BadPeople : PySem.W.mroIn K c_BadPeople (.type "object") = some true)
    (j_BadPeople_BadPeople : PySem.W.kitOne K (.ref c_BadPeople) (.ref c_BadPeople) = some true)
    (j_BadPeople_BadPerson : PySem.W.kitOne K (.ref c_BadPeople) (.ref c_BadPerson) = some false)
    (j_BadPeople_BadWord : PySem.W.kitOne K (.ref c_BadPeople) (.ref c_BadWord) = some false)
    (j_BadPeople_BadPrice : PySem.W.kitOne K (.ref c_BadPeople) (.ref c_BadPrice) = some false)
    (j_BadPeople_BadMany : PySem.W.kitOne K (.ref c_BadPeople) (.ref c_BadMany) = some false)
    (j_BadPeople_BadWish : PySem.W.kitOne K (.ref c_BadPeople) (.ref c_BadWish) = some false)
    (j_BadPeople_BadAmount : PySem.W.kitOne K (.ref c_BadPeople) (.ref c_BadAmount) = some false)
    (j_BadPeople_BadDeeds : PySem.W.kitOne K (.ref c_BadPeople) (.ref c_BadDeeds) = some false)
    (j_BadPeople_BadPurses : PySem.W.kitOne K (.ref c_BadPeople) (.ref c_BadPurses) = some false)
    (j_BadPeople_NoneFree : PySem.W.kitOne K (.ref c_BadPeople) (.ref c_NoneFree) = some false)
    (j_BadPeople_TooMuch : PySem.W.kitOne K (.ref c_BadPeople) (.ref c_TooMuch) = some false)
    (j_BadPeople_TooMany : PySem.W.kitOne K (.ref c_BadPeople) (.ref c_TooMany) = some false)
    (j_BadPeople_ValueError : PySem.W.kitOne K (.ref c_BadPeople) (.type "ValueError") = some true)
    (x1_BadPerson : PySem.W.excIn K c_BadPerson [.type "ValueError", .type "Exception", .type "BaseException", .type "object"] "ValueError.__new__" = true)
    (x2_BadPerson : PySem.W.subIn K (.ref c_BadPerson) (.type "BaseException") = some true)
    (x3_BadPerson : PySem.W.typeIn K (.ref c_BadPerson) = some (.type "type"))
    (x4_BadPerson : PySem.W.isClsIn K c_BadPerson = true)
    (x5_BadPerson : PySem.W.subIn K (.ref c_BadPerson) (.ref c_GiftError) = some true)
    (ea_BadPerson : PySem.W.findIn K (.ref c_BadPerson) "__getattribute__" = some (some (.builtin "BaseException.__getattribute__")))
    (eb_BadPerson : PySem.W.findIn K (.ref c_BadPerson) "__getattr__" = some none)
    (ed_BadPerson : PySem.W.hasDictIn K c_BadPerson = true)
    (ee_BadPerson : PySem.W.findIn K (.ref c_BadPerson) "__class__" = some (some (.builtin "object.__class__")))
    (ef_BadPerson : PySem.W.specialIn K (.builtin "object.__class__") "__get__" = some (some (.builtin "getset_descriptor.__get__")))
    (eg_BadPerson : PySem.W.takesIn K (.builtin "object.__class__") = some true)
    (eh_BadPerson : PySem.W.mroIn K c_BadPerson (.type "object") = some true)
    (j_BadPerson_BadPeople : PySem.W.kitOne K (.ref c_BadPerson) (.ref c_BadPeople) = some false)
    (j_BadPerson_BadPerson : PySem.W.kitOne K (.ref c_BadPerson) (.ref c_BadPerson) = some true)
    (j_BadPerson_BadWord : PySem.W.kitOne K (.ref c_BadPerson) (.ref c_BadWord) = some false)
    (j_BadPerson_BadPrice : PySem.W.kitOne K (.ref c_BadPerson) (.ref c_BadPrice) = some false)
    (j_BadPerson_BadMany : PySem.W.kitOne K (.ref c_BadPerson) (.ref c_BadMany) = some false)
    (j_BadPerson_BadWish : PySem.W.kitOne K (.ref c_BadPerson) (.ref c_BadWish) = some false)
    (j_BadPerson_BadAmount : PySem.W.kitOne K (.ref c_BadPerson) (.ref c_BadAmount) = some false)
    (j_BadPerson_BadDeeds : PySem.W.kitOne K (.ref c_BadPerson) (.ref c_BadDeeds) = some false)
    (j_BadPerson_BadPurses : PySem.W.kitOne K (.ref c_BadPerson) (.ref c_BadPurses) = some false)
    (j_BadPerson_NoneFree : PySem.W.kitOne K (.ref c_BadPerson) (.ref c_NoneFree) = some false)
    (j_BadPerson_TooMuch : PySem.W.kitOne K (.ref c_BadPerson) (.ref c_TooMuch) = some false)
    (j_BadPerson_TooMany : PySem.W.kitOne K (.ref c_BadPerson) (.ref c_TooMany) = some false)
    (j_BadPerson_ValueError : PySem.W.kitOne K (.ref c_BadPerson) (.type "ValueError") = some true)
    (x1_BadWord : PySem.W.excIn K c_BadWord [.type "ValueError", .type "Exception", .type "BaseException", .type "object"] "ValueError.__new__" = true)
    (x2_BadWord : PySem.W.subIn K (.ref c_BadWord) (.type "BaseException") = some true)
    (x3_BadWord : PySem.W.typeIn K (.ref c_BadWord) = some (.type "type"))
    (x4_BadWord : PySem.W.isClsIn K c_BadWord = true)
    (x5_BadWord : PySem.W.subIn K (.ref c_BadWord) (.ref c_GiftError) = some true)
    (ea_BadWord : PySem.W.findIn K (.ref c_BadWord) "__getattribute__" = some (some (.builtin "BaseException.__getattribute__")))
    (eb_BadWord : PySem.W.findIn K (.ref c_BadWord) "__getattr__" = some none)
    (ed_BadWord : PySem.W.hasDictIn K c_BadWord = true)
    (ee_BadWord : PySem.W.findIn K (.ref c_BadWord) "__class__" = some (some (.builtin "object.__class__")))
    (ef_BadWord : PySem.W.specialIn K (.builtin "object.__class__") "__get__" = some (some (.builtin "getset_descriptor.__get__")))
    (eg_BadWord : PySem.W.takesIn K (.builtin "object.__class__") = some true)
    (eh_BadWord : PySem.W.mroIn K c_BadWord (.type "object") = some true)
    (j_BadWord_BadPeople : PySem.W.kitOne K (.ref c_BadWord) (.ref c_BadPeople) = some false)
    (j_BadWord_BadPerson : PySem.W.kitOne K (.ref c_BadWord) (.ref c_BadPerson) = some false)
    (j_BadWord_BadWord : PySem.W.kitOne K (.ref c_BadWord) (.ref c_BadWord) = some true)
    (j_BadWord_BadPrice : PySem.W.kitOne K (.ref c_BadWord) (.ref c_BadPrice) = some false)
    (j_BadWord_BadMany : PySem.W.kitOne K (.ref c_BadWord) (.ref c_BadMany) = some false)
    (j_BadWord_BadWish : PySem.W.kitOne K (.ref c_BadWord) (.ref c_BadWish) = some false)
    (j_BadWord_BadAmount : PySem.W.kitOne K (.ref c_BadWord) (.ref c_BadAmount) = some false)
    (j_BadWord_BadDeeds : PySem.W.kitOne K (.ref c_BadWord) (.ref c_BadDeeds) = some false)
    (j_BadWord_BadPurses : PySem.W.kitOne K (.ref c_BadWord) (.ref c_BadPurses) = some false)
    (j_BadWord_NoneFree : PySem.W.kitOne K (.ref c_BadWord) (.ref c_NoneFree) = some false)
    (j_BadWord_TooMuch : PySem.W.kitOne K (.ref c_BadWord) (.ref c_TooMuch) = some false)
    (j_BadWord_TooMany : PySem.W.kitOne K (.ref c_BadWord) (.ref c_TooMany) = some false)
    (j_BadWord_ValueError : PySem.W.kitOne K (.ref c_BadWord) (.type "ValueError") = some true)
    (x1_BadPrice : PySem.W.excIn K c_BadPrice [.type "ValueError", .type "Exception", .type "BaseException", .type "object"] "ValueError.__new__" = true)
    (x2_BadPrice : PySem.W.subIn K (.ref c_BadPrice) (.type "BaseException") = some true)
    (x3_BadPrice : PySem.W.typeIn K (.ref c_BadPrice) = some (.type "type"))
    (x4_BadPrice : PySem.W.isClsIn K c_BadPrice = true)
    (x5_BadPrice : PySem.W.subIn K (.ref c_BadPrice) (.ref c_GiftError) = some true)
    (ea_BadPrice : PySem.W.findIn K (.ref c_BadPrice) "__getattribute__" = some (some (.builtin "BaseException.__getattribute__")))
    (eb_BadPrice : PySem.W.findIn K (.ref c_BadPrice) "__getattr__" = some none)
    (ed_BadPrice : PySem.W.hasDictIn K c_BadPrice = true)
    (ee_BadPrice : PySem.W.findIn K (.ref c_BadPrice) "__class__" = some (some (.builtin "object.__class__")))
    (ef_BadPrice : PySem.W.specialIn K (.builtin "object.__class__") "__get__" = some (some (.builtin "getset_descriptor.__get__")))
    (eg_BadPrice : PySem.W.takesIn K (.builtin "object.__class__") = some true)
    (eh_BadPrice : PySem.W.mroIn K c_BadPrice (.type "object") = some true)
    (j_BadPrice_BadPeople : PySem.W.kitOne K (.ref c_BadPrice) (.ref c_BadPeople) = some false)
    (j_BadPrice_BadPerson : PySem.W.kitOne K (.ref c_BadPrice) (.ref c_BadPerson) = some false)
    (j_BadPrice_BadWord : PySem.W.kitOne K (.ref c_BadPrice) (.ref c_BadWord) = some false)
    (j_BadPrice_BadPrice : PySem.W.kitOne K (.ref c_BadPrice) (.ref c_BadPrice) = some true)
    (j_BadPrice_BadMany : PySem.W.kitOne K (.ref c_BadPrice) (.ref c_BadMany) = some false)
    (j_BadPrice_BadWish : PySem.W.kitOne K (.ref c_BadPrice) (.ref c_BadWish) = some false)
    (j_BadPrice_BadAmount : PySem.W.kitOne K (.ref c_BadPrice) (.ref c_BadAmount) = some false)
    (j_BadPrice_BadDeeds : PySem.W.kitOne K (.ref c_BadPrice) (.ref c_BadDeeds) = some false)
    (j_BadPrice_BadPurses : PySem.W.kitOne K (.ref c_BadPrice) (.ref c_BadPurses) = some false)
    (j_BadPrice_NoneFree : PySem.W.kitOne K (.ref c_BadPrice) (.ref c_NoneFree) = some false)
    (j_BadPrice_TooMuch : PySem.W.kitOne K (.ref c_BadPrice) (.ref c_TooMuch) = some false)
    (j_BadPrice_TooMany : PySem.W.kitOne K (.ref c_BadPrice) (.ref c_TooMany) = some false)
    (j_BadPrice_ValueError : PySem.W.kitOne K (.ref c_BadPrice) (.type "ValueError") = some true)
    (x1_BadMany : PySem.W.excIn K c_BadMany [.type "ValueError", .type "Exception", .type "BaseException", .type "object"] "ValueError.__new__" = true)
    (x2_BadMany : PySem.W.subIn K (.ref c_BadMany) (.type "BaseException") = some true)
    (x3_BadMany : PySem.W.typeIn K (.ref c_BadMany) = some (.type "type"))
    (x4_BadMany : PySem.W.isClsIn K c_BadMany = true)
    (x5_BadMany : PySem.W.subIn K (.ref c_BadMany) (.ref c_GiftError) = some true)
    (ea_BadMany : PySem.W.findIn K (.ref c_BadMany) "__getattribute__" = some (some (.builtin "BaseException.__getattribute__")))
    (eb_BadMany : PySem.W.findIn K (.ref c_BadMany) "__getattr__" = some none)
    (ed_BadMany : PySem.W.hasDictIn K c_BadMany = true)
    (ee_BadMany : PySem.W.findIn K (.ref c_BadMany) "__class__" = some (some (.builtin "object.__class__")))
    (ef_BadMany : PySem.W.specialIn K (.builtin "object.__class__") "__get__" = some (some (.builtin "getset_descriptor.__get__")))
    (eg_BadMany : PySem.W.takesIn K (.builtin "object.__class__") = some true)
    (eh_BadMany : PySem.W.mroIn K c_BadMany (.type "object") = some true)
    (j_BadMany_BadPeople : PySem.W.kitOne K (.ref c_BadMany) (.ref c_BadPeople) = some false)
    (j_BadMany_BadPerson : PySem.W.kitOne K (.ref c_BadMany) (.ref c_BadPerson) = some false)
    (j_BadMany_BadWord : PySem.W.kitOne K (.ref c_BadMany) (.ref c_BadWord) = some false)
    (j_BadMany_BadPrice : PySem.W.kitOne K (.ref c_BadMany) (.ref c_BadPrice) = some false)
    (j_BadMany_BadMany : PySem.W.kitOne K (.ref c_BadMany) (.ref c_BadMany) = some true)
    (j_BadMany_BadWish : PySem.W.kitOne K (.ref c_BadMany) (.ref c_BadWish) = some false)
    (j_BadMany_BadAmount : PySem.W.kitOne K (.ref c_BadMany) (.ref c_BadAmount) = some false)
    (j_BadMany_BadDeeds : PySem.W.kitOne K (.ref c_BadMany) (.ref c_BadDeeds) = some false)
    (j_BadMany_BadPurses : PySem.W.kitOne K (.ref c_BadMany) (.ref c_BadPurses) = some false)
    (j_BadMany_NoneFree : PySem.W.kitOne K (.ref c_BadMany) (.ref c_NoneFree) = some false)
    (j_BadMany_TooMuch : PySem.W.kitOne K (.ref c_BadMany) (.ref c_TooMuch) = some false)
    (j_BadMany_TooMany : PySem.W.kitOne K (.ref c_BadMany) (.ref c_TooMany) = some false)
    (j_BadMany_ValueError : PySem.W.kitOne K (.ref c_BadMany) (.type "ValueError") = some true)
    (x1_BadWish : PySem.W.excIn K c_BadWish [.type "ValueError", .type "Exception", .type "BaseException", .type "object"] "ValueError.__new__" = true)
    (x2_BadWish : PySem.W.subIn K (.ref c_BadWish) (.type "BaseException") = some true)
    (x3_BadWish : PySem.W.typeIn K (.ref c_BadWish) = some (.type "type"))
    (x4_BadWish : PySem.W.isClsIn K c_BadWish = true)
    (x5_BadWish : PySem.W.subIn K (.ref c_BadWish) (.ref c_GiftError) = some true)
    (ea_BadWish : PySem.W.findIn K (.ref c_BadWish) "__getattribute__" = some (some (.builtin "BaseException.__getattribute__")))
    (eb_BadWish : PySem.W.findIn K (.ref c_BadWish) "__getattr__" = some none)
    (ed_BadWish : PySem.W.hasDictIn K c_BadWish = true)
    (ee_BadWish : PySem.W.findIn K (.ref c_BadWish) "__class__" = some (some (.builtin "object.__class__")))
    (ef_BadWish : PySem.W.specialIn K (.builtin "object.__class__") "__get__" = some (some (.builtin "getset_descriptor.__get__")))
    (eg_BadWish : PySem.W.takesIn K (.builtin "object.__class__") = some true)
    (eh_BadWish : PySem.W.mroIn K c_BadWish (.type "object") = some true)
    (j_BadWish_BadPeople : PySem.W.kitOne K (.ref c_BadWish) (.ref c_BadPeople) = some false)
    (j_BadWish_BadPerson : PySem.W.kitOne K (.ref c_BadWish) (.ref c_BadPerson) = some false)
    (j_BadWish_BadWord : PySem.W.kitOne K (.ref c_BadWish) (.ref c_BadWord) = some false)
    (j_BadWish_BadPrice : PySem.W.kitOne K (.ref c_BadWish) (.ref c_BadPrice) = some false)
    (j_BadWish_BadMany : PySem.W.kitOne K (.ref c_BadWish) (.ref c_BadMany) = some false)
    (j_BadWish_BadWish : PySem.W.kitOne K (.ref c_BadWish) (.ref c_BadWish) = some true)
    (j_BadWish_BadAmount : PySem.W.kitOne K (.ref c_BadWish) (.ref c_BadAmount) = some false)
    (j_BadWish_BadDeeds : PySem.W.kitOne K (.ref c_BadWish) (.ref c_BadDeeds) = some false)
    (j_BadWish_BadPurses : PySem.W.kitOne K (.ref c_BadWish) (.ref c_BadPurses) = some false)
    (j_BadWish_NoneFree : PySem.W.kitOne K (.ref c_BadWish) (.ref c_NoneFree) = some false)
    (j_BadWish_TooMuch : PySem.W.kitOne K (.ref c_BadWish) (.ref c_TooMuch) = some false)
    (j_BadWish_TooMany : PySem.W.kitOne K (.ref c_BadWish) (.ref c_TooMany) = some false)
    (j_BadWish_ValueError : PySem.W.kitOne K (.ref c_BadWish) (.type "ValueError") = some true)
    (x1_BadAmount : PySem.W.excIn K c_BadAmount [.type "ValueError", .type "Exception", .type "BaseException", .type "object"] "ValueError.__new__" = true)
    (x2_BadAmount : PySem.W.subIn K (.ref c_BadAmount) (.type "BaseException") = some true)
    (x3_BadAmount : PySem.W.typeIn K (.ref c_BadAmount) = some (.type "type"))
    (x4_BadAmount : PySem.W.isClsIn K c_BadAmount = true)
    (x5_BadAmount : PySem.W.subIn K (.ref c_BadAmount) (.ref c_GiftError) = some true)
    (ea_BadAmount : PySem.W.findIn K (.ref c_BadAmount) "__getattribute__" = some (some (.builtin "BaseException.__getattribute__")))
    (eb_BadAmount : PySem.W.findIn K (.ref c_BadAmount) "__getattr__" = some none)
    (ed_BadAmount : PySem.W.hasDictIn K c_BadAmount = true)
    (ee_BadAmount : PySem.W.findIn K (.ref c_BadAmount) "__class__" = some (some (.builtin "object.__class__")))
    (ef_BadAmount : PySem.W.specialIn K (.builtin "object.__class__") "__get__" = some (some (.builtin "getset_descriptor.__get__")))
    (eg_BadAmount : PySem.W.takesIn K (.builtin "object.__class__") = some true)
    (eh_BadAmount : PySem.W.mroIn K c_BadAmount (.type "object") = some true)
    (j_BadAmount_BadPeople : PySem.W.kitOne K (.ref c_BadAmount) (.ref c_BadPeople) = some false)
    (j_BadAmount_BadPerson : PySem.W.kitOne K (.ref c_BadAmount) (.ref c_BadPerson) = some false)
    (j_BadAmount_BadWord : PySem.W.kitOne K (.ref c_BadAmount) (.ref c_BadWord) = some false)
    (j_BadAmount_BadPrice : PySem.W.kitOne K (.ref c_BadAmount) (.ref c_BadPrice) = some false)
    (j_BadAmount_BadMany : PySem.W.kitOne K (.ref c_BadAmount) (.ref c_BadMany) = some false)
    (j_BadAmount_BadWish : PySem.W.kitOne K (.ref c_BadAmount) (.ref c_BadWish) = some false)
    (j_BadAmount_BadAmount : PySem.W.kitOne K (.ref c_BadAmount) (.ref c_BadAmount) = some true)
    (j_BadAmount_BadDeeds : PySem.W.kitOne K (.ref c_BadAmount) (.ref c_BadDeeds) = some false)
    (j_BadAmount_BadPurses : PySem.W.kitOne K (.ref c_BadAmount) (.ref c_BadPurses) = some false)
    (j_BadAmount_NoneFree : PySem.W.kitOne K (.ref c_BadAmount) (.ref c_NoneFree) = some false)
    (j_BadAmount_TooMuch : PySem.W.kitOne K (.ref c_BadAmount) (.ref c_TooMuch) = some false)
    (j_BadAmount_TooMany : PySem.W.kitOne K (.ref c_BadAmount) (.ref c_TooMany) = some false)
    (j_BadAmount_ValueError : PySem.W.kitOne K (.ref c_BadAmount) (.type "ValueError") = some true)
    (x1_BadDeeds : PySem.W.excIn K c_BadDeeds [.type "ValueError", .type "Exception", .type "BaseException", .type "object"] "ValueError.__new__" = true)
    (x2_BadDeeds : PySem.W.subIn K (.ref c_BadDeeds) (.type "BaseException") = some true)
    (x3_BadDeeds : PySem.W.typeIn K (.ref c_BadDeeds) = some (.type "type"))
    (x4_BadDeeds : PySem.W.isClsIn K c_BadDeeds = true)
    (x5_BadDeeds : PySem.W.subIn K (.ref c_BadDeeds) (.ref c_GiftError) = some true)
    (x1_BadPurses : PySem.W.excIn K c_BadPurses [.type "ValueError", .type "Exception", .type "BaseException", .type "object"] "ValueError.__new__" = true)
    (x2_BadPurses : PySem.W.subIn K (.ref c_BadPurses) (.type "BaseException") = some true)
    (x3_BadPurses : PySem.W.typeIn K (.ref c_BadPurses) = some (.type "type"))
    (x4_BadPurses : PySem.W.isClsIn K c_BadPurses = true)
    (x5_BadPurses : PySem.W.subIn K (.ref c_BadPurses) (.ref c_GiftError) = some true)
    (x1_NoneFree : PySem.W.excIn K c_NoneFree [.type "ValueError", .type "Exception", .type "BaseException", .type "object"] "ValueError.__new__" = true)
    (x2_NoneFree : PySem.W.subIn K (.ref c_NoneFree) (.type "BaseException") = some true)
    (x3_NoneFree : PySem.W.typeIn K (.ref c_NoneFree) = some (.type "type"))
    (x4_NoneFree : PySem.W.isClsIn K c_NoneFree = true)
    (x5_NoneFree : PySem.W.subIn K (.ref c_NoneFree) (.ref c_GiftError) = some true)
    (ea_NoneFree : PySem.W.findIn K (.ref c_NoneFree) "__getattribute__" = some (some (.builtin "BaseException.__getattribute__")))
    (eb_NoneFree : PySem.W.findIn K (.ref c_NoneFree) "__getattr__" = some none)
    (ed_NoneFree : PySem.W.hasDictIn K c_NoneFree = true)
    (ee_NoneFree : PySem.W.findIn K (.ref c_NoneFree) "__class__" = some (some (.builtin "object.__class__")))
    (ef_NoneFree : PySem.W.specialIn K (.builtin "object.__class__") "__get__" = some (some (.builtin "getset_descriptor.__get__")))
    (eg_NoneFree : PySem.W.takesIn K (.builtin "object.__class__") = some true)
    (eh_NoneFree : PySem.W.mroIn K c_NoneFree (.type "object") = some true)
    (j_NoneFree_BadPeople : PySem.W.kitOne K (.ref c_NoneFree) (.ref c_BadPeople) = some false)
    (j_NoneFree_BadPerson : PySem.W.kitOne K (.ref c_NoneFree) (.ref c_BadPerson) = some false)
    (j_NoneFree_BadWord : PySem.W.kitOne K (.ref c_NoneFree) (.ref c_BadWord) = some false)
    (j_NoneFree_BadPrice : PySem.W.kitOne K (.ref c_NoneFree) (.ref c_BadPrice) = some false)
    (j_NoneFree_BadMany : PySem.W.kitOne K (.ref c_NoneFree) (.ref c_BadMany) = some false)
    (j_NoneFree_BadWish : PySem.W.kitOne K (.ref c_NoneFree) (.ref c_BadWish) = some false)
    (j_NoneFree_BadAmount : PySem.W.kitOne K (.ref c_NoneFree) (.ref c_BadAmount) = some false)
    (j_NoneFree_BadDeeds : PySem.W.kitOne K (.ref c_NoneFree) (.ref c_BadDeeds) = some false)
    (j_NoneFree_BadPurses : PySem.W.kitOne K (.ref c_NoneFree) (.ref c_BadPurses) = some false)
    (j_NoneFree_NoneFree : PySem.W.kitOne K (.ref c_NoneFree) (.ref c_NoneFree) = some true)
    (j_NoneFree_TooMuch : PySem.W.kitOne K (.ref c_NoneFree) (.ref c_TooMuch) = some false)
    (j_NoneFree_TooMany : PySem.W.kitOne K (.ref c_NoneFree) (.ref c_TooMany) = some false)
    (j_NoneFree_ValueError : PySem.W.kitOne K (.ref c_NoneFree) (.type "ValueError") = some true)
    (x1_TooMuch : PySem.W.excIn K c_TooMuch [.type "ValueError", .type "Exception", .type "BaseException", .type "object"] "ValueError.__new__" = true)
    (x2_TooMuch : PySem.W.subIn K (.ref c_TooMuch) (.type "BaseException") = some true)
    (x3_TooMuch : PySem.W.typeIn K (.ref c_TooMuch) = some (.type "type"))
    (x4_TooMuch : PySem.W.isClsIn K c_TooMuch = true)
    (x5_TooMuch : PySem.W.subIn K (.ref c_TooMuch) (.ref c_GiftError) = some true)
    (ea_TooMuch : PySem.W.findIn K (.ref c_TooMuch) "__getattribute__" = some (some (.builtin "BaseException.__getattribute__")))
    (eb_TooMuch : PySem.W.findIn K (.ref c_TooMuch) "__getattr__" = some none)
    (ed_TooMuch : PySem.W.hasDictIn K c_TooMuch = true)
    (ee_TooMuch : PySem.W.findIn K (.ref c_TooMuch) "__class__" = some (some (.builtin "object.__class__")))
    (ef_TooMuch : PySem.W.specialIn K (.builtin "object.__class__") "__get__" = some (some (.builtin "getset_descriptor.__get__")))
    (eg_TooMuch : PySem.W.takesIn K (.builtin "object.__class__") = some true)
    (eh_TooMuch : PySem.W.mroIn K c_TooMuch (.type "object") = some true)
    (j_TooMuch_BadPeople : PySem.W.kitOne K (.ref c_TooMuch) (.ref c_BadPeople) = some false)
    (j_TooMuch_BadPerson : PySem.W.kitOne K (.ref c_TooMuch) (.ref c_BadPerson) = some false)
    (j_TooMuch_BadWord : PySem.W.kitOne K (.ref c_TooMuch) (.ref c_BadWord) = some false)
    (j_TooMuch_BadPrice : PySem.W.kitOne K (.ref c_TooMuch) (.ref c_BadPrice) = some false)
    (j_TooMuch_BadMany : PySem.W.kitOne K (.ref c_TooMuch) (.ref c_BadMany) = some false)
    (j_TooMuch_BadWish : PySem.W.kitOne K (.ref c_TooMuch) (.ref c_BadWish) = some false)
    (j_TooMuch_BadAmount : PySem.W.kitOne K (.ref c_TooMuch) (.ref c_BadAmount) = some false)
    (j_TooMuch_BadDeeds : PySem.W.kitOne K (.ref c_TooMuch) (.ref c_BadDeeds) = some false)
    (j_TooMuch_BadPurses : PySem.W.kitOne K (.ref c_TooMuch) (.ref c_BadPurses) = some false)
    (j_TooMuch_NoneFree : PySem.W.kitOne K (.ref c_TooMuch) (.ref c_NoneFree) = some false)
    (j_TooMuch_TooMuch : PySem.W.kitOne K (.ref c_TooMuch) (.ref c_TooMuch) = some true)
    (j_TooMuch_TooMany : PySem.W.kitOne K (.ref c_TooMuch) (.ref c_TooMany) = some false)
    (j_TooMuch_ValueError : PySem.W.kitOne K (.ref c_TooMuch) (.type "ValueError") = some true)
    (x1_TooMany : PySem.W.excIn K c_TooMany [.type "ValueError", .type "Exception", .type "BaseException", .type "object"] "ValueError.__new__" = true)
    (x2_TooMany : PySem.W.subIn K (.ref c_TooMany) (.type "BaseException") = some true)
    (x3_TooMany : PySem.W.typeIn K (.ref c_TooMany) = some (.type "type"))
    (x4_TooMany : PySem.W.isClsIn K c_TooMany = true)
    (x5_TooMany : PySem.W.subIn K (.ref c_TooMany) (.ref c_GiftError) = some true)
    (ea_TooMany : PySem.W.findIn K (.ref c_TooMany) "__getattribute__" = some (some (.builtin "BaseException.__getattribute__")))
    (eb_TooMany : PySem.W.findIn K (.ref c_TooMany) "__getattr__" = some none)
    (ed_TooMany : PySem.W.hasDictIn K c_TooMany = true)
    (ee_TooMany : PySem.W.findIn K (.ref c_TooMany) "__class__" = some (some (.builtin "object.__class__")))
    (ef_TooMany : PySem.W.specialIn K (.builtin "object.__class__") "__get__" = some (some (.builtin "getset_descriptor.__get__")))
    (eg_TooMany : PySem.W.takesIn K (.builtin "object.__class__") = some true)
    (eh_TooMany : PySem.W.mroIn K c_TooMany (.type "object") = some true)
    (j_TooMany_BadPeople : PySem.W.kitOne K (.ref c_TooMany) (.ref c_BadPeople) = some false)
    (j_TooMany_BadPerson : PySem.W.kitOne K (.ref c_TooMany) (.ref c_BadPerson) = some false)
    (j_TooMany_BadWord : PySem.W.kitOne K (.ref c_TooMany) (.ref c_BadWord) = some false)
    (j_TooMany_BadPrice : PySem.W.kitOne K (.ref c_TooMany) (.ref c_BadPrice) = some false)
    (j_TooMany_BadMany : PySem.W.kitOne K (.ref c_TooMany) (.ref c_BadMany) = some false)
    (j_TooMany_BadWish : PySem.W.kitOne K (.ref c_TooMany) (.ref c_BadWish) = some false)
    (j_TooMany_BadAmount : PySem.W.kitOne K (.ref c_TooMany) (.ref c_BadAmount) = some false)
    (j_TooMany_BadDeeds : PySem.W.kitOne K (.ref c_TooMany) (.ref c_BadDeeds) = some false)
    (j_TooMany_BadPurses : PySem.W.kitOne K (.ref c_TooMany) (.ref c_BadPurses) = some false)
    (j_TooMany_NoneFree : PySem.W.kitOne K (.ref c_TooMany) (.ref c_NoneFree) = some false)
    (j_TooMany_TooMuch : PySem.W.kitOne K (.ref c_TooMany) (.ref c_TooMuch) = some false)
    (j_TooMany_TooMany : PySem.W.kitOne K (.ref c_TooMany) (.ref c_TooMany) = some true)
    (j_TooMany_ValueError : PySem.W.kitOne K (.ref c_TooMany) (.type "ValueError") = some true)
    (c1_Wish : PySem.W.plainGet K c_Wish Str.empty = true)
    (c2_Wish : PySem.W.hasDictIn K c_Wish = true)
    (c3_Wish : PySem.W.plainOver K c_Wish = true)
    (c4_Wish : PySem.W.findIn K (.ref c_Wish) "__setattr__" = some (some (.builtin "object.__setattr__")))
    (c5_Wish : PySem.W.makesIn K c_Wish = true)
    (y_Wish_owner : PySem.W.findIn K (.ref c_Wish) "owner" = some none)
    (y_Wish_word : PySem.W.findIn K (.ref c_Wish) "word" = some none)
    (y_Wish_price : PySem.W.findIn K (.ref c_Wish) "price" = some none)
    (y_Wish_many : PySem.W.findIn K (.ref c_Wish) "many" = some none)
    (y_Wish_stands : PySem.W.findIn K (.ref c_Wish) "stands" = some none)
    (y_Wish_takings : PySem.W.findIn K (.ref c_Wish) "takings" = some none)
    (y_Wish_pledges : PySem.W.findIn K (.ref c_Wish) "pledges" = some none)
    (c1_Gifts : PySem.W.plainGet K c_Gifts Str.empty = true)
    (c2_Gifts : PySem.W.hasDictIn K c_Gifts = true)
    (c3_Gifts : PySem.W.plainOver K c_Gifts = true)
    (c4_Gifts : PySem.W.findIn K (.ref c_Gifts) "__setattr__" = some (some (.builtin "object.__setattr__")))
    (c5_Gifts : PySem.W.makesIn K c_Gifts = true)
    (y_Gifts_people : PySem.W.findIn K (.ref c_Gifts) "people" = some none)
    (y_Gifts_wishes : PySem.W.findIn K (.ref c_Gifts) "wishes" = some none)
    (u_LETTERS : PySem.W.nsIn K mainGlobals "LETTERS" = some (some (.str "abcdefghijklmnopqrstuvwxyz" t_LETTERS)))
    (u_MOST_PEOPLE : PySem.W.nsIn K mainGlobals "MOST_PEOPLE" = some (some (.int 5 t_MOST_PEOPLE)))
    (u_MOST_WORD : PySem.W.nsIn K mainGlobals "MOST_WORD" = some (some (.int 4 t_MOST_WORD)))
    (u_MOST_PRICE : PySem.W.nsIn K mainGlobals "MOST_PRICE" = some (some (.int 20 t_MOST_PRICE)))
    (u_MOST_PIECES : PySem.W.nsIn K mainGlobals "MOST_PIECES" = some (some (.int 3 t_MOST_PIECES)))
    (u_MOST_WISHES : PySem.W.nsIn K mainGlobals "MOST_WISHES" = some (some (.int 8 t_MOST_WISHES)))
    (z_ValueError : PySem.W.nsIn K mainGlobals "ValueError" = some none)
    (z_all : PySem.W.nsIn K mainGlobals "all" = some none)
    (z_bool : PySem.W.nsIn K mainGlobals "bool" = some none)
    (z_enumerate : PySem.W.nsIn K mainGlobals "enumerate" = some none)
    (z_int : PySem.W.nsIn K mainGlobals "int" = some none)
    (z_isinstance : PySem.W.nsIn K mainGlobals "isinstance" = some none)
    (z_len : PySem.W.nsIn K mainGlobals "len" = some none)
    (z_max : PySem.W.nsIn K mainGlobals "max" = some none)
    (z_range : PySem.W.nsIn K mainGlobals "range" = some none)
    (z_sorted : PySem.W.nsIn K mainGlobals "sorted" = some none)
    (z_str : PySem.W.nsIn K mainGlobals "str" = some none)
    (z_sum : PySem.W.nsIn K mainGlobals "sum" = some none)
    (hT : ∀ (y : Str) (c Pt : Addr), y ∈ (["_law_persons_right", "_law_wishes_right", "_law_numbers_right", "law"] : List Str) → PySem.W.tabIn K y = some (c, Pt) → PySem.W.CodeHd h c Pt ∧ h.get? Pt = some { cls := .none, data := .fields #[] })
    : LamX.LawAtS (PySem.Challenge.rw_giftlist_k09_refused_deeds) w K (L2.CX (PySem.Challenge.rw_giftlist_k09_refused_deeds).prog w) 11 63 "_law_script" mg fa h := by
  have e := Value.ref.inj (Option.some.inj (hfa.symm.trans (PySem.W.mg_of X G a_law)).symm)
  subst e
  have F_is_whole := fun_mk (st := s_is_whole) l_is_whole b_is_whole k_is_whole
  have B_is_whole := F_is_whole.binds (ps := ["thing"]) fun _ _ _ _ _ _ us hl => match us, hl with | [_], _ => rfl
  have F_is_count := fun_mk (st := s_is_count) l_is_count b_is_count k_is_count
  have B_is_count := F_is_count.binds (ps := ["thing", "least", "most"]) fun _ _ _ _ _ _ us hl => match us, hl with | [_, _, _], _ => rfl
  have F_is_word := fun_mk (st := s_is_word) l_is_word b_is_word k_is_word
  have B_is_word := F_is_word.binds (ps := ["thing"]) fun _ _ _ _ _ _ us hl => match us, hl with | [_], _ => rfl
  have F_Wish_init := fun_mk (st := s_Wish_init) l_Wish_init b_Wish_init k_Wish_init
  have B_Wish_init := F_Wish_init.binds (ps := ["self", "owner", "word", "price", "many"]) fun _ _ _ _ _ _ us hl => match us, hl with | [_, _, _, _, _], _ => rfl
  have F_Wish_free := fun_mk (st := s_Wish_free) l_Wish_free b_Wish_free k_Wish_free
  have B_Wish_free := F_Wish_free.binds (ps := ["self"]) fun _ _ _ _ _ _ us hl => match us, hl with | [_], _ => rfl
  have F_Wish_lacking := fun_mk (st := s_Wish_lacking) l_Wish_lacking b_Wish_lacking k_Wish_lacking
  have B_Wish_lacking := F_Wish_lacking.binds (ps := ["self"]) fun _ _ _ _ _ _ us hl => match us, hl with | [_], _ => rfl
  have F_Wish_done := fun_mk (st := s_Wish_done) l_Wish_done b_Wish_done k_Wish_done
  have B_Wish_done := F_Wish_done.binds (ps := ["self"]) fun _ _ _ _ _ _ us hl => match us, hl with | [_], _ => rfl
  have F_Gifts_init := fun_mk (st := s_Gifts_init) l_Gifts_init b_Gifts_init k_Gifts_init
  have B_Gifts_init := F_Gifts_init.binds (ps := ["self", "people"]) fun _ _ _ _ _ _ us hl => match us, hl with | [_, _], _ => rfl
  have F_Gifts_look_at := fun_mk (st := s_Gifts_look_at) l_Gifts_look_at b_Gifts_look_at k_Gifts_look_at
  have B_Gifts_look_at := F_Gifts_look_at.binds (ps := ["self", "person"]) fun _ _ _ _ _ _ us hl => match us, hl with | [_, _], _ => rfl
  have F_Gifts_own_wish := fun_mk (st := s_Gifts_own_wish) l_Gifts_own_wish b_Gifts_own_wish k_Gifts_own_wish
  have B_Gifts_own_wish := F_Gifts_own_wish.binds (ps := ["self", "owner", "wish"]) fun _ _ _ _ _ _ us hl => match us, hl with | [_, _, _], _ => rfl
  have F_Gifts_other_wish := fun_mk (st := s_Gifts_other_wish) l_Gifts_other_wish b_Gifts_other_wish k_Gifts_other_wish
  have B_Gifts_other_wish := F_Gifts_other_wish.binds (ps := ["self", "person", "wish"]) fun _ _ _ _ _ _ us hl => match us, hl with | [_, _, _], _ => rfl
  have F_Gifts_wish := fun_mk (st := s_Gifts_wish) l_Gifts_wish b_Gifts_wish k_Gifts_wish
  have B_Gifts_wish := F_Gifts_wish.binds (ps := ["self", "owner", "word", "price", "many"]) fun _ _ _ _ _ _ us hl => match us, hl with | [_, _, _, _, _], _ => rfl
  have F_Gifts_alter := fun_mk (st := s_Gifts_alter) l_Gifts_alter b_Gifts_alter k_Gifts_alter
  have B_Gifts_alter := F_Gifts_alter.binds (ps := ["self", "owner", "wish", "many"]) fun _ _ _ _ _ _ us hl => match us, hl with | [_, _, _, _], _ => rfl
  have F_Gifts_drop := fun_mk (st := s_Gifts_drop) l_Gifts_drop b_Gifts_drop k_Gifts_drop
  have B_Gifts_drop := F_Gifts_drop.binds (ps := ["self", "owner", "wish"]) fun _ _ _ _ _ _ us hl => match us, hl with | [_, _, _], _ => rfl
  have F_Gifts_take := fun_mk (st := s_Gifts_take) l_Gifts_take b_Gifts_take k_Gifts_take
  have B_Gifts_take := F_Gifts_take.binds (ps := ["self", "person", "wish", "count"]) fun _ _ _ _ _ _ us hl => match us, hl with | [_, _, _, _], _ => rfl
  have F_Gifts_pledge := fun_mk (st := s_Gifts_pledge) l_Gifts_pledge b_Gifts_pledge k_Gifts_pledge
  have B_Gifts_pledge := F_Gifts_pledge.binds (ps := ["self", "person", "wish", "amount"]) fun _ _ _ _ _ _ us hl => match us, hl with | [_, _, _, _], _ => rfl
  have F_Gifts_back := fun_mk (st := s_Gifts_back) l_Gifts_back b_Gifts_back k_Gifts_back
  have B_Gifts_back := F_Gifts_back.binds (ps := ["self", "person", "wish"]) fun _ _ _ _ _ _ us hl => match us, hl with | [_, _, _], _ => rfl
  have F_Gifts_seen := fun_mk (st := s_Gifts_seen) l_Gifts_seen b_Gifts_seen k_Gifts_seen
  have B_Gifts_seen := F_Gifts_seen.binds (ps := ["self", "person"]) fun _ _ _ _ _ _ us hl => match us, hl with | [_, _], _ => rfl
  have F_law_cell_at := fun_mk (st := s_law_cell_at) l_law_cell_at b_law_cell_at k_law_cell_at
  have B_law_cell_at := F_law_cell_at.binds (ps := ["_law_script", "_law_k"]) fun _ _ _ _ _ _ us hl => match us, hl with | [_, _], _ => rfl
  have F_law_draw := fun_mk (st := s_law_draw) l_law_draw b_law_draw k_law_draw
  have B_law_draw := F_law_draw.binds (ps := ["_law_cell", "_law_k", "_law_many"]) fun _ _ _ _ _ _ us hl => match us, hl with | [_, _, _], _ => rfl
  have F_law_value := fun_mk (st := s_law_value) l_law_value b_law_value k_law_value
  have B_law_value := F_law_value.binds (ps := ["_law_cell", "_law_turn"]) fun _ _ _ _ _ _ us hl => match us, hl with | [_, _], _ => rfl
  have F_law_kinds := fun_mk (st := s_law_kinds) l_law_kinds b_law_kinds k_law_kinds
  have B_law_kinds := F_law_kinds.binds (ps := ["_law_ask"]) fun _ _ _ _ _ _ us hl => match us, hl with | [_], _ => rfl
  have F_law_due_of := fun_mk (st := s_law_due_of) l_law_due_of b_law_due_of k_law_due_of
  have B_law_due_of := F_law_due_of.binds (ps := ["_law_at"]) fun _ _ _ _ _ _ us hl => match us, hl with | [_], _ => rfl
  have F_law_strange := fun_mk (st := s_law_strange) l_law_strange b_law_strange k_law_strange
  have B_law_strange := F_law_strange.binds (ps := ["_law_far"]) fun _ _ _ _ _ _ us hl => match us, hl with | [_], _ => rfl
  have F_law_no_words := fun_mk (st := s_law_no_words) l_law_no_words b_law_no_words k_law_no_words
  have B_law_no_words := F_law_no_words.binds (ps := ["_law_far"]) fun _ _ _ _ _ _ us hl => match us, hl with | [_], _ => rfl
  have C_law_persons_right : _root_.G.CD K "_law_persons_right" "_law_persons_right" s_law_persons_right f_law_persons_right (PySem.W.fnOf "_law_persons_right" "_law_persons_right" (defArgs s_law_persons_right) (defBody s_law_persons_right) (defScope s_law_persons_right) .none vlaw_persons_right dlaw_persons_right plaw_persons_right nlaw_persons_right (.ref cc_law_persons_right) rlaw_persons_right) cc_law_persons_right := ⟨⟨_, _, _, _, _, _, _, _, rfl, l_law_persons_right, b_law_persons_right⟩⟩
  have F_law_persons_right := fun_mk (st := s_law_persons_right) l_law_persons_right b_law_persons_right k_law_persons_right
  have B_law_persons_right := F_law_persons_right.binds (ps := ["_law_gifts", "_law_far"]) fun _ _ _ _ _ _ us hl => match us, hl with | [_, _], _ => rfl
  have C_law_wishes_right : _root_.G.CD K "_law_wishes_right" "_law_wishes_right" s_law_wishes_right f_law_wishes_right (PySem.W.fnOf "_law_wishes_right" "_law_wishes_right" (defArgs s_law_wishes_right) (defBody s_law_wishes_right) (defScope s_law_wishes_right) .none vlaw_wishes_right dlaw_wishes_right plaw_wishes_right nlaw_wishes_right (.ref cc_law_wishes_right) rlaw_wishes_right) cc_law_wishes_right := ⟨⟨_, _, _, _, _, _, _, _, rfl, l_law_wishes_right, b_law_wishes_right⟩⟩
  have F_law_wishes_right := fun_mk (st := s_law_wishes_right) l_law_wishes_right b_law_wishes_right k_law_wishes_right
  have B_law_wishes_right := F_law_wishes_right.binds (ps := ["_law_gifts", "_law_far"]) fun _ _ _ _ _ _ us hl => match us, hl with | [_, _], _ => rfl
  have C_law_numbers_right : _root_.G.CD K "_law_numbers_right" "_law_numbers_right" s_law_numbers_right f_law_numbers_right (PySem.W.fnOf "_law_numbers_right" "_law_numbers_right" (defArgs s_law_numbers_right) (defBody s_law_numbers_right) (defScope s_law_numbers_right) .none vlaw_numbers_right dlaw_numbers_right plaw_numbers_right nlaw_numbers_right (.ref cc_law_numbers_right) rlaw_numbers_right) cc_law_numbers_right := ⟨⟨_, _, _, _, _, _, _, _, rfl, l_law_numbers_right, b_law_numbers_right⟩⟩
  have F_law_numbers_right := fun_mk (st := s_law_numbers_right) l_law_numbers_right b_law_numbers_right k_law_numbers_right
  have B_law_numbers_right := F_law_numbers_right.binds (ps := ["_law_gifts", "_law_far"]) fun _ _ _ _ _ _ us hl => match us, hl with | [_, _], _ => rfl
  have C_law : _root_.G.CD K "law" "law" s_law f_law (PySem.W.fnOf "law" "law" (defArgs s_law) (defBody s_law) (defScope s_law) .none vlaw dlaw plaw nlaw (.ref cc_law) rlaw) cc_law := ⟨⟨_, _, _, _, _, _, _, _, rfl, l_law, b_law⟩⟩
  have F_law := fun_mk (st := s_law) l_law b_law k_law
  have B_law := F_law.binds (ps := ["_law_script"]) fun _ _ _ _ _ _ us hl => match us, hl with | [_], _ => rfl
  let a : A := { c_GiftError := c_GiftError, c_BadPeople := c_BadPeople, c_BadPerson := c_BadPerson, c_BadWord := c_BadWord, c_BadPrice := c_BadPrice, c_BadMany := c_BadMany, c_BadWish := c_BadWish, c_BadAmount := c_BadAmount, c_BadDeeds := c_BadDeeds, c_BadPurses := c_BadPurses, c_NoneFree := c_NoneFree, c_TooMuch := c_TooMuch, c_TooMany := c_TooMany, c_Wish := c_Wish, c_Gifts := c_Gifts, f_is_whole := f_is_whole, d_is_whole := PySem.W.fnOf "is_whole" "is_whole" (defArgs s_is_whole) (defBody s_is_whole) (defScope s_is_whole) .none vis_whole dis_whole pis_whole nis_whole qis_whole ris_whole, f_is_count := f_is_count, d_is_count := PySem.W.fnOf "is_count" "is_count" (defArgs s_is_count) (defBody s_is_count) (defScope s_is_count) .none vis_count dis_count pis_count nis_count qis_count ris_count, f_is_word := f_is_word, d_is_word := PySem.W.fnOf "is_word" "is_word" (defArgs s_is_word) (defBody s_is_word) (defScope s_is_word) .none vis_word dis_word pis_word nis_word qis_word ris_word, f_Wish_init := f_Wish_init, d_Wish_init := PySem.W.fnOf "__init__" "Wish.__init__" (defArgs s_Wish_init) (defBody s_Wish_init) (defScope s_Wish_init) .none vWish_init dWish_init pWish_init nWish_init qWish_init rWish_init, f_Wish_free := f_Wish_free, d_Wish_free := PySem.W.fnOf "free" "Wish.free" (defArgs s_Wish_free) (defBody s_Wish_free) (defScope s_Wish_free) .none vWish_free dWish_free pWish_free nWish_free qWish_free rWish_free, f_Wish_lacking := f_Wish_lacking, d_Wish_lacking := PySem.W.fnOf "lacking" "Wish.lacking" (defArgs s_Wish_lacking) (defBody s_Wish_lacking) (defScope s_Wish_lacking) .none vWish_lacking dWish_lacking pWish_lacking nWish_lacking qWish_lacking rWish_lacking, f_Wish_done := f_Wish_done, d_Wish_done := PySem.W.fnOf "done" "Wish.done" (defArgs s_Wish_done) (defBody s_Wish_done) (defScope s_Wish_done) .none vWish_done dWish_done pWish_done nWish_done qWish_done rWish_done, f_Gifts_init := f_Gifts_init, d_Gifts_init := PySem.W.fnOf "__init__" "Gifts.__init__" (defArgs s_Gifts_init) (defBody s_Gifts_init) (defScope s_Gifts_init) .none vGifts_init dGifts_init pGifts_init nGifts_init qGifts_init rGifts_init, f_Gifts_look_at := f_Gifts_look_at, d_Gifts_look_at := PySem.W.fnOf "look_at" "Gifts.look_at" (defArgs s_Gifts_look_at) (defBody s_Gifts_look_at) (defScope s_Gifts_look_at) .none vGifts_look_at dGifts_look_at pGifts_look_at nGifts_look_at qGifts_look_at rGifts_look_at, f_Gifts_own_wish := f_Gifts_own_wish, d_Gifts_own_wish := PySem.W.fnOf "own_wish" "Gifts.own_wish" (defArgs s_Gifts_own_wish) (defBody s_Gifts_own_wish) (defScope s_Gifts_own_wish) .none vGifts_own_wish dGifts_own_wish pGifts_own_wish nGifts_own_wish qGifts_own_wish rGifts_own_wish, f_Gifts_other_wish := f_Gifts_other_wish, d_Gifts_other_wish := PySem.W.fnOf "other_wish" "Gifts.other_wish" (defArgs s_Gifts_other_wish) (defBody s_Gifts_other_wish) (defScope s_Gifts_other_wish) .none vGifts_other_wish dGifts_other_wish pGifts_other_wish nGifts_other_wish qGifts_other_wish rGifts_other_wish, f_Gifts_wish := f_Gifts_wish, d_Gifts_wish := PySem.W.fnOf "wish" "Gifts.wish" (defArgs s_Gifts_wish) (defBody s_Gifts_wish) (defScope s_Gifts_wish) .none vGifts_wish dGifts_wish pGifts_wish nGifts_wish qGifts_wish rGifts_wish, f_Gifts_alter := f_Gifts_alter, d_Gifts_alter := PySem.W.fnOf "alter" "Gifts.alter" (defArgs s_Gifts_alter) (defBody s_Gifts_alter) (defScope s_Gifts_alter) .none vGifts_alter dGifts_alter pGifts_alter nGifts_alter qGifts_alter rGifts_alter, f_Gifts_drop := f_Gifts_drop, d_Gifts_drop := PySem.W.fnOf "drop" "Gifts.drop" (defArgs s_Gifts_drop) (defBody s_Gifts_drop) (defScope s_Gifts_drop) .none vGifts_drop dGifts_drop pGifts_drop nGifts_drop qGifts_drop rGifts_drop, f_Gifts_take := f_Gifts_take, d_Gifts_take := PySem.W.fnOf "take" "Gifts.take" (defArgs s_Gifts_take) (defBody s_Gifts_take) (defScope s_Gifts_take) .none vGifts_take dGifts_take pGifts_take nGifts_take qGifts_take rGifts_take, f_Gifts_pledge := f_Gifts_pledge, d_Gifts_pledge := PySem.W.fnOf "pledge" "Gifts.pledge" (defArgs s_Gifts_pledge) (defBody s_Gifts_pledge) (defScope s_Gifts_pledge) .none vGifts_pledge dGifts_pledge pGifts_pledge nGifts_pledge qGifts_pledge rGifts_pledge, f_Gifts_back := f_Gifts_back, d_Gifts_back := PySem.W.fnOf "back" "Gifts.back" (defArgs s_Gifts_back) (defBody s_Gifts_back) (defScope s_Gifts_back) .none vGifts_back dGifts_back pGifts_back nGifts_back qGifts_back rGifts_back, f_Gifts_seen := f_Gifts_seen, d_Gifts_seen := PySem.W.fnOf "seen" "Gifts.seen" (defArgs s_Gifts_seen) (defBody s_Gifts_seen) (defScope s_Gifts_seen) .none vGifts_seen dGifts_seen pGifts_seen nGifts_seen qGifts_seen rGifts_seen, f_law_cell_at := f_law_cell_at, d_law_cell_at := PySem.W.fnOf "_law_cell_at" "_law_cell_at" (defArgs s_law_cell_at) (defBody s_law_cell_at) (defScope s_law_cell_at) .none vlaw_cell_at dlaw_cell_at plaw_cell_at nlaw_cell_at qlaw_cell_at rlaw_cell_at, f_law_draw := f_law_draw, d_law_draw := PySem.W.fnOf "_law_draw" "_law_draw" (defArgs s_law_draw) (defBody s_law_draw) (defScope s_law_draw) .none vlaw_draw dlaw_draw plaw_draw nlaw_draw qlaw_draw rlaw_draw, f_law_value := f_law_value, d_law_value := PySem.W.fnOf "_law_value" "_law_value" (defArgs s_law_value) (defBody s_law_value) (defScope s_law_value) .none vlaw_value dlaw_value plaw_value nlaw_value qlaw_value rlaw_value, f_law_kinds := f_law_kinds, d_law_kinds := PySem.W.fnOf "_law_kinds" "_law_kinds" (defArgs s_law_kinds) (defBody s_law_kinds) (defScope s_law_kinds) .none vlaw_kinds dlaw_kinds plaw_kinds nlaw_kinds qlaw_kinds rlaw_kinds, f_law_due_of := f_law_due_of, d_law_due_of := PySem.W.fnOf "_law_due_of" "_law_due_of" (defArgs s_law_due_of) (defBody s_law_due_of) (defScope s_law_due_of) .none vlaw_due_of dlaw_due_of plaw_due_of nlaw_due_of qlaw_due_of rlaw_due_of, f_law_strange := f_law_strange, d_law_strange := PySem.W.fnOf "_law_strange" "_law_strange" (defArgs s_law_strange) (defBody s_law_strange) (defScope s_law_strange) .none vlaw_strange dlaw_strange plaw_strange nlaw_strange qlaw_strange rlaw_strange, f_law_no_words := f_law_no_words, d_law_no_words := PySem.W.fnOf "_law_no_words" "_law_no_words" (defArgs s_law_no_words) (defBody s_law_no_words) (defScope s_law_no_words) .none vlaw_no_words dlaw_no_words plaw_no_words nlaw_no_words qlaw_no_words rlaw_no_words, cc_law_persons_right := cc_law_persons_right, cP_law_persons_right := cP_law_persons_right, f_law_persons_right := f_law_persons_right, d_law_persons_right := PySem.W.fnOf "_law_persons_right" "_law_persons_right" (defArgs s_law_persons_right) (defBody s_law_persons_right) (defScope s_law_persons_right) .none vlaw_persons_right dlaw_persons_right plaw_persons_right nlaw_persons_right (.ref cc_law_persons_right) rlaw_persons_right, cc_law_wishes_right := cc_law_wishes_right, cP_law_wishes_right := cP_law_wishes_right, f_law_wishes_right := f_law_wishes_right, d_law_wishes_right := PySem.W.fnOf "_law_wishes_right" "_law_wishes_right" (defArgs s_law_wishes_right) (defBody s_law_wishes_right) (defScope s_law_wishes_right) .none vlaw_wishes_right dlaw_wishes_right plaw_wishes_right nlaw_wishes_right (.ref cc_law_wishes_right) rlaw_wishes_right, cc_law_numbers_right := cc_law_numbers_right, cP_law_numbers_right := cP_law_numbers_right, f_law_numbers_right := f_law_numbers_right, d_law_numbers_right := PySem.W.fnOf "_law_numbers_right" "_law_numbers_right" (defArgs s_law_numbers_right) (defBody s_law_numbers_right) (defScope s_law_numbers_right) .none vlaw_numbers_right dlaw_numbers_right plaw_numbers_right nlaw_numbers_right (.ref cc_law_numbers_right) rlaw_numbers_right, cc_law := cc_law, cP_law := cP_law, f_law := f_law, d_law := PySem.W.fnOf "law" "law" (defArgs s_law) (defBody s_law) (defScope s_law) .none vlaw dlaw plaw nlaw (.ref cc_law) rlaw, t_LETTERS := t_LETTERS, t_MOST_PEOPLE := t_MOST_PEOPLE, t_MOST_WORD := t_MOST_WORD, t_MOST_PRICE := t_MOST_PRICE, t_MOST_PIECES := t_MOST_PIECES, t_MOST_WISHES := t_MOST_WISHES }
  have T : Txt K mg a := { is_whole := ⟨F_is_whole, B_is_whole, PySem.W.mg_of X G a_is_whole, k_is_whole⟩, is_count := ⟨F_is_count, B_is_count, PySem.W.mg_of X G a_is_count, k_is_count⟩, is_word := ⟨F_is_word, B_is_word, PySem.W.mg_of X G a_is_word, k_is_word⟩, Wish_init := ⟨F_Wish_init, B_Wish_init, ⟨a_Wish_init, i_Wish_init, k_Wish_init⟩⟩, Wish_free := ⟨F_Wish_free, B_Wish_free, ⟨a_Wish_free, i_Wish_free, k_Wish_free⟩⟩, Wish_lacking := ⟨F_Wish_lacking, B_Wish_lacking, ⟨a_Wish_lacking, i_Wish_lacking, k_Wish_lacking⟩⟩, Wish_done := ⟨F_Wish_done, B_Wish_done, ⟨a_Wish_done, i_Wish_done, k_Wish_done⟩⟩, Gifts_init := ⟨F_Gifts_init, B_Gifts_init, ⟨a_Gifts_init, i_Gifts_init, k_Gifts_init⟩⟩, Gifts_look_at := ⟨F_Gifts_look_at, B_Gifts_look_at, ⟨a_Gifts_look_at, i_Gifts_look_at, k_Gifts_look_at⟩⟩, Gifts_own_wish := ⟨F_Gifts_own_wish, B_Gifts_own_wish, ⟨a_Gifts_own_wish, i_Gifts_own_wish, k_Gifts_own_wish⟩⟩, Gifts_other_wish := ⟨F_Gifts_other_wish, B_Gifts_other_wish, ⟨a_Gifts_other_wish, i_Gifts_other_wish, k_Gifts_other_wish⟩⟩, Gifts_wish := ⟨F_Gifts_wish, B_Gifts_wish, ⟨a_Gifts_wish, i_Gifts_wish, k_Gifts_wish⟩⟩, Gifts_alter := ⟨F_Gifts_alter, B_Gifts_alter, ⟨a_Gifts_alter, i_Gifts_alter, k_Gifts_alter⟩⟩, Gifts_drop := ⟨F_Gifts_drop, B_Gifts_drop, ⟨a_Gifts_drop, i_Gifts_drop, k_Gifts_drop⟩⟩, Gifts_take := ⟨F_Gifts_take, B_Gifts_take, ⟨a_Gifts_take, i_Gifts_take, k_Gifts_take⟩⟩, Gifts_pledge := ⟨F_Gifts_pledge, B_Gifts_pledge, ⟨a_Gifts_pledge, i_Gifts_pledge, k_Gifts_pledge⟩⟩, Gifts_back := ⟨F_Gifts_back, B_Gifts_back, ⟨a_Gifts_back, i_Gifts_back, k_Gifts_back⟩⟩, Gifts_seen := ⟨F_Gifts_seen, B_Gifts_seen, ⟨a_Gifts_seen, i_Gifts_seen, k_Gifts_seen⟩⟩, law_cell_at := ⟨F_law_cell_at, B_law_cell_at, PySem.W.mg_of X G a_law_cell_at, k_law_cell_at⟩, law_draw := ⟨F_law_draw, B_law_draw, PySem.W.mg_of X G a_law_draw, k_law_draw⟩, law_value := ⟨F_law_value, B_law_value, PySem.W.mg_of X G a_law_value, k_law_value⟩, law_kinds := ⟨F_law_kinds, B_law_kinds, PySem.W.mg_of X G a_law_kinds, k_law_kinds⟩, law_due_of := ⟨F_law_due_of, B_law_due_of, PySem.W.mg_of X G a_law_due_of, k_law_due_of⟩, law_strange := ⟨F_law_strange, B_law_strange, PySem.W.mg_of X G a_law_strange, k_law_strange⟩, law_no_words := ⟨F_law_no_words, B_law_no_words, PySem.W.mg_of X G a_law_no_words, k_law_no_words⟩, lam_law_persons_right := C_law_persons_right, law_persons_right := ⟨F_law_persons_right, B_law_persons_right, PySem.W.mg_of X G a_law_persons_right, k_law_persons_right⟩, lam_law_wishes_right := C_law_wishes_right, law_wishes_right := ⟨F_law_wishes_right, B_law_wishes_right, PySem.W.mg_of X G a_law_wishes_right, k_law_wishes_right⟩, lam_law_numbers_right := C_law_numbers_right, law_numbers_right := ⟨F_law_numbers_right, B_law_numbers_right, PySem.W.mg_of X G a_law_numbers_right, k_law_numbers_right⟩, lam_law := C_law, law := ⟨F_law, B_law, PySem.W.mg_of X G a_law, k_law⟩, td_01 := td_01, td_02 := td_02, td_03 := td_03, td_12 := td_12, td_13 := td_13, td_23 := td_23, x_GiftError := ⟨PySem.W.mg_of X G aC_GiftError, kC_GiftError, x1_GiftError, x2_GiftError, x3_GiftError, x4_GiftError⟩, m_GiftError := PySem.W.exm_ref x2_GiftError x6_GiftError x3_GiftError x5_GiftError, x_BadPeople := ⟨PySem.W.mg_of X G aC_BadPeople, kC_BadPeople, x1_BadPeople, x2_BadPeople, x3_BadPeople, x4_BadPeople⟩, m_BadPeople := PySem.W.exm_ref x2_GiftError x6_GiftError x3_GiftError x5_BadPeople, e_BadPeople := ⟨ea_BadPeople, eb_BadPeople, x2_BadPeople, ed_BadPeople, ee_BadPeople, ef_BadPeople, eg_BadPeople, eh_BadPeople⟩, k_BadPeople_BadPeople := j_BadPeople_BadPeople, k_BadPeople_BadPerson := j_BadPeople_BadPerson, k_BadPeople_BadWord := j_BadPeople_BadWord, k_BadPeople_BadPrice := j_BadPeople_BadPrice, k_BadPeople_BadMany := j_BadPeople_BadMany, k_BadPeople_BadWish := j_BadPeople_BadWish, k_BadPeople_BadAmount := j_BadPeople_BadAmount, k_BadPeople_BadDeeds := j_BadPeople_BadDeeds, k_BadPeople_BadPurses := j_BadPeople_BadPurses, k_BadPeople_NoneFree := j_BadPeople_NoneFree, k_BadPeople_TooMuch := j_BadPeople_TooMuch, k_BadPeople_TooMany := j_BadPeople_TooMany, v_BadPeople := j_BadPeople_ValueError, x_BadPerson := ⟨PySem.W.mg_of X G aC_BadPerson, kC_BadPerson, x1_BadPerson, x2_BadPerson, x3_BadPerson, x4_BadPerson⟩, m_BadPerson := PySem.W.exm_ref x2_GiftError x6_GiftError x3_GiftError x5_BadPerson, e_BadPerson := ⟨ea_BadPerson, eb_BadPerson, x2_BadPerson, ed_BadPerson, ee_BadPerson, ef_BadPerson, eg_BadPerson, eh_BadPerson⟩, k_BadPerson_BadPeople := j_BadPerson_BadPeople, k_BadPerson_BadPerson := j_BadPerson_BadPerson, k_BadPerson_BadWord := j_BadPerson_BadWord, k_BadPerson_BadPrice := j_BadPerson_BadPrice, k_BadPerson_BadMany := j_BadPerson_BadMany, k_BadPerson_BadWish := j_BadPerson_BadWish, k_BadPerson_BadAmount := j_BadPerson_BadAmount, k_BadPerson_BadDeeds := j_BadPerson_BadDeeds, k_BadPerson_BadPurses := j_BadPerson_BadPurses, k_BadPerson_NoneFree := j_BadPerson_NoneFree, k_BadPerson_TooMuch := j_BadPerson_TooMuch, k_BadPerson_TooMany := j_BadPerson_TooMany, v_BadPerson := j_BadPerson_ValueError, x_BadWord := ⟨PySem.W.mg_of X G aC_BadWord, kC_BadWord, x1_BadWord, x2_BadWord, x3_BadWord, x4_BadWord⟩, m_BadWord := PySem.W.exm_ref x2_GiftError x6_GiftError x3_GiftError x5_BadWord, e_BadWord := ⟨ea_BadWord, eb_BadWord, x2_BadWord, ed_BadWord, ee_BadWord, ef_BadWord, eg_BadWord, eh_BadWord⟩, k_BadWord_BadPeople := j_BadWord_BadPeople, k_BadWord_BadPerson := j_BadWord_BadPerson, k_BadWord_BadWord := j_BadWord_BadWord, k_BadWord_BadPrice := j_BadWord_BadPrice, k_BadWord_BadMany := j_BadWord_BadMany, k_BadWord_BadWish := j_BadWord_BadWish, k_BadWord_BadAmount := j_BadWord_BadAmount, k_BadWord_BadDeeds := j_BadWord_BadDeeds, k_BadWord_BadPurses := j_BadWord_BadPurses, k_BadWord_NoneFree := j_BadWord_NoneFree, k_BadWord_TooMuch := j_BadWord_TooMuch, k_BadWord_TooMany := j_BadWord_TooMany, v_BadWord := j_BadWord_ValueError, x_BadPrice := ⟨PySem.W.mg_of X G aC_BadPrice, kC_BadPrice, x1_BadPrice, x2_BadPrice, x3_BadPrice, x4_BadPrice⟩, m_BadPrice := PySem.W.exm_ref x2_GiftError x6_GiftError x3_GiftError x5_BadPrice, e_BadPrice := ⟨ea_BadPrice, eb_BadPrice, x2_BadPrice, ed_BadPrice, ee_BadPrice, ef_BadPrice, eg_BadPrice, eh_BadPrice⟩, k_BadPrice_BadPeople := j_BadPrice_BadPeople, k_BadPrice_BadPerson := j_BadPrice_BadPerson, k_BadPrice_BadWord := j_BadPrice_BadWord, k_BadPrice_BadPrice := j_BadPrice_BadPrice, k_BadPrice_BadMany := j_BadPrice_BadMany, k_BadPrice_BadWish := j_BadPrice_BadWish, k_BadPrice_BadAmount := j_BadPrice_BadAmount, k_BadPrice_BadDeeds := j_BadPrice_BadDeeds, k_BadPrice_BadPurses := j_BadPrice_BadPurses, k_BadPrice_NoneFree := j_BadPrice_NoneFree, k_BadPrice_TooMuch := j_BadPrice_TooMuch, k_BadPrice_TooMany := j_BadPrice_TooMany, v_BadPrice := j_BadPrice_ValueError, x_BadMany := ⟨PySem.W.mg_of X G aC_BadMany, kC_BadMany, x1_BadMany, x2_BadMany, x3_BadMany, x4_BadMany⟩, m_BadMany := PySem.W.exm_ref x2_GiftError x6_GiftError x3_GiftError x5_BadMany, e_BadMany := ⟨ea_BadMany, eb_BadMany, x2_BadMany, ed_BadMany, ee_BadMany, ef_BadMany, eg_BadMany, eh_BadMany⟩, k_BadMany_BadPeople := j_BadMany_BadPeople, k_BadMany_BadPerson := j_BadMany_BadPerson, k_BadMany_BadWord := j_BadMany_BadWord, k_BadMany_BadPrice := j_BadMany_BadPrice, k_BadMany_BadMany := j_BadMany_BadMany, k_BadMany_BadWish := j_BadMany_BadWish, k_BadMany_BadAmount := j_BadMany_BadAmount, k_BadMany_BadDeeds := j_BadMany_BadDeeds, k_BadMany_BadPurses := j_BadMany_BadPurses, k_BadMany_NoneFree := j_BadMany_NoneFree, k_BadMany_TooMuch := j_BadMany_TooMuch, k_BadMany_TooMany := j_BadMany_TooMany, v_BadMany := j_BadMany_ValueError, x_BadWish := ⟨PySem.W.mg_of X G aC_BadWish, kC_BadWish, x1_BadWish, x2_BadWish, x3_BadWish, x4_BadWish⟩, m_BadWish := PySem.W.exm_ref x2_GiftError x6_GiftError x3_GiftError x5_BadWish, e_BadWish := ⟨ea_BadWish, eb_BadWish, x2_BadWish, ed_BadWish, ee_BadWish, ef_BadWish, eg_BadWish, eh_BadWish⟩, k_BadWish_BadPeople := j_BadWish_BadPeople, k_BadWish_BadPerson := j_BadWish_BadPerson, k_BadWish_BadWord := j_BadWish_BadWord, k_BadWish_BadPrice := j_BadWish_BadPrice, k_BadWish_BadMany := j_BadWish_BadMany, k_BadWish_BadWish := j_BadWish_BadWish, k_BadWish_BadAmount := j_BadWish_BadAmount, k_BadWish_BadDeeds := j_BadWish_BadDeeds, k_BadWish_BadPurses := j_BadWish_BadPurses, k_BadWish_NoneFree := j_BadWish_NoneFree, k_BadWish_TooMuch := j_BadWish_TooMuch, k_BadWish_TooMany := j_BadWish_TooMany, v_BadWish := j_BadWish_ValueError, x_BadAmount := ⟨PySem.W.mg_of X G aC_BadAmount, kC_BadAmount, x1_BadAmount, x2_BadAmount, x3_BadAmount, x4_BadAmount⟩, m_BadAmount := PySem.W.exm_ref x2_GiftError x6_GiftError x3_GiftError x5_BadAmount, e_BadAmount := ⟨ea_BadAmount, eb_BadAmount, x2_BadAmount, ed_BadAmount, ee_BadAmount, ef_BadAmount, eg_BadAmount, eh_BadAmount⟩, k_BadAmount_BadPeople := j_BadAmount_BadPeople, k_BadAmount_BadPerson := j_BadAmount_BadPerson, k_BadAmount_BadWord := j_BadAmount_BadWord, k_BadAmount_BadPrice := j_BadAmount_BadPrice, k_BadAmount_BadMany := j_BadAmount_BadMany, k_BadAmount_BadWish := j_BadAmount_BadWish, k_BadAmount_BadAmount := j_BadAmount_BadAmount, k_BadAmount_BadDeeds := j_BadAmount_BadDeeds, k_BadAmount_BadPurses := j_BadAmount_BadPurses, k_BadAmount_NoneFree := j_BadAmount_NoneFree, k_BadAmount_TooMuch := j_BadAmount_TooMuch, k_BadAmount_TooMany := j_BadAmount_TooMany, v_BadAmount := j_BadAmount_ValueError, x_BadDeeds := ⟨PySem.W.mg_of X G aC_BadDeeds, kC_BadDeeds, x1_BadDeeds, x2_BadDeeds, x3_BadDeeds, x4_BadDeeds⟩, m_BadDeeds := PySem.W.exm_ref x2_GiftError x6_GiftError x3_GiftError x5_BadDeeds, x_BadPurses := ⟨PySem.W.mg_of X G aC_BadPurses, kC_BadPurses, x1_BadPurses, x2_BadPurses, x3_BadPurses, x4_BadPurses⟩, m_BadPurses := PySem.W.exm_ref x2_GiftError x6_GiftError x3_GiftError x5_BadPurses, x_NoneFree := ⟨PySem.W.mg_of X G aC_NoneFree, kC_NoneFree, x1_NoneFree, x2_NoneFree, x3_NoneFree, x4_NoneFree⟩, m_NoneFree := PySem.W.exm_ref x2_GiftError x6_GiftError x3_GiftError x5_NoneFree, e_NoneFree := ⟨ea_NoneFree, eb_NoneFree, x2_NoneFree, ed_NoneFree, ee_NoneFree, ef_NoneFree, eg_NoneFree, eh_NoneFree⟩, k_NoneFree_BadPeople := j_NoneFree_BadPeople, k_NoneFree_BadPerson := j_NoneFree_BadPerson, k_NoneFree_BadWord := j_NoneFree_BadWord, k_NoneFree_BadPrice := j_NoneFree_BadPrice, k_NoneFree_BadMany := j_NoneFree_BadMany, k_NoneFree_BadWish := j_NoneFree_BadWish, k_NoneFree_BadAmount := j_NoneFree_BadAmount, k_NoneFree_BadDeeds := j_NoneFree_BadDeeds, k_NoneFree_BadPurses := j_NoneFree_BadPurses, k_NoneFree_NoneFree := j_NoneFree_NoneFree, k_NoneFree_TooMuch := j_NoneFree_TooMuch, k_NoneFree_TooMany := j_NoneFree_TooMany, v_NoneFree := j_NoneFree_ValueError, x_TooMuch := ⟨PySem.W.mg_of X G aC_TooMuch, kC_TooMuch, x1_TooMuch, x2_TooMuch, x3_TooMuch, x4_TooMuch⟩, m_TooMuch := PySem.W.exm_ref x2_GiftError x6_GiftError x3_GiftError x5_TooMuch, e_TooMuch := ⟨ea_TooMuch, eb_TooMuch, x2_TooMuch, ed_TooMuch, ee_TooMuch, ef_TooMuch, eg_TooMuch, eh_TooMuch⟩, k_TooMuch_BadPeople := j_TooMuch_BadPeople, k_TooMuch_BadPerson := j_TooMuch_BadPerson, k_TooMuch_BadWord := j_TooMuch_BadWord, k_TooMuch_BadPrice := j_TooMuch_BadPrice, k_TooMuch_BadMany := j_TooMuch_BadMany, k_TooMuch_BadWish := j_TooMuch_BadWish, k_TooMuch_BadAmount := j_TooMuch_BadAmount, k_TooMuch_BadDeeds := j_TooMuch_BadDeeds, k_TooMuch_BadPurses := j_TooMuch_BadPurses, k_TooMuch_NoneFree := j_TooMuch_NoneFree, k_TooMuch_TooMuch := j_TooMuch_TooMuch, k_TooMuch_TooMany := j_TooMuch_TooMany, v_TooMuch := j_TooMuch_ValueError, x_TooMany := ⟨PySem.W.mg_of X G aC_TooMany, kC_TooMany, x1_TooMany, x2_TooMany, x3_TooMany, x4_TooMany⟩, m_TooMany := PySem.W.exm_ref x2_GiftError x6_GiftError x3_GiftError x5_TooMany, e_TooMany := ⟨ea_TooMany, eb_TooMany, x2_TooMany, ed_TooMany, ee_TooMany, ef_TooMany, eg_TooMany, eh_TooMany⟩, k_TooMany_BadPeople := j_TooMany_BadPeople, k_TooMany_BadPerson := j_TooMany_BadPerson, k_TooMany_BadWord := j_TooMany_BadWord, k_TooMany_BadPrice := j_TooMany_BadPrice, k_TooMany_BadMany := j_TooMany_BadMany, k_TooMany_BadWish := j_TooMany_BadWish, k_TooMany_BadAmount := j_TooMany_BadAmount, k_TooMany_BadDeeds := j_TooMany_BadDeeds, k_TooMany_BadPurses := j_TooMany_BadPurses, k_TooMany_NoneFree := j_TooMany_NoneFree, k_TooMany_TooMuch := j_TooMany_TooMuch, k_TooMany_TooMany := j_TooMany_TooMany, v_TooMany := j_TooMany_ValueError, c_Wish := PySem.W.mg_of X G aC_Wish, cl_Wish := ⟨c1_Wish, c2_Wish, c3_Wish, c4_Wish⟩, mk_Wish := ⟨c5_Wish, a_Wish_init, i_Wish_init, kC_Wish⟩, na_Wish_owner := y_Wish_owner, na_Wish_word := y_Wish_word, na_Wish_price := y_Wish_price, na_Wish_many := y_Wish_many, na_Wish_stands := y_Wish_stands, na_Wish_takings := y_Wish_takings, na_Wish_pledges := y_Wish_pledges, c_Gifts := PySem.W.mg_of X G aC_Gifts, cl_Gifts := ⟨c1_Gifts, c2_Gifts, c3_Gifts, c4_Gifts⟩, mk_Gifts := ⟨c5_Gifts, a_Gifts_init, i_Gifts_init, kC_Gifts⟩, na_Gifts_people := y_Gifts_people, na_Gifts_wishes := y_Gifts_wishes, g_LETTERS := PySem.W.mg_of X G u_LETTERS, g_MOST_PEOPLE := PySem.W.mg_of X G u_MOST_PEOPLE, g_MOST_WORD := PySem.W.mg_of X G u_MOST_WORD, g_MOST_PRICE := PySem.W.mg_of X G u_MOST_PRICE, g_MOST_PIECES := PySem.W.mg_of X G u_MOST_PIECES, g_MOST_WISHES := PySem.W.mg_of X G u_MOST_WISHES, n_ValueError := PySem.W.mg_none_of X G z_ValueError, n_all := PySem.W.mg_none_of X G z_all, n_bool := PySem.W.mg_none_of X G z_bool, n_enumerate := PySem.W.mg_none_of X G z_enumerate, n_int := PySem.W.mg_none_of X G z_int, n_isinstance := PySem.W.mg_none_of X G z_isinstance, n_len := PySem.W.mg_none_of X G z_len, n_max := PySem.W.mg_none_of X G z_max, n_range := PySem.W.mg_none_of X G z_range, n_sorted := PySem.W.mg_none_of X G z_sorted, n_str := PySem.W.mg_none_of X G z_str, n_sum := PySem.W.mg_none_of X G z_sum }
  have H_law_persons_right := hT _ _ _ (by simp) tb_law_persons_right
  have H_law_wishes_right := hT _ _ _ (by simp) tb_law_wishes_right
  have H_law_numbers_right := hT _ _ _ (by simp) tb_law_numbers_right
  have H_law := hT _ _ _ (by simp) tb_law
  refine ⟨a.d_law, [(cc_law_persons_right, cP_law_persons_right), (cc_law_wishes_right, cP_law_wishes_right), (cc_law_numbers_right, cP_law_numbers_right), (cc_law, cP_law)], sp_law K a, List.forall_mem_cons.mpr ⟨H_law_persons_right.2, List.forall_mem_cons.mpr ⟨H_law_wishes_right.2, List.forall_mem_cons.mpr ⟨H_law_numbers_right.2, List.forall_mem_cons.mpr ⟨H_law.2, nofun⟩⟩⟩⟩, List.forall_mem_cons.mpr ⟨tn_law_persons_right, List.forall_mem_cons.mpr ⟨tn_law_wishes_right, List.forall_mem_cons.mpr ⟨tn_law_numbers_right, List.forall_mem_cons.mpr ⟨tn_law, nofun⟩⟩⟩⟩, List.forall_mem_cons.mpr ⟨H_law_persons_right.1, List.forall_mem_cons.mpr ⟨H_law_wishes_right.1, List.forall_mem_cons.mpr ⟨H_law_numbers_right.1, List.forall_mem_cons.mpr ⟨H_law.1, nofun⟩⟩⟩⟩, fun s v => .of_eq rfl, fun H a' ns hl hb hc hS => law_in hl hb (a := a) hc hS td_01 td_02 td_03 td_12 td_13 td_23, fun base _ _ hB => ok_law (a := a) T (hB (cc_law_persons_right, cP_law_persons_right) (by simp)) (hB (cc_law_wishes_right, cP_law_wishes_right) (by simp)) (hB (cc_law_numbers_right, cP_law_numbers_right) (by simp)) (hB (cc_law, cP_law) (by simp))⟩
end PP
open PySem PySem.W PyProof.Rows in
set_option maxRecDepth 100000 in
set_option maxHeartbeats 0 in
theorem PySem.Challenge.cw_giftlist_k09_refused_deeds_holds : PySem.Challenge.rw_giftlist_k09_refused_deeds.Holds := by
  w_on; o_law; k_head; (case hw => w_witness2)
  k_fill
  refine PP.tabs_end (l := PySem.Challenge.rw_giftlist_k09_refused_deeds) (n := 63) (k := 11) (x := "_law_script") ["_law_persons_right", "_law_wishes_right", "_law_numbers_right", "law"] rfl (by decide) rfl ⟨rfl, by decide, by decide⟩ (by first | rfl | decide +kernel) (fun w h Y => by first | exact PySem.W.kIn_of Y | exact PySem.W.km_in_of Y) ?F
  case F =>
    intro w mg fa h KX G hmg hT
    refine' PP.all_mk KX G hmg ?aC_GiftError ?kC_GiftError ?aC_BadPeople ?kC_BadPeople ?aC_BadPerson ?kC_BadPerson ?aC_BadWord ?kC_BadWord ?aC_BadPrice ?kC_BadPrice ?aC_BadMany ?kC_BadMany ?aC_BadWish ?kC_BadWish ?aC_BadAmount ?kC_BadAmount ?aC_BadDeeds ?kC_BadDeeds ?aC_BadPurses ?kC_BadPurses ?aC_NoneFree ?kC_NoneFree ?aC_TooMuch ?kC_TooMuch ?aC_TooMany ?kC_TooMany ?aC_Wish ?kC_Wish ?aC_Gifts ?kC_Gifts ?a_is_whole ?l_is_whole ?b_is_whole ?k_is_whole ?a_is_count ?l_is_count ?b_is_count ?k_is_count ?a_is_word ?l_is_word ?b_is_word ?k_is_word ?a_Wish_init ?i_Wish_init ?l_Wish_init ?b_Wish_init ?k_Wish_init ?a_Wish_free ?i_Wish_free ?l_Wish_free ?b_Wish_free ?k_Wish_free ?a_Wish_lacking ?i_Wish_lacking ?l_Wish_lacking ?b_Wish_lacking ?k_Wish_lacking ?a_Wish_done ?i_Wish_done ?l_Wish_done ?b_Wish_done ?k_Wish_done ?a_Gifts_init ?i_Gifts_init ?l_Gifts_init ?b_Gifts_init ?k_Gifts_init ?a_Gifts_look_at ?i_Gifts_look_at ?l_Gifts_look_at ?b_Gifts_look_at ?k_Gifts_look_at ?a_Gifts_own_wish ?i_Gifts_own_wish ?l_Gifts_own_wish ?b_Gifts_own_wish ?k_Gifts_own_wish ?a_Gifts_other_wish ?i_Gifts_other_wish ?l_Gifts_other_wish ?b_Gifts_other_wish ?k_Gifts_other_wish ?a_Gifts_wish ?i_Gifts_wish ?l_Gifts_wish ?b_Gifts_wish ?k_Gifts_wish ?a_Gifts_alter ?i_Gifts_alter ?l_Gifts_alter ?b_Gifts_alter ?k_Gifts_alter ?a_Gifts_drop ?i_Gifts_drop ?l_Gifts_drop ?b_Gifts_drop ?k_Gifts_drop ?a_Gifts_take ?i_Gifts_take ?l_Gifts_take ?b_Gifts_take ?k_Gifts_take ?a_Gifts_pledge ?i_Gifts_pledge ?l_Gifts_pledge ?b_Gifts_pledge ?k_Gifts_pledge ?a_Gifts_back ?i_Gifts_back ?l_Gifts_back ?b_Gifts_back ?k_Gifts_back ?a_Gifts_seen ?i_Gifts_seen ?l_Gifts_seen ?b_Gifts_seen ?k_Gifts_seen ?a_law_cell_at ?l_law_cell_at ?b_law_cell_at ?k_law_cell_at ?a_law_draw ?l_law_draw ?b_law_draw ?k_law_draw ?a_law_value ?l_law_value ?b_law_value ?k_law_value ?a_law_kinds ?l_law_kinds ?b_law_kinds ?k_law_kinds ?a_law_due_of ?l_law_due_of ?b_law_due_of ?k_law_due_of ?a_law_strange ?l_law_strange ?b_law_strange ?k_law_strange ?a_law_no_words ?l_law_no_words ?b_law_no_words ?k_law_no_words ?a_law_persons_right ?l_law_persons_right ?b_law_persons_right ?tb_law_persons_right ?tn_law_persons_right ?k_law_persons_right ?a_law_wishes_right ?l_law_wishes_right ?b_law_wishes_right ?tb_law_wishes_right ?tn_law_wishes_right ?k_law_wishes_right ?a_law_numbers_right ?l_law_numbers_right ?b_law_numbers_right ?tb_law_numbers_right ?tn_law_numbers_right ?k_law_numbers_right ?a_law ?l_law ?b_law ?tb_law ?tn_law ?k_law ?td_01 ?td_02 ?td_03 ?td_12 ?td_13 ?td_23 ?x1_GiftError ?x2_GiftError ?x3_GiftError ?x4_GiftError ?x5_GiftError ?x6_GiftError ?x1_BadPeople ?x2_BadPeople ?x3_BadPeople ?x4_BadPeople ?x5_BadPeople ?ea_BadPeople ?eb_BadPeople ?ed_BadPeople ?ee_BadPeople ?ef_BadPeople ?eg_BadPeople ?eh_BadPeople ?j_BadPeople_BadPeople ?j_BadPeople_BadPerson ?j_BadPeople_BadWord ?j_BadPeople_BadPrice ?j_BadPeople_BadMany ?j_BadPeople_BadWish ?j_BadPeople_BadAmount ?j_BadPeople_BadDeeds ?j_BadPeople_BadPurses ?j_BadPeople_NoneFree ?j_BadPeople_TooMuch ?j_BadPeople_TooMany ?j_BadPeople_ValueError ?x1_BadPerson ?x2_BadPerson ?x3_BadPerson ?x4_BadPerson ?x5_BadPerson ?ea_BadPerson ?eb_BadPerson ?ed_BadPerson ?ee_BadPerson ?ef_BadPerson ?eg_BadPerson ?eh_BadPerson ?j_BadPerson_BadPeople ?j_BadPerson_BadPerson ?j_BadPerson_BadWord ?j_BadPerson_BadPrice ?j_BadPerson_BadMany ?j_BadPerson_BadWish ?j_BadPerson_BadAmount ?j_BadPerson_BadDeeds ?j_BadPerson_BadPurses ?j_BadPerson_NoneFree ?j_BadPerson_TooMuch ?j_BadPerson_TooMany ?j_BadPerson_ValueError ?x1_BadWord ?x2_BadWord ?x3_BadWord ?x4_BadWord ?x5_BadWord ?ea_BadWord ?eb_BadWord ?ed_BadWord ?ee_BadWord ?ef_BadWord ?eg_BadWord ?eh_BadWord ?j_BadWord_BadPeople ?j_BadWord_BadPerson ?j_BadWord_BadWord ?j_BadWord_BadPrice ?j_BadWord_BadMany ?j_BadWord_BadWish ?j_BadWord_BadAmount ?j_BadWord_BadDeeds ?j_BadWord_BadPurses ?j_BadWord_NoneFree ?j_BadWord_TooMuch ?j_BadWord_TooMany ?j_BadWord_ValueError ?x1_BadPrice ?x2_BadPrice ?x3_BadPrice ?x4_BadPrice ?x5_BadPrice ?ea_BadPrice ?eb_BadPrice ?ed_BadPrice ?ee_BadPrice ?ef_BadPrice ?eg_BadPrice ?eh_BadPrice ?j_BadPrice_BadPeople ?j_BadPrice_BadPerson ?j_BadPrice_BadWord ?j_BadPrice_BadPrice ?j_BadPrice_BadMany ?j_BadPrice_BadWish ?j_BadPrice_BadAmount ?j_BadPrice_BadDeeds ?j_BadPrice_BadPurses ?j_BadPrice_NoneFree ?j_BadPrice_TooMuch ?j_BadPrice_TooMany ?j_BadPrice_ValueError ?x1_BadMany ?x2_BadMany ?x3_BadMany ?x4_BadMany ?x5_BadMany ?ea_BadMany ?eb_BadMany ?ed_BadMany ?ee_BadMany ?ef_BadMany ?eg_BadMany ?eh_BadMany ?j_BadMany_BadPeople ?j_BadMany_BadPerson ?j_BadMany_BadWord ?j_BadMany_BadPrice ?j_BadMany_BadMany ?j_BadMany_BadWish ?j_BadMany_BadAmount ?j_BadMany_BadDeeds ?j_BadMany_BadPurses ?j_BadMany_NoneFree ?j_BadMany_TooMuch ?j_BadMany_TooMany ?j_BadMany_ValueError ?x1_BadWish ?x2_BadWish ?x3_BadWish ?x4_BadWish ?x5_BadWish ?ea_BadWish ?eb_BadWish ?ed_BadWish ?ee_BadWish ?ef_BadWish ?eg_BadWish ?eh_BadWish ?j_BadWish_BadPeople ?j_BadWish_BadPerson ?j_BadWish_BadWord ?j_BadWish_BadPrice ?j_BadWish_BadMany ?j_BadWish_BadWish ?j_BadWish_BadAmount ?j_BadWish_BadDeeds ?j_BadWish_BadPurses ?j_BadWish_NoneFree ?j_BadWish_TooMuch ?j_BadWish_TooMany ?j_BadWish_ValueError ?x1_BadAmount ?x2_BadAmount ?x3_BadAmount ?x4_BadAmount ?x5_BadAmount ?ea_BadAmount ?eb_BadAmount ?ed_BadAmount ?ee_BadAmount ?ef_BadAmount ?eg_BadAmount ?eh_BadAmount ?j_BadAmount_BadPeople ?j_BadAmount_BadPerson ?j_BadAmount_BadWord ?j_BadAmount_BadPrice ?j_BadAmount_BadMany ?j_BadAmount_BadWish ?j_BadAmount_BadAmount ?j_BadAmount_BadDeeds ?j_BadAmount_BadPurses ?j_BadAmount_NoneFree ?j_BadAmount_TooMuch ?j_BadAmount_TooMany ?j_BadAmount_ValueError ?x1_BadDeeds ?x2_BadDeeds ?x3_BadDeeds ?x4_BadDeeds ?x5_BadDeeds ?x1_BadPurses ?x2_BadPurses ?x3_BadPurses ?x4_BadPurses ?x5_BadPurses ?x1_NoneFree ?x2_NoneFree ?x3_NoneFree ?x4_NoneFree ?x5_NoneFree ?ea_NoneFree ?eb_NoneFree ?ed_NoneFree ?ee_NoneFree ?ef_NoneFree ?eg_NoneFree ?eh_NoneFree ?j_NoneFree_BadPeople ?j_NoneFree_BadPerson ?j_NoneFree_BadWord ?j_NoneFree_BadPrice ?j_NoneFree_BadMany ?j_NoneFree_BadWish ?j_NoneFree_BadAmount ?j_NoneFree_BadDeeds ?j_NoneFree_BadPurses ?j_NoneFree_NoneFree ?j_NoneFree_TooMuch ?j_NoneFree_TooMany ?j_NoneFree_ValueError ?x1_TooMuch ?x2_TooMuch ?x3_TooMuch ?x4_TooMuch ?x5_TooMuch ?ea_TooMuch ?eb_TooMuch ?ed_TooMuch ?ee_TooMuch ?ef_TooMuch ?eg_TooMuch ?eh_TooMuch ?j_TooMuch_BadPeople ?j_TooMuch_BadPerson ?j_TooMuch_BadWord ?j_TooMuch_BadPrice ?j_TooMuch_BadMany ?j_TooMuch_BadWish ?j_TooMuch_BadAmount ?j_TooMuch_BadDeeds ?j_TooMuch_BadPurses ?j_TooMuch_NoneFree ?j_TooMuch_TooMuch ?j_TooMuch_TooMany ?j_TooMuch_ValueError ?x1_TooMany ?x2_TooMany ?x3_TooMany ?x4_TooMany ?x5_TooMany ?ea_TooMany ?eb_TooMany ?ed_TooMany ?ee_TooMany ?ef_TooMany ?eg_TooMany ?eh_TooMany ?j_TooMany_BadPeople ?j_TooMany_BadPerson ?j_TooMany_BadWord ?j_TooMany_BadPrice ?j_TooMany_BadMany ?j_TooMany_BadWish ?j_TooMany_BadAmount ?j_TooMany_BadDeeds ?j_TooMany_BadPurses ?j_TooMany_NoneFree ?j_TooMany_TooMuch ?j_TooMany_TooMany ?j_TooMany_ValueError ?c1_Wish ?c2_Wish ?c3_Wish ?c4_Wish ?c5_Wish ?y_Wish_owner ?y_Wish_word ?y_Wish_price ?y_Wish_many ?y_Wish_stands ?y_Wish_takings ?y_Wish_pledges ?c1_Gifts ?c2_Gifts ?c3_Gifts ?c4_Gifts ?c5_Gifts ?y_Gifts_people ?y_Gifts_wishes ?u_LETTERS ?u_MOST_PEOPLE ?u_MOST_WORD ?u_MOST_PRICE ?u_MOST_PIECES ?u_MOST_WISHES ?z_ValueError ?z_all ?z_bool ?z_enumerate ?z_int ?z_isinstance ?z_len ?z_max ?z_range ?z_sorted ?z_str ?z_sum hT
    (case aC_GiftError => k_is)
    (case kC_GiftError => k_is)
    (case aC_BadPeople => k_is)
    (case kC_BadPeople => k_is)
    (case aC_BadPerson => k_is)
    (case kC_BadPerson => k_is)
    (case aC_BadWord => k_is)
    (case kC_BadWord => k_is)
    (case aC_BadPrice => k_is)
    (case kC_BadPrice => k_is)
    (case aC_BadMany => k_is)
    (case kC_BadMany => k_is)
    (case aC_BadWish => k_is)
    (case kC_BadWish => k_is)
    (case aC_BadAmount => k_is)
    (case kC_BadAmount => k_is)
    (case aC_BadDeeds => k_is)
    (case kC_BadDeeds => k_is)
    (case aC_BadPurses => k_is)
    (case kC_BadPurses => k_is)
    (case aC_NoneFree => k_is)
    (case kC_NoneFree => k_is)
    (case aC_TooMuch => k_is)
    (case kC_TooMuch => k_is)
    (case aC_TooMany => k_is)
    (case kC_TooMany => k_is)
    (case aC_Wish => k_is)
    (case kC_Wish => k_is)
    (case aC_Gifts => k_is)
    (case kC_Gifts => k_is)
    (case a_is_whole => k_is)
    (case l_is_whole => k_is)
    (case b_is_whole => k_is)
    (case k_is_whole => k_is)
    (case a_is_count => k_is)
    (case l_is_count => k_is)
    (case b_is_count => k_is)
    (case k_is_count => k_is)
    (case a_is_word => k_is)
    (case l_is_word => k_is)
    (case b_is_word => k_is)
    (case k_is_word => k_is)
    (case a_Wish_init => k_is)
    (case i_Wish_init => k_is)
    (case l_Wish_init => k_is)
    (case b_Wish_init => k_is)
    (case k_Wish_init => k_is)
    (case a_Wish_free => k_is)
    (case i_Wish_free => k_is)
    (case l_Wish_free => k_is)
    (case b_Wish_free => k_is)
    (case k_Wish_free => k_is)
    (case a_Wish_lacking => k_is)
    (case i_Wish_lacking => k_is)
    (case l_Wish_lacking => k_is)
    (case b_Wish_lacking => k_is)
    (case k_Wish_lacking => k_is)
    (case a_Wish_done => k_is)
    (case i_Wish_done => k_is)
    (case l_Wish_done => k_is)
    (case b_Wish_done => k_is)
    (case k_Wish_done => k_is)
    (case a_Gifts_init => k_is)
    (case i_Gifts_init => k_is)
    (case l_Gifts_init => k_is)
    (case b_Gifts_init => k_is)
    (case k_Gifts_init => k_is)
    (case a_Gifts_look_at => k_is)
    (case i_Gifts_look_at => k_is)
    (case l_Gifts_look_at => k_is)
    (case b_Gifts_look_at => k_is)
    (case k_Gifts_look_at => k_is)
    (case a_Gifts_own_wish => k_is)
    (case i_Gifts_own_wish => k_is)
    (case l_Gifts_own_wish => k_is)
    (case b_Gifts_own_wish => k_is)
    (case k_Gifts_own_wish => k_is)
    (case a_Gifts_other_wish => k_is)
    (case i_Gifts_other_wish => k_is)
    (case l_Gifts_other_wish => k_is)
    (case b_Gifts_other_wish => k_is)
    (case k_Gifts_other_wish => k_is)
    (case a_Gifts_wish => k_is)
    (case i_Gifts_wish => k_is)
    (case l_Gifts_wish => k_is)
    (case b_Gifts_wish => k_is)
    (case k_Gifts_wish => k_is)
    (case a_Gifts_alter => k_is)
    (case i_Gifts_alter => k_is)
    (case l_Gifts_alter => k_is)
    (case b_Gifts_alter => k_is)
    (case k_Gifts_alter => k_is)
    (case a_Gifts_drop => k_is)
    (case i_Gifts_drop => k_is)
    (case l_Gifts_drop => k_is)
    (case b_Gifts_drop => k_is)
    (case k_Gifts_drop => k_is)
    (case a_Gifts_take => k_is)
    (case i_Gifts_take => k_is)
    (case l_Gifts_take => k_is)
    (case b_Gifts_take => k_is)
    (case k_Gifts_take => k_is)
    (case a_Gifts_pledge => k_is)
    (case i_Gifts_pledge => k_is)
    (case l_Gifts_pledge => k_is)
    (case b_Gifts_pledge => k_is)
    (case k_Gifts_pledge => k_is)
    (case a_Gifts_back => k_is)
    (case i_Gifts_back => k_is)
    (case l_Gifts_back => k_is)
    (case b_Gifts_back => k_is)
    (case k_Gifts_back => k_is)
    (case a_Gifts_seen => k_is)
    (case i_Gifts_seen => k_is)
    (case l_Gifts_seen => k_is)
    (case b_Gifts_seen => k_is)
    (case k_Gifts_seen => k_is)
    (case a_law_cell_at => k_is)
    (case l_law_cell_at => k_is)
    (case b_law_cell_at => k_is)
    (case k_law_cell_at => k_is)
    (case a_law_draw => k_is)
    (case l_law_draw => k_is)
    (case b_law_draw => k_is)
    (case k_law_draw => k_is)
    (case a_law_value => k_is)
    (case l_law_value => k_is)
    (case b_law_value => k_is)
    (case k_law_value => k_is)
    (case a_law_kinds => k_is)
    (case l_law_kinds => k_is)
    (case b_law_kinds => k_is)
    (case k_law_kinds => k_is)
    (case a_law_due_of => k_is)
    (case l_law_due_of => k_is)
    (case b_law_due_of => k_is)
    (case k_law_due_of => k_is)
    (case a_law_strange => k_is)
    (case l_law_strange => k_is)
    (case b_law_strange => k_is)
    (case k_law_strange => k_is)
    (case a_law_no_words => k_is)
    (case l_law_no_words => k_is)
    (case b_law_no_words => k_is)
    (case k_law_no_words => k_is)
    (case a_law_persons_right => k_is)
    (case l_law_persons_right => k_is)
    (case b_law_persons_right => k_is)
    (case tb_law_persons_right => first | rfl | k_is)
    (case tn_law_persons_right => first | rfl | k_is)
    (case k_law_persons_right => k_is)
    (case a_law_wishes_right => k_is)
    (case l_law_wishes_right => k_is)
    (case b_law_wishes_right => k_is)
    (case tb_law_wishes_right => first | rfl | k_is)
    (case tn_law_wishes_right => first | rfl | k_is)
    (case k_law_wishes_right => k_is)
    (case a_law_numbers_right => k_is)
    (case l_law_numbers_right => k_is)
    (case b_law_numbers_right => k_is)
    (case tb_law_numbers_right => first | rfl | k_is)
    (case tn_law_numbers_right => first | rfl | k_is)
    (case k_law_numbers_right => k_is)
    (case a_law => k_is)
    (case l_law => k_is)
    (case b_law => k_is)
    (case tb_law => first | rfl | k_is)
    (case tn_law => first | rfl | k_is)
    (case k_law => k_is)
    (case td_01 => decide)
    (case td_02 => decide)
    (case td_03 => decide)
    (case td_12 => decide)
    (case td_13 => decide)
    (case td_23 => decide)
    (case x1_GiftError => k_exc)
    (case x2_GiftError => k_is)
    (case x3_GiftError => k_is)
    (case x4_GiftError => k_is)
    (case x5_GiftError => first | rfl | k_is)
    (case x6_GiftError => k_is)
    (case x1_BadPeople => k_exc)
    (case x2_BadPeople => k_is)
    (case x3_BadPeople => k_is)
    (case x4_BadPeople => k_is)
    (case x5_BadPeople => first | rfl | k_is)
    (case ea_BadPeople => k_is)
    (case eb_BadPeople => k_is)
    (case ed_BadPeople => k_is)
    (case ee_BadPeople => k_is)
    (case ef_BadPeople => k_is)
    (case eg_BadPeople => k_is)
    (case eh_BadPeople => k_is)
    (case j_BadPeople_BadPeople => first | rfl | k_is)
    (case j_BadPeople_BadPerson => first | rfl | k_is)
    (case j_BadPeople_BadWord => first | rfl | k_is)
    (case j_BadPeople_BadPrice => first | rfl | k_is)
    (case j_BadPeople_BadMany => first | rfl | k_is)
    (case j_BadPeople_BadWish => first | rfl | k_is)
    (case j_BadPeople_BadAmount => first | rfl | k_is)
    (case j_BadPeople_BadDeeds => first | rfl | k_is)
    (case j_BadPeople_BadPurses => first | rfl | k_is)
    (case j_BadPeople_NoneFree => first | rfl | k_is)
    (case j_BadPeople_TooMuch => first | rfl | k_is)
    (case j_BadPeople_TooMany => first | rfl | k_is)
    (case j_BadPeople_ValueError => first | rfl | k_is)
    (case x1_BadPerson => k_exc)
    (case x2_BadPerson => k_is)
    (case x3_BadPerson => k_is)
    (case x4_BadPerson => k_is)
    (case x5_BadPerson => first | rfl | k_is)
    (case ea_BadPerson => k_is)
    (case eb_BadPerson => k_is)
    (case ed_BadPerson => k_is)
    (case ee_BadPerson => k_is)
    (case ef_BadPerson => k_is)
    (case eg_BadPerson => k_is)
    (case eh_BadPerson => k_is)
    (case j_BadPerson_BadPeople => first | rfl | k_is)
    (case j_BadPerson_BadPerson => first | rfl | k_is)
    (case j_BadPerson_BadWord => first | rfl | k_is)
    (case j_BadPerson_BadPrice => first | rfl | k_is)
    (case j_BadPerson_BadMany => first | rfl | k_is)
    (case j_BadPerson_BadWish => first | rfl | k_is)
    (case j_BadPerson_BadAmount => first | rfl | k_is)
    (case j_BadPerson_BadDeeds => first | rfl | k_is)
    (case j_BadPerson_BadPurses => first | rfl | k_is)
    (case j_BadPerson_NoneFree => first | rfl | k_is)
    (case j_BadPerson_TooMuch => first | rfl | k_is)
    (case j_BadPerson_TooMany => first | rfl | k_is)
    (case j_BadPerson_ValueError => first | rfl | k_is)
    (case x1_BadWord => k_exc)
    (case x2_BadWord => k_is)
    (case x3_BadWord => k_is)
    (case x4_BadWord => k_is)
    (case x5_BadWord => first | rfl | k_is)
    (case ea_BadWord => k_is)
    (case eb_BadWord => k_is)
    (case ed_BadWord => k_is)
    (case ee_BadWord => k_is)
    (case ef_BadWord => k_is)
    (case eg_BadWord => k_is)
    (case eh_BadWord => k_is)
    (case j_BadWord_BadPeople => first | rfl | k_is)
    (case j_BadWord_BadPerson => first | rfl | k_is)
    (case j_BadWord_BadWord => first | rfl | k_is)
    (case j_BadWord_BadPrice => first | rfl | k_is)
    (case j_BadWord_BadMany => first | rfl | k_is)
    (case j_BadWord_BadWish => first | rfl | k_is)
    (case j_BadWord_BadAmount => first | rfl | k_is)
    (case j_BadWord_BadDeeds => first | rfl | k_is)
    (case j_BadWord_BadPurses => first | rfl | k_is)
    (case j_BadWord_NoneFree => first | rfl | k_is)
    (case j_BadWord_TooMuch => first | rfl | k_is)
    (case j_BadWord_TooMany => first | rfl | k_is)
    (case j_BadWord_ValueError => first | rfl | k_is)
    (case x1_BadPrice => k_exc)
    (case x2_BadPrice => k_is)
    (case x3_BadPrice => k_is)
    (case x4_BadPrice => k_is)
    (case x5_BadPrice => first | rfl | k_is)
    (case ea_BadPrice => k_is)
    (case eb_BadPrice => k_is)
    (case ed_BadPrice => k_is)
    (case ee_BadPrice => k_is)
    (case ef_BadPrice => k_is)
    (case eg_BadPrice => k_is)
    (case eh_BadPrice => k_is)
    (case j_BadPrice_BadPeople => first | rfl | k_is)
    (case j_BadPrice_BadPerson => first | rfl | k_is)
    (case j_BadPrice_BadWord => first | rfl | k_is)
    (case j_BadPrice_BadPrice => first | rfl | k_is)
    (case j_BadPrice_BadMany => first | rfl | k_is)
    (case j_BadPrice_BadWish => first | rfl | k_is)
    (case j_BadPrice_BadAmount => first | rfl | k_is)
    (case j_BadPrice_BadDeeds => first | rfl | k_is)
    (case j_BadPrice_BadPurses => first | rfl | k_is)
    (case j_BadPrice_NoneFree => first | rfl | k_is)
    (case j_BadPrice_TooMuch => first | rfl | k_is)
    (case j_BadPrice_TooMany => first | rfl | k_is)
    (case j_BadPrice_ValueError => first | rfl | k_is)
    (case x1_BadMany => k_exc)
    (case x2_BadMany => k_is)
    (case x3_BadMany => k_is)
    (case x4_BadMany => k_is)
    (case x5_BadMany => first | rfl | k_is)
    (case ea_BadMany => k_is)
    (case eb_BadMany => k_is)
    (case ed_BadMany => k_is)
    (case ee_BadMany => k_is)
    (case ef_BadMany => k_is)
    (case eg_BadMany => k_is)
    (case eh_BadMany => k_is)
    (case j_BadMany_BadPeople => first | rfl | k_is)
    (case j_BadMany_BadPerson => first | rfl | k_is)
    (case j_BadMany_BadWord => first | rfl | k_is)
    (case j_BadMany_BadPrice => first | rfl | k_is)
    (case j_BadMany_BadMany => first | rfl | k_is)
    (case j_BadMany_BadWish => first | rfl | k_is)
    (case j_BadMany_BadAmount => first | rfl | k_is)
    (case j_BadMany_BadDeeds => first | rfl | k_is)
    (case j_BadMany_BadPurses => first | rfl | k_is)
    (case j_BadMany_NoneFree => first | rfl | k_is)
    (case j_BadMany_TooMuch => first | rfl | k_is)
    (case j_BadMany_TooMany => first | rfl | k_is)
    (case j_BadMany_ValueError => first | rfl | k_is)
    (case x1_BadWish => k_exc)
    (case x2_BadWish => k_is)
    (case x3_BadWish => k_is)
    (case x4_BadWish => k_is)
    (case x5_BadWish => first | rfl | k_is)
    (case ea_BadWish => k_is)
    (case eb_BadWish => k_is)
    (case ed_BadWish => k_is)
    (case ee_BadWish => k_is)
    (case ef_BadWish => k_is)
    (case eg_BadWish => k_is)
    (case eh_BadWish => k_is)
    (case j_BadWish_BadPeople => first | rfl | k_is)
    (case j_BadWish_BadPerson => first | rfl | k_is)
    (case j_BadWish_BadWord => first | rfl | k_is)
    (case j_BadWish_BadPrice => first | rfl | k_is)
    (case j_BadWish_BadMany => first | rfl | k_is)
    (case j_BadWish_BadWish => first | rfl | k_is)
    (case j_BadWish_BadAmount => first | rfl | k_is)
    (case j_BadWish_BadDeeds => first | rfl | k_is)
    (case j_BadWish_BadPurses => first | rfl | k_is)
    (case j_BadWish_NoneFree => first | rfl | k_is)
    (case j_BadWish_TooMuch => first | rfl | k_is)
    (case j_BadWish_TooMany => first | rfl | k_is)
    (case j_BadWish_ValueError => first | rfl | k_is)
    (case x1_BadAmount => k_exc)
    (case x2_BadAmount => k_is)
    (case x3_BadAmount => k_is)
    (case x4_BadAmount => k_is)
    (case x5_BadAmount => first | rfl | k_is)
    (case ea_BadAmount => k_is)
    (case eb_BadAmount => k_is)
    (case ed_BadAmount => k_is)
    (case ee_BadAmount => k_is)
    (case ef_BadAmount => k_is)
    (case eg_BadAmount => k_is)
    (case eh_BadAmount => k_is)
    (case j_BadAmount_BadPeople => first | rfl | k_is)
    (case j_BadAmount_BadPerson => first | rfl | k_is)
    (case j_BadAmount_BadWord => first | rfl | k_is)
    (case j_BadAmount_BadPrice => first | rfl | k_is)
    (case j_BadAmount_BadMany => first | rfl | k_is)
    (case j_BadAmount_BadWish => first | rfl | k_is)
    (case j_BadAmount_BadAmount => first | rfl | k_is)
    (case j_BadAmount_BadDeeds => first | rfl | k_is)
    (case j_BadAmount_BadPurses => first | rfl | k_is)
    (case j_BadAmount_NoneFree => first | rfl | k_is)
    (case j_BadAmount_TooMuch => first | rfl | k_is)
    (case j_BadAmount_TooMany => first | rfl | k_is)
    (case j_BadAmount_ValueError => first | rfl | k_is)
    (case x1_BadDeeds => k_exc)
    (case x2_BadDeeds => k_is)
    (case x3_BadDeeds => k_is)
    (case x4_BadDeeds => k_is)
    (case x5_BadDeeds => first | rfl | k_is)
    (case x1_BadPurses => k_exc)
    (case x2_BadPurses => k_is)
    (case x3_BadPurses => k_is)
    (case x4_BadPurses => k_is)
    (case x5_BadPurses => first | rfl | k_is)
    (case x1_NoneFree => k_exc)
    (case x2_NoneFree => k_is)
    (case x3_NoneFree => k_is)
    (case x4_NoneFree => k_is)
    (case x5_NoneFree => first | rfl | k_is)
    (case ea_NoneFree => k_is)
    (case eb_NoneFree => k_is)
    (case ed_NoneFree => k_is)
    (case ee_NoneFree => k_is)
    (case ef_NoneFree => k_is)
    (case eg_NoneFree => k_is)
    (case eh_NoneFree => k_is)
    (case j_NoneFree_BadPeople => first | rfl | k_is)
    (case j_NoneFree_BadPerson => first | rfl | k_is)
    (case j_NoneFree_BadWord => first | rfl | k_is)
    (case j_NoneFree_BadPrice => first | rfl | k_is)
    (case j_NoneFree_BadMany => first | rfl | k_is)
    (case j_NoneFree_BadWish => first | rfl | k_is)
    (case j_NoneFree_BadAmount => first | rfl | k_is)
    (case j_NoneFree_BadDeeds => first | rfl | k_is)
    (case j_NoneFree_BadPurses => first | rfl | k_is)
    (case j_NoneFree_NoneFree => first | rfl | k_is)
    (case j_NoneFree_TooMuch => first | rfl | k_is)
    (case j_NoneFree_TooMany => first | rfl | k_is)
    (case j_NoneFree_ValueError => first | rfl | k_is)
    (case x1_TooMuch => k_exc)
    (case x2_TooMuch => k_is)
    (case x3_TooMuch => k_is)
    (case x4_TooMuch => k_is)
    (case x5_TooMuch => first | rfl | k_is)
    (case ea_TooMuch => k_is)
    (case eb_TooMuch => k_is)
    (case ed_TooMuch => k_is)
    (case ee_TooMuch => k_is)
    (case ef_TooMuch => k_is)
    (case eg_TooMuch => k_is)
    (case eh_TooMuch => k_is)
    (case j_TooMuch_BadPeople => first | rfl | k_is)
    (case j_TooMuch_BadPerson => first | rfl | k_is)
    (case j_TooMuch_BadWord => first | rfl | k_is)
    (case j_TooMuch_BadPrice => first | rfl | k_is)
    (case j_TooMuch_BadMany => first | rfl | k_is)
    (case j_TooMuch_BadWish => first | rfl | k_is)
    (case j_TooMuch_BadAmount => first | rfl | k_is)
    (case j_TooMuch_BadDeeds => first | rfl | k_is)
    (case j_TooMuch_BadPurses => first | rfl | k_is)
    (case j_TooMuch_NoneFree => first | rfl | k_is)
    (case j_TooMuch_TooMuch => first | rfl | k_is)
    (case j_TooMuch_TooMany => first | rfl | k_is)
    (case j_TooMuch_ValueError => first | rfl | k_is)
    (case x1_TooMany => k_exc)
    (case x2_TooMany => k_is)
    (case x3_TooMany => k_is)
    (case x4_TooMany => k_is)
    (case x5_TooMany => first | rfl | k_is)
    (case ea_TooMany => k_is)
    (case eb_TooMany => k_is)
    (case ed_TooMany => k_is)
    (case ee_TooMany => k_is)
    (case ef_TooMany => k_is)
    (case eg_TooMany => k_is)
    (case eh_TooMany => k_is)
    (case j_TooMany_BadPeople => first | rfl | k_is)
    (case j_TooMany_BadPerson => first | rfl | k_is)
    (case j_TooMany_BadWord => first | rfl | k_is)
    (case j_TooMany_BadPrice => first | rfl | k_is)
    (case j_TooMany_BadMany => first | rfl | k_is)
    (case j_TooMany_BadWish => first | rfl | k_is)
    (case j_TooMany_BadAmount => first | rfl | k_is)
    (case j_TooMany_BadDeeds => first | rfl | k_is)
    (case j_TooMany_BadPurses => first | rfl | k_is)
    (case j_TooMany_NoneFree => first | rfl | k_is)
    (case j_TooMany_TooMuch => first | rfl | k_is)
    (case j_TooMany_TooMany => first | rfl | k_is)
    (case j_TooMany_ValueError => first | rfl | k_is)
    (case c1_Wish => k_is)
    (case c2_Wish => k_is)
    (case c3_Wish => k_is)
    (case c4_Wish => k_is)
    (case c5_Wish => k_is)
    (case y_Wish_owner => k_is)
    (case y_Wish_word => k_is)
    (case y_Wish_price => k_is)
    (case y_Wish_many => k_is)
    (case y_Wish_stands => k_is)
    (case y_Wish_takings => k_is)
    (case y_Wish_pledges => k_is)
    (case c1_Gifts => k_is)
    (case c2_Gifts => k_is)
    (case c3_Gifts => k_is)
    (case c4_Gifts => k_is)
    (case c5_Gifts => k_is)
    (case y_Gifts_people => k_is)
    (case y_Gifts_wishes => k_is)
    (case u_LETTERS => k_is)
    (case u_MOST_PEOPLE => k_is)
    (case u_MOST_WORD => k_is)
    (case u_MOST_PRICE => k_is)
    (case u_MOST_PIECES => k_is)
    (case u_MOST_WISHES => k_is)
    (case z_ValueError => k_is)
    (case z_all => k_is)
    (case z_bool => k_is)
    (case z_enumerate => k_is)
    (case z_int => k_is)
    (case z_isinstance => k_is)
    (case z_len => k_is)
    (case z_max => k_is)
    (case z_range => k_is)
    (case z_sorted => k_is)
    (case z_str => k_is)
    (case z_sum => k_is)
#print axioms PySem.Challenge.cw_giftlist_k09_refused_deeds_holds

