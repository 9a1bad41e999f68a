import PyProof.Rows.All
import Wide.All
import OpenK.AllK
import Wide.FinOn
import PyProof.EqAt
import PyProof.EqKinds
import PyProof.TupleCall
import KE.KDictList
import KE.KDictCopyH
import HandS.ForMost
import HandS.ForExc
import HandS.IsInst
import HandS.Sort
import HandS.SortRule
import HandS.SortInts
import HandS.Deep
import HandS.ListItems
import HandS.Style
import HandS.Flow
import HandS.Wide
import HandS.More
import HandS.DictComp
import HandS.WrittenGet
import HandS.SetFor
import HandS.ExcIs
import HandS.EndBits
import HandS.Conv
import KE.GoesMore
import HandS.Walk
import PySem.Challenge.RW_giftlist_k03_whole_told
set_option Elab.async false
set_option linter.all false
set_option maxRecDepth 100000
set_option maxHeartbeats 2000000
/-! own rules and the small logic of heaps -/
namespace G
open PySem PySem.Spec PyProof.Rows L2

/-! ### unions of readings -/
theorem pe_both {X : Cx} {e : Expr} {t u : TE} (h : PE X e t) (h' : PE X e u) : PE X e (fun σ H Q => t σ H Q ∨ u σ H Q) :=
  ⟨fun pins s σ H Q I q => q.elim (fun z => h.run pins s σ H Q I z) (fun z => h'.run pins s σ H Q I z)⟩
theorem ps_both {X : Cx} {e : Stmt} {t u : TS} (h : PS X e t) (h' : PS X e u) : PS X e (fun D σ H => t D σ H ∨ u D σ H) :=
  ⟨fun pins s σ H D I q => q.elim (fun z => h.run pins s σ H D I z) (fun z => h'.run pins s σ H D I z)⟩

/-! ### great products -/
def CMulG (i j : Int) : Prop := i.natAbs.log2 + j.natAbs.log2 < 60000000
theorem CMulG.ok {i j : Int} (h : CMulG i j) : IntMulOk i j := by
  have b : ∀ x : Int, Builtin.Int.intBits x ≤ x.natAbs.log2 + 1 := fun x => by
    unfold Builtin.Int.intBits
    split <;> omega
  have g1 := b i
  have g2 := b j
  have g3 : i.natAbs.log2 + j.natAbs.log2 < 60000000 := h
  have el : bitsLine = 134217728 := by decide
  unfold IntMulOk
  intro z
  rw [Bool.and_eq_true] at z
  have z3 := of_decide_eq_true (show decide _ = true from (by have z2 := z.2; unfold Builtin.Int.intTooBig at z2; exact z2))
  rw [el] at z3
  omega

section
variable {X : Cx}
theorem op_mulG : OpR X (binaryOp .Mult) (rI CMulG fun i j => .int (i * j)) := opI fun _ _ _ _ _ _ _ hc q => mul_int q hc.ok

/-! ### dicts beside the empty dict -/
theorem op_eqE (hu : X.A.units < cLine) : OpR X (compareOp .Eq) (fun x y H Q => ∃ a b ks, x = .ref a ∧ y = .ref b ∧ H a = some (.dK ks) ∧ H b = some (.dK []) ∧ Q (.bl ks.isEmpty) H) := by
  intro pins s σ H x y v u Q I rx ry h
  obtain ⟨a, b, ks, rfl, rfl, ea, eb, q⟩ := h
  obtain rfl : v = Value.ref a := rx
  obtain rfl : u = Value.ref b := ry
  obtain ⟨_, ya, va, ra, da⟩ := (show ObjOk X.prog X.w H s.heap a (.dK ks) from I.hok a _ ea)
  obtain ⟨_, yb, vb, rb, db⟩ := (show ObjOk X.prog X.w H s.heap b (.dK []) from I.hok b _ eb)
  cases rb
  have e : ks.isEmpty = va.isEmpty := by cases ra <;> rfl
  refine PySem.W.keq_eq (knd := mixKind X.prog X.w) (r := true) ya yb da db hu (fun z => ?_) (fin_bl I q (by rw [e]; cases va <;> simp))
  cases va with
  | nil => exact .nil
  | cons p r => simp at z
theorem op_neE (hu : X.A.units < cLine) : OpR X (compareOp .NotEq) (fun x y H Q => ∃ a b ks, x = .ref a ∧ y = .ref b ∧ H a = some (.dK ks) ∧ H b = some (.dK []) ∧ Q (.bl (!ks.isEmpty)) H) := by
  intro pins s σ H x y v u Q I rx ry h
  obtain ⟨a, b, ks, rfl, rfl, ea, eb, q⟩ := h
  obtain rfl : v = Value.ref a := rx
  obtain rfl : u = Value.ref b := ry
  obtain ⟨_, ya, va, ra, da⟩ := (show ObjOk X.prog X.w H s.heap a (.dK ks) from I.hok a _ ea)
  obtain ⟨_, yb, vb, rb, db⟩ := (show ObjOk X.prog X.w H s.heap b (.dK []) from I.hok b _ eb)
  cases rb
  have e : ks.isEmpty = va.isEmpty := by cases ra <;> rfl
  refine PySem.W.keq_ne (knd := mixKind X.prog X.w) (r := true) ya yb da db hu (fun z => ?_) (fin_bl I q (by rw [e]; cases va <;> simp))
  cases va with
  | nil => exact .nil
  | cons p r => simp at z
end
end G

/-! unions of rules, facts of defs -/
namespace G
open PySem PySem.Spec PyProof.Rows L2

/-! ### what stands where -/
structure FD (K : PySem.W.Frag) (mg : Str → Option Value) (x qual : Str) (st : Stmt) (ps : List Str) (f : Addr) (fd : FuncData) : Prop where
  F : Fun K x qual st f fd
  b : Binds K fd ps []
  g : mg x = some (.ref f)
  k : PySem.W.keepIn K (.ref f) = true
structure MD (K : PySem.W.Frag) (x qual : Str) (st : Stmt) (ps : List Str) (C f : Addr) (fd : FuncData) : Prop where
  F : Fun K x qual st f fd
  b : Binds K fd ps []
  m : Meth K C x f
structure XD (K : PySem.W.Frag) (mg : Str → Option Value) (x : Str) (C : Addr) : Prop where
  g : mg x = some (.ref C)
  k : PySem.W.keepIn K (.ref C) = true
  x : PySem.W.excIn K C [.type "ValueError", .type "Exception", .type "BaseException", .type "object"] "ValueError.__new__" = true
  b : PySem.W.subIn K (.ref C) (.type "BaseException") = some true
  t : PySem.W.typeIn K (.ref C) = some (.type "type")
  i : PySem.W.isClsIn K C = true

/-! ### calls -/
def tMe (C : Addr) (m : Str) (sp : Sp) (E : XK) (ta : TE) (t : TA) : TE := fun σ H Q => ta σ H fun x H1 => ∃ a dx fs, x = .ref a ∧ H1 a = some (.ins C dx fs) ∧ fs.lookup m = none ∧
  t σ H1 fun vs H2 => sp (x :: vs) H2 Q E
def tMk (C : Addr) (sp : Sp) (E : XK) (t : TA) : TE := fun σ H Q => t σ H fun vs H1 => ∀ x dx, H1 x = none → H1 dx = none → dx ≠ x →
  sp (.ref x :: vs) (upd (upd H1 dx (.own x)) x (.ins C dx [])) (fun v H2 => v = .non ∧ Q (.ref x) H2) E
theorem tMe_is {C : Addr} {m : Str} {sp : Sp} {E : XK} {ta : TE} {t : TA} : tMeth C m sp [] E ta t = tMe C m sp E ta t := by
  unfold tMeth tMe
  simp only [List.append_nil]
theorem tMk_is {C : Addr} {sp : Sp} {E : XK} {t : TA} : tMake C sp [] E t = tMk C sp E t := by
  unfold tMake tMk
  simp only [List.append_nil]
section
variable {X : Cx} {CX : CXT} {k : Nat} {f C : Addr} {fd : FuncData} {ps : List Str} {sp : Sp} {E : XK} {x m : Str} {p pos apos : Pos} {e o : Expr} {es : List Expr} {ta : TE} {t : TA}
theorem pe_me {pl : Sem Bool} (he : PE X o ta) (c : Cls X.K C) (hm : Meth X.K C m f) (F : FnOk X.prog X.w X.K X.mg X.base CX k f fd ps sp) (hr : Room k X.A) (hb : Binds X.K fd ps []) (hx : Passes CX X E) (ha : PA X (e :: es) t)
    (hst : starEach (e :: es) X.env = (false, eval e X.env) :: starEach es X.env := by rfl) (hpl : (backTo pos (starEach es X.env)).any (·.1) = false := by rfl)
    (ht : eval (.Call (.Attribute o m apos) (e :: es) [] pos) X.env = (do
      let ov ← eval o X.env
      standAt apos.atName
      let (f, first) ← holding [ov] (getMethod ov m pl)
      callWith pos f first (backTo pos (starEach (e :: es) X.env)) (backToKw pos (keywordEach [] X.env))) := by rfl) :
    PE X (.Call (.Attribute o m apos) (e :: es) [] pos) (tMe C m sp E ta t) := by
  rw [← tMe_is]
  exact pe_meth he c hm F hr hb .nil hx ha hst hpl ht
theorem pe_me0 {pl : Sem Bool} (he : PE X o ta) (c : Cls X.K C) (hm : Meth X.K C m f) (F : FnOk X.prog X.w X.K X.mg X.base CX k f fd ps sp) (hr : Room k X.A) (hb : Binds X.K fd ps []) (hx : Passes CX X E)
    (ht : eval (.Call (.Attribute o m apos) [] [] pos) X.env = (do
      let ov ← eval o X.env
      standAt apos.atName
      let (f, first) ← holding [ov] (getMethod ov m pl)
      callWith pos f first (backTo pos (starEach [] X.env)) (backToKw pos (keywordEach [] X.env))) := by rfl) :
    PE X (.Call (.Attribute o m apos) [] [] pos) (tMe C m sp E ta tNil) := by
  rw [← tMe_is]
  exact pe_meth0 he c hm F hr hb .nil hx ht
theorem pe_mk (M : Mk X.K C f) (F : FnOk X.prog X.w X.K X.mg X.base CX k f fd ps sp) (hr : Room (k + 1) X.A) (hg : Gl X x) (hm : X.mg x = some (.ref C)) (hb : Binds X.K fd ps []) (hx : Passes CX X E)
    (ha : PA X (e :: es) t) (hdb : (x == ("__debug__" : Str)) = false := by decide) (he : starEach (e :: es) X.env = (false, eval e X.env) :: starEach es X.env := by rfl) (hpl : (backTo pos (starEach es X.env)).any (·.1) = false := by rfl) :
    PE X (.Call (.Name x p) (e :: es) [] pos) (tMk C sp E t) := by
  rw [← tMk_is]
  exact pe_make M F hr hg hm hb .nil hx ha hdb he hpl
theorem pe_mk0 (M : Mk X.K C f) (F : FnOk X.prog X.w X.K X.mg X.base CX k f fd ps sp) (hr : Room (k + 1) X.A) (hg : Gl X x) (hm : X.mg x = some (.ref C)) (hb : Binds X.K fd ps []) (hx : Passes CX X E)
    (hdb : (x == ("__debug__" : Str)) = false := by decide) : PE X (.Call (.Name x p) [] [] pos) (tMk C sp E tNil) := by
  rw [← tMk_is]
  exact pe_make0 M F hr hg hm hb .nil hx hdb
end

/-! ### operators -/
section
variable {X : Cx}
def rAddU (K : PySem.W.Frag) : R2 := fun x y H Q => rI0 (fun i j => .int (i + j)) x y H Q ∨ (∃ i j, x = .str i ∧ y = .str j ∧ i.length + j.length ≤ sizeLine ∧ Q (.str (i ++ j)) H) ∨ rCat x y H Q ∨ rCatT K x y H Q
theorem op_addU : OpR X (binaryOp .Add) (rAddU X.K) := op_add.or (op_add_str.or (op_cat.or op_catT))
def rMulU : R2 := fun x y H Q => rI CMulG (fun i j => .int (i * j)) x y H Q ∨ rRep x y H Q
theorem op_mulU : OpR X (binaryOp .Mult) rMulU := op_mulG.or op_rep
def rEqU (K : PySem.W.Frag) : R2 := fun x y H Q => rEq x y H Q ∨ rEqD K x y H Q ∨ (∃ a b ks, x = .ref a ∧ y = .ref b ∧ H a = some (.dK ks) ∧ H b = some (.dK []) ∧ Q (.bl ks.isEmpty) H)
def rNeU (K : PySem.W.Frag) : R2 := fun x y H Q => rNe x y H Q ∨ rNeD K x y H Q ∨ (∃ a b ks, x = .ref a ∧ y = .ref b ∧ H a = some (.dK ks) ∧ H b = some (.dK []) ∧ Q (.bl (!ks.isEmpty)) H)
theorem op_eqU {k : Nat} (hr : Room k X.A) : OpR X (compareOp .Eq) (rEqU X.K) := op_eq.or ((op_eqD hr.units).or (op_eqE hr.units0))
theorem op_neU {k : Nat} (hr : Room k X.A) : OpR X (compareOp .NotEq) (rNeU X.K) := op_ne.or ((op_neD hr.units).or (op_neE hr.units0))
theorem op_dIn (hu : X.A.units + 1 < cLine) : OpR X (compareOp .In) (fun y x H Q => ∃ a o, x = .ref a ∧ DGet H a y o ∧ Q (.bl o.isSome) H) := by
  intro pins s σ H y x v u Q I ry rx h
  obtain ⟨a, o, rfl, g, q⟩ := h
  obtain rfl : u = Value.ref a := rx
  exact d_in hu I g ry fun s3 I3 => ⟨.bl o.isSome, H, I3, rfl, q⟩
theorem op_dNotIn (hu : X.A.units + 1 < cLine) : OpR X (compareOp .NotIn) (fun y x H Q => ∃ a o, x = .ref a ∧ DGet H a y o ∧ Q (.bl (!o.isSome)) H) := by
  intro pins s σ H y x v u Q I ry rx h
  obtain ⟨a, o, rfl, g, q⟩ := h
  obtain rfl : u = Value.ref a := rx
  exact d_notIn hu I g ry fun s3 I3 => ⟨.bl (!o.isSome), H, I3, rfl, q⟩
def rInU (K : PySem.W.Frag) : R2 := fun x y H Q => rIn K false x y H Q ∨ (∃ a o, y = .ref a ∧ DGet H a x o ∧ Q (.bl o.isSome) H) ∨ rInD K x y H Q ∨ (∃ (c : Nat) (z : Str), x = .str ⟨#[c]⟩ ∧ y = .str z ∧ Q (.bl (decide (c ∈ z.cps.toList))) H)
def rNinU (K : PySem.W.Frag) : R2 := fun x y H Q => rIn K true x y H Q ∨ (∃ a o, y = .ref a ∧ DGet H a x o ∧ Q (.bl (!o.isSome)) H) ∨ rNotInD K x y H Q ∨ (∃ (c : Nat) (z : Str), x = .str ⟨#[c]⟩ ∧ y = .str z ∧ Q (.bl (!decide (c ∈ z.cps.toList))) H)
theorem op_inU {k : Nat} (hr : Room k X.A) : OpR X (compareOp .In) (rInU X.K) := op_in_seq.or ((op_dIn (hu_of hr)).or ((op_inD (by have := hr.un; omega)).or op_in_sign))
theorem op_ninU {k : Nat} (hr : Room k X.A) : OpR X (compareOp .NotIn) (rNinU X.K) := op_notIn_seq.or ((op_dNotIn (hu_of hr)).or ((op_notInD (by have := hr.un; omega)).or op_notIn_sign))

/-! ### subscripts -/
theorem ix_dict (hu : X.A.units + 1 < cLine) : IxR X (fun x y H Q => ∃ a v, x = .ref a ∧ DGet H a y (some v) ∧ Q v H) := by
  intro value slice pins s σ H x y v u Q I rx ry h hs
  obtain ⟨a, w, rfl, g, q⟩ := h
  obtain rfl : v = Value.ref a := rx
  exact tail_any (dict_typeIs I g) PySem.F.slot_dict_getitem.lookup (d_getItem hu I g ry fun w' s3 I3 rw' => ⟨w, H, I3, rw', q⟩) hs
def rIxU (K : PySem.W.Frag) : R2 := fun x y H Q => rIxL K x y H Q ∨ rIxT K x y H Q ∨ (∃ a v, x = .ref a ∧ DGet H a y (some v) ∧ Q v H) ∨ rIxS x y H Q
theorem ix_U (hu : X.A.units + 1 < cLine) : IxR X (rIxU X.K) := ix_list.or (ix_tup.or ((ix_dict hu).or ix_str))
theorem set_dict (hu : X.A.units + 1 < cLine) : PSet X (fun o i v H Q => ∃ a H', o = .ref a ∧ DPut H a i v H' ∧ Q H') := by
  intro pins s σ H o i v ov iv u Q I ro ri rv h
  obtain ⟨a, H', rfl, g, q⟩ := h
  obtain rfl : ov = Value.ref a := ro
  exact d_setItem hu I g ri rv fun s4 I4 => ⟨H', I4, q⟩
def rSetU : TSet := fun o i v H Q => rSetL o i v H Q ∨ (∃ a H', o = .ref a ∧ DPut H a i v H' ∧ Q H')
theorem set_U (hu : X.A.units + 1 < cLine) : PSet X rSetU := by
  intro pins s σ H o i v ov iv u Q I ro ri rv h
  rcases h with h | h
  · exact set_list pins s σ H o i v ov iv u Q I ro ri rv h
  · exact set_dict hu pins s σ H o i v ov iv u Q I ro ri rv h
def rSlU (K : PySem.W.Frag) : V → Option Int → Option Int → Hp → VK → Prop := fun x lo hi H Q => rSlL K x lo hi H Q ∨ rSlT K x lo hi H Q
theorem sl_U : SlR X (rSlU X.K) := sl_list.or sl_tup
end
end G

/-! more rules -/
namespace G
open PySem PySem.Spec PyProof.Rows L2
section
variable {X : Cx}
/-! list(d.values()) -/
def rValsL : V → Hp → VK → Prop := fun x H Q => ∃ (d : Addr) (kvs : List (Key × V)), x = .ref d ∧ H d = some (.dK kvs) ∧ ∀ p, H p = none → Q (.ref p) (upd H p (.lst (kvs.map (·.2))))
def tListVals (te : TE) : TE := fun σ H Q => te σ H fun x H1 => rValsL x H1 Q
theorem kv_vals : ∀ {kvs : List (Key × V)} {vs : List (Key × Value)}, KV kvs vs → Vals (kvs.map (·.2)) (vs.map (·.2))
  | _, _, .nil => .nil
  | _, _, .cons r t => .cons r.2 (kv_vals t)
theorem pe_listValues {e : Expr} {te : TE} {p apos cpos pos : Pos} (hc : X.calm = true) (he : PE X e te) (hg : Gl X "list") (hm : X.mg "list" = none) (hv : bootBuiltins "list" = some (.type "list")) (hbase : attributeBase e "values" X.env (eval e X.env) = eval e X.env := by rfl) (hline : (apos.endLine == cpos.line) = true := by rfl)
    (hs : starEach [.Call (.Attribute e "values" apos) [] [] cpos] X.env = (false, eval (.Call (.Attribute e "values" apos) [] [] cpos) X.env) :: starEach [] X.env := by rfl) :
    PE X (.Call (.Name "list" p) [.Call (.Attribute e "values" apos) [] [] cpos] [] pos) (tListVals te) := by
  refine ⟨fun pins s σ H Q I hq => ?_⟩
  refine wpAny_Call_Name_kw (ld_blt I hg hm hv ?_)
  refine PyProof.Rows.callWith_type1 ?_ hs rfl
  rw [hs]
  show wpAny _ _ (spliced ((false, eval (.Call (.Attribute e "values" apos) [] [] cpos) X.env) :: backTo pos (starEach [] X.env))) _ _ s
  refine Calls.spliced_cons ?_
  refine wpAny_Call_method (T := "dict") (id := "dict.values") hbase rfl hline F.plainAttrs_dict F.slot_dict_values F.type_dict_values (thn (he.run pins s σ H _ I hq) fun u s1 ⟨x, H1, I1, rx, d, kvs, ex, hd, q⟩ => ?_)
  subst ex
  obtain rfl : u = Value.ref d := rx
  obtain ⟨hz, hs0, vs, kv, hdo⟩ := dk_of I1.hok hd
  obtain ⟨ep, hat⟩ := hdo.dictAt
  have lk : kvs.length = vs.length := Paired.length kv
  have I2 : Inv X pins σ H1 { s1 with heap := s1.heap.push { cls := .type "dict_values", data := .fields #[.ref d] } } := I1.kept (t' := s1.toks) fun b ob q => Heap.get?_push_of_some _ q
  refine ⟨hdo.typeIs, hdo.mapOf.noDict, ?_⟩
  show wpAny _ _ (callWith cpos (.builtin "dict.values") [.ref d] [] []) _ X.xe s1
  refine method_meetsIn F.slot_dict_values F.entry_dict_values rfl (PySem.evalArgs_none ⟨rfl, hdo.typeIs, F.args_dict_values_1 _, _, meets_dict_values (mixKind X.prog X.w) d hs0, ⟨vs, hdo⟩, ?_⟩)
  refine Calls.spliced_nil ?_
  refine PySem.W.kdl_call (PySem.W.kdl_values (knd := mixKind X.prog X.w) (r := s1.heap.objs.size) (d := d) (kvs := vs) (ep := ep)) (I1.ok.hd hc) ⟨⟨_, Heap.get?_push_size _ rfl, rfl, rfl⟩, hat.push _⟩ (by rw [← lk]; exact hz) fun h' tk acc c' hk hD hacc => ?_
  have ea : acc.toList = vs.map (·.2) := by
    refine List.ext_getElem? fun j => ?_
    rw [List.getElem?_map, Array.getElem?_toList]
    cases e1 : acc[j]? with
    | some v =>
      obtain ⟨k, e2⟩ := hacc.2 j v e1
      rw [e2]
      rfl
    | none =>
      have l1 : acc.size ≤ j := Array.getElem?_eq_none_iff.mp e1
      have l2 : vs[j]? = none := List.getElem?_eq_none_iff.mpr (by have := hacc.1; omega)
      rw [l2]
      rfl
  refine ⟨.ref _, upd H1 _ (.lst (kvs.map (·.2))), I2.laid (t' := tk) hk (Nat.le_refl _) (show ObjOk X.prog X.w _ _ _ (.lst (kvs.map (·.2))) from ⟨by rw [List.length_map]; exact hz, acc.toList, c', by rw [ea]; exact kv_vals kv, by rw [Array.toArray_toList]; exact hD⟩), rfl, q _ (I2.hok.fresh (Nat.le_refl _))⟩

/-! list(d.items()), from the kit's -/
theorem pe_listItems {e : Expr} {te : TE} {p apos cpos pos : Pos} (hc : X.calm = true) (he : PE X e te) (hg : Gl X "list") (hm : X.mg "list" = none) (hv : bootBuiltins "list" = some (.type "list")) (hbase : attributeBase e "items" X.env (eval e X.env) = eval e X.env := by rfl) (hline : (apos.endLine == cpos.line) = true := by rfl)
    (hs : starEach [.Call (.Attribute e "items" apos) [] [] cpos] X.env = (false, eval (.Call (.Attribute e "items" apos) [] [] cpos) X.env) :: starEach [] X.env := by rfl) :
    PE X (.Call (.Name "list" p) [.Call (.Attribute e "items" apos) [] [] cpos] [] pos) (LiI.tListItems te) := LiI.pe_listItems hc he hg hm hv hbase hline hs

/-! d.update(e) -/
def rUpdD : V → List V → Hp → VK → Prop := fun x vs H Q => ∃ d b kvs more, x = .ref d ∧ vs = [.ref b] ∧ H d = some (.dK kvs) ∧ H b = some (.dK more) ∧ d ≠ b ∧ kvs.length + more.length ≤ sizeLine ∧ Q .non (upd H d (.dK (mergeK kvs more)))
theorem mt_updateD : MtR X "dict.update" rUpdD := by
  intro pins s σ H x xs v us Q I rx rs h
  obtain ⟨d, b, kvs, more, rfl, rfl, hd, hb, hne, hz, q⟩ := h
  obtain rfl : v = Value.ref d := rx
  obtain ⟨u, rfl, ru⟩ := Vals.one rs
  obtain rfl : u = Value.ref b := ru
  obtain ⟨z1, lo1, va, ra, da⟩ := dk_of I.hok hd
  obtain ⟨z2, lo2, vb, rb, db⟩ := dk_of I.hok hb
  have l1 := ra.length
  have l2 := rb.length
  refine call_meetsIn PySem.F.slot_dict_update da.typeIs PySem.F.entry_dict_update (PySem.F.args_dict_update_2 _ _) (meets_dict_update (mixKind X.prog X.w) d b hne lo2) ⟨va, vb, da, db, (by omega), fun h' dd _ hs => ?_⟩
  have he : ∃ q, h'.get? d = some q := let ⟨q, _, _, hq, _⟩ := dd; ⟨q, hq⟩
  have hl := length_mergeK more kvs
  exact ⟨.non, _, d_write (t' := s.toks) I (by rw [hd]; exact True.intro) hs he (dk_new (by omega) lo1 (rb.merge ra) dd), rfl, q⟩

/-! len of anything -/
def rLenU (K : PySem.W.Frag) : List V → Hp → VK → Prop := fun xs H Q => (∃ p ys, xs = [.ref p] ∧ (SqL K H p ys ∨ SqT K H p ys) ∧ Q (.int ys.length) H) ∨ (∃ z, xs = [.str z] ∧ z.length ≤ sizeLine ∧ Q (.int z.length) H) ∨ (∃ a kvs, xs = [V.ref a] ∧ H a = some (.dK kvs) ∧ Q (.int kvs.length) H)
theorem call_lenU : CallR X (.builtin "len") (rLenU X.K) := call_len_seq.or (call_len_str.or call_lenD)
theorem call_max1 (hc : X.calm = true) : CallR X (.builtin "max") (rMax X.K) := cr_max hc
theorem call_min1 (hc : X.calm = true) : CallR X (.builtin "min") (rMin X.K) := cr_min hc

/-! sorted -/
def rSrtD : List V → Hp → VK → Prop := fun xs H Q => ∃ (a : Addr) (kvs : List (Key × V)) (ks : List Int), xs = [.ref a] ∧ Rd H a (.dK kvs) ∧ kvs.map (·.1) = ks.map Sum.inl ∧ ks.length < 64 ∧
    ∀ (ys : List Int) (p : Addr), ys.Perm ks → ys.Pairwise (· ≤ ·) → H p = none → Q (.ref p) (upd H p (.lst (ys.map V.int)))
def rSrtU (K : PySem.W.Frag) : List V → Hp → VK → Prop := fun xs H Q => rSrtD xs H Q ∨ rSortedPO K xs H Q ∨ rSortedI K xs H Q
theorem call_sortedU (hc : X.calm = true) : CallR X (.builtin "sorted") (rSrtU X.K) := (call_sortedDI hc).or (cr_sortedPO.or cr_sortedI)

/-! walks of lists or tuples -/
def iSeq (K : PySem.W.Frag) (tl : TE) : TI := fun σ H R => tl σ H fun x H1 => (∃ a, x = .ref a ∧ (∃ xs, SqL K H1 a xs) ∧ R (Itl K a) H1) ∨ (∃ a, x = .ref a ∧ (∃ xs, SqT K H1 a xs) ∧ R (Itt K a) H1)
theorem pi_seq {tg l : Expr} {tl : TE} (hl : PE X l tl) : PI X tg l (iSeq X.K tl) := by
  refine ⟨fun pins s σ H R I h => ?_⟩
  refine thn (hl.run pins s σ H _ I h) fun v s1 ⟨x, H1, I1, r1, q1⟩ => ?_
  have fp : ∀ b ∈ [s1.heap.objs.size], FpOk X pins H1 b := fun b hb => by
    have e : b = s1.heap.objs.size := by simpa using hb
    subst e
    exact I1.fpOk (Nat.le_refl _) (I1.hok.fresh (Nat.le_refl _))
  rcases q1 with ⟨a, rfl, ⟨xs, hq⟩, q⟩ | ⟨a, rfl, ⟨xs, hq⟩, q⟩
  · cases r1
    obtain ⟨its, rv, p, hz⟩ := I1.list hq
    exact wpAny_pyIter_list p.isList ⟨s1.heap.objs.size, [s1.heap.objs.size], _, _, H1, rfl, I1.kept (t' := s1.toks) fun b o e => Heap.get?_push_of_some _ e, turn_list a _, ⟨_, Heap.get?_push_size _ rfl, rfl, rfl⟩, fp, q⟩
  · cases r1
    obtain ⟨its, rv, p, hz⟩ := I1.tuple hq
    exact wpAny_pyIter_tuple (show s1.heap.IsTuple a its.toArray from p) ⟨s1.heap.objs.size, [s1.heap.objs.size], _, _, H1, rfl, I1.kept (t' := s1.toks) fun b o e => Heap.get?_push_of_some _ e, turn_tuple a _, ⟨_, Heap.get?_push_size _ rfl, rfl, rfl⟩, fp, q⟩
/-! xs[i] op= e, a list -/
def rGetL : V → V → Hp → VK → Prop := fun x y H Q => ∃ p xs i v, x = .ref p ∧ y = .int i ∧ H p = some (.lst xs) ∧ 0 ≤ i ∧ atI xs i = some v ∧ Q v H
end
end G

/-! a small logic of heaps: D stands still (data), Ms what may change (chunks of cells) -/
namespace G
open PySem PySem.Spec PyProof.Rows L2
abbrev Cell := Addr × HO
structure Ok (H D : Hp) (Ms : List (List Cell)) : Prop where
  sub : Same D H
  has : ∀ M ∈ Ms, ∀ c ∈ M, H c.1 = some c.2
  off : ∀ M ∈ Ms, ∀ c ∈ M, D c.1 = none
  nd : (Ms.flatten.map (·.1)).Nodup
inductive Pk {α : Type} : List α → α → List α → Prop
  | here {C R} : Pk (C :: R) C R
  | there {X Ms C R} : Pk Ms C R → Pk (X :: Ms) C (X :: R)
theorem Pk.perm {α : Type} {Ms R : List α} {C : α} (h : Pk Ms C R) : Ms.Perm (C :: R) := by
  induction h with
  | here => exact .refl _
  | there _ ih => exact (ih.cons _).trans (.swap _ _ _)
theorem Pk.mem {α : Type} {Ms R : List α} {C : α} (h : Pk Ms C R) : C ∈ Ms := h.perm.symm.subset List.mem_cons_self

section
variable {H D : Hp} {Ms Ns R : List (List Cell)} {C : List Cell} {a p : Addr} {o o' : HO}
theorem Ok.re (h : Ok H D Ms) (e : Ms.flatten.Perm Ns.flatten) : Ok H D Ns := by
  have m : ∀ c, c ∈ Ns.flatten → ∃ M ∈ Ms, c ∈ M := fun c hc => List.mem_flatten.mp (e.symm.subset hc)
  refine ⟨h.sub, fun M hM c hc => ?_, fun M hM c hc => ?_, (e.map (·.1)).nodup_iff.mp h.nd⟩
  · obtain ⟨N, hN, hcN⟩ := m c (List.mem_flatten.mpr ⟨M, hM, hc⟩)
    exact h.has N hN c hcN
  · obtain ⟨N, hN, hcN⟩ := m c (List.mem_flatten.mpr ⟨M, hM, hc⟩)
    exact h.off N hN c hcN
theorem Ok.pk (h : Ok H D Ms) (k : Pk Ms C R) : Ok H D (C :: R) := h.re k.perm.flatten
theorem Ok.at1 (h : Ok H D Ms) (m : [(a, o)] ∈ Ms) : H a = some o := h.has _ m _ (.head _)
theorem Ok.atC (h : Ok H D Ms) (m : C ∈ Ms) (c : (a, o) ∈ C) : H a = some o := h.has _ m _ c
theorem Ok.dat (h : Ok H D Ms) (e : D a = some o) : H a = some o := h.sub _ _ e
theorem Ok.sqL {K : PySem.W.Frag} {xs : List V} (h : Ok H D Ms) (e : SqL K D a xs) : SqL K H a xs := h.sub.seq e
theorem Ok.sqT {K : PySem.W.Frag} {xs : List V} (h : Ok H D Ms) (e : SqT K D a xs) : SqT K H a xs := by
  rcases e with (e | ⟨o, e⟩) | e
  · exact .inl (.inl (h.sub _ _ e))
  · exact .inl (.inr ⟨o, h.sub _ _ e⟩)
  · exact .inr e
/-- a new object, that may change -/
theorem Ok.new (h : Ok H D Ms) (n : H p = none) : Ok (upd H p o) D ([(p, o)] :: Ms) := by
  have nD : D p = none := h.sub.free n
  refine ⟨fun b u e => ?_, fun M hM c hc => ?_, fun M hM c hc => ?_, ?_⟩
  · rw [upd_ne (ne_of_none (h.sub _ _ e) n)]
    exact h.sub _ _ e
  · rcases List.mem_cons.mp hM with rfl | hM
    · rw [List.mem_singleton.mp hc]
      exact upd_same
    · have e := h.has M hM c hc
      rw [upd_ne (ne_of_none e n)]
      exact e
  · rcases List.mem_cons.mp hM with rfl | hM
    · rw [List.mem_singleton.mp hc]
      exact nD
    · exact h.off M hM c hc
  · show (p :: (Ms.flatten.map (·.1))).Nodup
    refine List.nodup_cons.mpr ⟨fun z => ?_, h.nd⟩
    obtain ⟨c, hc, rfl⟩ := List.mem_map.mp z
    obtain ⟨M, hM, hcM⟩ := List.mem_flatten.mp hc
    have e := h.has M hM c hcM
    rw [n] at e
    cases e
/-- a new object that nobody asks for -/
theorem Ok.skip (h : Ok H D Ms) (n : H p = none) : Ok (upd H p o) D Ms :=
  let q := h.new (o := o) n
  ⟨q.sub, fun M hM => q.has M (.tail _ hM), fun M hM => q.off M (.tail _ hM), (List.nodup_cons.mp (show (p :: (Ms.flatten.map (·.1))).Nodup from q.nd)).2⟩
theorem Ok.drop (h : Ok H D (C :: R)) : Ok H D R :=
  ⟨h.sub, fun M hM => h.has M (.tail _ hM), fun M hM => h.off M (.tail _ hM), by
    have q := h.nd
    rw [List.flatten_cons, List.map_append] at q
    exact (List.nodup_append.mp q).2.1⟩
/-- a cell is changed -/
theorem Ok.wr (h : Ok H D ([(p, o)] :: R)) : Ok (upd H p o') D ([(p, o')] :: R) := by
  have nd : (p :: (R.flatten.map (·.1))).Nodup := h.nd
  have hp : ∀ M ∈ R, ∀ c ∈ M, c.1 ≠ p := fun M hM c hc z => (List.nodup_cons.mp nd).1 (List.mem_map.mpr ⟨c, List.mem_flatten.mpr ⟨M, hM, hc⟩, z⟩)
  have nD : D p = none := h.off _ (.head _) _ (.head _)
  refine ⟨fun b u e => ?_, fun M hM c hc => ?_, fun M hM c hc => ?_, nd⟩
  · rw [upd_ne (ne_of_none e nD)]
    exact h.sub _ _ e
  · rcases List.mem_cons.mp hM with rfl | hM
    · rw [List.mem_singleton.mp hc]
      exact upd_same
    · rw [upd_ne (hp M hM c hc)]
      exact h.has M (.tail _ hM) c hc
  · rcases List.mem_cons.mp hM with rfl | hM
    · rw [List.mem_singleton.mp hc]
      exact nD
    · exact h.off M (.tail _ hM) c hc
/-- a cell is locked and freed: seen from outside nothing happens -/
theorem Ok.wrAt (h : Ok H D Ms) (k : Pk Ms [(p, o)] R) : Ok (upd H p o') D ([(p, o')] :: R) := (h.pk k).wr
/-- cells become data -/
def addD (D : Hp) : List Cell → Hp
  | [] => D
  | c :: r => upd (addD D r) c.1 c.2
theorem addD_off : ∀ {D : Hp} {C : List Cell} {b : Addr}, (∀ c ∈ C, c.1 ≠ b) → addD D C b = D b
  | _, [], _, _ => rfl
  | D, c :: r, b, h => by
    show upd (addD D r) c.1 c.2 b = D b
    rw [upd_ne (fun z => h c (.head _) z.symm)]
    exact addD_off fun x hx => h x (.tail _ hx)
theorem addD_at : ∀ {D : Hp} {C : List Cell} {c : Cell}, (C.map (·.1)).Nodup → c ∈ C → addD D C c.1 = some c.2
  | _, [], _, _, h => nomatch h
  | D, x :: r, c, nd, h => by
    have nd := List.nodup_cons.mp (show (x.1 :: r.map (·.1)).Nodup from nd)
    show upd (addD D r) x.1 x.2 c.1 = _
    rcases List.mem_cons.mp h with e | h
    · rw [e]
      exact upd_same
    · rw [upd_ne (fun z => nd.1 (by rw [← z]; exact List.mem_map.mpr ⟨c, h, rfl⟩))]
      exact addD_at nd.2 h
theorem addD_some : ∀ {D : Hp} {C : List Cell} {b : Addr} {u : HO}, addD D C b = some u → (∃ c ∈ C, c.1 = b ∧ c.2 = u) ∨ D b = some u
  | _, [], _, _, h => .inr h
  | D, x :: r, b, u, h => by
    by_cases e : b = x.1
    · have h' : upd (addD D r) x.1 x.2 b = some u := h
      rw [e, upd_same] at h'
      exact .inl ⟨x, .head _, e.symm, Option.some.inj h'⟩
    · have h' : upd (addD D r) x.1 x.2 b = some u := h
      rw [upd_ne e] at h'
      rcases addD_some h' with ⟨c, hc, q⟩ | q
      · exact .inl ⟨c, .tail _ hc, q⟩
      · exact .inr q
theorem Ok.frz (h : Ok H D (C :: R)) : Ok H (addD D C) R ∧ Same D (addD D C) ∧ ∀ c ∈ C, addD D C c.1 = some c.2 := by
  have q := h.nd
  rw [List.flatten_cons, List.map_append] at q
  obtain ⟨n1, n2, n3⟩ := List.nodup_append.mp q
  have ext : Same D (addD D C) := fun b u e => by
    rw [addD_off fun c hc z => ?_]
    · exact e
    · have f := h.off C (.head _) c hc
      rw [z, e] at f
      cases f
  refine ⟨⟨fun b u e => ?_, fun M hM => h.has M (.tail _ hM), fun M hM c hc => ?_, n2⟩, ext, fun c hc => addD_at n1 hc⟩
  · rcases addD_some e with ⟨c, hc, rfl, rfl⟩ | e
    · exact h.has C (.head _) c hc
    · exact h.sub _ _ e
  · rw [addD_off fun x hx z => n3 x.1 (List.mem_map.mpr ⟨x, hx, rfl⟩) c.1 (List.mem_map.mpr ⟨c, List.mem_flatten.mpr ⟨M, hM, hc⟩, rfl⟩) z]
    exact h.off M (.tail _ hM) c hc
theorem Ok.newD (h : Ok H D Ms) (n : H p = none) : Ok (upd H p o) (upd D p o) Ms ∧ Same D (upd D p o) := ⟨(h.new n).frz.1, (h.new (o := o) n).frz.2.1⟩
theorem Ok.nil (h : Ok H D Ms) : Ok H D ([] :: Ms) := h.re (by simp)
theorem Ok.unnil (h : Ok H D ([] :: Ms)) : Ok H D Ms := h.drop
theorem Ok.of (H : Hp) : Ok H H [] := ⟨Same.refl H, fun _ h => (nomatch h), fun _ h => (nomatch h), List.nodup_nil⟩
end

inductive Drp {α : Type} : List α → List α → Prop
  | here {R} : Drp R R
  | there {X Ms R} : Drp Ms R → Drp (X :: Ms) R
inductive Sel {α : Type} : List α → List α → Prop
  | done {Ms R} : Drp Ms R → Sel Ms R
  | pick {Ms R C Ns} : Pk Ms C R → Sel R Ns → Sel Ms (C :: Ns)
theorem Ok.drp {H D : Hp} {Ms Ns : List (List Cell)} (o : Ok H D Ms) (s : Drp Ms Ns) : Ok H D Ns := by
  induction s with
  | here => exact o
  | there _ ih => exact ih o.drop
theorem Ok.cons_of {H D : Hp} {Ms Ns R : List (List Cell)} {C : List Cell} (o : Ok H D (C :: R)) (h : ∀ M ∈ Ns, M ∈ R) (nd : ((C :: Ns).flatten.map (·.1)).Nodup) : Ok H D (C :: Ns) :=
  ⟨o.sub, fun M hM => (List.mem_cons.mp hM).elim (fun e => e ▸ o.has C (.head _)) fun m => o.has M (.tail _ (h M m)), fun M hM => (List.mem_cons.mp hM).elim (fun e => e ▸ o.off C (.head _)) fun m => o.off M (.tail _ (h M m)), nd⟩
theorem Sel.subp {Ms Ns : List (List Cell)} (s : Sel Ms Ns) : ∃ R, Ms.flatten.Perm (Ns.flatten ++ R) := by
  induction s with
  | done d =>
    induction d with
    | here => exact ⟨[], by simp⟩
    | @there X Ms R _ ih =>
      obtain ⟨r, hr⟩ := ih
      refine ⟨r ++ X, ?_⟩
      rw [List.flatten_cons, ← List.append_assoc]
      exact (List.perm_append_comm).trans (hr.append_right X)
  | pick k _ ih =>
    obtain ⟨r, hr⟩ := ih
    refine ⟨r, ?_⟩
    refine (k.perm.flatten).trans ?_
    rw [List.flatten_cons, List.flatten_cons, List.append_assoc]
    exact hr.append_left _
theorem Ok.sel {H D : Hp} {Ms Ns : List (List Cell)} (o : Ok H D Ms) (s : Sel Ms Ns) : Ok H D Ns := by
  obtain ⟨R, hR⟩ := s.subp
  have q : Ok H D (R :: Ns) := o.re (by
    rw [List.flatten_cons]
    exact hR.trans List.perm_append_comm)
  exact q.drop

/-! ### data at any depth -/
theorem dp_mono {K : PySem.W.Frag} {D D' : Hp} (e : Same D D') : ∀ {v : V} {d : PyData}, Dp K D v d → Dp K D' v d := by
  intro v d h
  refine Dp.rec (motive_1 := fun v d _ => Dp K D' v d) (motive_2 := fun vs ds _ => DpAll K D' vs ds) ?_ ?_ ?_ ?_ ?_ ?_ ?_ ?_ h
  · exact .non
  · exact fun b => .bl b
  · exact fun i => .int i
  · exact fun x => .str x
  · intro a xs ds q _ ih
    exact .lst (e.seq q) ih
  · intro a xs ds q _ ih
    refine .tup ?_ ih
    rcases q with (q | ⟨o, q⟩) | q
    · exact .inl (.inl (e _ _ q))
    · exact .inl (.inr ⟨o, e _ _ q⟩)
    · exact .inr q
  · exact .nil
  · intro v vs d ds _ _ ih1 ih2
    exact .cons ih1 ih2
theorem dpAll_mono {K : PySem.W.Frag} {D D' : Hp} (e : Same D D') : ∀ {vs : List V} {ds : List PyData}, DpAll K D vs ds → DpAll K D' vs ds
  | _, _, .nil => .nil
  | _, _, .cons h t => .cons (dp_mono e h) (dpAll_mono e t)
end G

/-! steps of readings -/
namespace G
open PySem PySem.Spec PyProof.Rows L2
section
variable {K : PySem.W.Frag} {H D : Hp} {Ms R : List (List Cell)} {σ : L2.St} {Q : VK} {ta tb te : TE} {t : TA} {tt tu : TT} {E : Ends} {v : V} {i : Nat} {B : Bool → Hp → Prop}
/-! expressions -/
theorem r_var (h : σ[i]? = some (some v)) (q : Q v H) : tVar i σ H Q := ⟨v, h, q⟩
theorem r_c (q : Q v H) : tC v σ H Q := q
theorem r_op {r : R2} (q : ta σ H fun x H1 => tb σ H1 fun y H2 => r x y H2 Q) : tOp r ta tb σ H Q := q
theorem r_un {r : V → Hp → VK → Prop} (q : ta σ H fun x H1 => r x H1 Q) : tUn r ta σ H Q := q
def NewT (Q : VK) (xs : List V) (H : Hp) : Prop := xs.length ≤ sizeLine ∧ ∀ p, H p = none → Q (.ref p) (upd H p (.tup xs))
def NewL (Q : VK) (xs : List V) (H : Hp) : Prop := xs.length ≤ sizeLine ∧ ∀ p, H p = none → Q (.ref p) (upd H p (.lst xs))
theorem r_tup (q : t σ H (NewT Q)) : tTup t σ H Q := q
theorem r_lst (q : t σ H (NewL Q)) : tLst t σ H Q := q
theorem r_nil {P : List V → Hp → Prop} (q : P [] H) : tNil σ H P := q
theorem r_cons {P : List V → Hp → Prop} (q : ta σ H fun x H1 => t σ H1 fun xs H2 => P (x :: xs) H2) : tCons ta t σ H P := q
theorem r_cb {r : List V → Hp → VK → Prop} (q : t σ H fun vs H1 => r vs H1 Q) : tCB r t σ H Q := q
theorem r_test (q : te σ H fun x H' => ∃ k, x = .bl k ∧ B k H') : tTest te σ H B := q
theorem r_B (q : te σ H fun x H' => ∃ k, x = .bl k ∧ B k H') : tB te σ H B := q
theorem r_bl {P : Bool → Prop} {b : Bool} (q : P b) : ∃ k, V.bl b = .bl k ∧ P k := ⟨b, rfl, q⟩
theorem r_and (q : tt σ H fun c H1 => if c = true then tu σ H1 B else B false H1) : tAnd tt tu σ H B := q
theorem r_or (q : tt σ H fun c H1 => if c = true then B true H1 else tu σ H1 B) : tOr tt tu σ H B := q
theorem r_not (q : tt σ H fun c H1 => B (!c) H1) : tNot tt σ H B := q
theorem r_andV (q : ta σ H fun x H1 => ∃ c, x = .bl c ∧ if c = true then tb σ H1 Q else Q (.bl false) H1) : tAndV ta tb σ H Q := q
theorem r_orV (q : ta σ H fun x H1 => ∃ c, x = .bl c ∧ if c = true then Q (.bl true) H1 else tb σ H1 Q) : tOrV ta tb σ H Q := q
theorem r_notV (q : ta σ H fun x H1 => ∃ c, x = .bl c ∧ Q (.bl (!c)) H1) : tNotV ta σ H Q := q
theorem r_if (q : tt σ H fun c H1 => if c = true then ta σ H1 Q else tb σ H1 Q) : tIf tt ta tb σ H Q := q
theorem r_chain {r r' : R2} {tc : TE} (q : ta σ H fun x H1 => tb σ H1 fun y H2 => r x y H2 fun z H3 => ∃ k, z = .bl k ∧ if k = true then (tc σ H3 fun w H4 => r' y w H4 Q) else Q (.bl false) H3) : tChain r r' ta tb tc σ H Q := q
theorem r_ite {c : Bool} {X Y : Prop} (h1 : c = true → X) (h2 : c = false → Y) : if c = true then X else Y := by
  cases c with
  | true => exact h1 rfl
  | false => exact h2 rfl
theorem r_iteKT {c : Bool} {X Y : Prop} (e : c = true) (h : X) : if c = true then X else Y := by
  rw [e]
  exact h
theorem r_iteKF {c : Bool} {X Y : Prop} (e : c = false) (h : Y) : if c = true then X else Y := by
  rw [e]
  exact h
theorem r_iteT {X Y : Prop} (h : X) : if true = true then X else Y := h
theorem r_iteF {X Y : Prop} (h : Y) : if false = true then X else Y := h
/-! arithmetic -/
theorem r_I0 {g : Int → Int → V} {m n : Int} (q : Q (g m n) H) : rI0 g (.int m) (.int n) H Q := ⟨m, n, rfl, rfl, q⟩
theorem r_I {C : Int → Int → Prop} {g : Int → Int → V} {m n : Int} (c : C m n) (q : Q (g m n) H) : rI C g (.int m) (.int n) H Q := ⟨m, n, rfl, rfl, c, q⟩
theorem r_U {g : Int → V} {m : Int} (q : Q (g m) H) : rU g (.int m) H Q := ⟨m, rfl, q⟩
theorem r_addI {m n : Int} (q : Q (.int (m + n)) H) : rAddU K (.int m) (.int n) H Q := .inl ⟨m, n, rfl, rfl, q⟩
theorem r_addS {m n : Str} (l : m.length + n.length ≤ sizeLine) (q : Q (.str (m ++ n)) H) : rAddU K (.str m) (.str n) H Q := .inr (.inl ⟨m, n, rfl, rfl, l, q⟩)
theorem r_addL {a b : Addr} {xs ys : List V} (o : Ok H D Ms) (ha : H a = some (.lst xs)) (hb : H b = some (.lst ys)) (l : xs.length + ys.length ≤ sizeLine) (q : ∀ p H', Ok H' D ([(p, .lst (xs ++ ys))] :: Ms) → Q (.ref p) H') : rAddU K (.ref a) (.ref b) H Q :=
  .inr (.inr (.inl ⟨a, b, xs, ys, rfl, rfl, ha, hb, l, fun p n => q p _ (o.new n)⟩))
theorem r_mulI {m n : Int} (c : CMulG m n) (q : Q (.int (m * n)) H) : rMulU (.int m) (.int n) H Q := .inl ⟨m, n, rfl, rfl, c, q⟩
theorem r_repL {a : Addr} {k : Int} {xs : List V} (o : Ok H D Ms) (ha : H a = some (.lst xs)) (l0 : -(2 ^ 63) ≤ k) (l1 : k < 2 ^ 63) (l : xs.length * k.toNat ≤ sizeLine) (q : ∀ p H', Ok H' D ([(p, .lst (List.flatten (List.replicate k.toNat xs)))] :: Ms) → Q (.ref p) H') : rMulU (.ref a) (.int k) H Q :=
  .inr ⟨a, k, xs, rfl, rfl, ha, l0, l1, l, fun p n => q p _ (o.new n)⟩
theorem r_eqS {x y : V} (s : scal x y = true) (q : Q (.bl (decide (x = y))) H) : rEqU K x y H Q := .inl ⟨s, q⟩
theorem r_neS {x y : V} (s : scal x y = true) (q : Q (.bl (!decide (x = y))) H) : rNeU K x y H Q := .inl ⟨s, q⟩
theorem r_eqD {x y : V} {d e : PyData} (hd : Dp K H x d) (he : Dp K H y e) (sd : SeqAt.shaped d = true) (se : SeqAt.shaped e = true) (q : Q (.bl (PyData.eqv d e)) H) : rEqU K x y H Q := .inr (.inl ⟨d, e, hd, he, sd, se, q⟩)
theorem r_neD {x y : V} {d e : PyData} (hd : Dp K H x d) (he : Dp K H y e) (sd : SeqAt.shaped d = true) (se : SeqAt.shaped e = true) (q : Q (.bl (!PyData.eqv d e)) H) : rNeU K x y H Q := .inr (.inl ⟨d, e, hd, he, sd, se, q⟩)
theorem r_eqE {a b : Addr} {ks : List (Key × V)} (ha : H a = some (.dK ks)) (hb : H b = some (.dK [])) (q : Q (.bl ks.isEmpty) H) : rEqU K (.ref a) (.ref b) H Q := .inr (.inr ⟨a, b, ks, rfl, rfl, ha, hb, q⟩)
theorem r_neE {a b : Addr} {ks : List (Key × V)} (ha : H a = some (.dK ks)) (hb : H b = some (.dK [])) (q : Q (.bl (!ks.isEmpty)) H) : rNeU K (.ref a) (.ref b) H Q := .inr (.inr ⟨a, b, ks, rfl, rfl, ha, hb, q⟩)
theorem r_inD {a : Addr} {kvs : List (Key × V)} {k : Key} {x : V} (ha : H a = some (.dK kvs)) (e : x = kV k) (q : Q (.bl (valV kvs k).isSome) H) : rInU K x (.ref a) H Q := by
  subst e
  exact .inr (.inl ⟨a, _, rfl, DGet.k ha, q⟩)
theorem r_ninD {a : Addr} {kvs : List (Key × V)} {k : Key} {x : V} (ha : H a = some (.dK kvs)) (e : x = kV k) (q : Q (.bl (!(valV kvs k).isSome)) H) : rNinU K x (.ref a) H Q := by
  subst e
  exact .inr (.inl ⟨a, _, rfl, DGet.k ha, q⟩)
theorem r_inC {c : Nat} {z : Str} (q : Q (.bl (decide (c ∈ z.cps.toList))) H) : rInU K (.str ⟨#[c]⟩) (.str z) H Q := .inr (.inr (.inr ⟨c, z, rfl, rfl, q⟩))
theorem r_inT {x : V} {p : Addr} {xs : List V} (h : SqT K H p xs) (hx : flatV x = true) (ha : xs.all flatV = true) (q : Q (.bl (inV x xs)) H) : rInU K x (.ref p) H Q := .inl ⟨p, xs, rfl, .inr h, hx, ha, q⟩
theorem r_isN {x : V} (q : Q (.bl (decide (x = .non))) H) : (fun (x y : V) (H : Hp) (Q : VK) => y = .non ∧ Q (.bl (decide (x = .non))) H) x .non H Q := ⟨rfl, q⟩
/-! subscripts -/
theorem r_ixL {a : Addr} {xs : List V} {m : Int} (h : SqL K H a xs) (e : atI xs m = some v) (q : Q v H) : rIxU K (.ref a) (.int m) H Q := .inl ⟨a, xs, m, v, rfl, rfl, h, e, q⟩
theorem r_ixT {a : Addr} {xs : List V} {m : Int} (h : SqT K H a xs) (e : atI xs m = some v) (q : Q v H) : rIxU K (.ref a) (.int m) H Q := .inr (.inl ⟨a, xs, m, v, rfl, rfl, h, e, q⟩)
theorem r_ixD {a : Addr} {kvs : List (Key × V)} {k : Key} {x : V} (h : H a = some (.dK kvs)) (e : x = kV k) (hv : valV kvs k = some v) (q : Q v H) : rIxU K (.ref a) x H Q := by
  subst e
  exact .inr (.inr (.inl ⟨a, v, rfl, by rw [← hv]; exact DGet.k h, q⟩))
theorem r_ixF {a : Addr} {o : Obj} {kvs : List (Key × V)} {k : Key} {x : V} (h : H a = some (.frz o (.dK kvs))) (e : x = kV k) (hv : valV kvs k = some v) (q : Q v H) : rIxU K (.ref a) x H Q := by
  subst e
  exact .inr (.inr (.inl ⟨a, v, rfl, .inl ⟨kvs, k, .inr ⟨o, h⟩, rfl, hv.symm⟩, q⟩))
theorem r_ixS {z : Str} {m : Int} {c : Nat} (l : z.length ≤ sizeLine) (e : atI z.cps.toList m = some c) (q : Q (.str ⟨#[c]⟩) H) : rIxU K (.str z) (.int m) H Q := .inr (.inr (.inr ⟨z, m, c, rfl, rfl, l, e, q⟩))
theorem r_sl {r : V → Option Int → Option Int → Hp → VK → Prop} {tl th : TO} (q : te σ H fun x H1 => tl σ H1 fun l H2 => th σ H2 fun u H3 => r x l u H3 Q) : tSl r te tl th σ H Q := q
theorem r_noPart {P : Option Int → Hp → Prop} (q : P none H) : tNoPart σ H P := q
theorem r_part {P : Option Int → Hp → Prop} (q : te σ H fun x H1 => ∃ i, x = .int i ∧ P (some i) H1) : tPart te σ H P := q
theorem r_int {P : Int → Prop} {m : Int} (q : P m) : ∃ k, V.int m = .int k ∧ P k := ⟨m, rfl, q⟩
theorem r_slL {a : Addr} {xs : List V} {lo hi : Option Int} (o : Ok H D Ms) (h : SqL K H a xs) (q : ∀ p H', Ok H' D ([(p, .lst (cutV xs lo hi))] :: Ms) → Q (.ref p) H') : rSlU K (.ref a) lo hi H Q := .inl ⟨a, xs, rfl, h, fun p n => q p _ (o.new n)⟩
/-! fields -/
theorem r_fld {f : Str} (q : ta σ H fun x H1 => ∃ a C dx fs v, x = .ref a ∧ H1 a = some (.ins C dx fs) ∧ Cls K C ∧ NoAttr K C f ∧ fs.lookup f = some v ∧ Q v H1) : tFld K ta f σ H Q := q
theorem r_fldE {P : V → Prop} {a C dx : Addr} {fs : List (Str × V)} {f : Str} (h : H a = some (.ins C dx fs)) (c : Cls K C) (n : NoAttr K C f) (l : fs.lookup f = some v) (q : P v) :
    ∃ b C dx fs v, V.ref a = .ref b ∧ H b = some (.ins C dx fs) ∧ Cls K C ∧ NoAttr K C f ∧ fs.lookup f = some v ∧ P v := ⟨a, C, dx, fs, v, rfl, h, c, n, l, q⟩
def SetF (K : PySem.W.Frag) (f : Str) (y : V) (P : Hp → Prop) (x : V) (H : Hp) : Prop := ∃ a C dx fs, x = .ref a ∧ H a = some (.ins C dx fs) ∧ Cls K C ∧ NoAttr K C f ∧ fs.length < 1000 ∧ P (upd H a (.ins C dx (putF f y fs)))
theorem r_sfld {tv : TE} {f : Str} (q : tv σ H fun y H1 => ta σ H1 (SetF K f y (E.nx σ))) : sFld K ta tv f E σ H := q
theorem r_sfldE {a C dx : Addr} {fs fs' : List (Str × V)} {f : Str} {y : V} {P : Hp → Prop} (o : Ok H D Ms) (k : Pk Ms [(a, .ins C dx fs)] R) (c : Cls K C) (n : NoAttr K C f) (l : decide (fs.length < 1000) = true) (e : putF f y fs = fs') (q : ∀ H', Ok H' D ([(a, .ins C dx fs')] :: R) → P H') : SetF K f y P (.ref a) H := by
  subst e
  exact ⟨a, C, dx, fs, rfl, o.at1 k.mem, c, n, of_decide_eq_true l, q _ (o.wrAt k)⟩
/-! new objects -/
theorem r_newT {xs : List V} (o : Ok H D Ms) (l : xs.length ≤ sizeLine) (q : ∀ p H', Ok H' D ([(p, .tup xs)] :: Ms) → Q (.ref p) H') : NewT Q xs H := ⟨l, fun p n => q p _ (o.new n)⟩
theorem r_newL {xs : List V} (o : Ok H D Ms) (l : xs.length ≤ sizeLine) (q : ∀ p H', Ok H' D ([(p, .lst xs)] :: Ms) → Q (.ref p) H') : NewL Q xs H := ⟨l, fun p n => q p _ (o.new n)⟩
theorem r_newD (o : Ok H D Ms) (q : ∀ p H', Ok H' D ([(p, .dK [])] :: Ms) → Q (.ref p) H') : tDNewK σ H Q := fun p n => q p _ (o.new n)
/-! methods of lists, dicts -/
theorem r_bm {T : String} {r : V → List V → Hp → VK → Prop} (q : ta σ H fun x H1 => tyV K T x H1 ∧ t σ H1 fun xs H2 => r x xs H2 Q) : tBM K T r ta t σ H Q := q
theorem r_bm0 {T : String} {r : V → List V → Hp → VK → Prop} (q : ta σ H fun x H1 => tyV K T x H1 ∧ r x [] H1 Q) : tBM0 K T r ta σ H Q := q
theorem r_tyL {a : Addr} {xs : List V} {P : Prop} (h : SqL K H a xs) (q : P) : tyV K "list" (.ref a) H ∧ P := ⟨.inl ⟨rfl, _, h⟩, q⟩
theorem r_app {a : Addr} {xs : List V} {y : V} (o : Ok H D Ms) (k : Pk Ms [(a, .lst xs)] R) (l : xs.length < sizeLine) (q : ∀ H', Ok H' D ([(a, .lst (xs ++ [y]))] :: R) → Q .non H') : rAppend (.ref a) [y] H Q := ⟨a, xs, y, rfl, rfl, o.at1 k.mem, l, q _ (o.wrAt k)⟩
theorem r_get2 {td ty tx : TE} (q : td σ H fun x H1 => ∃ a, x = .ref a ∧ IsD H1 a ∧ ty σ H1 fun y H2 => tx σ H2 fun z H3 => ∃ o, DGet H3 a y o ∧ Q (o.getD z) H3) : tDGet2 td ty tx σ H Q := q
theorem r_isd {a : Addr} {kvs : List (Key × V)} {P : Addr → Prop} (h : H a = some (.dK kvs)) (q : P a) : ∃ b, V.ref a = .ref b ∧ IsD H b ∧ P b := ⟨a, rfl, .inl ⟨kvs, .inl h⟩, q⟩
theorem r_dget {a : Addr} {kvs : List (Key × V)} {k : Key} {y : V} {P : Option V → Prop} (h : H a = some (.dK kvs)) (e : y = kV k) (q : P (valV kvs k)) : ∃ o, DGet H a y o ∧ P o := by
  subst e
  exact ⟨_, DGet.k h, q⟩
theorem r_pop2 {td ty tx : TE} (q : td σ H fun x H1 => ∃ a, x = .ref a ∧ IsD H1 a ∧ ty σ H1 fun y H2 => tx σ H2 fun z H3 => ∃ kvs k, H3 a = some (.dK kvs) ∧ y = kV k ∧
  (∀ v, valV kvs k = some v → Q v (upd H3 a (.dK (dropK kvs k)))) ∧ (valV kvs k = none → Q z H3)) : tDPop2 td ty tx σ H Q := q
theorem r_dpop {a : Addr} {kvs : List (Key × V)} {k : Key} {y z : V} (o : Ok H D Ms) (pk : Pk Ms [(a, .dK kvs)] R) (e : y = kV k) (q1 : ∀ v H', valV kvs k = some v → Ok H' D ([(a, .dK (dropK kvs k))] :: R) → Q v H') (q2 : valV kvs k = none → Q z H) :
    ∃ kvs k, H a = some (.dK kvs) ∧ y = kV k ∧ (∀ v, valV kvs k = some v → Q v (upd H a (.dK (dropK kvs k)))) ∧ (valV kvs k = none → Q z H) := ⟨kvs, k, o.at1 pk.mem, e, fun v h => q1 v _ h (o.wrAt pk), q2⟩
/-! stores -/
theorem r_setL {a : Addr} {xs : List V} {m : Int} {j : Nat} {P : Hp → Prop} (o : Ok H D Ms) (k : Pk Ms [(a, .lst xs)] R) (e : ixN xs.length m = some j) (q : ∀ H', Ok H' D ([(a, .lst (xs.set j v))] :: R) → P H') : rSetU (.ref a) (.int m) v H P := .inl ⟨a, xs, m, j, rfl, rfl, o.at1 k.mem, e, q _ (o.wrAt k)⟩
theorem r_setD {a : Addr} {kvs : List (Key × V)} {k : Key} {x : V} {P : Hp → Prop} (o : Ok H D Ms) (pk : Pk Ms [(a, .dK kvs)] R) (e : x = kV k) (l : kvs.length < sizeLine) (q : ∀ H', Ok H' D ([(a, .dK (putK kvs k v))] :: R) → P H') : rSetU (.ref a) x v H P := by
  subst e
  exact .inr ⟨a, _, rfl, DPut.k (o.at1 pk.mem) l, q _ (o.wrAt pk)⟩
theorem r_asg {g : TG} (q : te σ H fun x H1 => g x σ H1 E.nx) : tAsg te g E σ H := q
theorem r_name {P : L2.St → Hp → Prop} (q : P (σ.set i (some v)) H) : gName i v σ H P := q
theorem r_sub {to ti : TE} {s : TSet} {P : L2.St → Hp → Prop} (q : to σ H fun o H1 => ti σ H1 fun i H2 => s o i v H2 fun H3 => P σ H3) : gSub to ti s v σ H P := q
theorem r_gtup {n : Nat} {u : TGs} {a : Addr} {xs : List V} {P : L2.St → Hp → Prop} (h : SqT K H a xs) (l : xs.length = n) (q : u xs σ H P) : gTup K n u (.ref a) σ H P := ⟨a, xs, rfl, h, l, q⟩
theorem r_gcons {g : TG} {u : TGs} {x : V} {xs : List V} {P : L2.St → Hp → Prop} (q : g x σ H fun σ' H' => u xs σ' H' P) : gCons g u (x :: xs) σ H P := ⟨x, xs, rfl, q⟩
theorem r_gnil {P : L2.St → Hp → Prop} (q : P σ H) : gNil [] σ H P := ⟨rfl, q⟩
theorem r_par {j : Nat} {x y : V} {P : List V → Hp → Prop} (q : E.nx ((σ.set i (some x)).set j (some y)) H) : ∃ v w, [x, y] = [v, w] ∧ E.nx ((σ.set i (some v)).set j (some w)) H := ⟨x, y, rfl, q⟩
/-! statements -/
variable {t1 t2 : TS}
theorem r_seq (q : t1 { E with nx := t2 E } σ H) : tSeq t1 t2 E σ H := q
theorem r_next (q : E.nx σ H) : tNext E σ H := q
theorem r_ret (q : te σ H E.rt) : tRet te E σ H := q
theorem r_retN (q : E.rt .non H) : tRetN E σ H := q
theorem r_drop (q : te σ H fun _ H1 => E.nx σ H1) : tDrop te E σ H := q
theorem r_ifS (q : tt σ H fun b H1 => if b = true then t1 E σ H1 else t2 E σ H1) : tIfS tt t1 t2 E σ H := q
theorem r_tpar {j : Nat} (q : t σ H fun vs H1 => ∃ v w, vs = [v, w] ∧ E.nx ((σ.set i (some v)).set j (some w)) H1) : tPar i j t E σ H := q
/-! calls -/
theorem r_callS {sp : Sp} {X : L2.St → XK} (q : t σ H fun vs H1 => sp vs H1 Q (X σ)) : tCallS sp X t σ H Q := q
theorem r_call {sp : Sp} {X : XK} (q : t σ H fun vs H1 => sp (vs ++ []) H1 Q X) : tCall sp [] X t σ H Q := q
theorem r_me {C : Addr} {m : Str} {sp : Sp} {X : XK} (q : ta σ H fun x H1 => ∃ a dx fs, x = .ref a ∧ H1 a = some (.ins C dx fs) ∧ fs.lookup m = none ∧ t σ H1 fun vs H2 => sp (x :: vs) H2 Q X) : tMe C m sp X ta t σ H Q := q
theorem r_meE {a C dx : Addr} {fs : List (Str × V)} {m : Str} {P : Prop} (h : H a = some (.ins C dx fs)) (l : fs.lookup m = none) (q : P) : ∃ b dx fs, V.ref a = .ref b ∧ H b = some (.ins C dx fs) ∧ fs.lookup m = none ∧ P := ⟨a, dx, fs, rfl, h, l, q⟩
def MkA (C : Addr) (sp : Sp) (X : XK) (Q : VK) (vs : List V) (H : Hp) : Prop := ∀ x dx, H x = none → H dx = none → dx ≠ x → sp (.ref x :: vs) (upd (upd H dx (.own x)) x (.ins C dx [])) (fun v H2 => v = .non ∧ Q (.ref x) H2) X
theorem r_mk {C : Addr} {sp : Sp} {X : XK} (q : t σ H (MkA C sp X Q)) : tMk C sp X t σ H Q := q
theorem r_mkE {C : Addr} {sp : Sp} {X : XK} {vs : List V} (o : Ok H D Ms) (q : ∀ x dx H', Ok H' D ([(x, .ins C dx [])] :: Ms) → sp (.ref x :: vs) H' (fun v H2 => v = .non ∧ Q (.ref x) H2) X) : MkA C sp X Q vs H := fun x dx nx ndx ne =>
  q x dx _ ((o.skip (o := .own x) ndx).new (by rw [upd_ne ne.symm]; exact nx))
theorem r_len {a : Addr} {xs : List V} (h : SqL K H a xs) (q : Q (.int xs.length) H) : rLenU K [.ref a] H Q := .inl ⟨a, xs, rfl, .inl h, q⟩
theorem r_lenT {a : Addr} {xs : List V} (h : SqT K H a xs) (q : Q (.int xs.length) H) : rLenU K [.ref a] H Q := .inl ⟨a, xs, rfl, .inr h, q⟩
theorem r_lenS {z : Str} (l : z.length ≤ sizeLine) (q : Q (.int z.length) H) : rLenU K [.str z] H Q := .inr (.inl ⟨z, rfl, l, q⟩)
theorem r_sum {a : Addr} {ns : List Int} {xs : List V} (h : SqL K H a xs) (e : xs = ns.map V.int) (q : Q (.int ns.sum) H) : rSum K [.ref a] H Q := ⟨a, ns, rfl, by rw [← e]; exact h, q⟩
theorem r_all {a : Addr} {bs : List Bool} {xs : List V} (h : SqL K H a xs) (e : xs = bs.map V.bl) (q : Q (.bl (bs.all id)) H) : rAll K [.ref a] H Q := ⟨a, bs, rfl, by rw [← e]; exact h, q⟩
theorem r_any {a : Addr} {bs : List Bool} {xs : List V} (h : SqL K H a xs) (e : xs = bs.map V.bl) (q : Q (.bl (bs.any id)) H) : rAny K [.ref a] H Q := ⟨a, bs, rfl, by rw [← e]; exact h, q⟩
theorem r_intB {P : Int → Prop} {P' : Bool → Prop} {b : Bool} (q : P' b) : (∃ i, [V.bl b] = [V.int i] ∧ P i) ∨ ∃ k, [V.bl b] = [V.bl k] ∧ P' k := .inr ⟨b, rfl, q⟩
theorem r_two {P : Int → Int → Prop} {m n : Int} (q : P m n) : ∃ i j, [V.int m, V.int n] = [V.int i, V.int j] ∧ P i j := ⟨m, n, rfl, q⟩
theorem sz_of {n : Nat} (h : decide (n ≤ 100) = true) : n ≤ sizeLine := Nat.le_trans (of_decide_eq_true h) (by decide)
theorem r_dgetI {a : Addr} {kvs : List (Key × V)} {m : Int} {P : Option V → Prop} (h : H a = some (.dK kvs)) (q : P (valV kvs (Sum.inl m))) : ∃ o, DGet H a (.int m) o ∧ P o := r_dget (k := Sum.inl m) h rfl q
theorem r_ixDI {a : Addr} {kvs : List (Key × V)} {m : Int} (h : H a = some (.dK kvs)) (hv : valV kvs (Sum.inl m) = some v) (q : Q v H) : rIxU K (.ref a) (.int m) H Q := r_ixD (k := Sum.inl m) h rfl hv q
theorem r_ixDS {a : Addr} {kvs : List (Key × V)} {z : Str} (h : H a = some (.dK kvs)) (hv : valV kvs (Sum.inr z) = some v) (q : Q v H) : rIxU K (.ref a) (.str z) H Q := r_ixD (k := Sum.inr z) h rfl hv q
theorem r_inDI {a : Addr} {kvs : List (Key × V)} {m : Int} (h : H a = some (.dK kvs)) (q : Q (.bl (valV kvs (Sum.inl m)).isSome) H) : rInU K (.int m) (.ref a) H Q := r_inD (k := Sum.inl m) h rfl q
theorem r_ninDI {a : Addr} {kvs : List (Key × V)} {m : Int} (h : H a = some (.dK kvs)) (q : Q (.bl (!(valV kvs (Sum.inl m)).isSome)) H) : rNinU K (.int m) (.ref a) H Q := r_ninD (k := Sum.inl m) h rfl q
theorem r_setDI {a : Addr} {kvs : List (Key × V)} {m : Int} {P : Hp → Prop} (o : Ok H D Ms) (pk : Pk Ms [(a, .dK kvs)] R) (l : kvs.length < sizeLine) (q : ∀ H', Ok H' D ([(a, .dK (putK kvs (Sum.inl m) v))] :: R) → P H') : rSetU (.ref a) (.int m) v H P := r_setD (k := Sum.inl m) o pk rfl l q
theorem r_setDS {a : Addr} {kvs kvs' : List (Key × V)} {z : Str} {P : Hp → Prop} (o : Ok H D Ms) (pk : Pk Ms [(a, .dK kvs)] R) (l : decide (kvs.length < sizeLine) = true) (e : putK kvs (Sum.inr z) v = kvs') (q : ∀ H', Ok H' D ([(a, .dK kvs')] :: R) → P H') : rSetU (.ref a) (.str z) v H P := by
  subst e
  exact r_setD (k := Sum.inr z) o pk rfl (of_decide_eq_true l) q
theorem r_dpopI {a : Addr} {kvs : List (Key × V)} {m : Int} {z : V} {P : V → Hp → Prop} (o : Ok H D Ms) (pk : Pk Ms [(a, .dK kvs)] R) (q1 : ∀ v H', valV kvs (Sum.inl m) = some v → Ok H' D ([(a, .dK (dropK kvs (Sum.inl m)))] :: R) → P v H') (q2 : valV kvs (Sum.inl m) = none → P z H) :
    ∃ kvs k, H a = some (.dK kvs) ∧ V.int m = kV k ∧ (∀ v, valV kvs k = some v → P v (upd H a (.dK (dropK kvs k)))) ∧ (valV kvs k = none → P z H) := r_dpop (k := Sum.inl m) o pk rfl q1 q2
end
end G

/-! walks: loops and comprehensions over the logic of heaps -/
namespace G
open PySem PySem.Spec PyProof.Rows L2
section
variable {K : PySem.W.Frag} {H D : Hp} {Ms R : List (List Cell)} {σ : L2.St} {Q : VK} {ta te : TE} {t : TA} {tt : TT} {E : Ends} {v : V} {g : TG} {tb : TS}
/-- what a walk's turn gives, in terms of Ok: the value x at turn i; new objects may have come -/
theorem r_lc {wi : TI} {vs : List Nat} (q : wi σ H fun J H1 => ∀ D, H1 D = none → ∃ W : Nat → Nat → Hp → Prop, (∃ m, W 0 m (upd H1 D (.lst []))) ∧ ∀ i m H, W i m H →
  (J.stop i H ∧ Q (.ref D) H) ∨ (J.go i H ∧ ∃ Nx : Hp → Prop, (∀ H', Nx H' → ∃ m', m' < m ∧ W (i + 1) m' H') ∧ ∀ x H', J.yld i H x H' → g x (wipe σ vs) H' fun σ2 H2 => wipe σ2 vs = wipe σ vs ∧ tt σ2 H2 fun b H3 =>
    if b = true then te σ2 H3 fun y H4 => ∃ acc, H4 D = some (.lst acc) ∧ acc.length < sizeLine ∧ Nx (upd H4 D (.lst (acc ++ [y]))) else Nx H3)) : tLc wi g tt te vs σ H Q := q
theorem lcG {Qd : Addr → Hp → Prop} {J : It} {n : Nat} {G : Hp → Prop} {Y : Nat → Hp → V → Hp → Prop} {vs : List Nat} (w : Walk J n G Y) (o : Ok H D Ms) (Rl : Nat → List V → Hp → Prop) (hn : n ≤ 100000) (h0 : Rl 0 [] D)
    (hl : ∀ i acc D', Rl i acc D' → acc.length ≤ i)
    (hG : ∀ i L acc H' D', Ok H' D' ([(L, .lst acc)] :: Ms) → Same D D' → Rl i acc D' → G H')
    (hs : ∀ (i : Nat) (x : V) (L : Addr) (acc : List V) (H' H'' D' : Hp) (Ny : V → Hp → Prop) (Nn : Hp → Prop), i < n → Ok H' D' ([(L, .lst acc)] :: Ms) → Same D D' → Rl i acc D' → Y i H' x H'' →
      (∀ y H4 D4, Ok H4 D4 ([(L, .lst acc)] :: Ms) → Same D' D4 → Rl (i + 1) (acc ++ [y]) D4 → Ny y H4) → (∀ H4 D4, Ok H4 D4 ([(L, .lst acc)] :: Ms) → Same D' D4 → Rl (i + 1) acc D4 → Nn H4) →
      g x (wipe σ vs) H'' fun σ2 H2 => wipe σ2 vs = wipe σ vs ∧ tt σ2 H2 fun b H3 => if b = true then te σ2 H3 Ny else Nn H3)
    (hd : ∀ L acc H' D', Ok H' D' ([(L, .lst acc)] :: Ms) → Same D D' → Rl n acc D' → Qd L H') :
    ∀ L, H L = none → ∃ W : Nat → Nat → Hp → Prop, (∃ m, W 0 m (upd H L (.lst []))) ∧ ∀ i m H, W i m H →
  (J.stop i H ∧ Qd L H) ∨ (J.go i H ∧ ∃ Nx : Hp → Prop, (∀ H', Nx H' → ∃ m', m' < m ∧ W (i + 1) m' H') ∧ ∀ x H', J.yld i H x H' → g x (wipe σ vs) H' fun σ2 H2 => wipe σ2 vs = wipe σ vs ∧ tt σ2 H2 fun b H3 =>
    if b = true then te σ2 H3 fun y H4 => ∃ acc, H4 L = some (.lst acc) ∧ acc.length < sizeLine ∧ Nx (upd H4 L (.lst (acc ++ [y]))) else Nx H3) := by
  intro L nL
  refine lc_it w (Qd := Qd L) (fun i H' => ∃ acc D', Ok H' D' ([(L, .lst acc)] :: Ms) ∧ Same D D' ∧ Rl i acc D') ⟨[], D, o.new nL, Same.refl D, h0⟩ ?_ ?_ ?_
  · rintro i H' _ ⟨acc, D', o', s', r'⟩
    exact hG i L acc H' D' o' s' r'
  · rintro i x H' H'' hi ⟨acc, D', o', s', r'⟩ y
    refine hs i x L acc H' H'' D' _ _ hi o' s' r' y ?_ ?_
    · intro y H4 D4 o4 s4 r4
      have q := hl i acc D' r'
      exact ⟨acc, o4.at1 (.head _), Nat.lt_of_le_of_lt (show acc.length ≤ 100000 by omega) (by decide), acc ++ [y], D4, o4.wr, s'.trans s4, r4⟩
    · intro H4 D4 o4 s4 r4
      exact ⟨acc, D4, o4, s'.trans s4, r4⟩
  · rintro H' ⟨acc, D', o', s', r'⟩
    exact hd L acc H' D' o' s' r'
/-- every item gives one value, nothing else happens -/
theorem lcMap {Qd : Addr → Hp → Prop} {J : It} {n : Nat} {G : Hp → Prop} {Y : Nat → Hp → V → Hp → Prop} {vs : List Nat} (f : Nat → V) (w : Walk J n G Y) (o : Ok H D Ms) (hn : n ≤ 100000)
    (hG : ∀ L acc H', Ok H' D ([(L, .lst acc)] :: Ms) → G H')
    (hs : ∀ (i : Nat) (x : V) (L : Addr) (acc : List V) (H' H'' : Hp) (Ny : V → Hp → Prop) (Nn : Hp → Prop), i < n → Ok H' D ([(L, .lst acc)] :: Ms) → Y i H' x H'' →
      (∀ H4, Ok H4 D ([(L, .lst acc)] :: Ms) → Ny (f i) H4) → g x (wipe σ vs) H'' fun σ2 H2 => wipe σ2 vs = wipe σ vs ∧ tt σ2 H2 fun b H3 => if b = true then te σ2 H3 Ny else Nn H3)
    (hd : ∀ L H', Ok H' D ([(L, .lst ((List.range n).map f))] :: Ms) → Qd L H') :
    ∀ L, H L = none → ∃ W : Nat → Nat → Hp → Prop, (∃ m, W 0 m (upd H L (.lst []))) ∧ ∀ i m H, W i m H →
  (J.stop i H ∧ Qd L H) ∨ (J.go i H ∧ ∃ Nx : Hp → Prop, (∀ H', Nx H' → ∃ m', m' < m ∧ W (i + 1) m' H') ∧ ∀ x H', J.yld i H x H' → g x (wipe σ vs) H' fun σ2 H2 => wipe σ2 vs = wipe σ vs ∧ tt σ2 H2 fun b H3 =>
    if b = true then te σ2 H3 fun y H4 => ∃ acc, H4 L = some (.lst acc) ∧ acc.length < sizeLine ∧ Nx (upd H4 L (.lst (acc ++ [y]))) else Nx H3) := by
  refine lcG w o (fun i acc D' => acc = (List.range i).map f ∧ D' = D) hn ⟨rfl, rfl⟩ ?_ ?_ ?_ ?_
  · rintro i acc D' ⟨rfl, _⟩
    simp
  · rintro i L acc H' D' o' _ ⟨_, rfl⟩
    exact hG L acc H' o'
  · rintro i x L acc H' H'' D' Ny Nn hi o' _ ⟨rfl, rfl⟩ y k _
    refine hs i x L _ H' H'' Ny Nn hi o' y fun H4 o4 => k _ H4 D' o4 (Same.refl D') ⟨?_, rfl⟩
    rw [List.range_succ, List.map_append]
    rfl
  · rintro L acc H' D' o' _ ⟨rfl, rfl⟩
    exact hd L H' o'
/-! locks -/
theorem r_lockE {d : Addr} {u : HO} {te : TE} (o : Ok H D Ms) (k : Pk Ms [(d, u)] R) (m : Mut (some u)) (q : ∀ od H1, Ok H1 D ([(d, .frz od u)] :: R) → te σ H1 fun v H' => H' d = some (.frz od u) ∧ Q v (upd H' d u)) : tLockE te σ H Q :=
  ⟨d, u, o.at1 k.mem, m, fun od => q od _ (o.wrAt k)⟩
theorem r_unlock {d : Addr} {u : HO} {od : Obj} {P : Hp → Prop} (o : Ok H D Ms) (k : Pk Ms [(d, .frz od u)] R) (q : ∀ H', Ok H' D ([(d, u)] :: R) → P H') : H d = some (.frz od u) ∧ P (upd H d u) := ⟨o.at1 k.mem, q _ (o.wrAt k)⟩
theorem r_lock {d : Addr} {u : HO} (o : Ok H D Ms) (k : Pk Ms [(d, u)] R) (m : Mut (some u)) (q : ∀ od H1, Ok H1 D ([(d, .frz od u)] :: R) → tb ⟨fun σ' H' => H' d = some (.frz od u) ∧ E.nx σ' (upd H' d u), fun v H' => H' d = some (.frz od u) ∧ E.rt v (upd H' d u), fun σ' H' => H' d = some (.frz od u) ∧ E.bk σ' (upd H' d u), fun σ' H' => H' d = some (.frz od u) ∧ E.ct σ' (upd H' d u)⟩ σ H1) : tLock tb E σ H :=
  ⟨d, u, o.at1 k.mem, m, fun od => q od _ (o.wrAt k)⟩
/-! how walks begin -/
theorem i_str {te : TE} {P : It → Hp → Prop} (q : te σ H fun v H1 => ∃ x, v = .str x ∧ P (Its x) H1) : iStr te σ H P := q
theorem i_seq {te : TE} {P : It → Hp → Prop} (q : te σ H fun x H1 => (∃ a, x = .ref a ∧ (∃ xs, SqL K H1 a xs) ∧ P (Itl K a) H1) ∨ (∃ a, x = .ref a ∧ (∃ xs, SqT K H1 a xs) ∧ P (Itt K a) H1)) : iSeq K te σ H P := q
theorem i_keys {td : TE} {P : It → Hp → Prop} (q : td σ H fun x H1 => ∃ d o, x = .ref d ∧ ((∃ kvs, H1 d = some (.frz o (.dK kvs)) ∧ P (Itk d o kvs) H1) ∨ ∃ kvs, H1 d = some (.frz o (.dT kvs)) ∧ P (Itkt d o kvs) H1)) : iKeys td σ H P := q
theorem i_enum {ta : TA} {P : It → Hp → Prop} (q : ta σ H fun vs H1 => ∃ a xs, vs = [.ref a] ∧ SqL K H1 a xs ∧ P (Ite K a) H1) : iEnum K ta σ H P := q
theorem i_rng1 {ta : TA} {P : It → Hp → Prop} (q : ta σ H fun vs H1 => ∃ j : Int, vs = [.int j] ∧ -(2 ^ 62) ≤ j ∧ j < 2 ^ 62 ∧ P (Itr 0 j.toNat) H1) : iRng1 ta σ H P := q
theorem i_rng2 {ta : TA} {P : It → Hp → Prop} (q : ta σ H fun vs H1 => ∃ i j : Int, vs = [.int i, .int j] ∧ (-(2 ^ 62) ≤ i ∧ i < 2 ^ 62 ∧ -(2 ^ 62) ≤ j ∧ j < 2 ^ 62) ∧ P (Itr i (j - i).toNat) H1) : iRng2 ta σ H P := q
theorem i_tup {te : TE} {P : It → Hp → Prop} (q : te σ H fun x H1 => ∃ a, x = .ref a ∧ (∃ xs, SqT K H1 a xs) ∧ P (Itt K a) H1) : iTup K te σ H P := q
theorem r_yes {B : Bool → Hp → Prop} (q : B true H) : tYes σ H B := q
theorem r_vals {te : TE} (q : te σ H fun x H1 => rValsL x H1 Q) : tListVals te σ H Q := q
theorem r_items {te : TE} (q : te σ H fun x H1 => LiI.rItemsL x H1 Q) : LiI.tListItems te σ H Q := q
theorem r_valsE {d : Addr} {kvs : List (Key × V)} (o : Ok H D Ms) (h : H d = some (.dK kvs)) (q : ∀ p H', Ok H' D ([(p, .lst (kvs.map (·.2)))] :: Ms) → Q (.ref p) H') : rValsL (.ref d) H Q := ⟨d, kvs, rfl, h, fun p n => q p _ (o.new n)⟩
theorem r_iseqL {P P' : Addr → Prop} {a : Addr} {xs : List V} (h : SqL K H a xs) (q : P a) : (∃ b, V.ref a = .ref b ∧ (∃ xs, SqL K H b xs) ∧ P b) ∨ (∃ b, V.ref a = .ref b ∧ (∃ xs, SqT K H b xs) ∧ P' b) := .inl ⟨a, rfl, ⟨xs, h⟩, q⟩
theorem r_iseqT {P P' : Addr → Prop} {a : Addr} {xs : List V} (h : SqT K H a xs) (q : P' a) : (∃ b, V.ref a = .ref b ∧ (∃ xs, SqL K H b xs) ∧ P b) ∨ (∃ b, V.ref a = .ref b ∧ (∃ xs, SqT K H b xs) ∧ P' b) := .inr ⟨a, rfl, ⟨xs, h⟩, q⟩
theorem r_itupE {P' : Addr → Prop} {a : Addr} {xs : List V} (h : SqT K H a xs) (q : P' a) : ∃ b, V.ref a = .ref b ∧ (∃ xs, SqT K H b xs) ∧ P' b := ⟨a, rfl, ⟨xs, h⟩, q⟩
theorem r_ikeys {P : Addr → Obj → List (Key × V) → Prop} {P' : Addr → Obj → List (List Key × V) → Prop} {d : Addr} {od : Obj} {kvs : List (Key × V)} (h : H d = some (.frz od (.dK kvs))) (q : P d od kvs) :
    ∃ b o, V.ref d = .ref b ∧ ((∃ kvs, H b = some (.frz o (.dK kvs)) ∧ P b o kvs) ∨ ∃ kvs, H b = some (.frz o (.dT kvs)) ∧ P' b o kvs) := ⟨d, od, rfl, .inl ⟨kvs, h, q⟩⟩
theorem r_istr {P : Str → Prop} {x : Str} (q : P x) : ∃ z, V.str x = .str z ∧ P z := ⟨x, rfl, q⟩
theorem r_ienum {P : Addr → Prop} {a : Addr} {xs : List V} (h : SqL K H a xs) (q : P a) : ∃ b ys, [V.ref a] = [.ref b] ∧ SqL K H b ys ∧ P b := ⟨a, xs, rfl, h, q⟩
theorem r_irng1 {P : Int → Prop} {n : Int} (h : -(2 ^ 62) ≤ n ∧ n < 2 ^ 62) (q : P n) : ∃ j : Int, [V.int n] = [.int j] ∧ -(2 ^ 62) ≤ j ∧ j < 2 ^ 62 ∧ P j := ⟨n, rfl, h.1, h.2, q⟩
theorem r_irng2 {P : Int → Int → Prop} {m n : Int} (h : -(2 ^ 62) ≤ m ∧ m < 2 ^ 62 ∧ -(2 ^ 62) ≤ n ∧ n < 2 ^ 62) (q : P m n) : ∃ i j : Int, [V.int m, V.int n] = [.int i, .int j] ∧ (-(2 ^ 62) ≤ i ∧ i < 2 ^ 62 ∧ -(2 ^ 62) ≤ j ∧ j < 2 ^ 62) ∧ P i j := ⟨m, n, rfl, h, q⟩
/-- a for over a walk -/
theorem r_for {wi : TI} (q : wi σ H fun J H1 => ∃ W : Nat → Nat → L2.St → Hp → Prop, (∃ m, W 0 m σ H1) ∧ ∀ i m σ H, W i m σ H →
      (J.stop i H ∧ E.nx σ H) ∨ (J.go i H ∧ ∃ N : L2.St → Hp → Prop, (∀ σ' H', N σ' H' → ∃ m', m' < m ∧ W (i + 1) m' σ' H') ∧ ∀ x H', J.yld i H x H' → g x σ H' fun σ2 H2 => tb { E with nx := N, ct := N, bk := E.nx } σ2 H2)) : tFor wi g tb E σ H := q
end
end G

/-! the rules that name the written part, with its name told -/
namespace G
open PySem PySem.Spec PyProof.Rows L2
section
variable {X : Cx} {K : PySem.W.Frag}
theorem k_addU (h : X.K = K := by rfl) : OpR X (binaryOp .Add) (rAddU K) := by
  subst h
  exact op_addU
theorem k_eqU {k : Nat} (hr : Room k X.A) (h : X.K = K := by rfl) : OpR X (compareOp .Eq) (rEqU K) := by
  subst h
  exact op_eqU hr
theorem k_neU {k : Nat} (hr : Room k X.A) (h : X.K = K := by rfl) : OpR X (compareOp .NotEq) (rNeU K) := by
  subst h
  exact op_neU hr
theorem k_inU {k : Nat} (hr : Room k X.A) (h : X.K = K := by rfl) : OpR X (compareOp .In) (rInU K) := by
  subst h
  exact op_inU hr
theorem k_ninU {k : Nat} (hr : Room k X.A) (h : X.K = K := by rfl) : OpR X (compareOp .NotIn) (rNinU K) := by
  subst h
  exact op_ninU hr
theorem k_ixU (hu : X.A.units + 1 < cLine) (h : X.K = K := by rfl) : IxR X (rIxU K) := by
  subst h
  exact ix_U hu
theorem k_slU (h : X.K = K := by rfl) : SlR X (rSlU K) := by
  subst h
  exact sl_U
theorem k_lenU (h : X.K = K := by rfl) : CallR X (.builtin "len") (rLenU K) := by
  subst h
  exact call_lenU
theorem k_sum (hc : X.calm = true) (h : X.K = K := by rfl) : CallR X (.builtin "sum") (rSum K) := by
  subst h
  exact cr_sum hc
theorem k_any (hc : X.calm = true) (h : X.K = K := by rfl) : CallR X (.builtin "any") (rAny K) := by
  subst h
  exact cr_any hc
theorem k_all (hc : X.calm = true) (h : X.K = K := by rfl) : CallR X (.builtin "all") (rAll K) := by
  subst h
  exact cr_all hc
theorem k_max (hc : X.calm = true) (h : X.K = K := by rfl) : CallR X (.builtin "max") (rMax K) := by
  subst h
  exact cr_max hc
theorem k_min (hc : X.calm = true) (h : X.K = K := by rfl) : CallR X (.builtin "min") (rMin K) := by
  subst h
  exact cr_min hc
theorem k_sorted (hc : X.calm = true) (h : X.K = K := by rfl) : CallR X (.builtin "sorted") (rSrtU K) := by
  subst h
  exact call_sortedU hc
theorem k_isi (h : X.K = K := by rfl) : CallR X (.builtin "isinstance") (rIsi K) := by
  subst h
  exact call_isi
theorem k_list (h : X.K = K := by rfl) : CallR X (.type "list") (fun xs H Q => ∃ p ys, xs = [.ref p] ∧ (SqL K H p ys ∨ SqT K H p ys) ∧ ∀ l, H l = none → Q (.ref l) (upd H l (.lst ys))) := by
  subst h
  exact call_list_of
theorem k_tuple (h : X.K = K := by rfl) : CallR X (.type "tuple") (fun xs H Q => ∃ p ys, xs = [.ref p] ∧ ((SqL K H p ys ∧ ∀ l, H l = none → Q (.ref l) (upd H l (.tup ys))) ∨ (SqT K H p ys ∧ Q (.ref p) H))) := by
  subst h
  exact call_tuple_of
theorem k_dict (hc : X.calm = true) (h : X.K = K := by rfl) : CallR X (.type "dict") (fun xs H Q => ∃ (a : Addr) (ps : List Addr) (kvs : List (Key × V)), xs = [.ref a] ∧ SqL K H a (ps.map V.ref) ∧ Paired (fun p kv => SqT K H p [kV kv.1, kv.2]) ps kvs ∧
    (∀ p, H p = none → Q (.ref p) (upd H p (.dK (mergeK [] kvs))))) := by
  subst h
  exact call_dictP hc
theorem k_fld {e : Expr} {ta : TE} {f : Str} {pos : Pos} (he : PE X e ta) (hb : attributeBase e f X.env (eval e X.env) = eval e X.env) (h : X.K = K := by rfl) : PE X (.Attribute e f pos) (tFld K ta f) := by
  subst h
  exact pe_fld he hb
theorem k_sfld {o value : Expr} {ta tv : TE} {f : Str} {pos pos' : Pos} (ha : PE X o ta) (hv : PE X value tv) (hs : swapsWith value (some (.Attribute o f pos')) pos.line X.env = pure false) (h : X.K = K := by rfl) : PS X (.Assign [.Attribute o f pos'] value pos) (sFld K ta tv f) := by
  subst h
  exact ps_fld ha hv hs
theorem k_seq {tg l : Expr} {tl : TE} (hl : PE X l tl) (h : X.K = K := by rfl) : PI X tg l (iSeq K tl) := by
  subst h
  exact pi_seq hl
theorem k_tup {tg l : Expr} {tl : TE} (hl : PE X l tl) (h : X.K = K := by rfl) : PI X tg l (iTup K tl) := by
  subst h
  exact pi_tup hl
theorem k_enum {e : Expr} {ta : TA} {p pos tpos : Pos} {elts : List Expr} {kk : Nat} (hg : Gl X "enumerate") (hm : X.mg "enumerate" = none) (ha : PA X [e] ta) (hs : starEach [e] X.env = [(false, eval e X.env)] := by rfl) (h : X.K = K := by rfl) :
    PI X (.Tuple elts kk tpos) (.Call (.Name "enumerate" p) [e] [] pos) (iEnum K ta) := by
  subst h
  exact pi_enum hg hm ha hs
theorem k_zip {tg it : Expr} {ta : TA} (q : PI X tg it (iZip X.K ta)) (h : X.K = K := by rfl) : PI X tg it (iZip K ta) := by
  subst h
  exact q
theorem k_bm {T : String} {r : V → List V → Hp → VK → Prop} {to : TE} {t : TA} {e : Expr} (q : PE X e (tBM X.K T r to t)) (h : X.K = K := by rfl) : PE X e (tBM K T r to t) := by
  subst h
  exact q
theorem k_bm0 {T : String} {r : V → List V → Hp → VK → Prop} {to : TE} {e : Expr} (q : PE X e (tBM0 X.K T r to)) (h : X.K = K := by rfl) : PE X e (tBM0 K T r to) := by
  subst h
  exact q
theorem k_gtup {es : List Expr} {k : Nat} {t : TGs} {n : Nat} {pos : Pos} (hc : X.calm = true) (h : PGs X es t)
    (hn : (assignEach es X.env).length = n := by rfl) (hst : (assignEach es X.env).findIdx? (·.1) = none := by rfl) (hK : X.K = K := by rfl) : PG X (.Tuple es k pos) (gTup K n t) := by
  subst hK
  exact pg_tup hc h hn hst
end
end G

/-! the mirror's data: wishes -/
namespace G
open PySem PySem.Spec PyProof.Rows L2
abbrev AL := List (Int × Int)
structure W where
  ow : Int
  word : Str
  price : Int
  many : Int
  st : Bool
  tk : AL
  pl : AL
  deriving DecidableEq
def kvs (l : AL) : List (Key × V) := l.map fun p => (Sum.inl p.1, V.int p.2)
def alSum (l : AL) : Int := (l.map (·.2)).sum
def alGet : AL → Int → Option Int
  | [], _ => none
  | p :: r, k => if p.1 = k then some p.2 else alGet r k
def alPut : AL → Int → Int → AL
  | [], k, v => [(k, v)]
  | p :: r, k, v => if p.1 = k then (k, v) :: r else p :: alPut r k v
def alDrop (l : AL) (k : Int) : AL := l.filter fun p => decide (p.1 ≠ k)
def NdK (l : AL) : Prop := (l.map (·.1)).Nodup
theorem kvs_len {l : AL} : (kvs l).length = l.length := List.length_map ..
theorem kvs_isEmpty {l : AL} : (kvs l).isEmpty = l.isEmpty := by cases l <;> rfl
theorem kvs_val : ∀ {l : AL} {k : Int}, valV (kvs l) (Sum.inl k) = (alGet l k).map V.int
  | [], _ => rfl
  | p :: r, k => by
    show valV ((Sum.inl p.1, V.int p.2) :: kvs r) _ = _
    unfold alGet
    by_cases e : p.1 = k
    · rw [valV_pos (by rw [e]), if_pos e]
      rfl
    · rw [valV_neg (fun z => e (Sum.inl.inj z)), if_neg e]
      exact kvs_val
theorem alGet_none {l : AL} {k : Int} (h : alGet l k = none) : ∀ p ∈ l, p.1 ≠ k := by
  induction l with
  | nil => intro p hp; cases hp
  | cons a r ih =>
    unfold alGet at h
    by_cases e : a.1 = k
    · rw [if_pos e] at h; cases h
    · rw [if_neg e] at h
      intro p hp
      rcases List.mem_cons.mp hp with rfl | hp
      · exact e
      · exact ih h p hp
theorem alGet_mem {l : AL} (hn : NdK l) : ∀ p ∈ l, alGet l p.1 = some p.2 := by
  induction l with
  | nil => intro p hp; cases hp
  | cons a r ih =>
    obtain ⟨h1, h2⟩ := List.nodup_cons.mp (show (a.1 :: r.map (·.1)).Nodup from hn)
    intro p hp
    unfold alGet
    rcases List.mem_cons.mp hp with rfl | hp
    · rw [if_pos rfl]
    · rw [if_neg (fun z => h1 (List.mem_map.mpr ⟨p, hp, z.symm⟩))]
      exact ih h2 p hp
theorem alPut_none : ∀ {l : AL} {k v : Int}, alGet l k = none → alPut l k v = l ++ [(k, v)]
  | [], _, _, _ => rfl
  | p :: r, k, v, h => by
    unfold alGet at h
    by_cases e : p.1 = k
    · rw [if_pos e] at h; cases h
    · rw [if_neg e] at h
      unfold alPut
      rw [if_neg e, alPut_none h]
      rfl
theorem putK_cons_eq {p : Key × V} {r : List (Key × V)} {k : Key} {v : V} (hn : ∀ q ∈ r, q.1 ≠ k) (e : p.1 = k) : putK (p :: r) k v = (k, v) :: r := by
  have h0 : valV (p :: r) k = some p.2 := valV_pos e
  unfold putK
  have h1 : ((p :: r).any fun kv => decide (kv.1 = k)) = true := by rw [valV_any, h0]; rfl
  rw [if_pos h1]
  rw [List.map_cons, if_pos e, e]
  congr 1
  refine (List.map_congr_left fun q hq => ?_).trans (List.map_id r)
  rw [if_neg (hn q hq)]
  rfl
theorem putK_cons_ne {p : Key × V} {r : List (Key × V)} {k : Key} {v : V} (e : ¬ p.1 = k) : putK (p :: r) k v = p :: putK r k v := by
  unfold putK
  have h1 : ((p :: r).any fun kv => decide (kv.1 = k)) = r.any fun kv => decide (kv.1 = k) := by
    rw [List.any_cons, decide_eq_false e, Bool.false_or]
  rw [h1]
  split
  · rw [List.map_cons, if_neg e]
  · rfl
theorem kvs_put : ∀ {l : AL} {k v : Int}, NdK l → putK (kvs l) (Sum.inl k) (.int v) = kvs (alPut l k v)
  | [], _, _, _ => rfl
  | p :: r, k, v, hn => by
    obtain ⟨h1, h2⟩ := List.nodup_cons.mp (show (p.1 :: r.map (·.1)).Nodup from hn)
    show putK ((Sum.inl p.1, V.int p.2) :: kvs r) _ _ = _
    unfold alPut
    by_cases e : p.1 = k
    · rw [if_pos e, putK_cons_eq (fun q hq z => ?_) (by rw [e])]
      · rfl
      · obtain ⟨x, hx, rfl⟩ := List.mem_map.mp hq
        exact h1 (List.mem_map.mpr ⟨x, hx, (Sum.inl.inj z).trans e.symm⟩)
    · rw [if_neg e, putK_cons_ne (fun z => e (Sum.inl.inj z)), kvs_put h2]
      rfl
theorem kvs_drop {l : AL} {k : Int} : dropK (kvs l) (Sum.inl k) = kvs (alDrop l k) := by
  unfold dropK kvs alDrop
  rw [List.filter_map]
  congr 1
  refine List.filter_congr fun p _ => ?_
  by_cases e : p.1 = k <;> simp [e]
theorem alPut_mem : ∀ {l : AL} {k v : Int} {p : Int × Int}, p ∈ alPut l k v → p ∈ l ∨ p = (k, v)
  | [], _, _, _, h => .inr (List.mem_singleton.mp h)
  | a :: r, k, v, p, h => by
    unfold alPut at h
    by_cases e : a.1 = k
    · rw [if_pos e] at h
      rcases List.mem_cons.mp h with h | h
      · exact .inr h
      · exact .inl (.tail _ h)
    · rw [if_neg e] at h
      rcases List.mem_cons.mp h with h | h
      · exact .inl (h ▸ .head _)
      · rcases alPut_mem h with q | q
        · exact .inl (.tail _ q)
        · exact .inr q
theorem alPut_keys : ∀ {l : AL} {k v : Int} {j : Int}, j ∈ (alPut l k v).map (·.1) ↔ j ∈ l.map (·.1) ∨ j = k
  | [], k, v, j => by simp [alPut]
  | a :: r, k, v, j => by
    unfold alPut
    by_cases e : a.1 = k
    · rw [if_pos e]
      simp only [List.map_cons, List.mem_cons, e]
      constructor
      · rintro (h | h)
        · exact .inl (.inl h)
        · exact .inl (.inr h)
      · rintro ((h | h) | h)
        · exact .inl h
        · exact .inr h
        · exact .inl h
    · rw [if_neg e]
      simp only [List.map_cons, List.mem_cons]
      rw [alPut_keys (l := r)]
      constructor
      · rintro (h | h | h)
        · exact .inl (.inl h)
        · exact .inl (.inr h)
        · exact .inr h
      · rintro ((h | h) | h)
        · exact .inl h
        · exact .inr (.inl h)
        · exact .inr (.inr h)
theorem alPut_nd : ∀ {l : AL} {k v : Int}, NdK l → NdK (alPut l k v)
  | [], k, v, _ => by simp [NdK, alPut]
  | a :: r, k, v, hn => by
    obtain ⟨h1, h2⟩ := List.nodup_cons.mp (show (a.1 :: r.map (·.1)).Nodup from hn)
    unfold alPut
    by_cases e : a.1 = k
    · rw [if_pos e]
      exact List.nodup_cons.mpr ⟨by rw [← e]; exact h1, h2⟩
    · rw [if_neg e]
      refine List.nodup_cons.mpr ⟨fun z => ?_, alPut_nd h2⟩
      rcases alPut_keys.mp z with q | q
      · exact h1 q
      · exact e q
theorem alPut_len {l : AL} {k v : Int} : (alPut l k v).length ≤ l.length + 1 := by
  induction l with
  | nil => exact Nat.le_refl _
  | cons a r ih =>
    unfold alPut
    split
    · simp
    · simp only [List.length_cons]; omega
theorem alDrop_nd {l : AL} {k : Int} (hn : NdK l) : NdK (alDrop l k) := List.Pairwise.sublist (List.Sublist.map _ List.filter_sublist) hn
theorem alDrop_len {l : AL} {k : Int} : (alDrop l k).length ≤ l.length := List.length_filter_le _ _

theorem al_getD {l : AL} {k d : Int} : (valV (kvs l) (Sum.inl k)).getD (.int d) = .int ((alGet l k).getD d) := by
  rw [kvs_val]
  cases alGet l k <;> rfl
theorem al_some {l : AL} {k : Int} : (valV (kvs l) (Sum.inl k)).isSome = (alGet l k).isSome := by
  rw [kvs_val]
  cases alGet l k <;> rfl
theorem alDrop_no {l : AL} {k : Int} (h : alGet l k = none) : alDrop l k = l := List.filter_eq_self.mpr fun p hp => decide_eq_true (alGet_none h p hp)
theorem kvs_lt {l : AL} (h : l.length ≤ 50) : (kvs l).length < sizeLine := by
  rw [kvs_len]
  exact Nat.lt_of_le_of_lt h (by decide)

/-! a wish's numbers -/
def held (w : W) : Int := alSum w.tk + if w.pl.isEmpty then 0 else 1
def free (w : W) : Int := if w.many - held w > 0 then w.many - held w else 0
def lacking (w : W) : Int := w.price - alSum w.pl
/-- a wish that the program keeps -/
structure WOk (w : W) : Prop where
  nt : NdK w.tk
  np : NdK w.pl
  kt : ∀ p ∈ w.tk, 0 ≤ p.1 ∧ p.1 < 5
  kp : ∀ p ∈ w.pl, 0 ≤ p.1 ∧ p.1 < 5
  lw : w.word.length ≤ 1000
theorem len_lt : ∀ (n : Nat) {l : List Int}, l.Nodup → (∀ k ∈ l, 0 ≤ k ∧ k < (n : Int)) → l.length ≤ n
  | 0, l, _, h => by
    cases l with
    | nil => exact Nat.le_refl _
    | cons a r => have := h a (.head _); omega
  | n + 1, l, nd, h => by
    have e : (l.filter fun k => decide (k ≠ (n : Int))).length ≤ n := len_lt n (nd.sublist List.filter_sublist) fun k hk => by
      obtain ⟨h1, h2⟩ := List.mem_filter.mp hk
      have := h k h1
      have : k ≠ (n : Int) := of_decide_eq_true h2
      omega
    have e2 : l.length ≤ (l.filter fun k => decide (k ≠ (n : Int))).length + 1 := by
      clear e h
      induction l with
      | nil => simp
      | cons a r ih =>
        obtain ⟨h1, h2⟩ := List.nodup_cons.mp nd
        by_cases ea : a = (n : Int)
        · have : r.filter (fun k => decide (k ≠ (n : Int))) = r := List.filter_eq_self.mpr fun x hx => decide_eq_true fun z => h1 (by rw [ea, ← z]; exact hx)
          rw [List.filter_cons, if_neg (by simp [ea]), this]
          simp
        · rw [List.filter_cons, if_pos (by simp [ea])]
          have := ih h2
          simp only [List.length_cons]
          omega
    omega
theorem WOk.lt {w : W} (h : WOk w) : w.tk.length ≤ 50 := by
  have := len_lt 5 h.nt (fun k hk => by
    obtain ⟨p, hp, rfl⟩ := List.mem_map.mp hk
    exact h.kt p hp)
  rw [List.length_map] at this
  omega
theorem WOk.lp {w : W} (h : WOk w) : w.pl.length ≤ 50 := by
  have := len_lt 5 h.np (fun k hk => by
    obtain ⟨p, hp, rfl⟩ := List.mem_map.mp hk
    exact h.kp p hp)
  rw [List.length_map] at this
  omega

/-! rows of a dict's values, asked by its keys -/
section
variable {K : PySem.W.Frag} {H D : Hp} {Ms R : List (List Cell)} {σ : L2.St} {Q : VK}
theorem comp_self {p C dx d : Addr} {fs : List (Str × V)} {f : Str} {j : Nat} {l : AL} (hσ : ∀ x, (σ.set j x)[0]? = some (some (.ref p))) (hj : decide (j < σ.length) = true) (o : Ok H D Ms) (k : Pk Ms [(d, .dK (kvs l))] R) (hp : [(p, .ins C dx fs)] ∈ R) (c : Cls K C) (na : NoAttr K C f)
    (lk : fs.lookup f = some (.ref d)) (hn : NdK l) (hl : l.length ≤ 1000) (q : ∀ L H', Ok H' D ([(d, .dK (kvs l))] :: [(L, .lst (l.map fun p => V.int p.2))] :: R) → Q (.ref L) H') (h0 : σ[0]? = some (some (.ref p))) :
    tLockE (tLc (iKeys (tFld K (tVar 0) f)) (gName j) tYes (tOp (rIxU K) (tFld K (tVar 0) f) (tVar j)) [j]) σ H Q := by
  refine r_lockE o k trivial fun od H1 o1 => ?_
  refine r_lc (i_keys (r_fld (r_var h0 ?_)))
  refine r_fldE (o1.at1 (.tail _ hp)) c na lk ?_
  refine r_ikeys (o1.at1 (.head _)) ?_
  have hlen : (kvs l).length ≤ 100000 := by rw [kvs_len]; omega
  refine lcMap (fun i => V.int (l.getD i (0, 0)).2) walk_keys o1 hlen (fun L acc H' o' => o'.at1 (.tail _ (.head _))) ?_ ?_
  · rintro i x L acc H' H'' Ny Nn hi o' ⟨rfl, key, v, hk, rfl⟩ q'
    have hi' : i < l.length := by rw [kvs_len] at hi; exact hi
    have e1 : (kvs l)[i]? = some (Sum.inl (l[i]).1, V.int (l[i]).2) := by
      unfold kvs
      rw [List.getElem?_map, List.getElem?_eq_getElem hi']
      rfl
    rw [e1] at hk
    obtain ⟨rfl, rfl⟩ := Prod.mk.inj (Option.some.inj hk)
    refine r_name ⟨by simp [wipe, List.set_set], ?_⟩
    refine r_yes (r_iteT (r_op (r_fld (r_var (v := .ref p) ?_ ?_))))
    rotate_left
    · refine r_fldE (o'.at1 (.tail _ (.tail _ hp))) c na lk ?_
      refine r_var (v := V.int (l[i]).1) ?_ ?_
      · show ((σ.set j none).set j _)[j]? = _
        rw [List.getElem?_set_self (by simp; exact of_decide_eq_true hj)]
        rfl
      · refine r_ixF (k := Sum.inl (l[i]).1) (v := V.int (l[i]).2) (o'.at1 (.tail _ (.head _))) rfl ?_ ?_
        · rw [kvs_val, alGet_mem hn _ (List.getElem_mem hi')]
          rfl
        · have e2 : (l.getD i (0, 0)) = l[i] := by simp [hi']
          rw [← e2]
          exact q' _ o'
    · show ((σ.set j none).set j _)[0]? = _
      rw [List.set_set]
      exact hσ _
  · intro L H' o'
    refine r_unlock o' (.there .here) fun H2 o2 => ?_
    have e3 : (List.range (kvs l).length).map (fun i => V.int (l.getD i (0, 0)).2) = l.map fun p => V.int p.2 := by
      refine List.ext_getElem (by simp [kvs_len]) fun i h1 h2 => ?_
      simp at h2
      simp [h2]
    rw [e3] at o2
    exact q L H2 o2
theorem r_sumAL {a : Addr} {l : AL} (h : SqL K H a (l.map fun p => V.int p.2)) (q : Q (.int (alSum l)) H) : rSum K [.ref a] H Q := r_sum (ns := l.map (fun (p : Int × Int) => p.2)) h (by rw [List.map_map]; rfl) q
end
end G

/-! wishes in the heap -/
namespace G
open PySem PySem.Spec PyProof.Rows L2
def wishF (w : W) (t q : Addr) : List (Str × V) := [("owner", .int w.ow), ("word", .str w.word), ("price", .int w.price), ("many", .int w.many), ("stands", .bl w.st), ("takings", .ref t), ("pledges", .ref q)]
structure WA where
  p : Addr
  dx : Addr
  t : Addr
  q : Addr
def cW (C : Addr) (x : WA) (w : W) : List Cell := [(x.p, .ins C x.dx (wishF w x.t x.q)), (x.t, .dK (kvs w.tk)), (x.q, .dK (kvs w.pl))]
section
variable {H D : Hp} {R : List (List Cell)} {C : Addr} {x : WA} {w : W}
theorem Ok.openW (o : Ok H D (cW C x w :: R)) : Ok H D ([(x.p, .ins C x.dx (wishF w x.t x.q))] :: [(x.t, .dK (kvs w.tk))] :: [(x.q, .dK (kvs w.pl))] :: R) := o.re (.of_eq (by simp [cW]))
theorem Ok.shutW (o : Ok H D ([(x.p, .ins C x.dx (wishF w x.t x.q))] :: [(x.t, .dK (kvs w.tk))] :: [(x.q, .dK (kvs w.pl))] :: R)) : Ok H D (cW C x w :: R) := o.re (.of_eq (by simp [cW]))
end
/-! lists of wishes -/
def gF (people : Int) (l : Addr) : List (Str × V) := [("people", .int people), ("wishes", .ref l)]
abbrev XS := List (WA × W)
def WS (C : Addr) (xs : XS) : List Cell := xs.flatMap fun x => cW C x.1 x.2
def WSx (C : Addr) (xs : XS) (i : Nat) : List Cell := WS C (xs.take i) ++ WS C (xs.drop (i + 1))
def refs (xs : XS) : List V := xs.map fun x => .ref x.1.p
def cG (CG CW g dx l : Addr) (people : Int) (xs : XS) : List Cell := (g, .ins CG dx (gF people l)) :: (l, .lst (refs xs)) :: WS CW xs
def wsOf (xs : XS) : List W := xs.map (·.2)
section
variable {H D : Hp} {R : List (List Cell)} {C CG CW g dx l : Addr} {people : Int} {xs : XS} {i : Nat} {x : WA × W}
theorem Ok.openG (o : Ok H D (cG CG CW g dx l people xs :: R)) : Ok H D ([(g, .ins CG dx (gF people l))] :: [(l, .lst (refs xs))] :: WS CW xs :: R) := o.re (.of_eq (by simp [cG]))
theorem Ok.shutG (o : Ok H D ([(g, .ins CG dx (gF people l))] :: [(l, .lst (refs xs))] :: WS CW xs :: R)) : Ok H D (cG CG CW g dx l people xs :: R) := o.re (.of_eq (by simp [cG]))
theorem split_at (h : xs[i]? = some x) : xs = xs.take i ++ x :: xs.drop (i + 1) := by
  obtain ⟨hi, e⟩ := List.getElem?_eq_some_iff.mp h
  rw [← e, List.getElem_cons_drop]
  exact (List.take_append_drop i xs).symm
theorem WS_perm (h : xs[i]? = some x) : (WS C xs).Perm (cW C x.1 x.2 ++ WSx C xs i) := by
  conv => lhs; rw [split_at h]
  unfold WSx WS
  rw [List.flatMap_append, List.flatMap_cons]
  exact List.perm_append_comm_assoc _ _ _
theorem WSx_set {x' : WA × W} : WSx C (xs.set i x') i = WSx C xs i := by
  unfold WSx
  rw [List.take_set_of_le (Nat.le_refl _), List.drop_set_of_lt (Nat.lt_succ_self _)]
theorem Ok.openI (o : Ok H D (WS C xs :: R)) (h : xs[i]? = some x) : Ok H D (cW C x.1 x.2 :: WSx C xs i :: R) := o.re (by
  rw [List.flatten_cons, List.flatten_cons, List.flatten_cons, ← List.append_assoc]
  exact (WS_perm h).append_right _)
theorem Ok.shutI {x' : WA × W} (o : Ok H D (cW C x'.1 x'.2 :: WSx C xs i :: R)) (h : i < xs.length) : Ok H D (WS C (xs.set i x') :: R) := o.re (by
  rw [List.flatten_cons, List.flatten_cons, List.flatten_cons, ← List.append_assoc, ← WSx_set (x' := x')]
  exact (WS_perm (by rw [List.getElem?_set_self h])).symm.append_right _)
theorem set_same (h : xs[i]? = some x) : xs.set i x = xs := by
  obtain ⟨hi, e⟩ := List.getElem?_eq_some_iff.mp h
  rw [← e]
  exact List.set_getElem_self hi
theorem refs_set {x' : WA × W} (h : xs[i]? = some x) (e : x'.1.p = x.1.p) : refs (xs.set i x') = refs xs := by
  unfold refs
  rw [List.map_set, e]
  refine List.ext_getElem? fun j => ?_
  by_cases hj : i = j
  · subst hj
    rw [List.getElem?_set_self (by simp; exact (List.getElem?_eq_some_iff.mp h).1), List.getElem?_map, h]
    rfl
  · rw [List.getElem?_set_ne hj]
theorem wsOf_set {x' : WA × W} : wsOf (xs.set i x') = (wsOf xs).set i x'.2 := by
  unfold wsOf
  rw [List.map_set]
theorem wsOf_get : (wsOf xs)[i]? = xs[i]?.map (·.2) := by
  unfold wsOf
  rw [List.getElem?_map]
theorem wsOf_len : (wsOf xs).length = xs.length := List.length_map ..
theorem refs_len : (refs xs).length = xs.length := List.length_map ..
end
/-- at a wish of the list -/
theorem at_wish {xs : XS} {m : Int} {x : WA × W} (h0 : 0 ≤ m) (h : xs[m.toNat]? = some x) : atI (refs xs) m = some (.ref x.1.p) := by
  have e : m = ((m.toNat : Nat) : Int) := by omega
  rw [e]
  refine atI_nat ?_
  unfold refs
  rw [List.getElem?_map, h]
  rfl
end G

/-! sorted pairs -/
namespace G
open PySem PySem.Spec PyProof.Rows L2
def insK (a : Int) : List Int → List Int
  | [] => [a]
  | b :: r => if a ≤ b then a :: b :: r else b :: insK a r
def srtK : List Int → List Int
  | [] => []
  | a :: r => insK a (srtK r)
theorem insK_perm (a : Int) : ∀ l, (insK a l).Perm (a :: l)
  | [] => .refl _
  | b :: r => by
    unfold insK
    split
    · exact .refl _
    · exact ((insK_perm a r).cons b).trans (.swap _ _ _)
theorem srtK_perm : ∀ l : List Int, (srtK l).Perm l
  | [] => .refl _
  | a :: r => (insK_perm a _).trans ((srtK_perm r).cons a)
theorem insK_sorted (a : Int) : ∀ {l : List Int}, l.Pairwise (· ≤ ·) → (insK a l).Pairwise (· ≤ ·)
  | [], _ => by simp [insK]
  | b :: r, h => by
    obtain ⟨h1, h2⟩ := List.pairwise_cons.mp h
    unfold insK
    split
    · rename_i hab
      refine List.pairwise_cons.mpr ⟨fun c hc => ?_, h⟩
      rcases List.mem_cons.mp hc with rfl | hc
      · exact hab
      · exact Int.le_trans hab (h1 c hc)
    · rename_i hab
      refine List.pairwise_cons.mpr ⟨fun c hc => ?_, insK_sorted a h2⟩
      rcases List.mem_cons.mp ((insK_perm a r).subset hc) with rfl | hc
      · omega
      · exact h1 c hc
theorem srtK_sorted : ∀ l : List Int, (srtK l).Pairwise (· ≤ ·)
  | [] => .nil
  | a :: r => insK_sorted a (srtK_sorted r)
theorem sorted_one : ∀ {l m : List Int}, l.Perm m → l.Pairwise (· ≤ ·) → m.Pairwise (· ≤ ·) → l = m
  | [], m, h, _, _ => (List.nil_perm.mp h).symm
  | a :: r, m, h, hl, hm => by
    cases m with
    | nil => exact absurd h.length_eq (by simp)
    | cons b s =>
      obtain ⟨l1, l2⟩ := List.pairwise_cons.mp hl
      obtain ⟨m1, m2⟩ := List.pairwise_cons.mp hm
      have ab : a = b := by
        have h1 : a ∈ b :: s := h.subset (.head _)
        have h2 : b ∈ a :: r := h.symm.subset (.head _)
        rcases List.mem_cons.mp h1 with e | e
        · exact e
        · rcases List.mem_cons.mp h2 with f | f
          · exact f.symm
          · exact Int.le_antisymm (l1 b f) (m1 a e)
      subst ab
      rw [sorted_one ((List.perm_cons a).mp h) l2 m2]
def srt (l : AL) : AL := (srtK (l.map (·.1))).map fun k => (k, (alGet l k).getD 0)
abbrev Prs (D : Hp) : List Addr → AL → Prop := Paired fun a p => D a = some (.tup [.int p.1, .int p.2])
theorem Prs.mono {D D' : Hp} (e : Same D D') {as : List Addr} {l : AL} (h : Prs D as l) : Prs D' as l := Paired.mapP h fun a p q => e _ _ q
theorem Prs.snoc {D : Hp} {as : List Addr} {l : AL} {a : Addr} {p : Int × Int} (h : Prs D as l) (e : D a = some (.tup [.int p.1, .int p.2])) : Prs D (as ++ [a]) (l ++ [p]) := by
  induction h with
  | nil => exact .cons e .nil
  | cons x _ ih => exact .cons x ih
section
variable {K : PySem.W.Frag} {H D : Hp} {Ms R : List (List Cell)} {σ : L2.St} {Q : VK}
theorem r_sortD {a : Addr} {l : AL} (o : Ok H D Ms) (h : H a = some (.dK (kvs l))) (hl : l.length < 64) (q : ∀ p H', Ok H' D ([(p, .lst ((srtK (l.map (·.1))).map V.int))] :: Ms) → Q (.ref p) H') : rSrtU K [.ref a] H Q := by
  refine .inl ⟨a, kvs l, l.map (·.1), rfl, .inl h, ?_, by simp; exact hl, fun ys p hp hs n => ?_⟩
  · unfold kvs
    rw [List.map_map, List.map_map]
    rfl
  · rw [sorted_one (hp.trans (srtK_perm _).symm) hs (srtK_sorted _)]
    exact q p _ (o.new n)
/-- [(k, self.f[k]) for k in sorted(self.f)] -/
theorem comp_pairs {E : Ends} {p C dx d : Addr} {fs : List (Str × V)} {f : Str} {i j : Nat} {l : AL} (h0 : σ[0]? = some (some (.ref p))) (hσ : ∀ x, (σ.set j x)[0]? = some (some (.ref p))) (hj : decide (j < σ.length) = true) (o : Ok H D Ms) (k : [(d, .dK (kvs l))] ∈ Ms) (hp : [(p, .ins C dx fs)] ∈ Ms) (c : Cls K C) (na : NoAttr K C f)
    (lk : fs.lookup f = some (.ref d)) (hn : NdK l) (hl : l.length ≤ 50) (q : ∀ L H' D' as, Ok H' D' ([(L, .lst (as.map V.ref))] :: Ms) → Same D D' → Prs D' as (srt l) → E.nx (σ.set i (some (.ref L))) H') :
    tAsg (tLc (iSeq K (tCB (rSrtU K) (tCons (tFld K (tVar 0) f) tNil))) (gName j) tYes (tTup (tCons (tVar j) (tCons (tOp (rIxU K) (tFld K (tVar 0) f) (tVar j)) tNil))) [j]) (gName i) E σ H := by
  refine r_asg (r_lc (i_seq (r_cb (r_cons (r_fld (r_var h0 ?_))))))
  refine r_fldE (o.at1 hp) c na lk ?_
  refine r_nil ?_
  refine r_sortD o (o.at1 k) (by omega) fun S H1 o1 => ?_
  refine r_iseqL (xs := (srtK (l.map (·.1))).map V.int) (SqL.of (o1.at1 (.head _))) ?_
  have slen : (srtK (l.map (·.1))).length = l.length := by rw [(srtK_perm _).length_eq, List.length_map]
  refine lcG walk_list o1 (fun i acc D' => ∃ as, acc = as.map V.ref ∧ Prs D' as ((srt l).take i)) (by simp [slen]; omega) ⟨[], rfl, .nil⟩ ?_ (fun _ _ _ _ _ o' _ _ => SqL.of (o'.at1 (.tail _ (.head _)))) ?_ ?_
  · rintro i acc D' ⟨as, rfl, h⟩
    have := Paired.length h
    simp at this
    simp
    omega
  · rintro i x L acc H' H'' D' Ny Nn hi o' s' ⟨as, rfl, has⟩ ⟨rfl, hx⟩ kk _
    have hi' : i < (srtK (l.map (·.1))).length := by simpa using hi
    rw [List.getElem?_map, List.getElem?_eq_getElem hi'] at hx
    obtain rfl := Option.some.inj hx
    have hm : (srtK (l.map (·.1)))[i] ∈ l.map (·.1) := (srtK_perm _).subset (List.getElem_mem hi')
    obtain ⟨pp, hpp, ep⟩ := List.mem_map.mp hm
    have eg := alGet_mem hn pp hpp
    have ep : pp.1 = (srtK (l.map (·.1)))[i] := ep
    rw [ep] at eg
    have et : (srt l).take (i + 1) = (srt l).take i ++ [((srtK (l.map (·.1)))[i], pp.2)] := by
      have h1 : (srt l)[i]? = some ((srtK (l.map (·.1)))[i], pp.2) := by
        unfold srt
        rw [List.getElem?_map, List.getElem?_eq_getElem hi']
        show some (_, (alGet l _).getD 0) = _
        rw [eg]
        rfl
      rw [List.take_succ, h1]
      rfl
    refine r_name ⟨by simp [wipe, List.set_set], ?_⟩
    refine r_yes (r_iteT (r_tup (r_cons (r_var (v := V.int (srtK (l.map (·.1)))[i]) ?_ ?_))))
    · show ((σ.set j none).set j _)[j]? = _
      rw [List.getElem?_set_self (by simp; exact of_decide_eq_true hj)]
    · refine r_cons (r_op (r_fld (r_var (v := .ref p) ?_ ?_)))
      · show ((σ.set j none).set j _)[0]? = _
        rw [List.set_set]
        exact hσ _
      · refine r_fldE (o'.at1 (.tail _ (.tail _ hp))) c na lk ?_
        refine r_var (v := V.int (srtK (l.map (·.1)))[i]) ?_ ?_
        · show ((σ.set j none).set j _)[j]? = _
          rw [List.getElem?_set_self (by simp; exact of_decide_eq_true hj)]
        · refine r_ixD (k := Sum.inl _) (v := V.int pp.2) (o'.at1 (.tail _ (.tail _ k))) rfl (by rw [kvs_val, eg]; rfl) ?_
          refine r_nil ?_
          refine ⟨by show 2 ≤ sizeLine; decide, fun P nP => ?_⟩
          obtain ⟨o2, s2⟩ := o'.newD (o := .tup [.int (srtK (l.map (·.1)))[i], .int pp.2]) nP
          refine kk _ _ _ o2 s2 ⟨as ++ [P], by simp, ?_⟩
          rw [et]
          exact (has.mono s2).snoc upd_same
  · rintro L acc H' D' o' s' ⟨as, rfl, has⟩
    have el : ((srtK (l.map (·.1))).map V.int).length = (srt l).length := by simp [srt]
    rw [el, List.take_length] at has
    exact r_name (q L H' D' as (o'.sel (.pick .here (.done (.there .here)))) s' has)
end
end G

/-! the mirror's ops -/
namespace G
open PySem PySem.Spec PyProof.Rows L2
def isW : V → Bool
  | .int _ => true
  | _ => false
def isC (lo hi : Int) : V → Bool
  | .int i => decide (lo ≤ i) && decide (i ≤ hi)
  | _ => false

theorem isC_int {lo hi i : Int} : isC lo hi (.int i) = (decide (lo ≤ i) && decide (i ≤ hi)) := rfl
def lets : List Nat := ("abcdefghijklmnopqrstuvwxyz" : Str).cps.toList
def okWord (z : Str) : Bool := decide (1 ≤ (z.length : Int)) && decide ((z.length : Int) ≤ 4) && z.cps.toList.all fun c => decide (c ∈ lets)
def isWd : V → Bool
  | .str z => okWord z
  | _ => false
inductive Err
  | people | person | word | price | many | wish | amount | none | much | toomany
  deriving DecidableEq
def intOf : V → Int
  | .int i => i
  | _ => 0
def strOf : V → Str
  | .str z => z
  | _ => ⟨#[]⟩
theorem isC_is {lo hi : Int} {x : V} (h : isC lo hi x = true) : ∃ i, x = .int i ∧ lo ≤ i ∧ i ≤ hi := by
  cases x <;> first | cases h | skip
  rename_i i
  rw [isC_int, Bool.and_eq_true] at h
  exact ⟨i, rfl, of_decide_eq_true h.1, of_decide_eq_true h.2⟩
theorem isWd_is {x : V} (h : isWd x = true) : ∃ z, x = .str z ∧ okWord z = true := by
  cases x <;> first | cases h | skip
  exact ⟨_, rfl, h⟩
theorem decV {m n : Int} : decide (V.int m = V.int n) = decide (m = n) := by
  by_cases e : m = n
  · subst e; simp
  · rw [decide_eq_false e, decide_eq_false fun z => e (V.int.inj z)]
def ownAt (pe : Int) (ws : List W) (o w : V) : Except Err (Nat × W) :=
  bif !(isC 0 (pe - 1) o) then .error .person else
  bif !(isC 0 ((ws.length : Int) - 1) w) then .error .wish else
  match ws[(intOf w).toNat]? with
  | none => .error .wish
  | some x => bif !decide (x.ow = intOf o) || !x.st then .error .wish else .ok ((intOf w).toNat, x)
def otherAt (pe : Int) (ws : List W) (o w : V) : Except Err (Nat × W) :=
  bif !(isC 0 (pe - 1) o) then .error .person else
  bif !(isC 0 ((ws.length : Int) - 1) w) then .error .wish else
  match ws[(intOf w).toNat]? with
  | none => .error .wish
  | some x => bif decide (x.ow = intOf o) || !x.st then .error .wish else .ok ((intOf w).toNat, x)
section
variable {pe : Int} {ws : List W} {o n : V} {j m : Int} {x : W}
theorem ownAt_p (h : isC 0 (pe - 1) o = false) : ownAt pe ws o n = .error .person := by unfold ownAt; rw [h]; rfl
theorem otherAt_p (h : isC 0 (pe - 1) o = false) : otherAt pe ws o n = .error .person := by unfold otherAt; rw [h]; rfl
theorem ownAt_w (h : isC 0 (pe - 1) o = true) (h2 : isC 0 ((ws.length : Int) - 1) n = false) : ownAt pe ws o n = .error .wish := by unfold ownAt; rw [h, h2]; rfl
theorem otherAt_w (h : isC 0 (pe - 1) o = true) (h2 : isC 0 ((ws.length : Int) - 1) n = false) : otherAt pe ws o n = .error .wish := by unfold otherAt; rw [h, h2]; rfl
theorem ownAt_e (h : isC 0 (pe - 1) (.int j) = true) (h2 : isC 0 ((ws.length : Int) - 1) (.int m) = true) (hx : ws[m.toNat]? = some x) : ownAt pe ws (.int j) (.int m) = bif !decide (x.ow = j) || !x.st then .error .wish else .ok (m.toNat, x) := by
  unfold ownAt; rw [h, h2]; show (match ws[m.toNat]? with | none => _ | some x => _) = _; rw [hx]; rfl
theorem otherAt_e (h : isC 0 (pe - 1) (.int j) = true) (h2 : isC 0 ((ws.length : Int) - 1) (.int m) = true) (hx : ws[m.toNat]? = some x) : otherAt pe ws (.int j) (.int m) = bif decide (x.ow = j) || !x.st then .error .wish else .ok (m.toNat, x) := by
  unfold otherAt; rw [h, h2]; show (match ws[m.toNat]? with | none => _ | some x => _) = _; rw [hx]; rfl
theorem ownAt_ok {r : Nat × W} (h : ownAt pe ws o n = .ok r) : isC 0 (pe - 1) o = true ∧ ws[r.1]? = some r.2 := by
  cases e : isC 0 (pe - 1) o with
  | false => rw [ownAt_p e] at h; cases h
  | true =>
    unfold ownAt at h
    rw [e] at h
    refine ⟨rfl, ?_⟩
    cases e2 : isC 0 ((ws.length : Int) - 1) n with
    | false => rw [e2] at h; cases h
    | true =>
      rw [e2] at h
      cases e3 : ws[(intOf n).toNat]? with
      | none => rw [e3] at h; cases h
      | some x =>
        rw [e3] at h
        simp only [Bool.not_true, cond_false] at h
        cases e4 : (!decide (x.ow = intOf o) || !x.st) with
        | true => rw [e4] at h; cases h
        | false =>
          rw [e4] at h
          cases h
          exact e3
theorem otherAt_ok {r : Nat × W} (h : otherAt pe ws o n = .ok r) : isC 0 (pe - 1) o = true ∧ ws[r.1]? = some r.2 := by
  cases e : isC 0 (pe - 1) o with
  | false => rw [otherAt_p e] at h; cases h
  | true =>
    unfold otherAt at h
    rw [e] at h
    refine ⟨rfl, ?_⟩
    cases e2 : isC 0 ((ws.length : Int) - 1) n with
    | false => rw [e2] at h; cases h
    | true =>
      rw [e2] at h
      cases e3 : ws[(intOf n).toNat]? with
      | none => rw [e3] at h; cases h
      | some x =>
        rw [e3] at h
        simp only [Bool.not_true, cond_false] at h
        cases e4 : (decide (x.ow = intOf o) || !x.st) with
        | true => rw [e4] at h; cases h
        | false =>
          rw [e4] at h
          cases h
          exact e3
end
def mWish (pe : Int) (ws : List W) (o z p m : V) : Except Err (List W × Int) :=
  bif !(isC 0 (pe - 1) o) then .error .person else
  bif !(isWd z) then .error .word else
  bif !(isC 1 20 p) then .error .price else
  bif !(isC 1 3 m) then .error .many else
  bif decide (ws.length = 8) then .error .toomany else
  .ok (ws ++ [⟨intOf o, strOf z, intOf p, intOf m, true, [], []⟩], (ws.length : Int))
def mAlter (pe : Int) (ws : List W) (o w m : V) : Except Err (List W × Int) :=
  match ownAt pe ws o w with
  | .error e => .error e
  | .ok (i, x) => bif !(isC 1 3 m) then .error .many else .ok (ws.set i { x with many := intOf m }, x.many)
def mDrop (pe : Int) (ws : List W) (o w : V) : Except Err (List W) :=
  match ownAt pe ws o w with
  | .error e => .error e
  | .ok (i, x) => .ok (ws.set i { x with st := false })
def takeW (x : W) (p c : Int) : W := { x with tk := alPut x.tk p ((alGet x.tk p).getD 0 + c) }
def pledgeW (x : W) (p c : Int) : W := { x with pl := alPut x.pl p ((alGet x.pl p).getD 0 + c) }
def backW (x : W) (p : Int) : W := { x with tk := alDrop x.tk p, pl := alDrop x.pl p }
def mTake (pe : Int) (ws : List W) (p w c : V) : Except Err (List W × Int) :=
  match otherAt pe ws p w with
  | .error e => .error e
  | .ok (i, x) => bif !(isC 1 3 c) then .error .many else bif decide (free x < intOf c) then .error .none else .ok (ws.set i (takeW x (intOf p) (intOf c)), free (takeW x (intOf p) (intOf c)))
def mPledge (pe : Int) (ws : List W) (p w c : V) : Except Err (List W × Int) :=
  match otherAt pe ws p w with
  | .error e => .error e
  | .ok (i, x) => bif !(isC 1 20 c) then .error .amount else bif x.pl.isEmpty && decide (free x = 0) then .error .none else bif decide (lacking x < intOf c) then .error .much else
    .ok (ws.set i (pledgeW x (intOf p) (intOf c)), lacking (pledgeW x (intOf p) (intOf c)))
def mBack (pe : Int) (ws : List W) (p w : V) : Except Err (List W × Int × Int) :=
  bif !(isC 0 (pe - 1) p) then .error .person else
  bif !(isC 0 ((ws.length : Int) - 1) w) then .error .wish else
  match ws[(intOf w).toNat]? with
  | none => .error .wish
  | some x => bif !(alGet x.tk (intOf p)).isSome && !(alGet x.pl (intOf p)).isSome then .error .wish else
    .ok (ws.set (intOf w).toNat (backW x (intOf p)), (alGet x.tk (intOf p)).getD 0, (alGet x.pl (intOf p)).getD 0)
section
variable {pe : Int} {ws : List W} {o n c : V} {i : Nat} {x : W}
theorem mTake_n (ef : otherAt pe ws o n = .ok (i, x)) (h2 : isC 1 3 c = true) (h : decide (free x < intOf c) = true) : mTake pe ws o n c = .error .none := by
  unfold mTake; rw [ef]; show (bif !(isC 1 3 c) then _ else bif decide (free x < intOf c) then _ else _) = _; rw [h2, h]; rfl
theorem mTake_o (ef : otherAt pe ws o n = .ok (i, x)) (h2 : isC 1 3 c = true) (h : decide (free x < intOf c) = false) : mTake pe ws o n c = .ok (ws.set i (takeW x (intOf o) (intOf c)), free (takeW x (intOf o) (intOf c))) := by
  unfold mTake; rw [ef]; show (bif !(isC 1 3 c) then _ else bif decide (free x < intOf c) then _ else _) = _; rw [h2, h]; rfl
theorem mPledge_n (ef : otherAt pe ws o n = .ok (i, x)) (h2 : isC 1 20 c = true) (h : (x.pl.isEmpty && decide (free x = 0)) = true) : mPledge pe ws o n c = .error .none := by
  unfold mPledge; rw [ef]; show (bif !(isC 1 20 c) then _ else bif x.pl.isEmpty && decide (free x = 0) then _ else bif decide (lacking x < intOf c) then _ else _) = _; rw [h2, h]; rfl
theorem mPledge_m (ef : otherAt pe ws o n = .ok (i, x)) (h2 : isC 1 20 c = true) (h : (x.pl.isEmpty && decide (free x = 0)) = false) (h3 : decide (lacking x < intOf c) = true) : mPledge pe ws o n c = .error .much := by
  unfold mPledge; rw [ef]; show (bif !(isC 1 20 c) then _ else bif x.pl.isEmpty && decide (free x = 0) then _ else bif decide (lacking x < intOf c) then _ else _) = _; rw [h2, h, h3]; rfl
theorem mPledge_o (ef : otherAt pe ws o n = .ok (i, x)) (h2 : isC 1 20 c = true) (h : (x.pl.isEmpty && decide (free x = 0)) = false) (h3 : decide (lacking x < intOf c) = false) : mPledge pe ws o n c = .ok (ws.set i (pledgeW x (intOf o) (intOf c)), lacking (pledgeW x (intOf o) (intOf c))) := by
  unfold mPledge; rw [ef]; show (bif !(isC 1 20 c) then _ else bif x.pl.isEmpty && decide (free x = 0) then _ else bif decide (lacking x < intOf c) then _ else _) = _; rw [h2, h, h3]; rfl
end
structure Row where
  num : Nat
  ow : Int
  word : Str
  price : Int
  many : Int
  done : Option (Bool × AL × AL)
  deriving DecidableEq
def rowOf (p : Int) (i : Nat) (w : W) : Option Row :=
  bif w.st || ((!w.tk.isEmpty || !w.pl.isEmpty) && !decide (w.ow = p)) then
    some ⟨i, w.ow, w.word, w.price, w.many, if w.ow = p then none else some (w.st, srt w.tk, srt w.pl)⟩
  else none
def seenFrom (p : Int) : Nat → List W → List Row
  | _, [] => []
  | i, w :: r => (rowOf p i w).toList ++ seenFrom p (i + 1) r
def seenM (p : Int) (ws : List W) : List Row := seenFrom p 0 ws
theorem seenFrom_snoc (p : Int) : ∀ (i : Nat) (ws : List W) (w : W), seenFrom p i (ws ++ [w]) = seenFrom p i ws ++ (rowOf p (i + ws.length) w).toList
  | i, [], w => by simp [seenFrom]
  | i, v :: r, w => by
    show (rowOf p i v).toList ++ seenFrom p (i + 1) (r ++ [w]) = _
    rw [seenFrom_snoc p (i + 1) r w]
    show _ = ((rowOf p i v).toList ++ seenFrom p (i + 1) r) ++ _
    rw [List.append_assoc, List.length_cons, show i + 1 + r.length = i + (r.length + 1) by omega]

/-! wishes stay well -/
theorem WOk.alter {x : W} (h : WOk x) {m : Int} : WOk { x with many := m } := ⟨h.nt, h.np, h.kt, h.kp, h.lw⟩
theorem WOk.drop {x : W} (h : WOk x) : WOk { x with st := false } := ⟨h.nt, h.np, h.kt, h.kp, h.lw⟩
theorem WOk.take {x : W} (h : WOk x) {p c : Int} (hp : 0 ≤ p ∧ p < 5) : WOk (takeW x p c) := ⟨alPut_nd h.nt, h.np, fun q hq => (alPut_mem hq).elim (h.kt q) (fun e => by rw [e]; exact hp), h.kp, h.lw⟩
theorem WOk.pledge {x : W} (h : WOk x) {p c : Int} (hp : 0 ≤ p ∧ p < 5) : WOk (pledgeW x p c) := ⟨h.nt, alPut_nd h.np, h.kt, fun q hq => (alPut_mem hq).elim (h.kp q) (fun e => by rw [e]; exact hp), h.lw⟩
theorem WOk.back {x : W} (h : WOk x) {p : Int} : WOk (backW x p) := ⟨alDrop_nd h.nt, alDrop_nd h.np, fun q hq => h.kt q (List.mem_filter.mp hq).1, fun q hq => h.kp q (List.mem_filter.mp hq).1, h.lw⟩
end G

/-! joined ways, rows -/
namespace G
open PySem PySem.Spec PyProof.Rows L2
section
variable {K : PySem.W.Frag} {H D : Hp} {Ms R : List (List Cell)} {Q : VK} {σ : L2.St} {E : Ends} {tt : TT} {t1 t2 : TS} {c : Bool} {I : Hp → Prop}
/-- a test that tells c, however it goes about it -/
theorem r_ifJ (c : Bool) (I : Hp → Prop) (test : ∀ B : Bool → Hp → Prop, (∀ H', I H' → B c H') → tt σ H B) (h1 : c = true → ∀ H', I H' → t1 E σ H') (h2 : c = false → ∀ H', I H' → t2 E σ H') : tIfS tt t1 t2 E σ H := by
  refine r_ifS (test _ fun H' i => ?_)
  cases c with
  | true => exact h1 rfl H' i
  | false => exact h2 rfl H' i
theorem r_valJ {te : TE} (v : V) (I : Hp → Prop) (val : ∀ Q' : VK, (∀ H', I H' → Q' v H') → te σ H Q') (q : ∀ H', I H' → Q v H') : te σ H Q := val Q q
theorem kvs_empty {l : AL} : (kvs l).isEmpty = l.isEmpty := by cases l <;> rfl
def DPopE (Q : VK) (a : Addr) (y z : V) (H : Hp) : Prop := ∃ kvs k, H a = some (.dK kvs) ∧ y = kV k ∧ (∀ v, valV kvs k = some v → Q v (upd H a (.dK (dropK kvs k)))) ∧ (valV kvs k = none → Q z H)
theorem r_popT {td ty tx : TE} (q : td σ H fun x H1 => ∃ a, x = .ref a ∧ IsD H1 a ∧ ty σ H1 fun y H2 => tx σ H2 fun z H3 => DPopE Q a y z H3) : tDPop2 td ty tx σ H Q := q
theorem r_dpopA {a : Addr} {l : AL} {k : Int} (o : Ok H D Ms) (pk : Pk Ms [(a, .dK (kvs l))] R) (q : ∀ H', Ok H' D ([(a, .dK (kvs (alDrop l k)))] :: R) → Q (.int ((alGet l k).getD 0)) H') : DPopE Q a (.int k) (.int 0) H := by
  refine ⟨kvs l, Sum.inl k, o.at1 pk.mem, rfl, fun v h => ?_, fun h => ?_⟩
  · rw [kvs_val] at h
    cases e : alGet l k with
    | none => rw [e] at h; cases h
    | some z =>
      rw [e] at h
      obtain rfl := Option.some.inj h
      have q2 := q _ (by rw [← kvs_drop]; exact o.wrAt pk)
      rw [e] at q2
      exact q2
  · rw [kvs_val] at h
    cases e : alGet l k with
    | some z => rw [e] at h; cases h
    | none =>
      have q2 := q H (by rw [alDrop_no e]; exact o.pk pk)
      rw [e] at q2
      exact q2
end
/-! rows in the heap -/
def RowIs (D : Hp) (lc : List Cell) (t : Addr) (r : Row) : Prop := ∃ dv, D t = some (.tup [.int (r.num : Nat), .int r.ow, .str r.word, .int r.price, .int r.many, dv]) ∧
  match r.done with
  | none => dv = .non
  | some (st, tk, pl) => ∃ T L1 L2 as1 as2, dv = .ref T ∧ D T = some (.tup [.bl st, .ref L1, .ref L2]) ∧ ((L1, .lst (as1.map V.ref)) : Cell) ∈ lc ∧ ((L2, .lst (as2.map V.ref)) : Cell) ∈ lc ∧ Prs D as1 tk ∧ Prs D as2 pl
theorem RowIs.mono {D D' : Hp} {lc lc' : List Cell} (e : Same D D') (i : ∀ c ∈ lc, c ∈ lc') {t : Addr} {r : Row} (h : RowIs D lc t r) : RowIs D' lc' t r := by
  obtain ⟨dv, h1, h2⟩ := h
  refine ⟨dv, e _ _ h1, ?_⟩
  cases ed : r.done with
  | none => rw [ed] at h2; exact h2
  | some z =>
    obtain ⟨st, tk, pl⟩ := z
    rw [ed] at h2
    obtain ⟨T, L1, L2, as1, as2, g1, g2, g3, g4, g5, g6⟩ := h2
    exact ⟨T, L1, L2, as1, as2, g1, e _ _ g2, i _ g3, i _ g4, g5.mono e, g6.mono e⟩
abbrev RowsIs (D : Hp) (lc : List Cell) : List Addr → List Row → Prop := Paired (RowIs D lc)
theorem RowsIs.mono {D D' : Hp} {lc lc' : List Cell} (e : Same D D') (i : ∀ c ∈ lc, c ∈ lc') {ts : List Addr} {rs : List Row} (h : RowsIs D lc ts rs) : RowsIs D' lc' ts rs := Paired.mapP h fun _ _ q => q.mono e i
end G

/-! the law's wishes in the heap, deeds -/
namespace G
open PySem PySem.Spec PyProof.Rows L2
def lawF (w : W) (t q : Addr) : List (Key × V) := [(Sum.inr "owner", .int w.ow), (Sum.inr "word", .str w.word), (Sum.inr "price", .int w.price), (Sum.inr "many", .int w.many), (Sum.inr "stands", .bl w.st), (Sum.inr "takings", .ref t), (Sum.inr "pledges", .ref q)]
def cV (x : WA) (w : W) : List Cell := [(x.p, .dK (lawF w x.t x.q)), (x.t, .dK (kvs w.tk)), (x.q, .dK (kvs w.pl))]
def LS (xs : XS) : List Cell := xs.flatMap fun x => cV x.1 x.2
def LSx (xs : XS) (i : Nat) : List Cell := LS (xs.take i) ++ LS (xs.drop (i + 1))
def cL (l : Addr) (xs : XS) : List Cell := (l, .lst (refs xs)) :: LS xs
section
variable {H D : Hp} {R : List (List Cell)} {l : Addr} {x : WA} {w : W}
theorem Ok.openV (o : Ok H D (cV x w :: R)) : Ok H D ([(x.p, .dK (lawF w x.t x.q))] :: [(x.t, .dK (kvs w.tk))] :: [(x.q, .dK (kvs w.pl))] :: R) := o.re (.of_eq (by simp [cV]))
theorem Ok.shutV (o : Ok H D ([(x.p, .dK (lawF w x.t x.q))] :: [(x.t, .dK (kvs w.tk))] :: [(x.q, .dK (kvs w.pl))] :: R)) : Ok H D (cV x w :: R) := o.re (.of_eq (by simp [cV]))
end
section
variable {H D : Hp} {R : List (List Cell)} {l : Addr} {xs : XS} {i : Nat} {x : WA × W}
theorem Ok.openL (o : Ok H D (cL l xs :: R)) : Ok H D ([(l, .lst (refs xs))] :: LS xs :: R) := o.re (.of_eq (by simp [cL]))
theorem Ok.shutL (o : Ok H D ([(l, .lst (refs xs))] :: LS xs :: R)) : Ok H D (cL l xs :: R) := o.re (.of_eq (by simp [cL]))
theorem LS_perm (h : xs[i]? = some x) : (LS xs).Perm (cV x.1 x.2 ++ LSx xs i) := by
  conv => lhs; rw [split_at h]
  unfold LSx LS
  rw [List.flatMap_append, List.flatMap_cons]
  exact List.perm_append_comm_assoc _ _ _
theorem LSx_set {x' : WA × W} : LSx (xs.set i x') i = LSx xs i := by
  unfold LSx
  rw [List.take_set_of_le (Nat.le_refl _), List.drop_set_of_lt (Nat.lt_succ_self _)]
theorem Ok.openLI (o : Ok H D (LS xs :: R)) (h : xs[i]? = some x) : Ok H D (cV x.1 x.2 :: LSx xs i :: R) := o.re (by
  rw [List.flatten_cons, List.flatten_cons, List.flatten_cons, ← List.append_assoc]
  exact (LS_perm h).append_right _)
theorem Ok.shutLI {x' : WA × W} (o : Ok H D (cV x'.1 x'.2 :: LSx xs i :: R)) (h : i < xs.length) : Ok H D (LS (xs.set i x') :: R) := o.re (by
  rw [List.flatten_cons, List.flatten_cons, List.flatten_cons, ← List.append_assoc, ← LSx_set (x' := x')]
  exact (LS_perm (by rw [List.getElem?_set_self h])).symm.append_right _)
theorem Ok.openLA (o : Ok H D (cL l xs :: R)) (h : xs[i]? = some x) : Ok H D ([(x.1.p, .dK (lawF x.2 x.1.t x.1.q))] :: [(x.1.t, .dK (kvs x.2.tk))] :: [(x.1.q, .dK (kvs x.2.pl))] :: [(l, .lst (refs xs))] :: LSx xs i :: R) := (((o.openL.pk (.there .here)).openLI h).openV).sel (.pick .here (.pick .here (.pick .here (.pick (.there .here) (.done .here)))))
theorem Ok.shutLA {w' : W} (h : xs[i]? = some x) (o : Ok H D ([(x.1.p, .dK (lawF w' x.1.t x.1.q))] :: [(x.1.t, .dK (kvs w'.tk))] :: [(x.1.q, .dK (kvs w'.pl))] :: [(l, .lst (refs xs))] :: LSx xs i :: R)) : Ok H D (cL l (xs.set i (x.1, w')) :: R) := by
  have o2 : Ok H D (cV x.1 w' :: LSx xs i :: [(l, .lst (refs xs))] :: R) := (o.sel (.pick .here (.pick .here (.pick .here (.pick (.there .here) (.done .here)))))).shutV
  have o3 := o2.shutLI (x' := (x.1, w')) (List.getElem?_eq_some_iff.mp h).1
  rw [← refs_set (x' := (x.1, w')) h rfl] at o3
  exact (o3.pk (.there .here)).shutL
theorem LS_snoc {y : WA × W} : LS (xs ++ [y]) = LS xs ++ cV y.1 y.2 := by
  unfold LS
  rw [List.flatMap_append]
  simp
end
/-! deeds -/
inductive Deed
  | wish (p : Int) (z : Str) (pr m : Int)
  | alter (p i m : Int)
  | drop (p i : Int)
  | take (p i c : Int)
  | pledge (p i c : Int)
  | back (p i : Int)
def Deed.row : Deed → List V
  | .wish p z pr m => [.str "wish", .int p, .str z, .int pr, .int m]
  | .alter p i m => [.str "alter", .int p, .int i, .int m]
  | .drop p i => [.str "drop", .int p, .int i]
  | .take p i c => [.str "take", .int p, .int i, .int c]
  | .pledge p i c => [.str "pledge", .int p, .int i, .int c]
  | .back p i => [.str "back", .int p, .int i]
/-- a deed whose person and numbers are in order -/
def Deed.Good (pe : Int) : Deed → Prop
  | .wish p z pr m => (0 ≤ p ∧ p < pe) ∧ okWord z = true ∧ (1 ≤ pr ∧ pr ≤ 20) ∧ 1 ≤ m ∧ m ≤ 3
  | .alter p _ m => (0 ≤ p ∧ p < pe) ∧ 1 ≤ m ∧ m ≤ 3
  | .drop p _ => 0 ≤ p ∧ p < pe
  | .take p _ c => (0 ≤ p ∧ p < pe) ∧ 1 ≤ c ∧ c ≤ 3
  | .pledge p _ c => (0 ≤ p ∧ p < pe) ∧ 1 ≤ c ∧ c ≤ 20
  | .back p _ => 0 ≤ p ∧ p < pe
inductive Res
  | non
  | int (i : Int)
  | two (i j : Int)
  deriving DecidableEq
def wAt (ws : List W) (i : Int) : Option W := if 0 ≤ i ∧ i < ws.length then ws[i.toNat]? else none
def rfW (x : W) : Deed → Bool
  | .wish _ _ _ _ => false
  | .alter p _ _ => !x.st || !decide (x.ow = p)
  | .drop p _ => !x.st || !decide (x.ow = p)
  | .take p _ c => (!x.st || decide (x.ow = p)) || decide (free x < c)
  | .pledge p _ c => (!x.st || decide (x.ow = p)) || ((x.pl.isEmpty && decide (free x = 0)) || decide (lacking x < c))
  | .back p _ => !(alGet x.tk p).isSome && !(alGet x.pl p).isSome
def Deed.num : Deed → Int
  | .wish _ _ _ _ => 0
  | .alter _ i _ => i
  | .drop _ i => i
  | .take _ i _ => i
  | .pledge _ i _ => i
  | .back _ i => i
def rfz (ws : List W) : Deed → Bool
  | .wish _ _ _ _ => decide (ws.length = 8)
  | d => match wAt ws d.num with
    | none => true
    | some x => rfW x d
def doW (x : W) : Deed → W × Res
  | .wish _ _ _ _ => (x, .non)
  | .alter _ _ m => ({ x with many := m }, .int x.many)
  | .drop _ _ => ({ x with st := false }, .non)
  | .take p _ c => (takeW x p c, .int (free (takeW x p c)))
  | .pledge p _ c => (pledgeW x p c, .int (lacking (pledgeW x p c)))
  | .back p _ => (backW x p, .two ((alGet x.tk p).getD 0) ((alGet x.pl p).getD 0))
def doL (ws : List W) : Deed → List W × Res
  | .wish p z pr m => (ws ++ [⟨p, z, pr, m, true, [], []⟩], .int ws.length)
  | d => match wAt ws d.num with
    | none => (ws, .non)
    | some x => (ws.set d.num.toNat (doW x d).1, (doW x d).2)
def Deed.isW : Deed → Bool
  | .wish _ _ _ _ => true
  | _ => false
theorem rfz_no {ws : List W} {d : Deed} (n : d.isW = false) (h : wAt ws d.num = none) : rfz ws d = true := by
  cases d <;> first | (cases n; done) | simp only [rfz, h]
theorem rfz_at {ws : List W} {d : Deed} {x : W} (n : d.isW = false) (h : wAt ws d.num = some x) : rfz ws d = rfW x d := by
  cases d <;> first | (cases n; done) | simp only [rfz, h]
theorem doL_at {ws : List W} {d : Deed} {x : W} (n : d.isW = false) (h : wAt ws d.num = some x) : doL ws d = (ws.set d.num.toNat (doW x d).1, (doW x d).2) := by
  cases d <;> first | (cases n; done) | simp only [doL, h]
theorem WOk.new {p pr m : Int} {z : Str} (h : z.length ≤ 1000) : WOk ⟨p, z, pr, m, true, [], []⟩ := ⟨List.nodup_nil, List.nodup_nil, fun q h => (nomatch h), fun q h => (nomatch h), h⟩
theorem r_parV {H : Hp} {σ : L2.St} {E : Ends} {i j : Nat} {x y : V} (q : E.nx ((σ.set i (some x)).set j (some y)) H) : ∃ v w, [x, y] = [v, w] ∧ E.nx ((σ.set i (some v)).set j (some w)) H := ⟨x, y, rfl, q⟩
theorem okWord_len {z : Str} (h : okWord z = true) : z.length ≤ 1000 := by
  unfold okWord at h
  rw [Bool.and_eq_true, Bool.and_eq_true] at h
  have := of_decide_eq_true h.1.2
  omega
theorem isC_t {lo hi i : Int} (h : lo ≤ i ∧ i ≤ hi) : isC lo hi (.int i) = true := by
  rw [isC_int, decide_eq_true h.1, decide_eq_true h.2]; rfl
theorem wAt_cases (ws : List W) (i : Int) : (isC 0 ((ws.length : Int) - 1) (.int i) = false ∧ wAt ws i = none) ∨ ∃ x, isC 0 ((ws.length : Int) - 1) (.int i) = true ∧ ws[i.toNat]? = some x ∧ wAt ws i = some x := by
  by_cases h : 0 ≤ i ∧ i < ws.length
  · right
    have hi : i.toNat < ws.length := by omega
    refine ⟨ws[i.toNat], isC_t ⟨h.1, by omega⟩, List.getElem?_eq_getElem hi, ?_⟩
    unfold wAt
    rw [if_pos h]
    exact List.getElem?_eq_getElem hi
  · left
    refine ⟨?_, if_neg h⟩
    rw [isC_int]
    by_cases h1 : 0 ≤ i
    · rw [decide_eq_false (show ¬ i ≤ (ws.length : Int) - 1 by omega), Bool.and_false]
    · rw [decide_eq_false h1, Bool.false_and]
section
variable {pe : Int} {ws : List W} {p i c pr m : Int} {z : Str}
theorem due_wish (g : (Deed.wish p z pr m).Good pe) : (∀ ws' r, mWish pe ws (.int p) (.str z) (.int pr) (.int m) = .ok (ws', r) → rfz ws (.wish p z pr m) = false ∧ doL ws (.wish p z pr m) = (ws', .int r)) ∧ ∀ e, mWish pe ws (.int p) (.str z) (.int pr) (.int m) = .error e → rfz ws (.wish p z pr m) = true := by
  obtain ⟨g1, g2, g3, g4⟩ := g
  have e1 : isC 0 (pe - 1) (.int p) = true := isC_t ⟨g1.1, by omega⟩
  have e2 : isWd (.str z) = true := g2
  have e3 := isC_t g3
  have e4 := isC_t g4
  have e : mWish pe ws (.int p) (.str z) (.int pr) (.int m) = bif decide (ws.length = 8) then .error .toomany else .ok (ws ++ [⟨p, z, pr, m, true, [], []⟩], (ws.length : Int)) := by
    unfold mWish
    rw [e1, e2, e3, e4]
    rfl
  rw [e]
  show (∀ ws' r, _ → decide (ws.length = 8) = false ∧ (ws ++ [⟨p, z, pr, m, true, [], []⟩], Res.int ws.length) = (ws', .int r)) ∧ ∀ e, _ → decide (ws.length = 8) = true
  cases decide (ws.length = 8) with
  | true => exact ⟨fun _ _ h => (nomatch h), fun _ _ => rfl⟩
  | false =>
    refine ⟨fun ws' r h => ⟨rfl, ?_⟩, fun _ h => (nomatch h)⟩
    cases h
    rfl
theorem due_alter (g : (Deed.alter p i m).Good pe) : (∀ ws' r, mAlter pe ws (.int p) (.int i) (.int m) = .ok (ws', r) → rfz ws (.alter p i m) = false ∧ doL ws (.alter p i m) = (ws', .int r)) ∧ ∀ e, mAlter pe ws (.int p) (.int i) (.int m) = .error e → rfz ws (.alter p i m) = true := by
  obtain ⟨g1, g2⟩ := g
  have e1 : isC 0 (pe - 1) (.int p) = true := isC_t ⟨g1.1, by omega⟩
  have e2 := isC_t g2
  unfold mAlter
  rcases wAt_cases ws i with ⟨h1, h2⟩ | ⟨x, h1, h2, h3⟩
  · rw [ownAt_w e1 h1, rfz_no (d := (.alter p i m)) rfl h2]
    exact ⟨fun _ _ h => (nomatch h), fun _ _ => rfl⟩
  · rw [ownAt_e e1 h1 h2, rfz_at (d := (.alter p i m)) rfl h3, doL_at (d := (.alter p i m)) rfl h3]
    cases e3 : (!decide (x.ow = p) || !x.st) with
    | true => exact ⟨fun _ _ h => (nomatch h), fun _ _ => by show (!x.st || !decide (x.ow = p)) = true; rw [Bool.or_comm]; exact e3⟩
    | false =>
      show (∀ ws' r, (bif !(isC 1 3 (.int m)) then _ else _) = _ → _) ∧ ∀ e, (bif !(isC 1 3 (.int m)) then _ else _) = _ → _
      rw [e2]
      refine ⟨fun ws' r h => ⟨by show (!x.st || !decide (x.ow = p)) = false; rw [Bool.or_comm]; exact e3, ?_⟩, fun _ h => (nomatch h)⟩
      cases h
      rfl
theorem due_drop (g : (Deed.drop p i).Good pe) : (∀ ws', mDrop pe ws (.int p) (.int i) = .ok ws' → rfz ws (.drop p i) = false ∧ doL ws (.drop p i) = (ws', .non)) ∧ ∀ e, mDrop pe ws (.int p) (.int i) = .error e → rfz ws (.drop p i) = true := by
  have g1 : 0 ≤ p ∧ p < pe := g
  have e1 : isC 0 (pe - 1) (.int p) = true := isC_t ⟨g1.1, by omega⟩
  unfold mDrop
  rcases wAt_cases ws i with ⟨h1, h2⟩ | ⟨x, h1, h2, h3⟩
  · rw [ownAt_w e1 h1, rfz_no (d := (.drop p i)) rfl h2]
    exact ⟨fun _ h => (nomatch h), fun _ _ => rfl⟩
  · rw [ownAt_e e1 h1 h2, rfz_at (d := (.drop p i)) rfl h3, doL_at (d := (.drop p i)) rfl h3]
    cases e3 : (!decide (x.ow = p) || !x.st) with
    | true => exact ⟨fun _ h => (nomatch h), fun _ _ => by show (!x.st || !decide (x.ow = p)) = true; rw [Bool.or_comm]; exact e3⟩
    | false =>
      refine ⟨fun ws' h => ⟨by show (!x.st || !decide (x.ow = p)) = false; rw [Bool.or_comm]; exact e3, ?_⟩, fun _ h => (nomatch h)⟩
      cases h
      rfl
theorem due_take (g : (Deed.take p i c).Good pe) : (∀ ws' r, mTake pe ws (.int p) (.int i) (.int c) = .ok (ws', r) → rfz ws (.take p i c) = false ∧ doL ws (.take p i c) = (ws', .int r)) ∧ ∀ e, mTake pe ws (.int p) (.int i) (.int c) = .error e → rfz ws (.take p i c) = true := by
  obtain ⟨g1, g2⟩ := g
  have e1 : isC 0 (pe - 1) (.int p) = true := isC_t ⟨g1.1, by omega⟩
  have e2 := isC_t g2
  unfold mTake
  rcases wAt_cases ws i with ⟨h1, h2⟩ | ⟨x, h1, h2, h3⟩
  · rw [otherAt_w e1 h1, rfz_no (d := (.take p i c)) rfl h2]
    exact ⟨fun _ _ h => (nomatch h), fun _ _ => rfl⟩
  · rw [otherAt_e e1 h1 h2, rfz_at (d := (.take p i c)) rfl h3, doL_at (d := (.take p i c)) rfl h3]
    have ec : (!x.st || decide (x.ow = p)) = (decide (x.ow = p) || !x.st) := Bool.or_comm ..
    cases e3 : (decide (x.ow = p) || !x.st) with
    | true => exact ⟨fun _ _ h => (nomatch h), fun _ _ => by show ((!x.st || decide (x.ow = p)) || _) = true; rw [ec, e3]; rfl⟩
    | false =>
      show (∀ ws' r, (bif !(isC 1 3 (.int c)) then _ else bif decide (free x < c) then _ else _) = _ → ((!x.st || decide (x.ow = p)) || decide (free x < c)) = false ∧ _) ∧ ∀ e, (bif !(isC 1 3 (.int c)) then _ else bif decide (free x < c) then _ else _) = _ → ((!x.st || decide (x.ow = p)) || decide (free x < c)) = true
      rw [e2, ec, e3]
      cases decide (free x < c) with
      | true => exact ⟨fun _ _ h => (nomatch h), fun _ _ => rfl⟩
      | false =>
        refine ⟨fun ws' r h => ⟨rfl, ?_⟩, fun _ h => (nomatch h)⟩
        cases h
        rfl
theorem due_pledge (g : (Deed.pledge p i c).Good pe) : (∀ ws' r, mPledge pe ws (.int p) (.int i) (.int c) = .ok (ws', r) → rfz ws (.pledge p i c) = false ∧ doL ws (.pledge p i c) = (ws', .int r)) ∧ ∀ e, mPledge pe ws (.int p) (.int i) (.int c) = .error e → rfz ws (.pledge p i c) = true := by
  obtain ⟨g1, g2⟩ := g
  have e1 : isC 0 (pe - 1) (.int p) = true := isC_t ⟨g1.1, by omega⟩
  have e2 := isC_t g2
  unfold mPledge
  rcases wAt_cases ws i with ⟨h1, h2⟩ | ⟨x, h1, h2, h3⟩
  · rw [otherAt_w e1 h1, rfz_no (d := (.pledge p i c)) rfl h2]
    exact ⟨fun _ _ h => (nomatch h), fun _ _ => rfl⟩
  · rw [otherAt_e e1 h1 h2, rfz_at (d := (.pledge p i c)) rfl h3, doL_at (d := (.pledge p i c)) rfl h3]
    have ec : (!x.st || decide (x.ow = p)) = (decide (x.ow = p) || !x.st) := Bool.or_comm ..
    cases e3 : (decide (x.ow = p) || !x.st) with
    | true => exact ⟨fun _ _ h => (nomatch h), fun _ _ => by show ((!x.st || decide (x.ow = p)) || _) = true; rw [ec, e3]; rfl⟩
    | false =>
      show (∀ ws' r, (bif !(isC 1 20 (.int c)) then _ else bif x.pl.isEmpty && decide (free x = 0) then _ else bif decide (lacking x < c) then _ else _) = _ → ((!x.st || decide (x.ow = p)) || ((x.pl.isEmpty && decide (free x = 0)) || decide (lacking x < c))) = false ∧ _) ∧ ∀ e, (bif !(isC 1 20 (.int c)) then _ else bif x.pl.isEmpty && decide (free x = 0) then _ else bif decide (lacking x < c) then _ else _) = _ → ((!x.st || decide (x.ow = p)) || ((x.pl.isEmpty && decide (free x = 0)) || decide (lacking x < c))) = true
      rw [e2, ec, e3]
      cases (x.pl.isEmpty && decide (free x = 0)) with
      | true => exact ⟨fun _ _ h => (nomatch h), fun _ _ => rfl⟩
      | false =>
        cases decide (lacking x < c) with
        | true => exact ⟨fun _ _ h => (nomatch h), fun _ _ => rfl⟩
        | false =>
          refine ⟨fun ws' r h => ⟨rfl, ?_⟩, fun _ h => (nomatch h)⟩
          cases h
          rfl
theorem due_back (g : (Deed.back p i).Good pe) : (∀ ws' r s, mBack pe ws (.int p) (.int i) = .ok (ws', r, s) → rfz ws (.back p i) = false ∧ doL ws (.back p i) = (ws', .two r s)) ∧ ∀ e, mBack pe ws (.int p) (.int i) = .error e → rfz ws (.back p i) = true := by
  have g1 : 0 ≤ p ∧ p < pe := g
  have e1 : isC 0 (pe - 1) (.int p) = true := isC_t ⟨g1.1, by omega⟩
  unfold mBack
  rw [e1]
  rcases wAt_cases ws i with ⟨h1, h2⟩ | ⟨x, h1, h2, h3⟩
  · rw [h1, rfz_no (d := (.back p i)) rfl h2]
    exact ⟨fun _ _ _ h => (nomatch h), fun _ _ => rfl⟩
  · have h2' : ws[(intOf (.int i)).toNat]? = some x := h2
    rw [h1, h2', rfz_at (d := (.back p i)) rfl h3, doL_at (d := (.back p i)) rfl h3]
    show (∀ ws' r s, (bif !(alGet x.tk p).isSome && !(alGet x.pl p).isSome then _ else _) = _ → (!(alGet x.tk p).isSome && !(alGet x.pl p).isSome) = false ∧ _) ∧ ∀ e, (bif !(alGet x.tk p).isSome && !(alGet x.pl p).isSome then _ else _) = _ → (!(alGet x.tk p).isSome && !(alGet x.pl p).isSome) = true
    cases (!(alGet x.tk p).isSome && !(alGet x.pl p).isSome) with
    | true => exact ⟨fun _ _ _ h => (nomatch h), fun _ _ => rfl⟩
    | false =>
      refine ⟨fun ws' r s h => ⟨rfl, ?_⟩, fun _ h => (nomatch h)⟩
      cases h
      rfl
end
end G

/-! dict displays, updates; wishes stay well -/
namespace G
open PySem PySem.Spec PyProof.Rows L2
section
variable {K : PySem.W.Frag} {H D : Hp} {Ms R : List (List Cell)} {Q : VK} {σ : L2.St} {E : Ends}
def DispK (Q : VK) (p : Addr) (ps : List (V × V)) (H2 : Hp) : Prop := H2 p = some (.dK []) ∧ ∃ kvs : List (Key × V), ps = kvs.map (fun kv => (kV kv.1, kv.2)) ∧ kvs.length ≤ 15 ∧ Q (.ref p) (upd H2 p (.dK (mergeK [] kvs)))
theorem r_disp {trs : List (TE × TE)} (o : Ok H D Ms) (q : ∀ p H1, Ok H1 D ([(p, .dK [])] :: Ms) → tPairs trs σ H1 (DispK Q p)) : tDisp trs σ H Q := fun p n => q p _ (o.new n)
theorem r_dispE {p : Addr} {ps : List (V × V)} (kvs : List (Key × V)) {kvs' : List (Key × V)} (o : Ok H D Ms) (pk : Pk Ms [(p, .dK [])] R) (e : ps = kvs.map (fun kv => (kV kv.1, kv.2))) (l : decide (kvs.length ≤ 15) = true) (e2 : mergeK [] kvs = kvs') (q : ∀ H', Ok H' D ([(p, .dK kvs')] :: R) → Q (.ref p) H') : DispK Q p ps H := by
  subst e2
  exact ⟨o.at1 pk.mem, kvs, e, of_decide_eq_true l, q _ (o.wrAt pk)⟩
theorem r_pairsC {tk tv : TE} {r : List (TE × TE)} {P : List (V × V) → Hp → Prop} (q : tk σ H fun x H1 => tv σ H1 fun y H2 => tPairs r σ H2 fun ps H3 => P ((x, y) :: ps) H3) : tPairs ((tk, tv) :: r) σ H P := q
theorem r_pairsN {P : List (V × V) → Hp → Prop} (q : P [] H) : tPairs [] σ H P := q
theorem r_tyD {a : Addr} {kvs : List (Key × V)} {P : Prop} (h : H a = some (.dK kvs)) (q : P) : tyV K "dict" (.ref a) H ∧ P := ⟨.inr (.inr (.inl ⟨rfl, .inl ⟨kvs, h⟩⟩)), q⟩
theorem Pk.ne {a b : Addr} {o o' : HO} (h : Ok H D Ms) (p : Pk Ms [(a, o)] R) (m : [(b, o')] ∈ R) : a ≠ b := by
  have h2 := (h.pk p).nd
  intro e
  subst e
  rw [List.flatten_cons, List.map_append, List.nodup_append] at h2
  exact h2.2.2 a (by simp) a (List.mem_map.mpr ⟨(a, o'), List.mem_flatten.mpr ⟨_, m, .head _⟩, rfl⟩) rfl
theorem r_updE {d b : Addr} {k1 k2 k3 : List (Key × V)} (o : Ok H D Ms) (p : Pk Ms [(d, .dK k1)] R) (m : [(b, .dK k2)] ∈ R) (l : decide (k1.length + k2.length ≤ sizeLine) = true) (e : mergeK k1 k2 = k3) (q : ∀ H', Ok H' D ([(d, .dK k3)] :: R) → Q .non H') : rUpdD (.ref d) [.ref b] H Q := by
  subst e
  exact ⟨d, b, k1, k2, rfl, rfl, o.at1 p.mem, (o.pk p).at1 (.tail _ m), Pk.ne o p m, of_decide_eq_true l, q _ (o.wrAt p)⟩
theorem r_neg {m : Int} (q : Q (.int (-m)) H) : rU (fun i => .int (-i)) (.int m) H Q := ⟨m, rfl, q⟩
end
/-! wishes stay well -/
structure XOk (xs : XS) : Prop where
  w : ∀ x ∈ xs, WOk x.2
  n : xs.length ≤ 8
structure WsOk (ws : List W) : Prop where
  w : ∀ x ∈ ws, WOk x
  n : ws.length ≤ 8
theorem XOk.of {xs : XS} (h : WsOk (wsOf xs)) : XOk xs := ⟨fun x hx => h.w _ (List.mem_map_of_mem hx), by have := h.n; rwa [wsOf_len] at this⟩
theorem XOk.to {xs : XS} (h : XOk xs) : WsOk (wsOf xs) := ⟨fun x hx => by
  obtain ⟨y, hy, rfl⟩ := List.mem_map.mp hx
  exact h.w y hy, by rw [wsOf_len]; exact h.n⟩
theorem wAt_mem {ws : List W} {i : Int} {x : W} (h : wAt ws i = some x) : x ∈ ws := by
  unfold wAt at h
  split at h
  · exact List.mem_of_getElem? h
  · cases h
theorem doW_ok {x : W} {d : Deed} {pe : Int} (h : WOk x) (g : d.Good pe) (hp : pe ≤ 5) : WOk (doW x d).1 := by
  cases d with
  | wish => exact h
  | alter => exact h.alter
  | drop => exact h.drop
  | take p i c => exact h.take ⟨g.1.1, by have := g.1.2; omega⟩
  | pledge p i c => exact h.pledge ⟨g.1.1, by have := g.1.2; omega⟩
  | back p i => exact h.back
theorem WsOk.do {ws : List W} {d : Deed} {pe : Int} (h : WsOk ws) (g : d.Good pe) (hp : pe ≤ 5) (r : rfz ws d = false) : WsOk (doL ws d).1 := by
  cases hd : d.isW with
  | true =>
    cases d <;> first | (cases hd; done) | skip
    rename_i p z pr m
    have r' : decide (ws.length = 8) = false := r
    have h8 := of_decide_eq_false r'
    have h9 := h.n
    refine ⟨fun x hx => ?_, by show (ws ++ [_]).length ≤ 8; rw [List.length_append]; show ws.length + 1 ≤ 8; omega⟩
    rcases List.mem_append.mp (show x ∈ ws ++ [_] from hx) with h1 | h1
    · exact h.w x h1
    · obtain rfl := List.mem_singleton.mp h1
      exact WOk.new (okWord_len g.2.1)
  | false =>
    cases hw : wAt ws d.num with
    | none => rw [rfz_no hd hw] at r; cases r
    | some x =>
      rw [doL_at hd hw]
      refine ⟨fun y hy => ?_, by show (ws.set _ _).length ≤ 8; rw [List.length_set]; exact h.n⟩
      rcases List.mem_or_eq_of_mem_set hy with h1 | h1
      · exact h.w y h1
      · subst h1
        exact doW_ok (h.w x (wAt_mem hw)) g hp
def ResAt (D : Hp) (v : V) : Res → Prop
  | .non => v = .non
  | .int i => v = .int i
  | .two i j => ∃ t, v = .ref t ∧ D t = some (.tup [.int i, .int j])
theorem ResAt.mono {D D' : Hp} (e : Same D D') {v : V} {r : Res} (h : ResAt D v r) : ResAt D' v r := by
  cases r with
  | non => exact h
  | int => exact h
  | two => obtain ⟨t, e1, e2⟩ := h; exact ⟨t, e1, e _ _ e2⟩
end G

/-! sorted(list(d.items())) -/
namespace G
open PySem PySem.Spec PyProof.Rows L2
section
variable {K : PySem.W.Frag} {H D : Hp} {Ms R : List (List Cell)} {Q : VK} {σ : L2.St} {E : Ends}
theorem prs_of {D H' : Hp} {ts : List Addr} (hD : ∀ t ∈ ts, D t = H' t) : ∀ (l : AL) (us : List Addr), (∀ t ∈ us, t ∈ ts) → Paired (fun (t : Addr) (q : Key × V) => H' t = some (.tup [kV q.1, q.2])) us (kvs l) → Prs D us l
  | [], us, _, h => by
    cases us with
    | nil => exact .nil
    | cons => cases h
  | p :: r, us, hu, h => by
    cases us with
    | nil => cases h
    | cons t us =>
      have h' : Paired (fun (t : Addr) (q : Key × V) => H' t = some (.tup [kV q.1, q.2])) (t :: us) ((Sum.inl p.1, V.int p.2) :: kvs r) := h
      cases h' with
      | cons h1 h2 => exact .cons (by rw [hD t (hu t (.head _))]; exact h1) (prs_of hD r us (fun t ht => hu t (.tail _ ht)) h2)
theorem r_itemsE {d : Addr} {l : AL} (o : Ok H D Ms) (h : H d = some (.dK (kvs l))) (q : ∀ p H' D' ts, Ok H' D' ([(p, .lst (ts.map V.ref))] :: Ms) → Same D D' → Prs D' ts l → Q (.ref p) H') : LiI.rItemsL (.ref d) H Q := by
  refine ⟨d, kvs l, rfl, h, fun H' p ts e np nt hp e1 e2 => ?_⟩
  have dn : ∀ b, H b = none → D b = none := fun b hb => by
    cases hd : D b with
    | none => rfl
    | some o' => rw [o.sub _ _ hd] at hb; cases hb
  refine q p H' (fun b => if b ∈ ts then H' b else D b) ts ⟨fun b o' hb => ?_, fun M hM c hc => ?_, fun M hM c hc => ?_, ?_⟩ (fun b o' hb => ?_) (prs_of (fun t ht => if_pos ht) l ts (fun _ h => h) e2)
  · have hb' : (if b ∈ ts then H' b else D b) = some o' := hb
    split at hb'
    · exact hb'
    · exact e _ _ (o.sub _ _ hb')
  · rcases List.mem_cons.mp hM with rfl | hM
    · obtain rfl := List.mem_singleton.mp hc
      exact e1
    · exact e _ _ (o.has M hM c hc)
  · show (if c.1 ∈ ts then H' c.1 else D c.1) = none
    rcases List.mem_cons.mp hM with rfl | hM
    · obtain rfl := List.mem_singleton.mp hc
      rw [if_neg hp]
      exact dn _ np
    · rw [if_neg fun z => by have := nt _ z; rw [o.has M hM c hc] at this; cases this]
      exact o.off M hM c hc
  · rw [List.flatten_cons, List.map_append]
    refine List.nodup_cons.mpr ⟨fun z => ?_, o.nd⟩
    obtain ⟨c, hc, ec⟩ := List.mem_map.mp z
    obtain ⟨M, hM, hcM⟩ := List.mem_flatten.mp hc
    have := o.has M hM c hcM
    rw [ec] at this
    rw [np] at this
    cases this
  · show (if b ∈ ts then H' b else D b) = some o'
    rw [if_neg fun z => by have := nt _ z; rw [o.sub _ _ hb] at this; cases this]
    exact hb
def keyOf (D : Hp) : V → Int × Int
  | .ref t => match D t with
    | some (.tup [.int i, .int j]) => (i, j)
    | _ => (0, 0)
  | _ => (0, 0)
theorem keyOf_at {t : Addr} {p : Int × Int} (h : D t = some (.tup [.int p.1, .int p.2])) : keyOf D (.ref t) = p := by
  show (match D t with | some (.tup [.int i, .int j]) => (i, j) | _ => (0, 0)) = p
  rw [h]
def adr : V → Addr
  | .ref t => t
  | _ => 0
theorem prs_key : ∀ {ts : List Addr} {l : AL}, Prs D ts l → ts.map (fun t => keyOf D (.ref t)) = l
  | _, _, .nil => rfl
  | _, _, .cons h t => by
    rw [List.map_cons, keyOf_at h, prs_key t]
theorem prs_at : ∀ {ts : List Addr} {l : AL}, Prs D ts l → ∀ t ∈ ts, D t = some (.tup [.int (keyOf D (.ref t)).1, .int (keyOf D (.ref t)).2])
  | _, _, .nil, t, h => nomatch h
  | _, _, .cons (a := a) (b := b) h r, t, ht => by
    rcases List.mem_cons.mp ht with rfl | ht
    · rw [keyOf_at h]; exact h
    · exact prs_at r t ht
theorem prs_mk {ts : List Addr} (h : ∀ t ∈ ts, D t = some (.tup [.int (keyOf D (.ref t)).1, .int (keyOf D (.ref t)).2])) : Prs D ts (ts.map fun t => keyOf D (.ref t)) := by
  induction ts with
  | nil => exact .nil
  | cons a r ih => exact .cons (h a (.head _)) (ih fun t ht => h t (.tail _ ht))
theorem r_sortP {a : Addr} {ts : List Addr} {l : AL} (o : Ok H D Ms) (h : SqL K H a (ts.map V.ref)) (hp : Prs D ts l) (hn : NdK l) (q : ∀ p H' as, Ok H' D ([(p, .lst (as.map V.ref))] :: Ms) → Prs D as (srt l) → Q (.ref p) H') : rSrtU K [.ref a] H Q := by
  refine .inr (.inl ⟨a, ts.map V.ref, keyOf D, rfl, h, fun x hx => ?_, fun ys p hs hb n => ?_⟩)
  · obtain ⟨t, ht, rfl⟩ := List.mem_map.mp hx
    exact ⟨t, rfl, o.sub _ _ (prs_at hp t ht)⟩
  · have e1 : ys = (ys.map adr).map V.ref := by
      rw [List.map_map]
      conv => lhs; rw [← List.map_id ys]
      refine List.map_congr_left fun y hy => ?_
      obtain ⟨t, _, rfl⟩ := List.mem_map.mp (hb.perm.subset hy)
      rfl
    have p1 : (ys.map adr).Perm ts := by
      have := hb.perm.map adr
      rw [List.map_map, show adr ∘ V.ref = id from rfl, List.map_id] at this
      exact this
    have p2 := p1.map (fun t => keyOf D (.ref t))
    rw [prs_key hp] at p2
    have hs2 : ((ys.map adr).map fun t => keyOf D (.ref t)).Pairwise (fun x y => x.1 ≤ y.1) := by
      rw [List.map_map, List.pairwise_map]
      refine List.Pairwise.imp_of_mem (fun {x y} hx hy z => ?_) hs
      obtain ⟨tx, _, rfl⟩ := List.mem_map.mp (hb.perm.subset hx)
      obtain ⟨ty, _, rfl⟩ := List.mem_map.mp (hb.perm.subset hy)
      have := SrtO.lexB_no.mp z
      show (keyOf D (.ref tx)).1 ≤ (keyOf D (.ref ty)).1
      omega
    generalize hL : (ys.map adr).map (fun t => keyOf D (.ref t)) = L at p2 hs2
    have e3 : L = srt l := by
      unfold srt
      have k1 : L.map (·.1) = srtK (l.map (·.1)) := sorted_one ((p2.map _).trans (srtK_perm _).symm) (List.pairwise_map.mpr hs2) (srtK_sorted _)
      rw [← k1, List.map_map]
      conv => lhs; rw [← List.map_id L]
      refine List.map_congr_left fun y hy => ?_
      have := alGet_mem hn y (p2.subset hy)
      show y = (y.1, (alGet l y.1).getD 0)
      rw [this]
      rfl
    rw [e1]
    refine q p _ _ (o.new n) ?_
    rw [← e3, ← hL]
    exact prs_mk fun t ht => prs_at hp t (p1.subset ht)
end
end G

/-! rows and answers as data -/
namespace G
open PySem PySem.Spec PyProof.Rows L2
def alD (l : AL) : PyData := .list (l.map fun p => .tuple [.int p.1, .int p.2])
def doneD : Option (Bool × AL × AL) → PyData
  | none => .none
  | some (st, t, q) => .tuple [.bool st, alD t, alD q]
def rowD (r : Row) : PyData := .tuple [.int (r.num : Nat), .int r.ow, .str r.word, .int r.price, .int r.many, doneD r.done]
def rowsD (rs : List Row) : PyData := .list (rs.map rowD)
def resD : Res → PyData
  | .non => .none
  | .int i => .int i
  | .two i j => .tuple [.int i, .int j]
theorem lay_al (l : AL) : (alD l).canLay0 = true := by
  show PyData.canLayAll0 _ = true
  induction l with
  | nil => rfl
  | cons p r ih => show (PyData.canLay0 _ && PyData.canLayAll0 _) = true; rw [ih]; rfl
theorem lay_done (d : Option (Bool × AL × AL)) : (doneD d).canLay0 = true := by
  cases d with
  | none => rfl
  | some z =>
    obtain ⟨st, t, q⟩ := z
    show PyData.canLayAll0 [.bool st, alD t, alD q] = true
    simp only [PyData.canLayAll0, lay_al]
    rfl
theorem lay_row {r : Row} (h : PyData.strOk r.word = true) : (rowD r).canLay0 = true := by
  show PyData.canLayAll0 [.int (r.num : Nat), .int r.ow, .str r.word, .int r.price, .int r.many, doneD r.done] = true
  simp only [PyData.canLayAll0, lay_done, PyData.canLay0, h]
  rfl
theorem lay_rows {rs : List Row} (h : ∀ r ∈ rs, PyData.strOk r.word = true) : (rowsD rs).canLay0 = true := by
  show PyData.canLayAll0 _ = true
  induction rs with
  | nil => rfl
  | cons p r ih => show (PyData.canLay0 _ && PyData.canLayAll0 _) = true; rw [ih fun r hr => h r (.tail _ hr), lay_row (h p (.head _))]; rfl
theorem depth_al (l : AL) : (alD l).depth ≤ 2 := by
  have : PyData.depthAll (l.map fun p : Int × Int => PyData.tuple [.int p.1, .int p.2]) ≤ 1 := by
    induction l with
    | nil => simp [PyData.depthAll]
    | cons p r ih =>
      rw [List.map_cons, PyData.depthAll]
      refine Nat.max_le.mpr ⟨?_, ih⟩
      simp [PyData.depth, PyData.depthAll]
  show (PyData.depth (.list _)) ≤ 2
  rw [PyData.depth]
  omega
theorem depth_done (d : Option (Bool × AL × AL)) : (doneD d).depth ≤ 3 := by
  cases d with
  | none => simp [doneD, PyData.depth]
  | some z =>
    obtain ⟨st, t, q⟩ := z
    have h1 := depth_al t
    have h2 := depth_al q
    show (PyData.depth (.tuple _)) ≤ 3
    simp only [PyData.depth, PyData.depthAll]
    omega
theorem depth_row (r : Row) : (rowD r).depth ≤ 4 := by
  have h := depth_done r.done
  show (PyData.depth (.tuple _)) ≤ 4
  simp only [PyData.depth, PyData.depthAll]
  omega
theorem depth_rows (rs : List Row) : (rowsD rs).depth ≤ 5 := by
  have : PyData.depthAll (rs.map rowD) ≤ 4 := by
    induction rs with
    | nil => simp [PyData.depthAll]
    | cons p r ih =>
      rw [List.map_cons, PyData.depthAll]
      exact Nat.max_le.mpr ⟨depth_row p, ih⟩
  show (PyData.depth (.list _)) ≤ 5
  rw [PyData.depth]
  omega
theorem shaped_rows {rs : List Row} (h : ∀ r ∈ rs, PyData.strOk r.word = true) : SeqAt.shaped (rowsD rs) = true := by
  unfold SeqAt.shaped
  rw [lay_rows h, decide_eq_true (Nat.le_trans (depth_rows rs) (by decide))]
  rfl
theorem shaped_res (r : Res) : SeqAt.shaped (resD r) = true := by
  cases r <;> rfl
theorem refl_of {d : PyData} (h : SeqAt.shaped d = true) : PyData.eqv d d = true := by
  unfold SeqAt.shaped at h
  rw [Bool.and_eq_true] at h
  exact SeqAt.eqv_refl d h.1
section
variable {K : PySem.W.Frag} {H D : Hp} {Ms : List (List Cell)} {lc : List Cell}
theorem dp_prs {as : List Addr} {l : AL} (e : Same D H) (h : Prs D as l) : DpAll K H (as.map V.ref) (l.map fun p => .tuple [.int p.1, .int p.2]) := by
  induction h with
  | nil => exact .nil
  | cons h _ ih => exact .cons (.tup (SqT.of (e _ _ h)) (.cons (.int _) (.cons (.int _) .nil))) ih
theorem dp_row {t : Addr} {r : Row} (e : Same D H) (hl : ∀ c ∈ lc, H c.1 = some c.2) (h : RowIs D lc t r) : Dp K H (.ref t) (rowD r) := by
  obtain ⟨dv, h1, h2⟩ := h
  refine .tup (SqT.of (e _ _ h1)) (.cons (.int _) (.cons (.int _) (.cons (.str _) (.cons (.int _) (.cons (.int _) (.cons ?_ .nil))))))
  cases hd : r.done with
  | none => rw [hd] at h2; obtain rfl := h2; exact .non
  | some z =>
    obtain ⟨st, tk, pl⟩ := z
    rw [hd] at h2
    obtain ⟨TT, L1, L2, as1, as2, rfl, g2, g3, g4, g5, g6⟩ := h2
    exact .tup (SqT.of (e _ _ g2)) (.cons (.bl _) (.cons (.lst (SqL.of (hl _ g3)) (dp_prs e g5)) (.cons (.lst (SqL.of (hl _ g4)) (dp_prs e g6)) .nil)))
theorem dp_rows {L : Addr} {ts : List Addr} {rs : List Row} (e : Same D H) (hl : ∀ c ∈ lc, H c.1 = some c.2) (hL : H L = some (.lst (ts.map V.ref))) (h : RowsIs D lc ts rs) : Dp K H (.ref L) (rowsD rs) := by
  refine .lst (SqL.of hL) ?_
  clear hL
  induction h with
  | nil => exact .nil
  | cons h _ ih => exact .cons (dp_row e hl h) ih
theorem dp_res {v : V} {r : Res} (e : Same D H) (h : ResAt D v r) : Dp K H v (resD r) := by
  cases r with
  | non => obtain rfl := h; exact .non
  | int i => obtain rfl := h; exact .int i
  | two i j => obtain ⟨t, rfl, e2⟩ := h; exact .tup (SqT.of (e _ _ e2)) (.cons (.int _) (.cons (.int _) .nil))
end
/-! words of the rows -/
def Wds (ws : List W) : Prop := ∀ w ∈ ws, okWord w.word = true
theorem okWord_strOk {z : Str} (h : okWord z = true) : PyData.strOk z = true := by
  unfold okWord at h
  rw [Bool.and_eq_true] at h
  show z.cps.all _ = true
  rw [← Array.all_toList, List.all_eq_true]
  intro c hc
  have h1 := of_decide_eq_true (List.all_eq_true.mp h.2 c hc)
  have h2 : ∀ c ∈ lets, c < 0x110000 := by decide
  exact decide_eq_true (h2 c h1)
theorem rowOf_word {p : Int} {i : Nat} {w : W} {r : Row} (h : rowOf p i w = some r) : r.word = w.word := by
  unfold rowOf at h
  cases e : (w.st || ((!w.tk.isEmpty || !w.pl.isEmpty) && !decide (w.ow = p))) with
  | true => rw [e] at h; cases h; rfl
  | false => rw [e] at h; cases h
theorem seen_words {p : Int} : ∀ {i : Nat} {ws : List W}, Wds ws → ∀ r ∈ seenFrom p i ws, PyData.strOk r.word = true
  | _, [], _, r, h => nomatch h
  | i, w :: ws, hw, r, h => by
    rcases List.mem_append.mp (show r ∈ (rowOf p i w).toList ++ seenFrom p (i + 1) ws from h) with h | h
    · cases e : rowOf p i w with
      | none => rw [e] at h; cases h
      | some r' =>
        rw [e] at h
        obtain rfl := List.mem_singleton.mp h
        rw [rowOf_word e]
        exact okWord_strOk (hw w (.head _))
    · exact seen_words (fun w hm => hw w (.tail _ hm)) r h
theorem Wds.do {ws : List W} {d : Deed} {pe : Int} (h : Wds ws) (g : d.Good pe) : Wds (doL ws d).1 := by
  cases hd : d.isW with
  | true =>
    cases d <;> first | (cases hd; done) | skip
    rename_i p z pr m
    intro x hx
    rcases List.mem_append.mp (show x ∈ ws ++ [_] from hx) with h1 | h1
    · exact h x h1
    · obtain rfl := List.mem_singleton.mp h1
      exact g.2.1
  | false =>
    cases hw : wAt ws d.num with
    | none =>
      have : doL ws d = (ws, .non) := by cases d <;> first | (cases hd; done) | simp only [doL, hw]
      rw [this]
      exact h
    | some x =>
      rw [doL_at hd hw]
      intro y hy
      rcases List.mem_or_eq_of_mem_set hy with h1 | h1
      · exact h y h1
      · subst h1
        have : (doW x d).1.word = x.word := by cases d <;> rfl
        rw [this]
        exact h x (wAt_mem hw)
/-! lists within a chunk, written to -/
def LiIn (C : List Cell) (b : Addr) (n : Nat) : Prop := ∃ us : List V, ((b, .lst us) : Cell) ∈ C ∧ us.length ≤ n
def wrC (C : List Cell) (a : Addr) (o : HO) : List Cell := C.map fun c => if c.1 = a then (a, o) else c
section
variable {K : PySem.W.Frag} {H D : Hp} {R : List (List Cell)} {C : List Cell} {a b : Addr} {o : HO} {Q : VK} {n : Nat}
theorem wrC_fst (C : List Cell) (a : Addr) (o : HO) : (wrC C a o).map (·.1) = C.map (·.1) := by
  unfold wrC
  rw [List.map_map]
  refine List.map_congr_left fun c _ => ?_
  show (if c.1 = a then (a, o) else c).1 = c.1
  split
  · rename_i e; exact e.symm
  · rfl
theorem Ok.wrIn (h : Ok H D (C :: R)) {o0 : HO} (m : (a, o0) ∈ C) : Ok (upd H a o) D (wrC C a o :: R) := by
  have nD : D a = none := h.off C (.head _) (a, o0) m
  have hnd := h.nd
  rw [List.flatten_cons, List.map_append] at hnd
  obtain ⟨_, _, hdis⟩ := List.nodup_append.mp hnd
  have ha : a ∈ C.map (·.1) := List.mem_map.mpr ⟨_, m, rfl⟩
  refine ⟨fun b o' e => ?_, fun M hM c hc => ?_, fun M hM c hc => ?_, ?_⟩
  · rw [upd_ne (ne_of_none e nD)]
    exact h.sub _ _ e
  · rcases List.mem_cons.mp hM with rfl | hM
    · obtain ⟨c0, h0, e0⟩ := List.mem_map.mp hc
      by_cases e : c0.1 = a
      · rw [if_pos e] at e0
        subst e0
        exact upd_same
      · rw [if_neg e] at e0
        subst e0
        rw [upd_ne e]
        exact h.has C (.head _) _ h0
    · have : c.1 ≠ a := fun e => hdis a ha c.1 (List.mem_map.mpr ⟨c, List.mem_flatten.mpr ⟨M, hM, hc⟩, rfl⟩) e.symm
      rw [upd_ne this]
      exact h.has M (.tail _ hM) c hc
  · rcases List.mem_cons.mp hM with rfl | hM
    · obtain ⟨c0, h0, e0⟩ := List.mem_map.mp hc
      by_cases e : c0.1 = a
      · rw [if_pos e] at e0
        subst e0
        exact nD
      · rw [if_neg e] at e0
        subst e0
        exact h.off C (.head _) _ h0
    · exact h.off M (.tail _ hM) c hc
  · rw [List.flatten_cons, List.map_append, wrC_fst]
    exact hnd
theorem LiIn.wr (h : Ok H D (C :: R)) {ys : List V} {z : V} (m : ((a, .lst ys) : Cell) ∈ C) (l : LiIn C b n) : LiIn (wrC C a (.lst (ys ++ [z]))) b (n + 1) := by
  obtain ⟨us, hu, hl⟩ := l
  by_cases e : b = a
  · subst e
    have e1 := h.has C (.head _) _ hu
    have e2 := h.has C (.head _) _ m
    have e3 : some (HO.lst us) = some (HO.lst ys) := e1.symm.trans e2
    cases e3
    exact ⟨ys ++ [z], List.mem_map.mpr ⟨_, m, if_pos rfl⟩, by rw [List.length_append]; show ys.length + 1 ≤ _; omega⟩
  · exact ⟨us, List.mem_map.mpr ⟨_, hu, if_neg e⟩, by omega⟩
theorem r_appIn {ys : List V} {y : V} (h : Ok H D (C :: R)) (m : ((a, .lst ys) : Cell) ∈ C) (l : ys.length < sizeLine) (q : ∀ H', Ok H' D (wrC C a (.lst (ys ++ [y])) :: R) → Q .non H') : rAppend (.ref a) [y] H Q := ⟨a, ys, y, rfl, rfl, h.has C (.head _) _ m, l, q _ (h.wrIn m)⟩
end
def RowW (D : Hp) (C : List Cell) (n : Nat) (t : Addr) : Prop := ∃ v0 v1 v2 v3 v4 dv : V, D t = some (.tup [v0, v1, v2, v3, v4, dv]) ∧ (dv = .non ∨ ∃ T b L1 L2, dv = .ref T ∧ D T = some (.tup [.bl b, .ref L1, .ref L2]) ∧ LiIn C L1 n ∧ LiIn C L2 n)
theorem RowW.wr {H D : Hp} {R : List (List Cell)} {C : List Cell} {a t : Addr} {n : Nat} (h : Ok H D (C :: R)) {ys : List V} {z : V} (m : ((a, .lst ys) : Cell) ∈ C) (l : RowW D C n t) : RowW D (wrC C a (.lst (ys ++ [z]))) (n + 1) t := by
  obtain ⟨v0, v1, v2, v3, v4, dv, e1, e2⟩ := l
  refine ⟨v0, v1, v2, v3, v4, dv, e1, e2.elim .inl fun ⟨T, b, L1, L2, f1, f2, f3, f4⟩ => .inr ⟨T, b, L1, L2, f1, f2, f3.wr h m, f4.wr h m⟩⟩
theorem RowW.up {D : Hp} {C : List Cell} {t : Addr} {n m : Nat} (l : RowW D C n t) (h : n ≤ m) : RowW D C m t := by
  obtain ⟨v0, v1, v2, v3, v4, dv, e1, e2⟩ := l
  refine ⟨v0, v1, v2, v3, v4, dv, e1, e2.elim .inl fun ⟨T, b, L1, L2, f1, f2, ⟨us, g1, g2⟩, ⟨us', g3, g4⟩⟩ => .inr ⟨T, b, L1, L2, f1, f2, ⟨us, g1, by omega⟩, ⟨us', g3, by omega⟩⟩⟩
def Short (r : Row) : Prop := ∀ st tk pl, r.done = some (st, tk, pl) → tk.length ≤ 50 ∧ pl.length ≤ 50
theorem srt_len {l : AL} : (srt l).length = l.length := by
  unfold srt
  rw [List.length_map, (srtK_perm _).length_eq, List.length_map]
theorem seen_short {p : Int} : ∀ {i : Nat} {ws : List W}, (∀ w ∈ ws, WOk w) → ∀ r ∈ seenFrom p i ws, Short r
  | _, [], _, r, h => nomatch h
  | i, w :: ws, hw, r, h => by
    rcases List.mem_append.mp (show r ∈ (rowOf p i w).toList ++ seenFrom p (i + 1) ws from h) with h | h
    · cases e : rowOf p i w with
      | none => rw [e] at h; cases h
      | some r' =>
        rw [e] at h
        obtain rfl := List.mem_singleton.mp h
        have ww := hw w (.head _)
        intro st tk pl ed
        unfold rowOf at e
        cases e2 : (w.st || ((!w.tk.isEmpty || !w.pl.isEmpty) && !decide (w.ow = p))) with
        | false => rw [e2] at e; cases e
        | true =>
          rw [e2] at e
          cases e
          have ed : (if w.ow = p then none else some (w.st, srt w.tk, srt w.pl)) = some (st, tk, pl) := ed
          split at ed
          · cases ed
          · cases ed
            have h1 := ww.lt
            have h2 := ww.lp
            rw [srt_len, srt_len]
            omega
    · exact seen_short (fun w hm => hw w (.tail _ hm)) r h
theorem rowW_of {D : Hp} {lc : List Cell} {t : Addr} {r : Row} (h : RowIs D lc t r) (s : Short r) : RowW D lc 50 t := by
  obtain ⟨dv, h1, h2⟩ := h
  refine ⟨_, _, _, _, _, dv, h1, ?_⟩
  cases hd : r.done with
  | none => rw [hd] at h2; exact .inl h2
  | some z =>
    obtain ⟨st, tk, pl⟩ := z
    have s2 := s st tk pl hd
    rw [hd] at h2
    obtain ⟨TT, L1, L2, as1, as2, rfl, g2, g3, g4, g5, g6⟩ := h2
    have l1 := Paired.length g5
    have l2 := Paired.length g6
    exact .inr ⟨TT, st, L1, L2, rfl, g2, ⟨_, g3, by rw [List.length_map]; omega⟩, ⟨_, g4, by rw [List.length_map]; omega⟩⟩
theorem rowsW_of {D : Hp} {lc : List Cell} {ts : List Addr} {rs : List Row} (h : RowsIs D lc ts rs) (s : ∀ r ∈ rs, Short r) : ∀ t ∈ ts, RowW D lc 50 t := by
  induction h with
  | nil => intro t ht; cases ht
  | cons h _ ih =>
    intro t ht
    rcases List.mem_cons.mp ht with rfl | ht
    · exact rowW_of h (s _ (.head _))
    · exact ih (fun r hr => s r (.tail _ hr)) t ht
end G

/-! frozen data, written literals -/
namespace G
open PySem PySem.Spec PyProof.Rows L2
mutual
inductive Fz (D : Hp) : V → PyData → Prop
  | non : Fz D .non .none
  | bl (b : Bool) : Fz D (.bl b) (.bool b)
  | int (i : Int) : Fz D (.int i) (.int i)
  | str (x : Str) : Fz D (.str x) (.str x)
  | lst {a : Addr} {xs : List V} {ds : List PyData} (h : D a = some (.lst xs)) (q : FzAll D xs ds) : Fz D (.ref a) (.list ds)
  | tup {a : Addr} {xs : List V} {ds : List PyData} (h : D a = some (.tup xs)) (q : FzAll D xs ds) : Fz D (.ref a) (.tuple ds)
  | dct {a : Addr} (h : D a = some (.dK [])) : Fz D (.ref a) (.dict [])
inductive FzAll (D : Hp) : List V → List PyData → Prop
  | nil : FzAll D [] []
  | cons {v : V} {vs : List V} {d : PyData} {ds : List PyData} (h : Fz D v d) (t : FzAll D vs ds) : FzAll D (v :: vs) (d :: ds)
end
mutual
theorem Fz.mono {D D' : Hp} (e : Same D D') : ∀ {v : V} {d : PyData}, Fz D v d → Fz D' v d
  | _, _, .non => .non
  | _, _, .bl b => .bl b
  | _, _, .int i => .int i
  | _, _, .str x => .str x
  | _, _, .lst h q => .lst (e _ _ h) (FzAll.mono e q)
  | _, _, .tup h q => .tup (e _ _ h) (FzAll.mono e q)
  | _, _, .dct h => .dct (e _ _ h)
theorem FzAll.mono {D D' : Hp} (e : Same D D') : ∀ {vs : List V} {ds : List PyData}, FzAll D vs ds → FzAll D' vs ds
  | _, _, .nil => .nil
  | _, _, .cons h t => .cons (Fz.mono e h) (FzAll.mono e t)
end
theorem FzAll.len {D : Hp} : ∀ {vs : List V} {ds : List PyData}, FzAll D vs ds → vs.length = ds.length
  | _, _, .nil => rfl
  | _, _, .cons _ t => congrArg (· + 1) (FzAll.len t)
theorem FzAll.app {D : Hp} : ∀ {xs ys : List V} {d e : List PyData}, FzAll D xs d → FzAll D ys e → FzAll D (xs ++ ys) (d ++ e)
  | _, _, _, _, .nil, k => k
  | _, _, _, _, .cons a t, k => .cons a (FzAll.app t k)
theorem FzAll.get {D : Hp} : ∀ {vs : List V} {ds : List PyData}, FzAll D vs ds → ∀ {i : Nat} {v : V}, vs[i]? = some v → ∃ d, ds[i]? = some d ∧ Fz D v d
  | _, _, .cons h _, 0, v, e => ⟨_, rfl, by obtain rfl := Option.some.inj (show some _ = some v from e); exact h⟩
  | _, _, .cons _ t, i + 1, v, e => FzAll.get t (i := i) (by rw [List.getElem?_cons_succ] at e; exact e)
theorem FzAll.at {D : Hp} : ∀ {vs : List V} {ds : List PyData}, FzAll D vs ds → ∀ {i : Nat} {d : PyData}, ds[i]? = some d → ∃ v, vs[i]? = some v ∧ Fz D v d
  | _, _, .cons h _, 0, d, e => ⟨_, rfl, by obtain rfl := Option.some.inj (show some _ = some d from e); exact h⟩
  | _, _, .cons _ t, i + 1, d, e => FzAll.at t (i := i) (by rw [List.getElem?_cons_succ] at e; exact e)
theorem FzAll.take {D : Hp} : ∀ {vs : List V} {ds : List PyData}, FzAll D vs ds → ∀ n : Nat, FzAll D (vs.take n) (ds.take n)
  | _, _, _, 0 => .nil
  | _, _, .nil, _ + 1 => .nil
  | _, _, .cons h t, n + 1 => .cons h (FzAll.take t n)
theorem FzAll.drop {D : Hp} : ∀ {vs : List V} {ds : List PyData}, FzAll D vs ds → ∀ n : Nat, FzAll D (vs.drop n) (ds.drop n)
  | _, _, h, 0 => h
  | _, _, .nil, _ + 1 => .nil
  | _, _, .cons _ t, n + 1 => FzAll.drop t n
/-! data without dicts -/
mutual
def flatD : PyData → Bool
  | .dict _ => false
  | .list ds => flatDs ds
  | .tuple ds => flatDs ds
  | _ => true
def flatDs : List PyData → Bool
  | [] => true
  | d :: r => flatD d && flatDs r
end
mutual
theorem Fz.dp {K : PySem.W.Frag} {D H : Hp} (e : Same D H) : ∀ {v : V} {d : PyData}, Fz D v d → flatD d = true → Dp K H v d
  | _, _, .non, _ => .non
  | _, _, .bl b, _ => .bl b
  | _, _, .int i, _ => .int i
  | _, _, .str x, _ => .str x
  | _, _, .lst h q, f => .lst (SqL.of (e _ _ h)) (FzAll.dp e q f)
  | _, _, .tup h q, f => .tup (SqT.of (e _ _ h)) (FzAll.dp e q f)
  | _, _, .dct h, f => by cases f
theorem FzAll.dp {K : PySem.W.Frag} {D H : Hp} (e : Same D H) : ∀ {vs : List V} {ds : List PyData}, FzAll D vs ds → flatDs ds = true → DpAll K H vs ds
  | _, _, .nil, _ => .nil
  | _, _, .cons h t, f => by
    have f' := (Bool.and_eq_true ..).mp (show (flatD _ && flatDs _) = true from f)
    exact .cons (Fz.dp e h f'.1) (FzAll.dp e t f'.2)
end
theorem okFrzN {H D : Hp} {R : List (List Cell)} (Cs : List (List Cell)) (o : Ok H D (Cs ++ R)) : ∃ D', Ok H D' R ∧ Same D D' ∧ ∀ C ∈ Cs, ∀ c ∈ C, D' c.1 = some c.2 := by
  have o2 : Ok H D (Cs.flatten :: R) := o.re (.of_eq (by simp))
  obtain ⟨o3, s3, e3⟩ := o2.frz
  exact ⟨_, o3, s3, fun C hC c hc => e3 c (List.mem_flatten.mpr ⟨C, hC, hc⟩)⟩
/-! written literals -/
mutual
inductive Lit : TE → PyData → Prop
  | non : Lit (tC .non) .none
  | bl (b : Bool) : Lit (tC (.bl b)) (.bool b)
  | int (i : Int) : Lit (tC (.int i)) (.int i)
  | neg (i : Int) : Lit (tUn (rU fun i => .int (-i)) (tC (.int i))) (.int (-i))
  | str (x : Str) : Lit (tC (.str x)) (.str x)
  | lst {t : TA} {ds : List PyData} (q : Lits t ds) (l : decide (ds.length ≤ 100) = true) : Lit (tLst t) (.list ds)
  | tup {t : TA} {ds : List PyData} (q : Lits t ds) (l : decide (ds.length ≤ 100) = true) : Lit (tTup t) (.tuple ds)
  | dct : Lit tDNewK (.dict [])
inductive Lits : TA → List PyData → Prop
  | nil : Lits tNil []
  | cons {ta : TE} {t : TA} {d : PyData} {ds : List PyData} (h : Lit ta d) (q : Lits t ds) : Lits (tCons ta t) (d :: ds)
end
mutual
theorem lit_run {σ : L2.St} {Ms : List (List Cell)} : ∀ {te : TE} {d : PyData}, Lit te d → ∀ {H D : Hp} {Q : VK}, Ok H D Ms → (∀ H' D' v, Ok H' D' Ms → Same D D' → Fz D' v d → Q v H') → te σ H Q
  | _, _, .non, H, D, _, o, q => q H D _ o (Same.refl D) .non
  | _, _, .bl b, H, D, _, o, q => q H D _ o (Same.refl D) (.bl b)
  | _, _, .int i, H, D, _, o, q => q H D _ o (Same.refl D) (.int i)
  | _, _, .neg i, H, D, _, o, q => ⟨i, rfl, q H D _ o (Same.refl D) (.int (-i))⟩
  | _, _, .str x, H, D, _, o, q => q H D _ o (Same.refl D) (.str x)
  | _, _, .lst h l, H, D, Q, o, q => lits_run h o fun H' D' vs o' s' f => by
      refine ⟨sz_of (by rw [f.len]; exact l), fun p n => ?_⟩
      obtain ⟨o2, s2⟩ := o'.newD (o := .lst vs) n
      exact q _ _ _ o2 (s'.trans s2) (.lst upd_same (f.mono s2))
  | _, _, .tup h l, H, D, Q, o, q => lits_run h o fun H' D' vs o' s' f => by
      refine ⟨sz_of (by rw [f.len]; exact l), fun p n => ?_⟩
      obtain ⟨o2, s2⟩ := o'.newD (o := .tup vs) n
      exact q _ _ _ o2 (s'.trans s2) (.tup upd_same (f.mono s2))
  | _, _, .dct, H, D, Q, o, q => fun p n => by
      obtain ⟨o2, s2⟩ := o.newD (o := .dK []) n
      exact q _ _ _ o2 s2 (.dct upd_same)
theorem lits_run {σ : L2.St} {Ms : List (List Cell)} : ∀ {t : TA} {ds : List PyData}, Lits t ds → ∀ {H D : Hp} {P : List V → Hp → Prop}, Ok H D Ms → (∀ H' D' vs, Ok H' D' Ms → Same D D' → FzAll D' vs ds → P vs H') → t σ H P
  | _, _, .nil, H, D, _, o, q => q H D _ o (Same.refl D) .nil
  | _, _, .cons h t, H, D, _, o, q => lit_run h o fun H1 D1 v o1 s1 f1 => lits_run t o1 fun H2 D2 vs o2 s2 f2 => q H2 D2 _ o2 (s1.trans s2) (.cons (f1.mono s2) f2)
end
/-- a written thing, at its place -/
theorem r_lit {σ : L2.St} {Ms : List (List Cell)} {te : TE} {d : PyData} {H D : Hp} {Q : VK} (o : Ok H D Ms) (h : Lit te d) (q : ∀ H' D' v, Ok H' D' Ms → Same D D' → Fz D' v d → Q v H') : te σ H Q := lit_run h o q
/-! everything that may change becomes data -/
theorem Ok.fz {H D : Hp} {Ms : List (List Cell)} (o : Ok H D Ms) : ∃ D', Ok H D' [] ∧ Same D D' ∧ ∀ a o, [(a, o)] ∈ Ms → D' a = some o := by
  have o2 : Ok H D (Ms.flatten :: []) := o.re (.of_eq (by simp))
  obtain ⟨o3, s3, e3⟩ := o2.frz
  exact ⟨_, o3, s3, fun a o h => e3 (a, o) (List.mem_flatten.mpr ⟨_, h, .head _⟩)⟩
/-! deeds as data -/
def Deed.dat : Deed → PyData
  | .wish p z pr m => .tuple [.str "wish", .int p, .str z, .int pr, .int m]
  | .alter p i m => .tuple [.str "alter", .int p, .int i, .int m]
  | .drop p i => .tuple [.str "drop", .int p, .int i]
  | .take p i c => .tuple [.str "take", .int p, .int i, .int c]
  | .pledge p i c => .tuple [.str "pledge", .int p, .int i, .int c]
  | .back p i => .tuple [.str "back", .int p, .int i]
theorem fz_str {D : Hp} {v : V} {x : Str} (h : Fz D v (.str x)) : v = .str x := by cases h; rfl
theorem fz_int {D : Hp} {v : V} {i : Int} (h : Fz D v (.int i)) : v = .int i := by cases h; rfl
theorem fz_non {D : Hp} {v : V} (h : Fz D v .none) : v = .non := by cases h; rfl
theorem fz_bl {D : Hp} {v : V} {b : Bool} (h : Fz D v (.bool b)) : v = .bl b := by cases h; rfl
theorem fz_tup {D : Hp} {v : V} {ds : List PyData} (h : Fz D v (.tuple ds)) : ∃ a xs, v = .ref a ∧ D a = some (.tup xs) ∧ FzAll D xs ds := by
  cases h with
  | tup h q => exact ⟨_, _, rfl, h, q⟩
theorem fz_lst {D : Hp} {v : V} {ds : List PyData} (h : Fz D v (.list ds)) : ∃ a xs, v = .ref a ∧ D a = some (.lst xs) ∧ FzAll D xs ds := by
  cases h with
  | lst h q => exact ⟨_, _, rfl, h, q⟩
theorem fz_deed {D : Hp} {v : V} {d : Deed} (h : Fz D v d.dat) : ∃ t, v = .ref t ∧ D t = some (.tup d.row) := by
  cases d <;> (obtain ⟨a, xs, rfl, ha, q⟩ := fz_tup h; refine ⟨a, rfl, ?_⟩; rw [ha]; congr 2)
  · cases q with | cons h1 q => cases q with | cons h2 q => cases q with | cons h3 q => cases q with | cons h4 q => cases q with | cons h5 q => cases q; rw [fz_str h1, fz_int h2, fz_str h3, fz_int h4, fz_int h5]; rfl
  · cases q with | cons h1 q => cases q with | cons h2 q => cases q with | cons h3 q => cases q with | cons h4 q => cases q; rw [fz_str h1, fz_int h2, fz_int h3, fz_int h4]; rfl
  · cases q with | cons h1 q => cases q with | cons h2 q => cases q with | cons h3 q => cases q; rw [fz_str h1, fz_int h2, fz_int h3]; rfl
  · cases q with | cons h1 q => cases q with | cons h2 q => cases q with | cons h3 q => cases q with | cons h4 q => cases q; rw [fz_str h1, fz_int h2, fz_int h3, fz_int h4]; rfl
  · cases q with | cons h1 q => cases q with | cons h2 q => cases q with | cons h3 q => cases q with | cons h4 q => cases q; rw [fz_str h1, fz_int h2, fz_int h3, fz_int h4]; rfl
  · cases q with | cons h1 q => cases q with | cons h2 q => cases q with | cons h3 q => cases q; rw [fz_str h1, fz_int h2, fz_int h3]; rfl
theorem fz_row {D : Hp} {t : Addr} {d : Deed} (h : D t = some (.tup d.row)) : Fz D (.ref t) d.dat := by
  cases d <;> exact .tup h (by simp only [Deed.row]; repeat' (first | exact .nil | refine .cons ?_ ?_ | exact .str _ | exact .int _))
abbrev RowsAt (D : Hp) : List Addr → List Deed → Prop := Paired fun d dd => D d = some (.tup (Deed.row dd))
theorem fz_deeds {D : Hp} : ∀ {dds : List Deed} {vs : List V}, FzAll D vs (dds.map Deed.dat) → ∃ ds : List Addr, vs = ds.map V.ref ∧ RowsAt D ds dds
  | [], _, h => by cases h; exact ⟨[], rfl, .nil⟩
  | d :: r, _, h => by
    cases h with
    | cons h t =>
      obtain ⟨a, rfl, ha⟩ := fz_deed h
      obtain ⟨ds, rfl, hds⟩ := fz_deeds t
      exact ⟨a :: ds, rfl, .cons ha hds⟩
theorem RowsAt.fz {D : Hp} : ∀ {ds : List Addr} {dds : List Deed}, RowsAt D ds dds → FzAll D (ds.map V.ref) (dds.map Deed.dat)
  | _, _, .nil => .nil
  | _, _, .cons h t => .cons (fz_row h) (RowsAt.fz t)
theorem RowsAt.mono {D D' : Hp} (e : Same D D') {ds : List Addr} {dds : List Deed} (h : RowsAt D ds dds) : RowsAt D' ds dds := Paired.mapP h fun _ _ q => e _ _ q
theorem paired_app {α β : Type} {F : α → β → Prop} : ∀ {l₁ : List α} {m₁ : List β} {l₂ : List α} {m₂ : List β}, Paired F l₁ m₁ → Paired F l₂ m₂ → Paired F (l₁ ++ l₂) (m₁ ++ m₂)
  | _, _, _, _, .nil, h => h
  | _, _, _, _, .cons a t, h => .cons a (paired_app t h)
theorem paired_take {α β : Type} {F : α → β → Prop} : ∀ {l : List α} {m : List β} (n : Nat), Paired F l m → Paired F (l.take n) (m.take n)
  | _, _, 0, _ => .nil
  | _, _, _ + 1, .nil => .nil
  | _, _, n + 1, .cons a t => .cons a (paired_take n t)
theorem paired_drop {α β : Type} {F : α → β → Prop} : ∀ {l : List α} {m : List β} (n : Nat), Paired F l m → Paired F (l.drop n) (m.drop n)
  | _, _, 0, h => h
  | _, _, _ + 1, .nil => .nil
  | _, _, n + 1, .cons _ t => paired_drop n t
theorem paired_get {α β : Type} {F : α → β → Prop} : ∀ {l : List α} {m : List β}, Paired F l m → ∀ {i : Nat} (h : i < l.length), ∃ y, m[i]? = some y ∧ F l[i] y
  | _, _, .nil, _, h => absurd h (Nat.not_lt_zero _)
  | _, _, .cons h _, 0, _ => ⟨_, rfl, h⟩
  | _, _, .cons _ t, i + 1, h => paired_get t (i := i) (Nat.lt_of_succ_lt_succ h)
theorem paired_all {α β : Type} {F : α → β → Prop} {P : β → Prop} : ∀ {l : List α} {m : List β}, Paired F l m → (∀ x ∈ m, P x) → Paired (fun a b => F a b ∧ P b) l m
  | _, _, .nil, _ => .nil
  | _, _, .cons h t, p => .cons ⟨h, p _ (.head _)⟩ (paired_all t fun x hx => p x (.tail _ hx))
theorem paired_fst {α β : Type} {F : α → β → Prop} {P : α → β → Prop} : ∀ {l : List α} {m : List β}, Paired (fun a b => F a b ∧ P a b) l m → Paired F l m
  | _, _, .nil => .nil
  | _, _, .cons h t => .cons h.1 (paired_fst t)
def goodB (pe : Int) : Deed → Bool
  | .wish p z pr m => decide (0 ≤ p ∧ p < pe) && okWord z && decide (1 ≤ pr ∧ pr ≤ 20) && decide (1 ≤ m ∧ m ≤ 3)
  | .alter p _ m => decide (0 ≤ p ∧ p < pe) && decide (1 ≤ m ∧ m ≤ 3)
  | .drop p _ => decide (0 ≤ p ∧ p < pe)
  | .take p _ c => decide (0 ≤ p ∧ p < pe) && decide (1 ≤ c ∧ c ≤ 3)
  | .pledge p _ c => decide (0 ≤ p ∧ p < pe) && decide (1 ≤ c ∧ c ≤ 20)
  | .back p _ => decide (0 ≤ p ∧ p < pe)
theorem goodB_iff {pe : Int} {d : Deed} : goodB pe d = true ↔ d.Good pe := by
  cases d <;> simp only [goodB, Bool.and_eq_true, decide_eq_true_eq, Deed.Good, and_assoc]
theorem goodB_ok {pe : Int} {d : Deed} (h : goodB pe d = true) : d.Good pe := goodB_iff.mp h
theorem goods_ok {pe : Int} {ds : List Deed} (h : ds.all (goodB pe) = true) : ∀ d ∈ ds, d.Good pe := fun d hd => goodB_ok (List.all_eq_true.mp h d hd)
end G
/-! written things with variables within -/
namespace G
open PySem PySem.Spec PyProof.Rows L2
mutual
inductive LitV (σ : L2.St) (D0 : Hp) : TE → PyData → Prop
  | var {i : Nat} {v : V} {d : PyData} (h : σ[i]? = some (some v)) (f : Fz D0 v d) : LitV σ D0 (tVar i) d
  | non : LitV σ D0 (tC .non) .none
  | bl (b : Bool) : LitV σ D0 (tC (.bl b)) (.bool b)
  | int (i : Int) : LitV σ D0 (tC (.int i)) (.int i)
  | neg (i : Int) : LitV σ D0 (tUn (rU fun i => .int (-i)) (tC (.int i))) (.int (-i))
  | str (x : Str) : LitV σ D0 (tC (.str x)) (.str x)
  | lst {t : TA} {ds : List PyData} (q : LitVs σ D0 t ds) (l : decide (ds.length ≤ 100) = true) : LitV σ D0 (tLst t) (.list ds)
  | tup {t : TA} {ds : List PyData} (q : LitVs σ D0 t ds) (l : decide (ds.length ≤ 100) = true) : LitV σ D0 (tTup t) (.tuple ds)
  | dct : LitV σ D0 tDNewK (.dict [])
inductive LitVs (σ : L2.St) (D0 : Hp) : TA → List PyData → Prop
  | nil : LitVs σ D0 tNil []
  | cons {ta : TE} {t : TA} {d : PyData} {ds : List PyData} (h : LitV σ D0 ta d) (q : LitVs σ D0 t ds) : LitVs σ D0 (tCons ta t) (d :: ds)
end
mutual
theorem litv_run {σ : L2.St} {D0 : Hp} {Ms : List (List Cell)} : ∀ {te : TE} {d : PyData}, LitV σ D0 te d → ∀ {H D : Hp} {Q : VK}, Same D0 D → Ok H D Ms → (∀ H' D' v, Ok H' D' Ms → Same D D' → Fz D' v d → Q v H') → te σ H Q
  | _, _, .var h f, H, D, _, e, o, q => ⟨_, h, q H D _ o (Same.refl D) (f.mono e)⟩
  | _, _, .non, H, D, _, _, o, q => q H D _ o (Same.refl D) .non
  | _, _, .bl b, H, D, _, _, o, q => q H D _ o (Same.refl D) (.bl b)
  | _, _, .int i, H, D, _, _, o, q => q H D _ o (Same.refl D) (.int i)
  | _, _, .neg i, H, D, _, _, o, q => ⟨i, rfl, q H D _ o (Same.refl D) (.int (-i))⟩
  | _, _, .str x, H, D, _, _, o, q => q H D _ o (Same.refl D) (.str x)
  | _, _, .lst h l, H, D, Q, e, o, q => litvs_run h e o fun H' D' vs o' s' f => by
      refine ⟨sz_of (by rw [f.len]; exact l), fun p n => ?_⟩
      obtain ⟨o2, s2⟩ := o'.newD (o := .lst vs) n
      exact q _ _ _ o2 (s'.trans s2) (.lst upd_same (f.mono s2))
  | _, _, .tup h l, H, D, Q, e, o, q => litvs_run h e o fun H' D' vs o' s' f => by
      refine ⟨sz_of (by rw [f.len]; exact l), fun p n => ?_⟩
      obtain ⟨o2, s2⟩ := o'.newD (o := .tup vs) n
      exact q _ _ _ o2 (s'.trans s2) (.tup upd_same (f.mono s2))
  | _, _, .dct, H, D, Q, _, o, q => fun p n => by
      obtain ⟨o2, s2⟩ := o.newD (o := .dK []) n
      exact q _ _ _ o2 s2 (.dct upd_same)
theorem litvs_run {σ : L2.St} {D0 : Hp} {Ms : List (List Cell)} : ∀ {t : TA} {ds : List PyData}, LitVs σ D0 t ds → ∀ {H D : Hp} {P : List V → Hp → Prop}, Same D0 D → Ok H D Ms → (∀ H' D' vs, Ok H' D' Ms → Same D D' → FzAll D' vs ds → P vs H') → t σ H P
  | _, _, .nil, H, D, _, _, o, q => q H D _ o (Same.refl D) .nil
  | _, _, .cons h t, H, D, _, e, o, q => litv_run h e o fun H1 D1 v o1 s1 f1 => litvs_run t (e.trans s1) o1 fun H2 D2 vs o2 s2 f2 => q H2 D2 _ o2 (s1.trans s2) (.cons (f1.mono s2) f2)
end
theorem r_litv {σ : L2.St} {Ms : List (List Cell)} {te : TE} {d : PyData} {H D : Hp} {Q : VK} (o : Ok H D Ms) (h : LitV σ D te d) (q : ∀ H' D' v, Ok H' D' Ms → Same D D' → Fz D' v d → Q v H') : te σ H Q := litv_run h (Same.refl D) o q
end G

/-! deeds gone through: the plain law -/
namespace G
open PySem PySem.Spec PyProof.Rows L2
def stepM (pe : Int) (ws : List W) (d : Deed) : Option (List W × Res) := bif goodB pe d && !rfz ws d then some (doL ws d) else none
theorem bif_ok {ε α : Type} {c : Bool} {e : ε} {X : Except ε α} {r : α} (h : (bif !c then .error e else X) = .ok r) : c = true ∧ X = .ok r := by
  cases c with
  | false => cases h
  | true => exact ⟨rfl, h⟩
theorem bif_ok2 {ε α : Type} {c : Bool} {e : ε} {X : Except ε α} {r : α} (h : (bif c then .error e else X) = .ok r) : c = false ∧ X = .ok r := by
  cases c with
  | true => cases h
  | false => exact ⟨rfl, h⟩
theorem isC_bd {lo hi i : Int} (h : isC lo hi (.int i) = true) : lo ≤ i ∧ i ≤ hi := by
  obtain ⟨j, e, h1, h2⟩ := isC_is h
  cases e
  exact ⟨h1, h2⟩
theorem stepM_good {pe : Int} {ws : List W} {d : Deed} (g : d.Good pe) : stepM pe ws d = bif !rfz ws d then some (doL ws d) else none := by
  unfold stepM
  rw [goodB_iff.mpr g]
  rfl
theorem stepM_bad {pe : Int} {ws : List W} {d : Deed} (g : ¬ d.Good pe) : stepM pe ws d = none := by
  unfold stepM
  cases h : goodB pe d with
  | true => exact absurd (goodB_ok h) g
  | false => rfl
section
variable {pe : Int} {ws : List W} {p i c pr m : Int} {z : Str}
theorem step_wish : (∀ ws' r, mWish pe ws (.int p) (.str z) (.int pr) (.int m) = .ok (ws', r) → stepM pe ws (.wish p z pr m) = some (ws', .int r)) ∧ ∀ e, mWish pe ws (.int p) (.str z) (.int pr) (.int m) = .error e → stepM pe ws (.wish p z pr m) = none := by
  by_cases g : (Deed.wish p z pr m).Good pe
  · obtain ⟨h1, h2⟩ := due_wish (ws := ws) g
    rw [stepM_good g]
    exact ⟨fun ws' r h => by obtain ⟨a, b⟩ := h1 ws' r h; rw [a, b]; rfl, fun e h => by rw [h2 e h]; rfl⟩
  · rw [stepM_bad g]
    refine ⟨fun ws' r h => absurd ?_ g, fun _ _ => rfl⟩
    unfold mWish at h
    obtain ⟨e1, h⟩ := bif_ok h
    obtain ⟨e2, h⟩ := bif_ok h
    obtain ⟨e3, h⟩ := bif_ok h
    obtain ⟨e4, _⟩ := bif_ok h
    have e1 := isC_bd e1
    exact ⟨⟨e1.1, by omega⟩, e2, isC_bd e3, isC_bd e4⟩
theorem step_alter : (∀ ws' r, mAlter pe ws (.int p) (.int i) (.int m) = .ok (ws', r) → stepM pe ws (.alter p i m) = some (ws', .int r)) ∧ ∀ e, mAlter pe ws (.int p) (.int i) (.int m) = .error e → stepM pe ws (.alter p i m) = none := by
  by_cases g : (Deed.alter p i m).Good pe
  · obtain ⟨h1, h2⟩ := due_alter (ws := ws) g
    rw [stepM_good g]
    exact ⟨fun ws' r h => by obtain ⟨a, b⟩ := h1 ws' r h; rw [a, b]; rfl, fun e h => by rw [h2 e h]; rfl⟩
  · rw [stepM_bad g]
    refine ⟨fun ws' r h => absurd ?_ g, fun _ _ => rfl⟩
    unfold mAlter at h
    cases e : ownAt pe ws (.int p) (.int i) with
    | error x => rw [e] at h; cases h
    | ok x =>
      rw [e] at h
      have e1 := isC_bd (ownAt_ok e).1
      obtain ⟨e2, _⟩ := bif_ok h
      exact ⟨⟨e1.1, by omega⟩, isC_bd e2⟩
theorem step_drop : (∀ ws', mDrop pe ws (.int p) (.int i) = .ok ws' → stepM pe ws (.drop p i) = some (ws', .non)) ∧ ∀ e, mDrop pe ws (.int p) (.int i) = .error e → stepM pe ws (.drop p i) = none := by
  by_cases g : (Deed.drop p i).Good pe
  · obtain ⟨h1, h2⟩ := due_drop (ws := ws) g
    rw [stepM_good g]
    exact ⟨fun ws' h => by obtain ⟨a, b⟩ := h1 ws' h; rw [a, b]; rfl, fun e h => by rw [h2 e h]; rfl⟩
  · rw [stepM_bad g]
    refine ⟨fun ws' h => absurd ?_ g, fun _ _ => rfl⟩
    unfold mDrop at h
    cases e : ownAt pe ws (.int p) (.int i) with
    | error x => rw [e] at h; cases h
    | ok x =>
      have e1 := isC_bd (ownAt_ok e).1
      exact ⟨e1.1, by omega⟩
theorem step_take : (∀ ws' r, mTake pe ws (.int p) (.int i) (.int c) = .ok (ws', r) → stepM pe ws (.take p i c) = some (ws', .int r)) ∧ ∀ e, mTake pe ws (.int p) (.int i) (.int c) = .error e → stepM pe ws (.take p i c) = none := by
  by_cases g : (Deed.take p i c).Good pe
  · obtain ⟨h1, h2⟩ := due_take (ws := ws) g
    rw [stepM_good g]
    exact ⟨fun ws' r h => by obtain ⟨a, b⟩ := h1 ws' r h; rw [a, b]; rfl, fun e h => by rw [h2 e h]; rfl⟩
  · rw [stepM_bad g]
    refine ⟨fun ws' r h => absurd ?_ g, fun _ _ => rfl⟩
    unfold mTake at h
    cases e : otherAt pe ws (.int p) (.int i) with
    | error x => rw [e] at h; cases h
    | ok x =>
      rw [e] at h
      have e1 := isC_bd (otherAt_ok e).1
      obtain ⟨e2, _⟩ := bif_ok h
      exact ⟨⟨e1.1, by omega⟩, isC_bd e2⟩
theorem step_pledge : (∀ ws' r, mPledge pe ws (.int p) (.int i) (.int c) = .ok (ws', r) → stepM pe ws (.pledge p i c) = some (ws', .int r)) ∧ ∀ e, mPledge pe ws (.int p) (.int i) (.int c) = .error e → stepM pe ws (.pledge p i c) = none := by
  by_cases g : (Deed.pledge p i c).Good pe
  · obtain ⟨h1, h2⟩ := due_pledge (ws := ws) g
    rw [stepM_good g]
    exact ⟨fun ws' r h => by obtain ⟨a, b⟩ := h1 ws' r h; rw [a, b]; rfl, fun e h => by rw [h2 e h]; rfl⟩
  · rw [stepM_bad g]
    refine ⟨fun ws' r h => absurd ?_ g, fun _ _ => rfl⟩
    unfold mPledge at h
    cases e : otherAt pe ws (.int p) (.int i) with
    | error x => rw [e] at h; cases h
    | ok x =>
      rw [e] at h
      have e1 := isC_bd (otherAt_ok e).1
      obtain ⟨e2, _⟩ := bif_ok h
      exact ⟨⟨e1.1, by omega⟩, isC_bd e2⟩
theorem step_back : (∀ ws' r s, mBack pe ws (.int p) (.int i) = .ok (ws', r, s) → stepM pe ws (.back p i) = some (ws', .two r s)) ∧ ∀ e, mBack pe ws (.int p) (.int i) = .error e → stepM pe ws (.back p i) = none := by
  by_cases g : (Deed.back p i).Good pe
  · obtain ⟨h1, h2⟩ := due_back (ws := ws) g
    rw [stepM_good g]
    exact ⟨fun ws' r s h => by obtain ⟨a, b⟩ := h1 ws' r s h; rw [a, b]; rfl, fun e h => by rw [h2 e h]; rfl⟩
  · rw [stepM_bad g]
    refine ⟨fun ws' r s h => absurd ?_ g, fun _ _ => rfl⟩
    unfold mBack at h
    obtain ⟨e1, _⟩ := bif_ok h
    have e1 := isC_bd e1
    exact ⟨e1.1, by omega⟩
end
def playF (pe : Int) : Nat → List W → List Deed → List W × List Res × Int
  | _, ws, [] => (ws, [], -1)
  | i, ws, d :: r => match stepM pe ws d with
    | none => (ws, [], i)
    | some y => ((playF pe (i + 1) y.1 r).1, y.2 :: (playF pe (i + 1) y.1 r).2.1, (playF pe (i + 1) y.1 r).2.2)
theorem playF_none {pe : Int} {i : Nat} {ws : List W} {d : Deed} {r : List Deed} (h : stepM pe ws d = none) : playF pe i ws (d :: r) = (ws, [], (i : Int)) := by
  unfold playF
  rw [h]
theorem playF_some {pe : Int} {i : Nat} {ws : List W} {d : Deed} {r : List Deed} {y : List W × Res} (h : stepM pe ws d = some y) : playF pe i ws (d :: r) = ((playF pe (i + 1) y.1 r).1, y.2 :: (playF pe (i + 1) y.1 r).2.1, (playF pe (i + 1) y.1 r).2.2) := by
  conv => lhs; unfold playF
  rw [h]
theorem stepM_ok {pe : Int} {ws : List W} {d : Deed} {y : List W × Res} (h : stepM pe ws d = some y) (hw : WsOk ws) (hp : pe ≤ 5) : WsOk y.1 := by
  unfold stepM at h
  cases e : (goodB pe d && !rfz ws d) with
  | false => rw [e] at h; cases h
  | true =>
    rw [e] at h
    cases h
    rw [Bool.and_eq_true] at e
    exact hw.do (goodB_ok e.1) hp (by simpa using e.2)
theorem stepM_wds {pe : Int} {ws : List W} {d : Deed} {y : List W × Res} (h : stepM pe ws d = some y) (hw : Wds ws) : Wds y.1 := by
  unfold stepM at h
  cases e : (goodB pe d && !rfz ws d) with
  | false => rw [e] at h; cases h
  | true =>
    rw [e] at h
    cases h
    rw [Bool.and_eq_true] at e
    exact hw.do (goodB_ok e.1)
theorem playF_ok {pe : Int} (hp : pe ≤ 5) : ∀ {ds : List Deed} {i : Nat} {ws : List W}, WsOk ws → WsOk (playF pe i ws ds).1
  | [], _, _, h => h
  | d :: r, i, ws, h => by
    cases e : stepM pe ws d with
    | none => rw [playF_none e]; exact h
    | some y => rw [playF_some e]; exact playF_ok hp (stepM_ok e h hp)
theorem playF_wds {pe : Int} : ∀ {ds : List Deed} {i : Nat} {ws : List W}, Wds ws → Wds (playF pe i ws ds).1
  | [], _, _, h => h
  | d :: r, i, ws, h => by
    cases e : stepM pe ws d with
    | none => rw [playF_none e]; exact h
    | some y => rw [playF_some e]; exact playF_wds (stepM_wds e h)
theorem playF_place {pe : Int} : ∀ {ds : List Deed} {i : Nat} {ws : List W}, (playF pe i ws ds).2.2 = -1 ∨ ((i : Int) ≤ (playF pe i ws ds).2.2 ∧ (playF pe i ws ds).2.2 < (i : Int) + ds.length)
  | [], _, _ => .inl rfl
  | d :: r, i, ws => by
    cases e : stepM pe ws d with
    | none =>
      rw [playF_none e]
      right
      show (i : Int) ≤ i ∧ (i : Int) < i + ((r.length + 1 : Nat) : Int)
      omega
    | some y =>
      rw [playF_some e]
      rcases playF_place (pe := pe) (ds := r) (i := i + 1) (ws := y.1) with h | ⟨h1, h2⟩
      · exact .inl h
      · right
        show (i : Int) ≤ (playF pe (i + 1) y.1 r).2.2 ∧ (playF pe (i + 1) y.1 r).2.2 < (i : Int) + ((r.length + 1 : Nat) : Int)
        omega
theorem playF_len {pe : Int} : ∀ {ds : List Deed} {i : Nat} {ws : List W}, (playF pe i ws ds).2.1.length ≤ ds.length
  | [], _, _ => Nat.le_refl _
  | d :: r, i, ws => by
    cases e : stepM pe ws d with
    | none => rw [playF_none e]; exact Nat.zero_le _
    | some y =>
      rw [playF_some e]
      exact Nat.succ_le_succ playF_len
/-- where all can be done, as many answers as deeds -/
theorem playF_full {pe : Int} : ∀ {ds : List Deed} {i : Nat} {ws : List W}, (playF pe i ws ds).2.2 = -1 → (playF pe i ws ds).2.1.length = ds.length
  | [], _, _, _ => rfl
  | d :: r, i, ws, h => by
    cases e : stepM pe ws d with
    | none => rw [playF_none e] at h; cases h
    | some y =>
      rw [playF_some e] at h ⊢
      exact congrArg (· + 1) (playF_full h)
abbrev ResAts (D : Hp) : List V → List Res → Prop := Paired (ResAt D)
theorem ResAts.mono {D D' : Hp} (e : Same D D') {vs : List V} {rs : List Res} (h : ResAts D vs rs) : ResAts D' vs rs := Paired.mapP h fun _ _ q => q.mono e
def ressD (rs : List Res) : PyData := .list (rs.map resD)
theorem dp_ress {K : PySem.W.Frag} {D H : Hp} (e : Same D H) : ∀ {vs : List V} {rs : List Res}, ResAts D vs rs → DpAll K H vs (rs.map resD)
  | _, _, .nil => .nil
  | _, _, .cons h t => .cons (dp_res e h) (dp_ress e t)
theorem shaped_ress (rs : List Res) : SeqAt.shaped (ressD rs) = true := by
  have l : PyData.canLayAll0 (rs.map resD) = true := by
    induction rs with
    | nil => rfl
    | cons r t ih =>
      show (PyData.canLay0 (resD r) && PyData.canLayAll0 (t.map resD)) = true
      rw [ih, Bool.and_true]
      cases r <;> rfl
  have d : PyData.depthAll (rs.map resD) ≤ 1 := by
    clear l
    induction rs with
    | nil => simp [PyData.depthAll]
    | cons r t ih =>
      rw [List.map_cons, PyData.depthAll]
      refine Nat.max_le.mpr ⟨?_, ih⟩
      cases r <;> simp [resD, PyData.depth, PyData.depthAll]
  unfold SeqAt.shaped
  rw [Bool.and_eq_true]
  refine ⟨l, decide_eq_true ?_⟩
  show (PyData.depth (.list (rs.map resD))) ≤ 64
  rw [PyData.depth]
  omega
theorem eqv_res (r s : Res) : PyData.eqv (resD r) (resD s) = decide (r = s) := by
  cases r <;> cases s <;> simp [resD, PyData.eqv, PyData.eqvAll]
  all_goals (rw [Bool.eq_iff_iff]; simp)
theorem eqv_ress : ∀ (rs ss : List Res), PyData.eqv (ressD rs) (ressD ss) = decide (rs = ss) := by
  intro rs ss
  show PyData.eqvAll (rs.map resD) (ss.map resD) = _
  induction rs generalizing ss with
  | nil => cases ss <;> simp [PyData.eqvAll]
  | cons r t ih =>
    cases ss with
    | nil => simp [PyData.eqvAll]
    | cons s u =>
      show (PyData.eqv (resD r) (resD s) && PyData.eqvAll (t.map resD) (u.map resD)) = _
      rw [ih, eqv_res]
      by_cases h1 : r = s <;> by_cases h2 : t = u <;> simp [h1, h2]
/-- the words of deeds are short -/
def Deed.short : Deed → Prop
  | .wish _ z _ _ => z.length ≤ 1000
  | _ => True
theorem Deed.Good.short {d : Deed} {pe : Int} (g : d.Good pe) : d.short := by
  cases d <;> first | exact okWord_len g.2.1 | trivial
end G
namespace G
open PySem PySem.Spec PyProof.Rows L2
theorem playF_app {pe : Int} : ∀ {ds es : List Deed} {i : Nat} {ws : List W}, (playF pe i ws ds).2.2 = -1 →
    playF pe i ws (ds ++ es) = ((playF pe (i + ds.length) (playF pe i ws ds).1 es).1, (playF pe i ws ds).2.1 ++ (playF pe (i + ds.length) (playF pe i ws ds).1 es).2.1, (playF pe (i + ds.length) (playF pe i ws ds).1 es).2.2)
  | [], _, _, _, _ => rfl
  | d :: r, es, i, ws, h => by
    cases e : stepM pe ws d with
    | none => rw [playF_none e] at h; cases h
    | some y =>
      rw [playF_some e] at h ⊢
      have ih := playF_app (es := es) h
      rw [List.cons_append, playF_some e, ih, List.length_cons, show i + 1 + r.length = i + (r.length + 1) by omega]
      rfl
theorem playF_snoc {pe : Int} {ds : List Deed} {d : Deed} {ws : List W} {y : List W × Res} (h : (playF pe 0 ws ds).2.2 = -1) (e : stepM pe (playF pe 0 ws ds).1 d = some y) : (playF pe 0 ws (ds ++ [d])).2.2 = -1 ∧ (playF pe 0 ws (ds ++ [d])).1 = y.1 := by
  rw [playF_app h, playF_some e]
  exact ⟨rfl, rfl⟩
end G

/-! more rules: xs[::-1], list(range), x or y by truth, xs[i] op= e -/
namespace G
open PySem PySem.Spec PyProof.Rows L2
section
variable {X : Cx} {K : PySem.W.Frag}
theorem k_revL {e : Expr} {te : TE} {k : Nat} {p1 p2 p3 pos : Pos} (he : PE X e te) (h : X.K = K := by rfl) : PE X (.Subscript e (.Slice none none (some (.UnaryOp .USub (.Constant (.int 1) k p1) p2)) p3) pos) (tRevL K te) := by
  subst h
  exact pe_revL he
theorem k_orT {a b : Expr} {ta tb : TE} {rest : List Expr} {pos : Pos} (ha : PE X a ta) (hb : PE X (.BoolOp .Or (b :: rest) pos) tb) (h : X.K = K := by rfl) : PE X (.BoolOp .Or (a :: b :: rest) pos) (tOrT K ta tb) := by
  subst h
  exact pe_orT ha hb
/-- xs[i], xs a list that is tracked, i from 0 on -/
def rGetN : V → V → Hp → VK → Prop := fun x y H Q => ∃ (p : Addr) (xs : List V) (i : Int) (v : V), x = .ref p ∧ y = .int i ∧ H p = some (.lst xs) ∧ 0 ≤ i ∧ xs[i.toNat]? = some v ∧ Q v H
theorem get_list : PGet X rGetN := by
  intro pins s σ H x y v u Q I rx ry h
  obtain ⟨p, xs, i, z, rfl, rfl, hp, h0, he, q⟩ := h
  cases rx
  obtain ⟨t, rfl⟩ := ry
  obtain ⟨its, rv, pl, hz⟩ := I.list (SqL.of hp)
  obtain ⟨w', ew, rw'⟩ := rv.get he
  have hl := rv.length
  have hi : i.toNat < xs.length := (List.getElem?_eq_some_iff.mp he).1
  have hn := line63
  exact wpAny_getItem_list pl.isList h0 (by omega) (by simpa using ew) ⟨z, H, I, rw', q⟩
theorem ps_augL {o i e : Expr} {to ti te : TE} {tip : TIp} {op : Operator} {tpos pos : Pos} (ho : PE X o to) (hi : PE X i ti) (he : PE X e te) (hp : PIp X op tip)
    (ha : ∀ ov iv new, augStore i ov iv new = (do holding [new, ov, iv] (setItem ov iv new); release [new, ov, iv] []; pure .next) := by intros; rfl) : PS X (.AugAssign (.Subscript o i tpos) op e pos) (tAugS to ti te rGetN tip rSetL) := ps_augS ho hi get_list he hp set_list ha
end
section
variable {K : PySem.W.Frag} {H D : Hp} {Ms R : List (List Cell)} {σ : L2.St} {Q : VK} {ta tb te : TE} {E : Ends}
def RevQ (K : PySem.W.Frag) (Q : VK) (x : V) (H : Hp) : Prop := ∃ a xs, x = .ref a ∧ SqL K H a xs ∧ ∀ p, H p = none → Q (.ref p) (upd H p (.lst xs.reverse))
theorem r_rev (q : te σ H (RevQ K Q)) : tRevL K te σ H Q := q
theorem r_revE {a : Addr} {xs : List V} (o : Ok H D Ms) (h : SqL K H a xs) (q : ∀ p H', Ok H' D ([(p, .lst xs.reverse)] :: Ms) → Q (.ref p) H') : RevQ K Q (.ref a) H := ⟨a, xs, rfl, h, fun p n => q p _ (o.new n)⟩
theorem r_orT (q : ta σ H fun x H1 => ∃ k, TruV K x H1 k ∧ if k = true then Q x H1 else tb σ H1 Q) : tOrT K ta tb σ H Q := q
def LrgQ (Q : VK) (a b : Int) (H : Hp) : Prop := RgOk a b ∧ ∀ q, H q = none → Q (.ref q) (upd H q (.lst (rgV a b)))
theorem r_lrg {tr : L2.St → Hp → (Int → Int → Hp → Prop) → Prop} (q : tr σ H (LrgQ Q)) : tLstRg tr σ H Q := q
theorem r_rg1 {P : Int → Int → Hp → Prop} (q : ta σ H fun x H1 => ∃ n, x = .int n ∧ P 0 n H1) : tRg1 ta σ H P := q
theorem r_rg2 {P : Int → Int → Hp → Prop} (q : ta σ H fun x H1 => tb σ H1 fun y H2 => ∃ i j, x = .int i ∧ y = .int j ∧ P i j H2) : tRg2 ta tb σ H P := q
theorem r_lrgE {a b : Int} (o : Ok H D Ms) (h : RgOk a b) (q : ∀ p H', Ok H' D ([(p, .lst (rgV a b))] :: Ms) → Q (.ref p) H') : LrgQ Q a b H := ⟨h, fun p n => q p _ (o.new n)⟩
theorem r_oneI {P : Int → Prop} {n : Int} (q : P n) : ∃ m, V.int n = .int m ∧ P m := ⟨n, rfl, q⟩
theorem r_twoI {P : Int → Int → Prop} {m n : Int} (q : P m n) : ∃ i j, V.int m = .int i ∧ V.int n = .int j ∧ P i j := ⟨m, n, rfl, rfl, q⟩
def AugG (ti' te' : TE) (tip : TIp) (σ : L2.St) (E : Ends) (o i : V) (H : Hp) : Prop := rGetN o i H fun x H3 => te' σ H3 fun y H4 => tip x y H4 fun z H5 => rSetL o i z H5 fun H6 => E.nx σ H6
theorem r_augS {to ti : TE} {tip : TIp} (q : to σ H fun o H1 => ti σ H1 fun i H2 => AugG ti te tip σ E o i H2) : tAugS to ti te rGetN tip rSetL E σ H := q
theorem r_augE {ti : TE} {f : Int → Int → Int} {tip : TIp} {a : Addr} {xs : List V} {i c n : Int} {j : Nat} (o : Ok H D Ms) (k : Pk Ms [(a, .lst xs)] R) (hi : i = (j : Nat)) (hj : xs[j]? = some (.int n)) (he : te = tC (.int c)) (ht : ∀ x y H Q, Q (.int (f x y)) H → tip (.int x) (.int y) H Q)
    (q : ∀ H', Ok H' D ([(a, .lst (xs.set j (.int (f n c))))] :: R) → E.nx σ H') : AugG ti te tip σ E (.ref a) (.int i) H := by
  subst hi
  subst he
  have hlt : j < xs.length := (List.getElem?_eq_some_iff.mp hj).1
  refine ⟨a, xs, (j : Nat), .int n, rfl, rfl, o.at1 k.mem, by omega, by rw [Int.toNat_natCast]; exact hj, ht _ _ _ _ ?_⟩
  refine ⟨a, xs, (j : Nat), j, rfl, rfl, o.at1 k.mem, ?_, q _ (o.wrAt k)⟩
  unfold ixN
  rw [if_pos (by omega)]
  simp [hlt]
end
end G
/-! a dict of the module; own classes; slices of tuples -/
namespace G
open PySem PySem.Spec PyProof.Rows L2
section
variable {X : Cx} {K : PySem.W.Frag} {w : World} {H D : Hp} {Ms R : List (List Cell)} {Q : VK}
theorem k_ixKD (h : X.K = K := by rfl) (hw : X.w = w := by rfl) : IxR X (rIxD K w) := by
  subst h
  subst hw
  exact ix_kdict
theorem r_ixKD {a : Addr} {es : Array DictEntry} {n : Nat} {z : Str} {i : Int} {t : Tok} (d : KDict K w a es n) (e : PySem.W.nsIn K a z = some (some (.int i t))) (q : Q (.int i) H) : rIxD K w (.ref a) (.str z) H Q := ⟨a, z, .int i, rfl, rfl, ⟨es, n, _, d.at_, d.lit, e, ⟨t, rfl⟩⟩, q⟩
def rNinKD (K : PySem.W.Frag) (g : Addr) : R2 := fun x y H Q => ∃ (z : Str) (r : Option Value), x = .str z ∧ y = .ref g ∧ PySem.W.nsIn K g z = some r ∧ Q (.bl (!r.isSome)) H
theorem k_ninKD {g : Addr} {es : Array DictEntry} {n : Nat} (d : KDict K w g es n) (h : X.K = K := by rfl) (hw : X.w = w := by rfl) : OpR X (compareOp .NotIn) (rNinKD K g) := by
  subst h
  subst hw
  exact op_notIn_kd d
theorem r_ninKD {g : Addr} {z : Str} {r : Option Value} (e : PySem.W.nsIn K g z = some r) (q : Q (.bl (!r.isSome)) H) : rNinKD K g (.str z) (.ref g) H Q := ⟨z, r, rfl, rfl, e, q⟩
structure OC (K : PySem.W.Frag) (C : Addr) : Prop where
  ha : PySem.W.findIn K (.ref C) "__class__" = some (some (.builtin "object.__class__"))
  hn : PySem.W.specialIn K (.builtin "object.__class__") "__get__" = some (some (.builtin "getset_descriptor.__get__"))
  htk : PySem.W.takesIn K (.builtin "object.__class__") = some true
  hm : PySem.W.mroIn K C (.type "object") = some true
theorem isiO {x C dx X' : Addr} {fs : List (Str × V)} {b : Bool} (e : H x = some (.ins C dx fs)) (cl : Cls K C) (o : OC K C) (k : PySem.W.kitOne K (.ref C) (.ref X') = some b) (q : Q (.bl b) H) : rIsi K [.ref x, .ref X'] H Q :=
  ⟨.ref x, .ref X', .ref C, .ref X', b, rfl, .own X', .base (.ins e cl o.ha o.hn o.htk o.hm), k, q⟩
theorem r_slT {a : Addr} {xs : List V} {lo hi : Option Int} (o : Ok H D Ms) (h : SqT K H a xs) (hw : ¬ (HT.sIx xs.length 0 lo = 0 ∧ HT.sIx xs.length xs.length hi = xs.length)) (q : ∀ p H', Ok H' D ([(p, .tup (cutV xs lo hi))] :: Ms) → Q (.ref p) H') : rSlU K (.ref a) lo hi H Q := .inr ⟨a, xs, rfl, h, hw, fun p n => q p _ (o.new n)⟩
end
end G

/-! a new instance of an own class without __init__ -/
namespace G
open PySem PySem.Spec PyProof.Rows L2
structure MkN (K : PySem.W.Frag) (C : Addr) : Prop where
  makes : PySem.W.makesIn K C = true
  init : PySem.W.findIn K (.ref C) "__init__" = some (some (.builtin "object.__init__"))
  top : PySem.W.mroIn K C (.type "object") = some true
  kp : PySem.W.keepIn K (.ref C) = true
section
open PySem.W
variable {X : Cx} {C : Addr} {x : Str} {p pos : Pos}
def tMkN (C : Addr) : TE := fun _ H Q => ∀ x dx, H x = none → H dx = none → dx ≠ x → Q (.ref x) (L2.upd (L2.upd H dx (.own x)) x (.ins C dx []))
theorem run_mkN {pins : List (Addr × Obj)} {σ : L2.St} {H : Hp} {s : Shared} {Q : VK} (M : MkN X.K C) (I : L2.Inv X pins σ H s) (h : tMkN C σ H Q) : wpAny (model X.prog X.w) X.A (call (.ref C) []) (EP X pins σ Q) X.xe s := by
  have hq := h (s.heap.objs.size + 1) s.heap.objs.size (I.hok.fresh (Nat.le_succ _)) (I.hok.fresh (Nat.le_refl _)) (Nat.ne_of_lt (Nat.lt_succ_self _))
  have I2 := Inv.made (C := C) I
  have ho : ((s.heap.push emptyDict).push (instObj C s.heap.objs.size)).get? (s.heap.objs.size + 1) = some (instObj C s.heap.objs.size) := by
    have z := Heap.get?_push_size (s.heap.push emptyDict) (o := instObj C s.heap.objs.size) rfl
    rw [Heap.size_push] at z
    exact z
  refine wpAny_call (make_map0 I.kIn M.makes M.init (fun self => Looks.of_pure (oi_bind self)) ?_)
  have t1 : Looks (model X.prog X.w) ((s.heap.push emptyDict).push (instObj C s.heap.objs.size)) (typeOf (.ref (s.heap.objs.size + 1))) (.ref C) := (Looks.ld ho).andThen .now
  have t2 : Looks (model X.prog X.w) ((s.heap.push emptyDict).push (instObj C s.heap.objs.size)) (isInstance (.ref (s.heap.objs.size + 1)) (.type "object")) true := t1.andThen (looks_mroIn I2.kIn M.top)
  refine codeAny_call_builtin oi_plain entry_oi (check_slot oi_kind oi_split t2 (oi_args _) ?_)
  rw [oi_run]
  refine wpAny_pure (And.intro rfl ?_)
  exact ⟨.ref (s.heap.objs.size + 1), _, I2, rfl, hq⟩
theorem pe_mkN (M : MkN X.K C) (hg : Gl X x) (hm : X.mg x = some (.ref C)) (hdb : (x == ("__debug__" : Str)) = false := by decide) : PE X (.Call (.Name x p) [] [] pos) (tMkN C) := by
  refine ⟨fun pins s σ H Q I h => ?_⟩
  refine wpAny_Call_Name_kw (ld_glob I hg hm ?_ hdb)
  exact callWith_K0 I.kIn M.kp (run_mkN M I h)
end
section
variable {H D : Hp} {Ms : List (List Cell)} {σ : L2.St} {Q : VK} {C : Addr}
theorem r_mkN (o : Ok H D Ms) (q : ∀ x dx H', Ok H' D ([(x, .ins C dx [])] :: Ms) → Q (.ref x) H') : tMkN C σ H Q := fun x dx nx ndx ne =>
  q x dx _ ((o.skip (o := .own x) ndx).new (by rw [upd_ne ne.symm]; exact nx))
end
end G

/-! two lists seen by a person: the plain law -/
namespace G
open PySem PySem.Spec PyProof.Rows L2
/-! rows are compared by value -/
theorem eqv_al : ∀ (l m : AL), PyData.eqvAll (l.map fun p => .tuple [.int p.1, .int p.2]) (m.map fun p => .tuple [.int p.1, .int p.2]) = decide (l = m)
  | [], [] => by simp [PyData.eqvAll]
  | [], _ :: _ => by simp [PyData.eqvAll]
  | _ :: _, [] => by simp [PyData.eqvAll]
  | p :: l, q :: m => by
    rw [List.map_cons, List.map_cons, PyData.eqvAll, eqv_al l m]
    simp only [PyData.eqv, PyData.eqvAll, Bool.and_true]
    obtain ⟨p1, p2⟩ := p
    obtain ⟨q1, q2⟩ := q
    by_cases h1 : p1 = q1 <;> by_cases h2 : p2 = q2 <;> by_cases h3 : l = m <;> simp [h1, h2, h3]
theorem eqv_done (d e : Option (Bool × AL × AL)) : PyData.eqv (doneD d) (doneD e) = decide (d = e) := by
  cases d with
  | none => cases e <;> simp [doneD, PyData.eqv]
  | some x =>
    cases e with
    | none => simp [doneD, PyData.eqv]
    | some y =>
      obtain ⟨b1, t1, q1⟩ := x
      obtain ⟨b2, t2, q2⟩ := y
      show PyData.eqvAll [.bool b1, alD t1, alD q1] [.bool b2, alD t2, alD q2] = _
      have e1 : PyData.eqv (alD t1) (alD t2) = decide (t1 = t2) := eqv_al t1 t2
      have e2 : PyData.eqv (alD q1) (alD q2) = decide (q1 = q2) := eqv_al q1 q2
      simp only [PyData.eqvAll, e1, e2, PyData.eqv, Bool.and_true]
      by_cases h1 : b1 = b2 <;> by_cases h2 : t1 = t2 <;> by_cases h3 : q1 = q2 <;> simp [h1, h2, h3]
theorem eqv_row (r s : Row) : PyData.eqv (rowD r) (rowD s) = decide (r = s) := by
  show PyData.eqvAll [.int (r.num : Nat), .int r.ow, .str r.word, .int r.price, .int r.many, doneD r.done] [.int (s.num : Nat), .int s.ow, .str s.word, .int s.price, .int s.many, doneD s.done] = _
  simp only [PyData.eqvAll, eqv_done, PyData.eqv, Bool.and_true]
  obtain ⟨n1, o1, w1, p1, m1, d1⟩ := r
  obtain ⟨n2, o2, w2, p2, m2, d2⟩ := s
  show (((n1 : Int) == (n2 : Int)) && ((o1 == o2) && ((w1 == w2) && ((p1 == p2) && ((m1 == m2) && decide (d1 = d2)))))) = _
  rw [Bool.eq_iff_iff]
  simp only [Bool.and_eq_true, beq_iff_eq, decide_eq_true_eq, Row.mk.injEq, Int.ofNat_inj]
theorem eqv_rows : ∀ (rs ss : List Row), PyData.eqv (rowsD rs) (rowsD ss) = decide (rs = ss) := by
  intro rs ss
  show PyData.eqvAll (rs.map rowD) (ss.map rowD) = _
  induction rs generalizing ss with
  | nil => cases ss <;> simp [PyData.eqvAll]
  | cons r t ih =>
    cases ss with
    | nil => simp [PyData.eqvAll]
    | cons s u =>
      rw [List.map_cons, List.map_cons, PyData.eqvAll, ih, eqv_row]
      by_cases h1 : r = s <;> by_cases h2 : t = u <;> simp [h1, h2]
theorem any_row (r : Row) (ss : List Row) : ((ss.map rowD).any fun z => PyData.eqv z (rowD r)) = decide (r ∈ ss) := by
  rw [List.any_map]
  rw [Bool.eq_iff_iff, List.any_eq_true, decide_eq_true_eq]
  constructor
  · rintro ⟨s, hs, e⟩
    have e : PyData.eqv (rowD s) (rowD r) = true := e
    rw [eqv_row] at e
    rw [← of_decide_eq_true e]
    exact hs
  · intro h
    refine ⟨r, h, ?_⟩
    show PyData.eqv (rowD r) (rowD r) = true
    rw [eqv_row]
    simp
theorem shaped_row {r : Row} (h : PyData.strOk r.word = true) : SeqAt.shaped (rowD r) = true := by
  unfold SeqAt.shaped
  rw [lay_row h, decide_eq_true (Nat.le_trans (depth_row r) (by decide))]
  rfl
/-! the numbers of rows that are unlike -/
def lone (A B : List Row) : List Row := A.filter fun r => !decide (r ∈ B)
def nums (A B : List Row) : List Int := (lone A B ++ lone B A).map fun r => (r.num : Int)
def minOr : List Int → Int
  | [] => -1
  | x :: r => r.foldl min x
theorem foldl_min : ∀ (r : List Int) (x : Int), (r.foldl min x = x ∨ r.foldl min x ∈ r) ∧ r.foldl min x ≤ x ∧ ∀ y ∈ r, r.foldl min x ≤ y
  | [], x => ⟨.inl rfl, Int.le_refl _, fun y h => nomatch h⟩
  | a :: r, x => by
    obtain ⟨h1, h2, h3⟩ := foldl_min r (min x a)
    rw [List.foldl_cons]
    have m1 : min x a ≤ x := by omega
    have m2 : min x a ≤ a := by omega
    refine ⟨?_, by omega, fun y hy => ?_⟩
    · rcases h1 with h1 | h1
      · rw [h1]
        by_cases e : x ≤ a
        · left; omega
        · right
          rw [show min x a = a by omega]
          exact .head _
      · exact .inr (.tail _ h1)
    · rcases List.mem_cons.mp hy with rfl | hy
      · omega
      · exact h3 y hy
theorem minOr_eq {l : List Int} {m : Int} (h : m ∈ l) (hm : ∀ y ∈ l, m ≤ y) : minOr l = m := by
  cases l with
  | nil => cases h
  | cons x r =>
    obtain ⟨h1, h2, h3⟩ := foldl_min r x
    show r.foldl min x = m
    have g1 : r.foldl min x ≤ m := by
      rcases List.mem_cons.mp h with e | e
      · rw [e]; exact h2
      · exact h3 m e
    have g2 : m ≤ r.foldl min x := by
      rcases h1 with e | e
      · rw [e]; exact hm x (.head _)
      · exact hm _ (.tail _ e)
    omega
theorem minOr_mem {l : List Int} (h : l ≠ []) : minOr l ∈ l ∧ ∀ y ∈ l, minOr l ≤ y := by
  cases l with
  | nil => exact absurd rfl h
  | cons x r =>
    obtain ⟨h1, h2, h3⟩ := foldl_min r x
    refine ⟨?_, fun y hy => ?_⟩
    · rcases h1 with e | e
      · show r.foldl min x ∈ _
        rw [e]; exact .head _
      · exact .tail _ e
    · rcases List.mem_cons.mp hy with e | e
      · rw [e]; exact h2
      · exact h3 y e
def firstU (A B : List Row) : Int := minOr (nums A B)
theorem mem_nums {A B : List Row} {n : Int} : n ∈ nums A B ↔ (∃ r ∈ A, r ∉ B ∧ (r.num : Int) = n) ∨ ∃ r ∈ B, r ∉ A ∧ (r.num : Int) = n := by
  unfold nums lone
  simp only [List.map_append, List.mem_append, List.mem_map, List.mem_filter]
  constructor
  · rintro (⟨r, ⟨h1, h2⟩, h3⟩ | ⟨r, ⟨h1, h2⟩, h3⟩)
    · exact .inl ⟨r, h1, by simpa using h2, h3⟩
    · exact .inr ⟨r, h1, by simpa using h2, h3⟩
  · rintro (⟨r, h1, h2, h3⟩ | ⟨r, h1, h2, h3⟩)
    · exact .inl ⟨r, ⟨h1, by simpa using h2⟩, h3⟩
    · exact .inr ⟨r, ⟨h1, by simpa using h2⟩, h3⟩
theorem firstU_cases (A B : List Row) : firstU A B = -1 ∨ 0 ≤ firstU A B := by
  by_cases h : nums A B = []
  · left; unfold firstU; rw [h]; rfl
  · right
    have h1 := (minOr_mem h).1
    rcases mem_nums.mp h1 with ⟨r, _, _, e⟩ | ⟨r, _, _, e⟩
    · show 0 ≤ minOr (nums A B); omega
    · show 0 ≤ minOr (nums A B); omega
/-- rows by number, at most one each -/
def OneEach (A : List Row) : Prop := A.Pairwise fun r s => r.num < s.num
theorem one_num {A : List Row} (h : OneEach A) {n : Nat} : (A.filter fun r => decide ((r.num : Int) = (n : Int))).length ≤ 1 := by
  induction A with
  | nil => exact Nat.zero_le _
  | cons a r ih =>
    obtain ⟨h1, h2⟩ := List.pairwise_cons.mp h
    rw [List.filter_cons]
    split
    · rename_i e
      have e : (a.num : Int) = n := by simpa using e
      have : (r.filter fun r => decide ((r.num : Int) = (n : Int))) = [] := by
        refine List.filter_eq_nil_iff.mpr fun x hx => ?_
        have := h1 x hx
        simp only [decide_eq_true_eq]
        omega
      rw [this]
      exact Nat.le_refl 1
    · exact ih h2
theorem filt_eq {A B : List Row} (hA : OneEach A) (hB : OneEach B) {n : Nat} : ((A.filter fun r => decide ((r.num : Int) = (n : Int))) = B.filter fun r => decide ((r.num : Int) = (n : Int))) ↔ (n : Int) ∉ nums A B := by
  constructor
  · intro h hn
    rcases mem_nums.mp hn with ⟨r, h1, h2, h3⟩ | ⟨r, h1, h2, h3⟩
    · have : r ∈ A.filter fun r => decide ((r.num : Int) = (n : Int)) := List.mem_filter.mpr ⟨h1, decide_eq_true h3⟩
      rw [h] at this
      exact h2 (List.mem_filter.mp this).1
    · have : r ∈ B.filter fun r => decide ((r.num : Int) = (n : Int)) := List.mem_filter.mpr ⟨h1, decide_eq_true h3⟩
      rw [← h] at this
      exact h2 (List.mem_filter.mp this).1
  · intro hn
    have l1 := one_num hA (n := n)
    have l2 := one_num hB (n := n)
    have m1 : ∀ r ∈ A.filter fun r => decide ((r.num : Int) = (n : Int)), r ∈ B.filter fun r => decide ((r.num : Int) = (n : Int)) := fun r hr => by
      obtain ⟨h1, h2⟩ := List.mem_filter.mp hr
      refine List.mem_filter.mpr ⟨?_, h2⟩
      by_cases hb : r ∈ B
      · exact hb
      · exact absurd (mem_nums.mpr (.inl ⟨r, h1, hb, of_decide_eq_true h2⟩)) hn
    have m2 : ∀ r ∈ B.filter fun r => decide ((r.num : Int) = (n : Int)), r ∈ A.filter fun r => decide ((r.num : Int) = (n : Int)) := fun r hr => by
      obtain ⟨h1, h2⟩ := List.mem_filter.mp hr
      refine List.mem_filter.mpr ⟨?_, h2⟩
      by_cases hb : r ∈ A
      · exact hb
      · exact absurd (mem_nums.mpr (.inr ⟨r, h1, hb, of_decide_eq_true h2⟩)) hn
    generalize (A.filter fun r => decide ((r.num : Int) = (n : Int))) = X at l1 m1 m2
    generalize (B.filter fun r => decide ((r.num : Int) = (n : Int))) = Y at l2 m1 m2
    match X, Y, l1, l2, m1, m2 with
    | [], [], _, _, _, _ => rfl
    | [], y :: _, _, _, _, m2 => exact absurd (m2 y (.head _)) (by simp)
    | x :: _, [], _, _, m1, _ => exact absurd (m1 x (.head _)) (by simp)
    | [x], [y], _, _, m1, _ => rw [List.mem_singleton.mp (m1 x (.head _))]
    | _ :: _ :: _, _, l1, _, _, _ => exact absurd l1 (by simp)
    | _, _ :: _ :: _, _, l2, _, _ => exact absurd l2 (by simp)
theorem rowOf_num {p : Int} {i : Nat} {w : W} {r : Row} (h : rowOf p i w = some r) : r.num = i := by
  unfold rowOf at h
  cases e : (w.st || ((!w.tk.isEmpty || !w.pl.isEmpty) && !decide (w.ow = p))) with
  | true => rw [e] at h; cases h; rfl
  | false => rw [e] at h; cases h
theorem seen_num {p : Int} : ∀ {i : Nat} {ws : List W}, ∀ r ∈ seenFrom p i ws, i ≤ r.num ∧ r.num < i + ws.length
  | _, [], r, h => nomatch h
  | i, w :: ws, r, h => by
    rcases List.mem_append.mp (show r ∈ (rowOf p i w).toList ++ seenFrom p (i + 1) ws from h) with h | h
    · cases e : rowOf p i w with
      | none => rw [e] at h; cases h
      | some r' =>
        rw [e] at h
        obtain rfl := List.mem_singleton.mp h
        rw [rowOf_num e, List.length_cons]
        omega
    · have := seen_num (p := p) r h
      rw [List.length_cons]
      omega
theorem seen_one {p : Int} : ∀ {i : Nat} {ws : List W}, OneEach (seenFrom p i ws)
  | _, [] => List.Pairwise.nil
  | i, w :: ws => by
    show List.Pairwise _ ((rowOf p i w).toList ++ seenFrom p (i + 1) ws)
    refine List.pairwise_append.mpr ⟨?_, seen_one, fun a ha b hb => ?_⟩
    · cases rowOf p i w <;> simp
    · cases e : rowOf p i w with
      | none => rw [e] at ha; cases ha
      | some r' =>
        rw [e] at ha
        obtain rfl := List.mem_singleton.mp ha
        have h1 := rowOf_num e
        have h2 := seen_num b hb
        omega
end G

/-! enumerate over a tuple, made of what Draws.tuple, WalksT.enumerateD and begins_tuple give. -/
namespace G
open PySem PySem.Spec PyProof.Rows L2

def IteT (K : PySem.W.Frag) (t : Addr) : It where
  go i H := ∃ (zs : List V) (z : V), SqT K H t zs ∧ zs[i]? = some z
  yld i H v H' := ∃ q z, v = .ref q ∧ H q = none ∧ H' = upd H q (.tup [.int (i : Nat), z]) ∧ ∀ zs, SqT K H t zs → zs[i]? = some z
  stop i H := ∃ zs : List V, SqT K H t zs ∧ zs.length = i

/-- the two cells of such an iterator at turn i: n counts, r draws of t -/
def EnT (n r t : Addr) (i : Nat) (h : Heap) : Prop := (∃ u, IsEnum h n r (i : Int) u) ∧ h.IsTupleIter r t i

theorem tup_ne {h : Heap} {a b : Addr} {vs : Array Value} {o : Obj} {c : String} (ha : h.IsTuple a vs) (hb : h.get? b = some o) (hc : o.cls = .type c) (ne : c ≠ "tuple") : a ≠ b := by
  rintro rfl
  obtain ⟨p, g, k, _⟩ := ha
  cases g.symm.trans hb
  exact ne (Value.type.inj (hc.symm.trans k))

theorem EnT.apart {n r t : Addr} {i : Nat} {h : Heap} {vs : Array Value} (st : EnT n r t i h) (ht : h.IsTuple t vs) : t ≠ n ∧ t ≠ r := by
  obtain ⟨⟨u, he⟩, o, ho, hc, _⟩ := st
  exact ⟨tup_ne ht he rfl (by decide), tup_ne ht ho hc (by decide)⟩

section
variable {P : Program} {w : World} {A : Around}
theorem walk_pairs (hA : A.handled = none) {n r t : Addr} (vs : Array Value) (h1 : n ≠ r) (h2 : t ≠ r) (h3 : t ≠ n) :
    WalksT P w A n [n, r, t] [n, r] vs.size (fun i pr => ∃ k x, vs[i]? = some x ∧ pr = #[.int i k, x])
      (fun i h => (∃ u, IsEnum h n r i u) ∧ (h.IsTupleIter r t i ∧ h.IsTuple t vs))
      (fun i q h => (∃ x, IsEnumOut h n r ((i : Int) + 1) x q) ∧ (h.IsTupleIter r t (i + 1) ∧ h.IsTuple t vs) ∧ q ≠ n ∧ q ≠ r) :=
  WalksT.enumerateD (Draws.tuple (A := A.in1) hA r t h2 vs) n h1 (by simp [h1, h3.symm]) (by simp)
end

theorem turn_pairs {P : Program} {w : World} {K : PySem.W.Frag} {elts : List Expr} {kk : Nat} {tpos : Pos} (t n r : Addr) (hnr : n ≠ r) :
    Turn P w K (.Tuple elts kk tpos) (IteT K t) [n, r] n (EnT n r t) where
  mem := .head _
  self A i s Q E st q := by
    obtain ⟨⟨u, he⟩, _⟩ := st
    exact wpAny_pyIter_enum he q
  keep i h h' st k := by
    obtain ⟨⟨u, he⟩, hr⟩ := st
    exact ⟨⟨u, k n (.head _) _ he⟩, hr.at fun o g => k r (.tail _ (.head _)) o g⟩
  obj i h st b hb := by
    obtain ⟨⟨u, he⟩, o, ho, _, hd⟩ := st
    rcases List.mem_cons.mp hb with rfl | hb
    · exact ⟨_, he, nofun⟩
    · obtain rfl := List.mem_singleton.mp hb
      exact ⟨o, ho, fun v => by rw [hd]; nofun⟩
  item := by
    rintro X rfl rfl rfl hc i pins s σ H E I own st ⟨zs, z, hz, gz⟩
    obtain ⟨vs, rv, tp, _⟩ := I.tuple hz
    have tp : s.heap.IsTuple t vs.toArray := tp
    obtain ⟨a1, a2⟩ := st.apart tp
    obtain ⟨y, gy, ry⟩ := rv.get gz
    have WP := walk_pairs (P := X.prog) (w := X.w) (I.ok.hd hc) vs.toArray hnr a2 a1
    have lt : i < vs.toArray.size := by
      obtain ⟨lt, _⟩ := List.getElem?_eq_some_iff.mp gy
      simpa using lt
    refine WP.item i s _ _ lt ⟨st.1, st.2, tp⟩ fun q pr h1 tk ⟨k, x, hx, e⟩ new it1 mid same => ?_
    subst e
    have hx : vs[i]? = some x := by simpa using hx
    obtain rfl := Option.some.inj (gy.symm.trans hx)
    refine ⟨_, rfl, WP.go elts kk tpos i q _ _ _ mid fun h2 ⟨⟨u2, b1⟩, b2, _⟩ same2 => ?_⟩
    have qf : q ∉ [n, r] := by
      obtain ⟨_, _, c1, c2⟩ := mid
      simp [c1, c2]
    obtain ⟨oq, g1, g2, ep, g3⟩ := it1
    have ok : ObjOk X.prog X.w (upd H q (.tup [.int (i : Nat), z])) h2 q (.tup [.int (i : Nat), z]) :=
      ⟨show 2 ≤ sizeLine by decide, [.int i k, y], .cons ⟨k, rfl⟩ (.cons ry .nil), oq, same2 q oq qf g1, g2, ep, g3⟩
    refine ⟨.ref q, upd H q (.tup [.int (i : Nat), z]), I.turnedNew (ch := [n, r]) (fun c o off g => same2 c o off (same c o off g)) own new ok, rfl, ⟨q, z, rfl, I.hok.fresh new, rfl, fun ws hw => ?_⟩, ⟨⟨u2, b1⟩, b2⟩, fun c hm => ?_⟩
    · cases I.tuple_inj hw hz
      exact gz
    · rw [upd_ne fun (e : c = q) => qf (by rw [← e]; exact hm)]
      exact (own c hm).1
  done := by
    rintro X rfl rfl rfl hc i pins s σ H E I own st ⟨zs, hz, rfl⟩
    obtain ⟨vs, rv, tp, _⟩ := I.tuple hz
    have tp : s.heap.IsTuple t vs.toArray := tp
    obtain ⟨a1, a2⟩ := st.apart tp
    have WP := walk_pairs (P := X.prog) (w := X.w) (I.ok.hd hc) vs.toArray hnr a2 a1
    have sz : zs.length = vs.toArray.size := by simpa using rv.length
    rw [sz] at st
    exact WP.done s _ _ ⟨st.1, st.2, tp⟩ fun h1 tk same => ⟨rfl, I.turnedL same own⟩

/-! ### enumerate(t) -/
def cellR (t : Addr) : Obj := { cls := .type "tuple_iterator", data := .fields #[.ref t, .int 0 0] }
def cellN (r : Addr) : Obj := { cls := .type "enumerate", data := .fields #[.none, .bool false, .ref r, rawInt 0, .none, .none] }

set_option maxHeartbeats 1000000 in
theorem new_pairs (t : Addr) (vs : Array Value) : Meets (Builtin.«enumerate.__new__» ⟨[.type "enumerate", .ref t], []⟩)
    (fun _ R s => s.heap.IsTuple t vs ∧ R (.ok (.ret (.ref (s.heap.push (cellR t)).objs.size))) { s with heap := (s.heap.push (cellR t)).push (cellN s.heap.objs.size) }) := by
  refine .of_wp fun prog w A R s h => ?_
  obtain ⟨h0, g, d, tk, os⟩ := s
  obtain ⟨ht, h⟩ := h
  obtain ⟨⟨oc, od, oda, osl⟩, ho, rfl, m, rfl⟩ := id ht
  have isub := sub_enumerate
  have ends : ∀ (p : Fin) (t' : Shared), p = .done (.ret (.ref (h0.push (cellR t)).objs.size)) → t' = ⟨(h0.push (cellR t)).push (cellN h0.objs.size), g, d, tk, os⟩ → ∃ v, p = .done (.ret v) ∧ R (.ok (.ret v)) t' := by
    rintro p t' rfl rfl
    exact ⟨_, rfl, h⟩
  wp_walk using wpAny_loadPart' ho
  refine wpAny_stack_any fun frames => wpAny_pure ?_
  split
  · rename_i c _ _ _ _ _
    generalize (c == Value.type "enumerate") = short
    rcases short with _ | _ <;> (wp_walk using wpAny_loadPart' ho, wpAny_pyIter_tuple ht; exact ends _ _ rfl rfl)
  · wp_walk using wpAny_loadPart' ho, wpAny_pyIter_tuple ht
    exact ends _ _ rfl rfl

/-- a call of the class: two cells are laid, the tuple's iterator and the counter -/
theorem call_pairs {P : Program} {w : World} {A : Around} {E : Value → Shared → Prop} {s : Shared} {t : Addr} {vs : Array Value} {Q : Value → Shared → Prop} (ht : s.heap.IsTuple t vs)
    (fin : ∀ h1, EnT (s.heap.objs.size + 1) s.heap.objs.size t 0 h1 → (∀ b o, s.heap.get? b = some o → h1.get? b = some o) → Q (.ref (s.heap.objs.size + 1)) { s with heap := h1 }) :
    wpAny (model P w) A (call (.type "enumerate") [.ref t]) Q E s := by
  have old : ∀ b o, s.heap.get? b = some o → ((s.heap.push (cellR t)).push (cellN s.heap.objs.size)).get? b = some o := fun b o g => Heap.get?_push_of_some _ (Heap.get?_push_of_some _ g)
  have one : (s.heap.push (cellR t)).objs.size = s.heap.objs.size + 1 := Heap.size_push ..
  have top : ((s.heap.push (cellR t)).push (cellN s.heap.objs.size)).get? (s.heap.objs.size + 1) = some (cellN s.heap.objs.size) := by
    rw [← one]
    exact Heap.get?_push_size _ rfl
  have mid : ((s.heap.push (cellR t)).push (cellN s.heap.objs.size)).get? s.heap.objs.size = some (cellR t) := Heap.get?_push_of_some _ (Heap.get?_push_size _ rfl)
  refine callType_new (S := fun _ R s' => s'.heap.IsTuple t vs ∧ R (.ok (.ret (.ref (s'.heap.push (cellR t)).objs.size))) { s' with heap := (s'.heap.push (cellR t)).push (cellN s'.heap.objs.size) })
    F.called_enumerate (by decide) (F.typeCall_enumerate_1 _) (F.newCall_enumerate_1 _) (F.args_object_init_2 · _) F.entry_enumerate_new (new_pairs t vs) ⟨ht, ?_⟩
  show _ ∧ _
  rw [one]
  exact ⟨⟨_, top, rfl⟩, fin _ ⟨⟨.none, top⟩, _, mid, rfl, rfl⟩ old⟩

def iEnumT (K : PySem.W.Frag) (ta : TA) : TI := fun σ H R => ta σ H fun vs H1 => ∃ a xs, vs = [.ref a] ∧ SqT K H1 a xs ∧ R (IteT K a) H1

section
variable {X : Cx} {K : PySem.W.Frag} {H : Hp}
theorem k_enumT {e : Expr} {ta : TA} {p pos tpos : Pos} {elts : List Expr} {kk : Nat} (glob : Gl X "enumerate") (free : X.mg "enumerate" = none) (ha : PA X [e] ta)
    (hs : starEach [e] X.env = [(false, eval e X.env)] := by rfl) (h : X.K = K := by rfl) :
    PI X (.Tuple elts kk tpos) (.Call (.Name "enumerate" p) [e] [] pos) (iEnumT K ta) := by
  subst h
  constructor
  intro pins s σ H R I hw
  refine Call_ (ld_blt I glob free boot_enumerate (callWith_type1 (thn (ha.run pos pins s σ H _ I hw) ?_) hs rfl))
  rintro us s1 ⟨_, H1, I1, rel, t, xs, rfl, ht, done⟩
  rcases rel with _ | ⟨rfl, ⟨⟩⟩
  obtain ⟨vs, _, tp, _⟩ := I1.tuple ht
  refine call_pairs (vs := vs.toArray) tp fun h1 st old => wpAny_pyIter_enum st.1.choose_spec ?_
  have two : ∀ b ∈ [s1.heap.objs.size + 1, s1.heap.objs.size], s1.heap.objs.size ≤ b := by
    simp
  exact ⟨_, _, _, _, H1, rfl, I1.kept (t' := s1.toks) old, turn_pairs t _ _ (Nat.succ_ne_self _), st, fun b hb => I1.fpOk (two b hb) (I1.hok.fresh (two b hb)), done⟩

variable {σ : L2.St}
theorem i_enumT {ta : TA} {P : It → Hp → Prop} (q : ta σ H fun vs H1 => ∃ a xs, vs = [V.ref a] ∧ SqT K H1 a xs ∧ P (IteT K a) H1) : iEnumT K ta σ H P := q
theorem r_ienumT {P : Addr → Prop} {a : Addr} {xs : List V} (h : SqT K H a xs) (q : P a) : ∃ b ys, [V.ref a] = [V.ref b] ∧ SqT K H b ys ∧ P b := ⟨a, xs, rfl, h, q⟩
end

theorem walk_enumT {K : PySem.W.Frag} {a : Addr} {xs : List V} : Walk (IteT K a) xs.length (fun H => SqT K H a xs) (YPair (fun i => some (.int (i : Nat))) (fun i => xs[i]?)) where
  goes i H lt h := ⟨xs, xs[i], h, List.getElem?_eq_getElem lt⟩
  stops H h := ⟨xs, h, rfl⟩
  yields i H x H' _ h y := by
    obtain ⟨q, z, e, n, e', g⟩ := y
    exact ⟨q, _, z, e, n, e', rfl, g xs h⟩
end G

local macro_rules | `(tactic| walk_at "mem") => `(tactic| first | exact .head _ | exact .tail _ (.head _) | exact .tail _ (.tail _ (.head _)) | exact .tail _ (.tail _ (.tail _ (.head _))) | exact .tail _ (.tail _ (.tail _ (.tail _ (.head _)))) | exact .tail _ (.tail _ (.tail _ (.tail _ (.tail _ (.head _))))) | exact .tail _ (.tail _ (.tail _ (.tail _ (.tail _ (.tail _ (.head _)))))) | exact .tail _ (.tail _ (.tail _ (.tail _ (.tail _ (.tail _ (.tail _ (.head _))))))) | exact .tail _ (.tail _ (.tail _ (.tail _ (.tail _ (.tail _ (.tail _ (.tail _ (.head _)))))))) | exact .tail _ (.tail _ (.tail _ (.tail _ (.tail _ (.tail _ (.tail _ (.tail _ (.tail _ (.head _))))))))) | exact .tail _ (.tail _ (.tail _ (.tail _ (.tail _ (.tail _ (.tail _ (.tail _ (.tail _ (.tail _ (.head _)))))))))) | exact .tail _ (.tail _ (.tail _ (.tail _ (.tail _ (.tail _ (.tail _ (.tail _ (.tail _ (.tail _ (.tail _ (.head _))))))))))) | exact .tail _ (.tail _ (.tail _ (.tail _ (.tail _ (.tail _ (.tail _ (.tail _ (.tail _ (.tail _ (.tail _ (.tail _ (.head _)))))))))))) | exact .tail _ (.tail _ (.tail _ (.tail _ (.tail _ (.tail _ (.tail _ (.tail _ (.tail _ (.tail _ (.tail _ (.tail _ (.tail _ (.head _))))))))))))))
local macro_rules | `(tactic| walk_at "pk") => `(tactic| first | exact G.Pk.here | exact G.Pk.there G.Pk.here | exact G.Pk.there (G.Pk.there G.Pk.here) | exact G.Pk.there (G.Pk.there (G.Pk.there G.Pk.here)) | exact G.Pk.there (G.Pk.there (G.Pk.there (G.Pk.there G.Pk.here))) | exact G.Pk.there (G.Pk.there (G.Pk.there (G.Pk.there (G.Pk.there G.Pk.here)))) | exact G.Pk.there (G.Pk.there (G.Pk.there (G.Pk.there (G.Pk.there (G.Pk.there G.Pk.here))))) | exact G.Pk.there (G.Pk.there (G.Pk.there (G.Pk.there (G.Pk.there (G.Pk.there (G.Pk.there G.Pk.here)))))) | exact G.Pk.there (G.Pk.there (G.Pk.there (G.Pk.there (G.Pk.there (G.Pk.there (G.Pk.there (G.Pk.there G.Pk.here))))))) | exact G.Pk.there (G.Pk.there (G.Pk.there (G.Pk.there (G.Pk.there (G.Pk.there (G.Pk.there (G.Pk.there (G.Pk.there G.Pk.here)))))))) | exact G.Pk.there (G.Pk.there (G.Pk.there (G.Pk.there (G.Pk.there (G.Pk.there (G.Pk.there (G.Pk.there (G.Pk.there (G.Pk.there G.Pk.here))))))))) | exact G.Pk.there (G.Pk.there (G.Pk.there (G.Pk.there (G.Pk.there (G.Pk.there (G.Pk.there (G.Pk.there (G.Pk.there (G.Pk.there (G.Pk.there G.Pk.here)))))))))) | exact G.Pk.there (G.Pk.there (G.Pk.there (G.Pk.there (G.Pk.there (G.Pk.there (G.Pk.there (G.Pk.there (G.Pk.there (G.Pk.there (G.Pk.there (G.Pk.there G.Pk.here))))))))))) | exact G.Pk.there (G.Pk.there (G.Pk.there (G.Pk.there (G.Pk.there (G.Pk.there (G.Pk.there (G.Pk.there (G.Pk.there (G.Pk.there (G.Pk.there (G.Pk.there (G.Pk.there G.Pk.here)))))))))))))
local macro_rules | `(tactic| walk_at "at") => `(tactic| first | assumption | ((refine' G.Ok.at1 (by assumption) ?h3); (case h3 => walk_at "mem")) | ((refine' G.Ok.dat (by assumption) ?h3); (case h3 => assumption)))
local macro_rules | `(tactic| walk_at "sqL") => `(tactic| first | assumption | ((refine' G.Ok.sqL (by assumption) ?h4); (case h4 => assumption)) | ((refine' L2.SqL.of ?h4); (case h4 => walk_at "at")))
local macro_rules | `(tactic| walk_at "sqT") => `(tactic| first | assumption | ((refine' G.Ok.sqT (by assumption) ?h4); (case h4 => assumption)) | ((refine' L2.SqT.of ?h4); (case h4 => walk_at "at")))
local macro_rules | `(tactic| walk_at "sz") => `(tactic| first | assumption | exact G.sz_of rfl | decide | (show _ ≤ PySem.sizeLine; decide) | (rw [PySem.sizeLine_eq]; simp; try omega))
local macro_rules | `(tactic| walk_at "g1") => `(tactic| first
  | with_reducible refine G.r_seq ?_
  | with_reducible refine G.r_var rfl ?_
  | with_reducible refine G.r_c ?_
  | with_reducible refine G.r_cons ?_
  | with_reducible refine G.r_nil ?_
  | with_reducible refine G.r_op ?_
  | with_reducible refine G.r_asg ?_
  | with_reducible refine G.r_name ?_
  | with_reducible refine G.r_ret ?_
  | with_reducible refine G.r_ifS ?_
  | with_reducible refine G.r_test ?_
  | with_reducible refine G.r_bl ?_
  | with_reducible refine G.r_next ?_
  | with_reducible refine G.r_retN ?_
  | with_reducible refine G.r_drop ?_
  | with_reducible refine G.r_cb ?_
  | with_reducible refine G.r_fld ?_
  | with_reducible refine G.r_sfld ?_
  | with_reducible refine G.r_un ?_
  | with_reducible refine G.r_tup ?_
  | with_reducible refine G.r_lst ?_
  | with_reducible refine G.r_B ?_
  | with_reducible refine G.r_and ?_
  | with_reducible refine G.r_or ?_
  | with_reducible refine G.r_not ?_
  | with_reducible refine G.r_andV ?_
  | with_reducible refine G.r_orV ?_
  | with_reducible refine G.r_notV ?_
  | with_reducible refine G.r_if ?_
  | with_reducible refine G.r_iteT ?_
  | with_reducible refine G.r_iteF ?_
  | with_reducible refine G.r_chain ?_
  | with_reducible refine G.r_I0 ?_
  | with_reducible refine G.r_addI ?_
  | with_reducible refine G.r_callS ?_
  | with_reducible refine G.r_call ?_
  | with_reducible refine G.r_me ?_
  | with_reducible refine G.r_mk ?_
  | with_reducible refine G.r_lc ?_
  | with_reducible refine G.r_for ?_
  | with_reducible refine G.r_bm ?_
  | with_reducible refine G.r_bm0 ?_
  | with_reducible refine G.r_sl ?_
  | with_reducible refine G.r_noPart ?_
  | with_reducible refine G.r_part ?_
  | with_reducible refine G.r_int ?_
  | with_reducible refine G.r_get2 ?_
  | with_reducible refine G.r_popT ?_
  | with_reducible refine G.r_sub ?_
  | with_reducible refine G.r_gcons ?_
  | with_reducible refine G.r_gnil ?_
  | with_reducible refine G.r_parV ?_
  | with_reducible refine G.r_tpar ?_
  | with_reducible refine G.r_istr ?_
  | with_reducible refine G.i_str ?_
  | with_reducible refine G.i_seq ?_
  | with_reducible refine G.i_keys ?_
  | with_reducible refine G.i_enum ?_
  | with_reducible refine G.i_rng1 ?_
  | with_reducible refine G.i_rng2 ?_
  | with_reducible refine G.i_tup ?_
  | with_reducible refine G.r_yes ?_
  | with_reducible refine G.r_intB ?_
  | with_reducible refine G.r_two ?_
  | with_reducible refine G.r_vals ?_
  | with_reducible refine G.r_items ?_
  | with_reducible refine G.r_pairsC ?_
  | with_reducible refine G.r_pairsN ?_
  | with_reducible refine G.r_neg ?_)
local macro_rules | `(tactic| walk_at "drp") => `(tactic| first | exact G.Drp.here | (refine G.Drp.there ?_; walk_at "drp"))
local macro_rules | `(tactic| walk_at "sel") => `(tactic| first | (refine G.Sel.done ?_; walk_at "drp") | ((refine' G.Sel.pick ?k ?_); (case k => walk_at "pk"); walk_at "sel"))
local macro_rules | `(tactic| walk_at "fin") => `(tactic| first | assumption | (refine G.Ok.sel (by assumption) ?_; walk_at "sel"))
local macro_rules | `(tactic| walk_at "kn") => `(tactic| first | assumption | rfl)
local macro_rules | `(tactic| walk_at "g2") => `(tactic| first
  | ((with_reducible refine' G.r_iteKT ?h ?_); (case h => walk_at "kn"))
  | ((with_reducible refine' G.r_iteKF ?h ?_); (case h => walk_at "kn"))
  | ((with_reducible refine' G.r_ixT ?h ?e ?_); (case h => walk_at "sqT"); (case e => rfl))
  | ((with_reducible refine' G.r_ixL ?h ?e ?_); (case h => walk_at "sqL"); (case e => rfl))
  | ((with_reducible refine' G.r_len ?h ?_); (case h => walk_at "sqL"))
  | ((with_reducible refine' G.r_newT (by assumption) ?h (fun p H' o => ?_)); (case h => walk_at "sz"))
  | ((with_reducible refine' G.r_newL (by assumption) ?h (fun p H' o => ?_)); (case h => walk_at "sz"))
  | (with_reducible refine' G.r_newD (by assumption) (fun p H' o => ?_))
  | ((with_reducible refine' G.r_eqS ?h ?_); (case h => rfl))
  | ((with_reducible refine' G.r_neS ?h ?_); (case h => rfl))
  | ((with_reducible refine' G.r_fldE ?h ?c ?n ?l ?_); (case h => walk_at "at"); (case c => assumption); (case n => assumption); (case l => rfl))
  | ((with_reducible refine' G.r_sfldE (by assumption) ?k ?c ?n ?l ?e (fun H' o => ?_)); (case k => walk_at "pk"); (case c => assumption); (case n => assumption); (case l => rfl); (case e => rfl))
  | ((with_reducible refine' G.r_isd ?h ?_); (case h => walk_at "at"))
  | ((with_reducible refine' G.r_dgetI ?h ?_); (case h => walk_at "at"))
  | ((with_reducible refine' G.r_ixDS ?h ?e ?_); (case h => walk_at "at"); (case e => rfl))
  | ((with_reducible refine' G.r_inDI ?h ?_); (case h => walk_at "at"))
  | ((with_reducible refine' G.r_ninDI ?h ?_); (case h => walk_at "at"))
  | ((with_reducible refine' G.r_eqE ?h ?e ?_); (case h => walk_at "at"); (case e => walk_at "at"))
  | ((with_reducible refine' G.r_neE ?h ?e ?_); (case h => walk_at "at"); (case e => walk_at "at"))
  | ((with_reducible refine' G.r_setDS (by assumption) ?k ?l ?e (fun H' o => ?_)); (case k => walk_at "pk"); (case l => rfl); (case e => rfl))
  | ((with_reducible refine' G.r_app (by assumption) ?k ?l (fun H' o => ?_)); (case k => walk_at "pk"); (case l => walk_at "sz"))
  | ((with_reducible refine' G.r_tyL ?h ?_); (case h => walk_at "sqL"))
  | ((with_reducible refine' G.r_tyD ?h ?_); (case h => walk_at "at"))
  | (with_reducible refine' G.r_disp (by assumption) (fun p H' o => ?_))
  | ((with_reducible refine' G.r_meE ?h ?l ?_); (case h => walk_at "at"); (case l => rfl))
  | (with_reducible refine' G.r_mkE (by assumption) (fun x dx H' o => ?_)))
local macro_rules | `(tactic| walk_at "go") => `(tactic| (repeat' (first | walk_at "g1" | walk_at "g2" | walk_at "g3")))
local macro_rules | `(tactic| walk_at "lit") => `(tactic| repeat' (first | exact G.Lits.nil | with_reducible refine G.Lits.cons ?_ ?_ | exact G.Lit.int _ | exact G.Lit.str _ | exact G.Lit.non | exact G.Lit.bl _ | exact G.Lit.neg _ | exact G.Lit.dct | refine G.Lit.tup ?_ rfl | refine G.Lit.lst ?_ rfl | refine G.Lits.cons ?_ ?_))
local macro_rules | `(tactic| walk_at "litv") => `(tactic| repeat' (first | exact G.LitVs.nil | with_reducible refine G.LitVs.cons ?_ ?_ | exact G.LitV.int _ | exact G.LitV.str _ | exact G.LitV.non | exact G.LitV.bl _ | exact G.LitV.neg _ | exact G.LitV.dct | exact G.LitV.var rfl (by assumption) | refine G.LitV.tup ?_ rfl | refine G.LitV.lst ?_ rfl | refine G.LitVs.cons ?_ ?_))
/-! the text by places -/
namespace PP
open PySem PySem.Spec PyProof.Rows L2
def top (i : Nat) : Stmt := PySem.Challenge.pw_giftlist_k03_whole_told.main.body.getD i (.Pass ⟨0, 0, 0, 0⟩)
abbrev s_is_whole : Stmt := top 22
abbrev s_is_count : Stmt := top 23
abbrev s_is_word : Stmt := top 24
abbrev s_is_deed : Stmt := top 25
abbrev s_are_deeds : Stmt := top 26
abbrev s_Wish_init : Stmt := inClass (top 28) 0
abbrev s_Wish_free : Stmt := inClass (top 28) 1
abbrev s_Wish_lacking : Stmt := inClass (top 28) 2
abbrev s_Wish_done : Stmt := inClass (top 28) 3
abbrev s_Gifts_init : Stmt := inClass (top 29) 0
abbrev s_Gifts_look_at : Stmt := inClass (top 29) 1
abbrev s_Gifts_own_wish : Stmt := inClass (top 29) 2
abbrev s_Gifts_other_wish : Stmt := inClass (top 29) 3
abbrev s_Gifts_wish : Stmt := inClass (top 29) 4
abbrev s_Gifts_alter : Stmt := inClass (top 29) 5
abbrev s_Gifts_drop : Stmt := inClass (top 29) 6
abbrev s_Gifts_take : Stmt := inClass (top 29) 7
abbrev s_Gifts_pledge : Stmt := inClass (top 29) 8
abbrev s_Gifts_back : Stmt := inClass (top 29) 9
abbrev s_Gifts_seen : Stmt := inClass (top 29) 10
abbrev s_done : Stmt := top 31
abbrev s_played : Stmt := top 32
abbrev s_first_unlike : Stmt := top 33
abbrev s_Done_init : Stmt := inClass (top 36) 0
abbrev s_Done_shows : Stmt := inClass (top 36) 1
abbrev s_Halt_init : Stmt := inClass (top 37) 0
abbrev s_Halt_shows : Stmt := inClass (top 37) 1
abbrev s_Same_shows : Stmt := inClass (top 38) 0
abbrev s_Apart_init : Stmt := inClass (top 39) 0
abbrev s_Apart_shows : Stmt := inClass (top 39) 1
abbrev s_Paid_init : Stmt := inClass (top 40) 0
abbrev s_Paid_shows : Stmt := inClass (top 40) 1
abbrev s_Short_init : Stmt := inClass (top 41) 0
abbrev s_Short_shows : Stmt := inClass (top 41) 1
abbrev s_check_people : Stmt := top 43
abbrev s_check_deeds : Stmt := top 44
abbrev s_told : Stmt := top 45
abbrev s_law_cell_at : Stmt := top 47
abbrev s_law_draw : Stmt := top 48
abbrev s_law_value : Stmt := top 49
abbrev s_law_whole : Stmt := top 50
abbrev s_law_says : Stmt := top 51
abbrev s_law_people : Stmt := top 52
abbrev s_law_word : Stmt := top 53
abbrev s_law_deed : Stmt := top 54
abbrev s_law_refused : Stmt := top 55
abbrev s_law_free : Stmt := top 56
abbrev s_law_done : Stmt := top 57
abbrev s_law_drawn : Stmt := top 58
abbrev s_law_good : Stmt := top 59
abbrev s_law_played : Stmt := top 60
abbrev s_law_numbers_good : Stmt := top 61
abbrev s_law_due : Stmt := top 62
abbrev s_law_right : Stmt := top 63
abbrev s_law_bent : Stmt := top 64
abbrev s_law : Stmt := top 65
theorem sc_is_whole : FnScope ["thing"] ["thing"] (defScope s_is_whole) := ⟨rfl, rfl, rfl, by decide +kernel, rfl, by decide +kernel, by decide +kernel⟩
theorem sc_is_count : FnScope ["thing", "least", "most"] ["thing", "least", "most"] (defScope s_is_count) := ⟨rfl, rfl, rfl, by decide +kernel, rfl, by decide +kernel, by decide +kernel⟩
theorem sc_is_word : FnScope ["thing", "sign"] ["thing"] (defScope s_is_word) := ⟨rfl, rfl, rfl, by decide +kernel, rfl, by decide +kernel, by decide +kernel⟩
theorem sc_is_deed : FnScope ["thing", "numbers", "one"] ["thing"] (defScope s_is_deed) := ⟨rfl, rfl, rfl, by decide +kernel, rfl, by decide +kernel, by decide +kernel⟩
theorem sc_are_deeds : FnScope ["thing", "one"] ["thing"] (defScope s_are_deeds) := ⟨rfl, rfl, rfl, by decide +kernel, rfl, by decide +kernel, by decide +kernel⟩
theorem sc_Wish_init : FnScope ["self", "owner", "word", "price", "many"] ["self", "owner", "word", "price", "many"] (defScope s_Wish_init) := ⟨rfl, rfl, rfl, by decide +kernel, rfl, by decide +kernel, by decide +kernel⟩
theorem sc_Wish_free : FnScope ["self", "held", "person"] ["self"] (defScope s_Wish_free) := ⟨rfl, rfl, rfl, by decide +kernel, rfl, by decide +kernel, by decide +kernel⟩
theorem sc_Wish_lacking : FnScope ["self", "person"] ["self"] (defScope s_Wish_lacking) := ⟨rfl, rfl, rfl, by decide +kernel, rfl, by decide +kernel, by decide +kernel⟩
theorem sc_Wish_done : FnScope ["self", "takings", "pledges", "person"] ["self"] (defScope s_Wish_done) := ⟨rfl, rfl, rfl, by decide +kernel, rfl, by decide +kernel, by decide +kernel⟩
theorem sc_Gifts_init : FnScope ["self", "people"] ["self", "people"] (defScope s_Gifts_init) := ⟨rfl, rfl, rfl, by decide +kernel, rfl, by decide +kernel, by decide +kernel⟩
theorem sc_Gifts_look_at : FnScope ["self", "person"] ["self", "person"] (defScope s_Gifts_look_at) := ⟨rfl, rfl, rfl, by decide +kernel, rfl, by decide +kernel, by decide +kernel⟩
theorem sc_Gifts_own_wish : FnScope ["self", "owner", "wish", "found"] ["self", "owner", "wish"] (defScope s_Gifts_own_wish) := ⟨rfl, rfl, rfl, by decide +kernel, rfl, by decide +kernel, by decide +kernel⟩
theorem sc_Gifts_other_wish : FnScope ["self", "person", "wish", "found"] ["self", "person", "wish"] (defScope s_Gifts_other_wish) := ⟨rfl, rfl, rfl, by decide +kernel, rfl, by decide +kernel, by decide +kernel⟩
theorem sc_Gifts_wish : FnScope ["self", "owner", "word", "price", "many"] ["self", "owner", "word", "price", "many"] (defScope s_Gifts_wish) := ⟨rfl, rfl, rfl, by decide +kernel, rfl, by decide +kernel, by decide +kernel⟩
theorem sc_Gifts_alter : FnScope ["self", "owner", "wish", "many", "found", "was"] ["self", "owner", "wish", "many"] (defScope s_Gifts_alter) := ⟨rfl, rfl, rfl, by decide +kernel, rfl, by decide +kernel, by decide +kernel⟩
theorem sc_Gifts_drop : FnScope ["self", "owner", "wish", "found"] ["self", "owner", "wish"] (defScope s_Gifts_drop) := ⟨rfl, rfl, rfl, by decide +kernel, rfl, by decide +kernel, by decide +kernel⟩
theorem sc_Gifts_take : FnScope ["self", "person", "wish", "count", "found"] ["self", "person", "wish", "count"] (defScope s_Gifts_take) := ⟨rfl, rfl, rfl, by decide +kernel, rfl, by decide +kernel, by decide +kernel⟩
theorem sc_Gifts_pledge : FnScope ["self", "person", "wish", "amount", "found"] ["self", "person", "wish", "amount"] (defScope s_Gifts_pledge) := ⟨rfl, rfl, rfl, by decide +kernel, rfl, by decide +kernel, by decide +kernel⟩
theorem sc_Gifts_back : FnScope ["self", "person", "wish", "found"] ["self", "person", "wish"] (defScope s_Gifts_back) := ⟨rfl, rfl, rfl, by decide +kernel, rfl, by decide +kernel, by decide +kernel⟩
theorem sc_Gifts_seen : FnScope ["self", "person", "found", "number", "wish", "held", "done"] ["self", "person"] (defScope s_Gifts_seen) := ⟨rfl, rfl, rfl, by decide +kernel, rfl, by decide +kernel, by decide +kernel⟩
theorem sc_done : FnScope ["gifts", "deed", "kind"] ["gifts", "deed"] (defScope s_done) := ⟨rfl, rfl, rfl, by decide +kernel, rfl, by decide +kernel, by decide +kernel⟩
theorem sc_played : FnScope ["people", "deeds", "gifts", "results", "place", "deed", "result"] ["people", "deeds"] (defScope s_played) := ⟨rfl, rfl, rfl, by decide +kernel, rfl, by decide +kernel, by decide +kernel⟩
theorem sc_first_unlike : FnScope ["people", "one", "other", "person", "mine", "theirs", "found", "row"] ["people", "one", "other", "person"] (defScope s_first_unlike) := ⟨rfl, rfl, rfl, by decide +kernel, rfl, by decide +kernel, by decide +kernel⟩
theorem sc_Done_init : FnScope ["self", "results"] ["self", "results"] (defScope s_Done_init) := ⟨rfl, rfl, rfl, by decide +kernel, rfl, by decide +kernel, by decide +kernel⟩
theorem sc_Done_shows : FnScope ["self", "people", "deeds", "gifts", "results", "place"] ["self", "people", "deeds"] (defScope s_Done_shows) := ⟨rfl, rfl, rfl, by decide +kernel, rfl, by decide +kernel, by decide +kernel⟩
theorem sc_Halt_init : FnScope ["self", "place"] ["self", "place"] (defScope s_Halt_init) := ⟨rfl, rfl, rfl, by decide +kernel, rfl, by decide +kernel, by decide +kernel⟩
theorem sc_Halt_shows : FnScope ["self", "people", "deeds"] ["self", "people", "deeds"] (defScope s_Halt_shows) := ⟨rfl, rfl, rfl, by decide +kernel, rfl, by decide +kernel, by decide +kernel⟩
theorem sc_Same_shows : FnScope ["self", "people", "one", "other", "person"] ["self", "people", "one", "other", "person"] (defScope s_Same_shows) := ⟨rfl, rfl, rfl, by decide +kernel, rfl, by decide +kernel, by decide +kernel⟩
theorem sc_Apart_init : FnScope ["self", "number"] ["self", "number"] (defScope s_Apart_init) := ⟨rfl, rfl, rfl, by decide +kernel, rfl, by decide +kernel, by decide +kernel⟩
theorem sc_Apart_shows : FnScope ["self", "people", "one", "other", "person"] ["self", "people", "one", "other", "person"] (defScope s_Apart_shows) := ⟨rfl, rfl, rfl, by decide +kernel, rfl, by decide +kernel, by decide +kernel⟩
theorem sc_Paid_init : FnScope ["self", "rows", "row"] ["self", "rows"] (defScope s_Paid_init) := ⟨rfl, rfl, rfl, by decide +kernel, rfl, by decide +kernel, by decide +kernel⟩
theorem sc_Paid_shows : FnScope ["self", "purses", "wants", "rows", "many", "person", "row", "owner"] ["self", "purses", "wants"] (defScope s_Paid_shows) := ⟨rfl, rfl, rfl, by decide +kernel, rfl, by decide +kernel, by decide +kernel⟩
theorem sc_Short_init : FnScope ["self", "owners"] ["self", "owners"] (defScope s_Short_init) := ⟨rfl, rfl, rfl, by decide +kernel, rfl, by decide +kernel, by decide +kernel⟩
theorem sc_Short_shows : FnScope ["self", "purses", "wants", "owners", "payers", "one", "other", "person", "purse", "owner"] ["self", "purses", "wants"] (defScope s_Short_shows) := ⟨rfl, rfl, rfl, by decide +kernel, rfl, by decide +kernel, by decide +kernel⟩
theorem sc_check_people : FnScope ["people"] ["people"] (defScope s_check_people) := ⟨rfl, rfl, rfl, by decide +kernel, rfl, by decide +kernel, by decide +kernel⟩
theorem sc_check_deeds : FnScope ["deeds"] ["deeds"] (defScope s_check_deeds) := ⟨rfl, rfl, rfl, by decide +kernel, rfl, by decide +kernel, by decide +kernel⟩
theorem sc_told : FnScope ["people", "deeds", "gifts", "results", "place"] ["people", "deeds"] (defScope s_told) := ⟨rfl, rfl, rfl, by decide +kernel, rfl, by decide +kernel, by decide +kernel⟩
theorem sc_law_cell_at : FnScope ["_law_script", "_law_k"] ["_law_script", "_law_k"] (defScope s_law_cell_at) := ⟨rfl, rfl, rfl, by decide +kernel, rfl, by decide +kernel, by decide +kernel⟩
theorem sc_law_draw : FnScope ["_law_cell", "_law_k", "_law_many", "_law_primes"] ["_law_cell", "_law_k", "_law_many"] (defScope s_law_draw) := ⟨rfl, rfl, rfl, by decide +kernel, rfl, by decide +kernel, by decide +kernel⟩
theorem sc_law_value : FnScope ["_law_cell", "_law_turn", "_law_blend"] ["_law_cell", "_law_turn"] (defScope s_law_value) := ⟨rfl, rfl, rfl, by decide +kernel, rfl, by decide +kernel, by decide +kernel⟩
theorem sc_law_whole : FnScope ["_law_number"] ["_law_number"] (defScope s_law_whole) := ⟨rfl, rfl, rfl, by decide +kernel, rfl, by decide +kernel, by decide +kernel⟩
theorem sc_law_says : FnScope ["_law_said", "_law_due_here"] ["_law_said", "_law_due_here"] (defScope s_law_says) := ⟨rfl, rfl, rfl, by decide +kernel, rfl, by decide +kernel, by decide +kernel⟩
theorem sc_law_people : FnScope ["_law_script"] ["_law_script"] (defScope s_law_people) := ⟨rfl, rfl, rfl, by decide +kernel, rfl, by decide +kernel, by decide +kernel⟩
theorem sc_law_word : FnScope ["_law_number", "_law_found", "_law_at"] ["_law_number"] (defScope s_law_word) := ⟨rfl, rfl, rfl, by decide +kernel, rfl, by decide +kernel, by decide +kernel⟩
theorem sc_law_deed : FnScope ["_law_cell", "_law_at", "_law_people_here", "_law_wishes", "_law_number", "_law_person", "_law_wish", "_law_kind", "_law_much"] ["_law_cell", "_law_at", "_law_people_here", "_law_wishes"] (defScope s_law_deed) := ⟨rfl, rfl, rfl, by decide +kernel, rfl, by decide +kernel, by decide +kernel⟩
theorem sc_law_refused : FnScope ["_law_wishes", "_law_deed_here", "_law_kind", "_law_wish", "_law_lacking"] ["_law_wishes", "_law_deed_here"] (defScope s_law_refused) := ⟨rfl, rfl, rfl, by decide +kernel, rfl, by decide +kernel, by decide +kernel⟩
theorem sc_law_free : FnScope ["_law_wish", "_law_held"] ["_law_wish"] (defScope s_law_free) := ⟨rfl, rfl, rfl, by decide +kernel, rfl, by decide +kernel, by decide +kernel⟩
theorem sc_law_done : FnScope ["_law_wishes", "_law_deed_here", "_law_kind", "_law_person", "_law_wish", "_law_was"] ["_law_wishes", "_law_deed_here"] (defScope s_law_done) := ⟨rfl, rfl, rfl, by decide +kernel, rfl, by decide +kernel, by decide +kernel⟩
theorem sc_law_drawn : FnScope ["_law_script", "_law_begin", "_law_end", "_law_people_here", "_law_wishes", "_law_found", "_law_at", "_law_cell", "_law_deed_here"] ["_law_script", "_law_begin", "_law_end", "_law_people_here"] (defScope s_law_drawn) := ⟨rfl, rfl, rfl, by decide +kernel, rfl, by decide +kernel, by decide +kernel⟩
theorem sc_law_good : FnScope ["_law_script", "_law_begin", "_law_end", "_law_people_here", "_law_wishes", "_law_found", "_law_deed_here"] ["_law_script", "_law_begin", "_law_end", "_law_people_here"] (defScope s_law_good) := ⟨rfl, rfl, rfl, by decide +kernel, rfl, by decide +kernel, by decide +kernel⟩
theorem sc_law_played : FnScope ["_law_people_here", "_law_deeds", "_law_wishes", "_law_found", "_law_place", "_law_deed_here"] ["_law_people_here", "_law_deeds"] (defScope s_law_played) := ⟨rfl, rfl, rfl, by decide +kernel, rfl, by decide +kernel, by decide +kernel⟩
theorem sc_law_numbers_good : FnScope ["_law_deed_here"] ["_law_deed_here"] (defScope s_law_numbers_good) := ⟨rfl, rfl, rfl, by decide +kernel, rfl, by decide +kernel, by decide +kernel⟩
theorem sc_law_due : FnScope ["_law_people_here", "_law_deeds", "_law_found", "_law_results", "_law_place"] ["_law_people_here", "_law_deeds", "_law_found"] (defScope s_law_due) := ⟨rfl, rfl, rfl, by decide +kernel, rfl, by decide +kernel, by decide +kernel⟩
theorem sc_law_right : FnScope ["_law_people_here", "_law_deeds", "_law_others", "_law_handed", "_law_place", "_law_again", "_law_found", "_law_sorts", "_law_many", "_law_other"] ["_law_people_here", "_law_deeds", "_law_others"] (defScope s_law_right) := ⟨rfl, rfl, rfl, by decide +kernel, rfl, by decide +kernel, by decide +kernel⟩
theorem sc_law_bent : FnScope ["_law_deed_here", "_law_number", "_law_spots", "_law_spot", "_law_parts", "_law_at", "_law_one"] ["_law_deed_here", "_law_number"] (defScope s_law_bent) := ⟨rfl, rfl, rfl, by decide +kernel, rfl, by decide +kernel, by decide +kernel⟩
theorem sc_law : FnScope ["_law_script", "_law_people_here", "_law_value_here", "_law_deeds", "_law_drawn_here", "_law_at", "_law_tales", "_law_spot", "_law_some", "_law_nine", "_law_wish", "_law_full", "_law_found"] ["_law_script"] (defScope s_law) := ⟨rfl, rfl, rfl, by decide +kernel, rfl, by decide +kernel, by decide +kernel⟩
structure A where
  f_is_whole : Addr
  d_is_whole : FuncData
  f_is_count : Addr
  d_is_count : FuncData
  f_is_word : Addr
  d_is_word : FuncData
  f_is_deed : Addr
  d_is_deed : FuncData
  f_are_deeds : Addr
  d_are_deeds : FuncData
  f_Wish_init : Addr
  d_Wish_init : FuncData
  f_Wish_free : Addr
  d_Wish_free : FuncData
  f_Wish_lacking : Addr
  d_Wish_lacking : FuncData
  f_Wish_done : Addr
  d_Wish_done : FuncData
  f_Gifts_init : Addr
  d_Gifts_init : FuncData
  f_Gifts_look_at : Addr
  d_Gifts_look_at : FuncData
  f_Gifts_own_wish : Addr
  d_Gifts_own_wish : FuncData
  f_Gifts_other_wish : Addr
  d_Gifts_other_wish : FuncData
  f_Gifts_wish : Addr
  d_Gifts_wish : FuncData
  f_Gifts_alter : Addr
  d_Gifts_alter : FuncData
  f_Gifts_drop : Addr
  d_Gifts_drop : FuncData
  f_Gifts_take : Addr
  d_Gifts_take : FuncData
  f_Gifts_pledge : Addr
  d_Gifts_pledge : FuncData
  f_Gifts_back : Addr
  d_Gifts_back : FuncData
  f_Gifts_seen : Addr
  d_Gifts_seen : FuncData
  f_done : Addr
  d_done : FuncData
  f_played : Addr
  d_played : FuncData
  f_first_unlike : Addr
  d_first_unlike : FuncData
  f_Done_init : Addr
  d_Done_init : FuncData
  f_Done_shows : Addr
  d_Done_shows : FuncData
  f_Halt_init : Addr
  d_Halt_init : FuncData
  f_Halt_shows : Addr
  d_Halt_shows : FuncData
  f_Same_shows : Addr
  d_Same_shows : FuncData
  f_Apart_init : Addr
  d_Apart_init : FuncData
  f_Apart_shows : Addr
  d_Apart_shows : FuncData
  f_Paid_init : Addr
  d_Paid_init : FuncData
  f_Paid_shows : Addr
  d_Paid_shows : FuncData
  f_Short_init : Addr
  d_Short_init : FuncData
  f_Short_shows : Addr
  d_Short_shows : FuncData
  f_check_people : Addr
  d_check_people : FuncData
  f_check_deeds : Addr
  d_check_deeds : FuncData
  f_told : Addr
  d_told : FuncData
  f_law_cell_at : Addr
  d_law_cell_at : FuncData
  f_law_draw : Addr
  d_law_draw : FuncData
  f_law_value : Addr
  d_law_value : FuncData
  f_law_whole : Addr
  d_law_whole : FuncData
  f_law_says : Addr
  d_law_says : FuncData
  f_law_people : Addr
  d_law_people : FuncData
  f_law_word : Addr
  d_law_word : FuncData
  f_law_deed : Addr
  d_law_deed : FuncData
  f_law_refused : Addr
  d_law_refused : FuncData
  f_law_free : Addr
  d_law_free : FuncData
  f_law_done : Addr
  d_law_done : FuncData
  f_law_drawn : Addr
  d_law_drawn : FuncData
  f_law_good : Addr
  d_law_good : FuncData
  f_law_played : Addr
  d_law_played : FuncData
  f_law_numbers_good : Addr
  d_law_numbers_good : FuncData
  f_law_due : Addr
  d_law_due : FuncData
  f_law_right : Addr
  d_law_right : FuncData
  f_law_bent : Addr
  d_law_bent : FuncData
  f_law : Addr
  d_law : FuncData
  c_GiftError : Addr
  c_BadPeople : Addr
  c_BadPerson : Addr
  c_BadWord : Addr
  c_BadPrice : Addr
  c_BadMany : Addr
  c_BadWish : Addr
  c_BadAmount : Addr
  c_BadDeeds : Addr
  c_NoneFree : Addr
  c_TooMuch : Addr
  c_TooMany : Addr
  c_Wish : Addr
  c_Gifts : Addr
  c_Answer : Addr
  c_Done : Addr
  c_Halt : Addr
  c_Same : Addr
  c_Apart : Addr
  c_Paid : Addr
  c_Short : Addr
  t_LETTERS : Tok
  t_MOST_PEOPLE : Tok
  t_MOST_WORD : Tok
  t_MOST_PRICE : Tok
  t_MOST_PIECES : Tok
  t_MOST_WISHES : Tok
  t_MOST_DEEDS : Tok
  g_SIZES : Addr
  e_SIZES : Array DictEntry
  n_SIZES : Nat
  t_SIZES_wish : Tok
  t_SIZES_alter : Tok
  t_SIZES_drop : Tok
  t_SIZES_take : Tok
  t_SIZES_pledge : Tok
  t_SIZES_back : Tok
structure Txt (w : World) (K : PySem.W.Frag) (mg : Str → Option Value) (a : A) : Prop where
  is_whole : G.FD K mg "is_whole" "is_whole" s_is_whole ["thing"] a.f_is_whole a.d_is_whole
  is_count : G.FD K mg "is_count" "is_count" s_is_count ["thing", "least", "most"] a.f_is_count a.d_is_count
  is_word : G.FD K mg "is_word" "is_word" s_is_word ["thing"] a.f_is_word a.d_is_word
  is_deed : G.FD K mg "is_deed" "is_deed" s_is_deed ["thing"] a.f_is_deed a.d_is_deed
  are_deeds : G.FD K mg "are_deeds" "are_deeds" s_are_deeds ["thing"] a.f_are_deeds a.d_are_deeds
  Wish_init : G.MD K "__init__" "Wish.__init__" s_Wish_init ["self", "owner", "word", "price", "many"] a.c_Wish a.f_Wish_init a.d_Wish_init
  Wish_free : G.MD K "free" "Wish.free" s_Wish_free ["self"] a.c_Wish a.f_Wish_free a.d_Wish_free
  Wish_lacking : G.MD K "lacking" "Wish.lacking" s_Wish_lacking ["self"] a.c_Wish a.f_Wish_lacking a.d_Wish_lacking
  Wish_done : G.MD K "done" "Wish.done" s_Wish_done ["self"] a.c_Wish a.f_Wish_done a.d_Wish_done
  Gifts_init : G.MD K "__init__" "Gifts.__init__" s_Gifts_init ["self", "people"] a.c_Gifts a.f_Gifts_init a.d_Gifts_init
  Gifts_look_at : G.MD K "look_at" "Gifts.look_at" s_Gifts_look_at ["self", "person"] a.c_Gifts a.f_Gifts_look_at a.d_Gifts_look_at
  Gifts_own_wish : G.MD K "own_wish" "Gifts.own_wish" s_Gifts_own_wish ["self", "owner", "wish"] a.c_Gifts a.f_Gifts_own_wish a.d_Gifts_own_wish
  Gifts_other_wish : G.MD K "other_wish" "Gifts.other_wish" s_Gifts_other_wish ["self", "person", "wish"] a.c_Gifts a.f_Gifts_other_wish a.d_Gifts_other_wish
  Gifts_wish : G.MD K "wish" "Gifts.wish" s_Gifts_wish ["self", "owner", "word", "price", "many"] a.c_Gifts a.f_Gifts_wish a.d_Gifts_wish
  Gifts_alter : G.MD K "alter" "Gifts.alter" s_Gifts_alter ["self", "owner", "wish", "many"] a.c_Gifts a.f_Gifts_alter a.d_Gifts_alter
  Gifts_drop : G.MD K "drop" "Gifts.drop" s_Gifts_drop ["self", "owner", "wish"] a.c_Gifts a.f_Gifts_drop a.d_Gifts_drop
  Gifts_take : G.MD K "take" "Gifts.take" s_Gifts_take ["self", "person", "wish", "count"] a.c_Gifts a.f_Gifts_take a.d_Gifts_take
  Gifts_pledge : G.MD K "pledge" "Gifts.pledge" s_Gifts_pledge ["self", "person", "wish", "amount"] a.c_Gifts a.f_Gifts_pledge a.d_Gifts_pledge
  Gifts_back : G.MD K "back" "Gifts.back" s_Gifts_back ["self", "person", "wish"] a.c_Gifts a.f_Gifts_back a.d_Gifts_back
  Gifts_seen : G.MD K "seen" "Gifts.seen" s_Gifts_seen ["self", "person"] a.c_Gifts a.f_Gifts_seen a.d_Gifts_seen
  done : G.FD K mg "done" "done" s_done ["gifts", "deed"] a.f_done a.d_done
  played : G.FD K mg "played" "played" s_played ["people", "deeds"] a.f_played a.d_played
  first_unlike : G.FD K mg "first_unlike" "first_unlike" s_first_unlike ["people", "one", "other", "person"] a.f_first_unlike a.d_first_unlike
  Done_init : G.MD K "__init__" "Done.__init__" s_Done_init ["self", "results"] a.c_Done a.f_Done_init a.d_Done_init
  Done_shows : G.MD K "shows" "Done.shows" s_Done_shows ["self", "people", "deeds"] a.c_Done a.f_Done_shows a.d_Done_shows
  Halt_init : G.MD K "__init__" "Halt.__init__" s_Halt_init ["self", "place"] a.c_Halt a.f_Halt_init a.d_Halt_init
  Halt_shows : G.MD K "shows" "Halt.shows" s_Halt_shows ["self", "people", "deeds"] a.c_Halt a.f_Halt_shows a.d_Halt_shows
  Same_shows : G.MD K "shows" "Same.shows" s_Same_shows ["self", "people", "one", "other", "person"] a.c_Same a.f_Same_shows a.d_Same_shows
  Apart_init : G.MD K "__init__" "Apart.__init__" s_Apart_init ["self", "number"] a.c_Apart a.f_Apart_init a.d_Apart_init
  Apart_shows : G.MD K "shows" "Apart.shows" s_Apart_shows ["self", "people", "one", "other", "person"] a.c_Apart a.f_Apart_shows a.d_Apart_shows
  Paid_init : G.MD K "__init__" "Paid.__init__" s_Paid_init ["self", "rows"] a.c_Paid a.f_Paid_init a.d_Paid_init
  Paid_shows : G.MD K "shows" "Paid.shows" s_Paid_shows ["self", "purses", "wants"] a.c_Paid a.f_Paid_shows a.d_Paid_shows
  Short_init : G.MD K "__init__" "Short.__init__" s_Short_init ["self", "owners"] a.c_Short a.f_Short_init a.d_Short_init
  Short_shows : G.MD K "shows" "Short.shows" s_Short_shows ["self", "purses", "wants"] a.c_Short a.f_Short_shows a.d_Short_shows
  check_people : G.FD K mg "check_people" "check_people" s_check_people ["people"] a.f_check_people a.d_check_people
  check_deeds : G.FD K mg "check_deeds" "check_deeds" s_check_deeds ["deeds"] a.f_check_deeds a.d_check_deeds
  told : G.FD K mg "told" "told" s_told ["people", "deeds"] a.f_told a.d_told
  law_cell_at : G.FD K mg "_law_cell_at" "_law_cell_at" s_law_cell_at ["_law_script", "_law_k"] a.f_law_cell_at a.d_law_cell_at
  law_draw : G.FD K mg "_law_draw" "_law_draw" s_law_draw ["_law_cell", "_law_k", "_law_many"] a.f_law_draw a.d_law_draw
  law_value : G.FD K mg "_law_value" "_law_value" s_law_value ["_law_cell", "_law_turn"] a.f_law_value a.d_law_value
  law_whole : G.FD K mg "_law_whole" "_law_whole" s_law_whole ["_law_number"] a.f_law_whole a.d_law_whole
  law_says : G.FD K mg "_law_says" "_law_says" s_law_says ["_law_said", "_law_due_here"] a.f_law_says a.d_law_says
  law_people : G.FD K mg "_law_people" "_law_people" s_law_people ["_law_script"] a.f_law_people a.d_law_people
  law_word : G.FD K mg "_law_word" "_law_word" s_law_word ["_law_number"] a.f_law_word a.d_law_word
  law_deed : G.FD K mg "_law_deed" "_law_deed" s_law_deed ["_law_cell", "_law_at", "_law_people_here", "_law_wishes"] a.f_law_deed a.d_law_deed
  law_refused : G.FD K mg "_law_refused" "_law_refused" s_law_refused ["_law_wishes", "_law_deed_here"] a.f_law_refused a.d_law_refused
  law_free : G.FD K mg "_law_free" "_law_free" s_law_free ["_law_wish"] a.f_law_free a.d_law_free
  law_done : G.FD K mg "_law_done" "_law_done" s_law_done ["_law_wishes", "_law_deed_here"] a.f_law_done a.d_law_done
  law_drawn : G.FD K mg "_law_drawn" "_law_drawn" s_law_drawn ["_law_script", "_law_begin", "_law_end", "_law_people_here"] a.f_law_drawn a.d_law_drawn
  law_good : G.FD K mg "_law_good" "_law_good" s_law_good ["_law_script", "_law_begin", "_law_end", "_law_people_here"] a.f_law_good a.d_law_good
  law_played : G.FD K mg "_law_played" "_law_played" s_law_played ["_law_people_here", "_law_deeds"] a.f_law_played a.d_law_played
  law_numbers_good : G.FD K mg "_law_numbers_good" "_law_numbers_good" s_law_numbers_good ["_law_deed_here"] a.f_law_numbers_good a.d_law_numbers_good
  law_due : G.FD K mg "_law_due" "_law_due" s_law_due ["_law_people_here", "_law_deeds", "_law_found"] a.f_law_due a.d_law_due
  law_right : G.FD K mg "_law_right" "_law_right" s_law_right ["_law_people_here", "_law_deeds", "_law_others"] a.f_law_right a.d_law_right
  law_bent : G.FD K mg "_law_bent" "_law_bent" s_law_bent ["_law_deed_here", "_law_number"] a.f_law_bent a.d_law_bent
  law : G.FD K mg "law" "law" s_law ["_law_script"] a.f_law a.d_law
  x_GiftError : G.XD K mg "GiftError" a.c_GiftError
  m_GiftError : PySem.W.exmOne K (.ref a.c_GiftError) (.ref a.c_GiftError) = some true
  x_BadPeople : G.XD K mg "BadPeople" a.c_BadPeople
  m_BadPeople : PySem.W.exmOne K (.ref a.c_BadPeople) (.ref a.c_GiftError) = some true
  x_BadPerson : G.XD K mg "BadPerson" a.c_BadPerson
  m_BadPerson : PySem.W.exmOne K (.ref a.c_BadPerson) (.ref a.c_GiftError) = some true
  x_BadWord : G.XD K mg "BadWord" a.c_BadWord
  m_BadWord : PySem.W.exmOne K (.ref a.c_BadWord) (.ref a.c_GiftError) = some true
  x_BadPrice : G.XD K mg "BadPrice" a.c_BadPrice
  m_BadPrice : PySem.W.exmOne K (.ref a.c_BadPrice) (.ref a.c_GiftError) = some true
  x_BadMany : G.XD K mg "BadMany" a.c_BadMany
  m_BadMany : PySem.W.exmOne K (.ref a.c_BadMany) (.ref a.c_GiftError) = some true
  x_BadWish : G.XD K mg "BadWish" a.c_BadWish
  m_BadWish : PySem.W.exmOne K (.ref a.c_BadWish) (.ref a.c_GiftError) = some true
  x_BadAmount : G.XD K mg "BadAmount" a.c_BadAmount
  m_BadAmount : PySem.W.exmOne K (.ref a.c_BadAmount) (.ref a.c_GiftError) = some true
  x_BadDeeds : G.XD K mg "BadDeeds" a.c_BadDeeds
  m_BadDeeds : PySem.W.exmOne K (.ref a.c_BadDeeds) (.ref a.c_GiftError) = some true
  x_NoneFree : G.XD K mg "NoneFree" a.c_NoneFree
  m_NoneFree : PySem.W.exmOne K (.ref a.c_NoneFree) (.ref a.c_GiftError) = some true
  x_TooMuch : G.XD K mg "TooMuch" a.c_TooMuch
  m_TooMuch : PySem.W.exmOne K (.ref a.c_TooMuch) (.ref a.c_GiftError) = some true
  x_TooMany : G.XD K mg "TooMany" a.c_TooMany
  m_TooMany : PySem.W.exmOne K (.ref a.c_TooMany) (.ref a.c_GiftError) = some true
  c_Wish : mg "Wish" = some (.ref a.c_Wish)
  cl_Wish : Cls K a.c_Wish
  mk_Wish : Mk K a.c_Wish a.f_Wish_init
  na_Wish_owner : NoAttr K a.c_Wish "owner"
  na_Wish_word : NoAttr K a.c_Wish "word"
  na_Wish_price : NoAttr K a.c_Wish "price"
  na_Wish_many : NoAttr K a.c_Wish "many"
  na_Wish_stands : NoAttr K a.c_Wish "stands"
  na_Wish_takings : NoAttr K a.c_Wish "takings"
  na_Wish_pledges : NoAttr K a.c_Wish "pledges"
  c_Gifts : mg "Gifts" = some (.ref a.c_Gifts)
  cl_Gifts : Cls K a.c_Gifts
  mk_Gifts : Mk K a.c_Gifts a.f_Gifts_init
  na_Gifts_people : NoAttr K a.c_Gifts "people"
  na_Gifts_wishes : NoAttr K a.c_Gifts "wishes"
  c_Answer : mg "Answer" = some (.ref a.c_Answer)
  cl_Answer : Cls K a.c_Answer
  c_Done : mg "Done" = some (.ref a.c_Done)
  cl_Done : Cls K a.c_Done
  mk_Done : Mk K a.c_Done a.f_Done_init
  na_Done_results : NoAttr K a.c_Done "results"
  o_Done : G.OC K a.c_Done
  i_Done_Done : PySem.W.kitOne K (.ref a.c_Done) (.ref a.c_Done) = some true
  i_Done_Halt : PySem.W.kitOne K (.ref a.c_Done) (.ref a.c_Halt) = some false
  i_Done_Same : PySem.W.kitOne K (.ref a.c_Done) (.ref a.c_Same) = some false
  i_Done_Apart : PySem.W.kitOne K (.ref a.c_Done) (.ref a.c_Apart) = some false
  i_Done_Paid : PySem.W.kitOne K (.ref a.c_Done) (.ref a.c_Paid) = some false
  i_Done_Short : PySem.W.kitOne K (.ref a.c_Done) (.ref a.c_Short) = some false
  i_Done_Answer : PySem.W.kitOne K (.ref a.c_Done) (.ref a.c_Answer) = some true
  c_Halt : mg "Halt" = some (.ref a.c_Halt)
  cl_Halt : Cls K a.c_Halt
  mk_Halt : Mk K a.c_Halt a.f_Halt_init
  na_Halt_place : NoAttr K a.c_Halt "place"
  o_Halt : G.OC K a.c_Halt
  i_Halt_Done : PySem.W.kitOne K (.ref a.c_Halt) (.ref a.c_Done) = some false
  i_Halt_Halt : PySem.W.kitOne K (.ref a.c_Halt) (.ref a.c_Halt) = some true
  i_Halt_Same : PySem.W.kitOne K (.ref a.c_Halt) (.ref a.c_Same) = some false
  i_Halt_Apart : PySem.W.kitOne K (.ref a.c_Halt) (.ref a.c_Apart) = some false
  i_Halt_Paid : PySem.W.kitOne K (.ref a.c_Halt) (.ref a.c_Paid) = some false
  i_Halt_Short : PySem.W.kitOne K (.ref a.c_Halt) (.ref a.c_Short) = some false
  i_Halt_Answer : PySem.W.kitOne K (.ref a.c_Halt) (.ref a.c_Answer) = some true
  c_Same : mg "Same" = some (.ref a.c_Same)
  cl_Same : Cls K a.c_Same
  o_Same : G.OC K a.c_Same
  i_Same_Done : PySem.W.kitOne K (.ref a.c_Same) (.ref a.c_Done) = some false
  i_Same_Halt : PySem.W.kitOne K (.ref a.c_Same) (.ref a.c_Halt) = some false
  i_Same_Same : PySem.W.kitOne K (.ref a.c_Same) (.ref a.c_Same) = some true
  i_Same_Apart : PySem.W.kitOne K (.ref a.c_Same) (.ref a.c_Apart) = some false
  i_Same_Paid : PySem.W.kitOne K (.ref a.c_Same) (.ref a.c_Paid) = some false
  i_Same_Short : PySem.W.kitOne K (.ref a.c_Same) (.ref a.c_Short) = some false
  i_Same_Answer : PySem.W.kitOne K (.ref a.c_Same) (.ref a.c_Answer) = some true
  c_Apart : mg "Apart" = some (.ref a.c_Apart)
  cl_Apart : Cls K a.c_Apart
  mk_Apart : Mk K a.c_Apart a.f_Apart_init
  na_Apart_number : NoAttr K a.c_Apart "number"
  o_Apart : G.OC K a.c_Apart
  i_Apart_Done : PySem.W.kitOne K (.ref a.c_Apart) (.ref a.c_Done) = some false
  i_Apart_Halt : PySem.W.kitOne K (.ref a.c_Apart) (.ref a.c_Halt) = some false
  i_Apart_Same : PySem.W.kitOne K (.ref a.c_Apart) (.ref a.c_Same) = some false
  i_Apart_Apart : PySem.W.kitOne K (.ref a.c_Apart) (.ref a.c_Apart) = some true
  i_Apart_Paid : PySem.W.kitOne K (.ref a.c_Apart) (.ref a.c_Paid) = some false
  i_Apart_Short : PySem.W.kitOne K (.ref a.c_Apart) (.ref a.c_Short) = some false
  i_Apart_Answer : PySem.W.kitOne K (.ref a.c_Apart) (.ref a.c_Answer) = some true
  c_Paid : mg "Paid" = some (.ref a.c_Paid)
  cl_Paid : Cls K a.c_Paid
  mk_Paid : Mk K a.c_Paid a.f_Paid_init
  na_Paid_rows : NoAttr K a.c_Paid "rows"
  o_Paid : G.OC K a.c_Paid
  i_Paid_Done : PySem.W.kitOne K (.ref a.c_Paid) (.ref a.c_Done) = some false
  i_Paid_Halt : PySem.W.kitOne K (.ref a.c_Paid) (.ref a.c_Halt) = some false
  i_Paid_Same : PySem.W.kitOne K (.ref a.c_Paid) (.ref a.c_Same) = some false
  i_Paid_Apart : PySem.W.kitOne K (.ref a.c_Paid) (.ref a.c_Apart) = some false
  i_Paid_Paid : PySem.W.kitOne K (.ref a.c_Paid) (.ref a.c_Paid) = some true
  i_Paid_Short : PySem.W.kitOne K (.ref a.c_Paid) (.ref a.c_Short) = some false
  i_Paid_Answer : PySem.W.kitOne K (.ref a.c_Paid) (.ref a.c_Answer) = some true
  c_Short : mg "Short" = some (.ref a.c_Short)
  cl_Short : Cls K a.c_Short
  mk_Short : Mk K a.c_Short a.f_Short_init
  na_Short_owners : NoAttr K a.c_Short "owners"
  o_Short : G.OC K a.c_Short
  i_Short_Done : PySem.W.kitOne K (.ref a.c_Short) (.ref a.c_Done) = some false
  i_Short_Halt : PySem.W.kitOne K (.ref a.c_Short) (.ref a.c_Halt) = some false
  i_Short_Same : PySem.W.kitOne K (.ref a.c_Short) (.ref a.c_Same) = some false
  i_Short_Apart : PySem.W.kitOne K (.ref a.c_Short) (.ref a.c_Apart) = some false
  i_Short_Paid : PySem.W.kitOne K (.ref a.c_Short) (.ref a.c_Paid) = some false
  i_Short_Short : PySem.W.kitOne K (.ref a.c_Short) (.ref a.c_Short) = some true
  i_Short_Answer : PySem.W.kitOne K (.ref a.c_Short) (.ref a.c_Answer) = some true
  g_LETTERS : mg "LETTERS" = some (.str "abcdefghijklmnopqrstuvwxyz" a.t_LETTERS)
  g_MOST_PEOPLE : mg "MOST_PEOPLE" = some (.int 5 a.t_MOST_PEOPLE)
  g_MOST_WORD : mg "MOST_WORD" = some (.int 4 a.t_MOST_WORD)
  g_MOST_PRICE : mg "MOST_PRICE" = some (.int 20 a.t_MOST_PRICE)
  g_MOST_PIECES : mg "MOST_PIECES" = some (.int 3 a.t_MOST_PIECES)
  g_MOST_WISHES : mg "MOST_WISHES" = some (.int 8 a.t_MOST_WISHES)
  g_MOST_DEEDS : mg "MOST_DEEDS" = some (.int 30 a.t_MOST_DEEDS)
  g_SIZES : mg "SIZES" = some (.ref a.g_SIZES)
  d_SIZES : L2.KDict K w a.g_SIZES a.e_SIZES a.n_SIZES
  v_SIZES_wish : PySem.W.nsIn K a.g_SIZES "wish" = some (some (.int 5 a.t_SIZES_wish))
  v_SIZES_alter : PySem.W.nsIn K a.g_SIZES "alter" = some (some (.int 4 a.t_SIZES_alter))
  v_SIZES_drop : PySem.W.nsIn K a.g_SIZES "drop" = some (some (.int 3 a.t_SIZES_drop))
  v_SIZES_take : PySem.W.nsIn K a.g_SIZES "take" = some (some (.int 4 a.t_SIZES_take))
  v_SIZES_pledge : PySem.W.nsIn K a.g_SIZES "pledge" = some (some (.int 4 a.t_SIZES_pledge))
  v_SIZES_back : PySem.W.nsIn K a.g_SIZES "back" = some (some (.int 3 a.t_SIZES_back))
  v_SIZES_give : PySem.W.nsIn K a.g_SIZES "give" = some none
  n_all : mg "all" = none
  n_any : mg "any" = none
  n_bool : mg "bool" = none
  n_enumerate : mg "enumerate" = none
  n_int : mg "int" = none
  n_isinstance : mg "isinstance" = none
  n_len : mg "len" = none
  n_list : mg "list" = none
  n_max : mg "max" = none
  n_min : mg "min" = none
  n_range : mg "range" = none
  n_sorted : mg "sorted" = none
  n_str : mg "str" = none
  n_sum : mg "sum" = none
  n_tuple : mg "tuple" = none
  n_zip : mg "zip" = none
end PP

namespace PP
open PySem PySem.Spec PyProof.Rows L2 G
/-! numbers, words -/
/-- the known kinds of values -/
inductive Tv (K : PySem.W.Frag) (H : Hp) : V → String → Prop
  | non : Tv K H .non "NoneType"
  | bl (b : Bool) : Tv K H (.bl b) "bool"
  | int (i : Int) : Tv K H (.int i) "int"
  | str (x : Str) : Tv K H (.str x) "str"
  | lst {a : Addr} {xs : List V} (h : H a = some (.lst xs)) : Tv K H (.ref a) "list"
  | tup {a : Addr} {xs : List V} (h : H a = some (.tup xs)) : Tv K H (.ref a) "tuple"
  | dct {a : Addr} {kvs : List (Key × V)} (h : H a = some (.dK kvs)) : Tv K H (.ref a) "dict"
theorem Tv.tyx {K : PySem.W.Frag} {H : Hp} {x : V} {T : String} (h : Tv K H x T) : TyX K H x (.type T) := by
  cases h with
  | non => exact .base .non
  | bl b => exact .base (.bl b)
  | int i => exact .base (.int i)
  | str x => exact .base (.str x)
  | lst h => exact .base (.lst h)
  | tup h => exact .base (.tup h)
  | dct h => exact .base (.dK h)
theorem Tv.mono {K : PySem.W.Frag} {H H' : Hp} {x : V} {T : String} (e : Same H H') (h : Tv K H x T) : Tv K H' x T := by
  cases h with
  | non => exact .non
  | bl b => exact .bl b
  | int i => exact .int i
  | str x => exact .str x
  | lst h => exact .lst (e _ _ h)
  | tup h => exact .tup (e _ _ h)
  | dct h => exact .dct (e _ _ h)
def kinds : List String := ["NoneType", "bool", "int", "str", "list", "tuple", "dict"]
theorem Tv.mem {K : PySem.W.Frag} {H : Hp} {x : V} {T : String} (h : Tv K H x T) : T ∈ kinds := by
  cases h <;> decide
theorem kit_int : ∀ T ∈ kinds, kitB T "int" = some (T == "int" || T == "bool") := by decide +kernel
theorem kit_bool : ∀ T ∈ kinds, kitB T "bool" = some (T == "bool") := by decide +kernel
theorem kit_str : ∀ T ∈ kinds, kitB T "str" = some (T == "str") := by decide +kernel
theorem kit_list : ∀ T ∈ kinds, kitB T "list" = some (T == "list") := by decide +kernel
theorem kit_tuple : ∀ T ∈ kinds, kitB T "tuple" = some (T == "tuple") := by decide +kernel
theorem isi {K : PySem.W.Frag} {H : Hp} {x : V} {T : String} {n : String} {b : Bool} {Q : VK} (h : Tv K H x T) (k : kitB T n = some b) (q : Q (.bl b) H) : rIsi K [x, .ty n] H Q := ⟨x, .ty n, _, _, b, rfl, .ty n, h.tyx, kit_ty k, q⟩
theorem isW_of {K : PySem.W.Frag} {H : Hp} {x : V} {T : String} (h : Tv K H x T) : isW x = (T == "int") := by
  cases h <;> rfl
def sp_is_whole (K : PySem.W.Frag) : Sp := fun vs H Q _ => ∃ x T, vs = [x] ∧ Tv K H x T ∧ Q (.bl (isW x)) H
def sp_is_count (K : PySem.W.Frag) : Sp := fun vs H Q _ => ∃ x T lo hi, vs = [x, .int lo, .int hi] ∧ Tv K H x T ∧ Q (.bl (isC lo hi x)) H
def sp_is_word (K : PySem.W.Frag) : Sp := fun vs H Q _ => ∃ x T D Ms, vs = [x] ∧ Tv K H x T ∧ G.Ok H D Ms ∧ (∀ z, x = .str z → z.length ≤ 1000) ∧ ∀ H', G.Ok H' D Ms → Q (.bl (isWd x)) H'
section
variable {P : Program} {w : World} {K : PySem.W.Frag} {mg : Str → Option Value} {base : Heap} {a : A} {H D : Hp} {Q : VK} {E : XK} {Ms : List (List G.Cell)}
theorem u_is_whole {x : V} {T : String} (h : Tv K H x T) (q : Q (.bl (isW x)) H) : sp_is_whole K [x] H Q E := ⟨x, T, rfl, h, q⟩
theorem u_is_count {x : V} {T : String} {lo hi : Int} (h : Tv K H x T) (q : Q (.bl (isC lo hi x)) H) : sp_is_count K [x, .int lo, .int hi] H Q E := ⟨x, T, lo, hi, rfl, h, q⟩
theorem u_is_word {x : V} {T : String} (h : Tv K H x T) (o : G.Ok H D Ms) (l : ∀ z, x = .str z → z.length ≤ 1000) (q : ∀ H', G.Ok H' D Ms → Q (.bl (isWd x)) H') : sp_is_word K [x] H Q E := ⟨x, T, D, Ms, rfl, h, o, l, q⟩
theorem ok_is_whole (T : Txt w K mg a) : FnOk P w K mg base (L2.CX P w) 1 a.f_is_whole a.d_is_whole ["thing"] (sp_is_whole K) := by
  refine T.is_whole.F.okX sc_is_whole (fun vs H Q E h => ?_) (fun cdv A outer s H vs Q E hr h => ?_)
  · obtain ⟨x, t, rfl, _⟩ := h
    rfl
  · obtain ⟨x, t, rfl, hx, k⟩ := h
    refine ⟨_, (pss_one (ps_ret (pe_and (pe_callB (G.k_isi (K := K)) (by rfl) T.n_isinstance (by decide +kernel) (pa_cons (pv 0) (pa_cons (pe_bltn (v := .ty "int") (by rfl) T.n_int boot_int rfl) pa_nil))) (pe_one (pe_not (pe_callB (G.k_isi (K := K)) (by rfl) T.n_isinstance (by decide +kernel) (pa_cons (pv 0) (pa_cons (pe_bltn (v := .ty "bool") (by rfl) T.n_bool boot_bool rfl) pa_nil)))))))), ?_⟩
    walk_at "go"
    refine isi hx (kit_int _ hx.mem) ?_
    walk_at "go"
    refine G.r_ite (fun h1 => ?_) (fun h1 => ?_)
    · walk_at "go"
      refine isi hx (kit_bool _ hx.mem) ?_
      walk_at "go"
      have e : isW x = !(t == "bool") := by
        rw [isW_of hx]
        have := hx.mem
        revert h1
        cases hx <;> decide
      rw [← e]
      exact k
    · have e : isW x = false := by
        rw [isW_of hx]
        revert h1
        cases hx <;> decide
      rw [e] at k
      exact k
theorem ok_is_count (T : Txt w K mg a) : FnOk P w K mg base (L2.CX P w) 2 a.f_is_count a.d_is_count ["thing", "least", "most"] (sp_is_count K) := by
  refine T.is_count.F.okX sc_is_count (fun vs H Q E h => ?_) (fun cdv A outer s H vs Q E hr h => ?_)
  · obtain ⟨x, t, lo, hi, rfl, _⟩ := h
    rfl
  · obtain ⟨x, t, lo, hi, rfl, hx, k⟩ := h
    refine ⟨_, (pss_one (ps_ret (pe_and (pe_callS (ok_is_whole (K := K) T) (hr.mono (by decide)) rfl T.is_whole.g T.is_whole.k T.is_whole.b (fun σ => passAt (takes_of rfl rfl rfl rfl) σ) (pa_cons (pv 0) pa_nil)) (pe_one (pe_chain op_le op_le (pv 1) (pv 0) (pv 2)))))), ?_⟩
    walk_at "go"
    refine u_is_whole hx ?_
    walk_at "go"
    refine G.r_ite (fun h1 => ?_) (fun h1 => ?_)
    · obtain ⟨i, rfl⟩ : ∃ i, x = .int i := by
        cases hx <;> first | exact ⟨_, rfl⟩ | cases h1
      walk_at "go"
      refine G.r_ite (fun h2 => ?_) (fun h2 => ?_)
      · walk_at "go"
        have e : isC lo hi (.int i) = decide (i ≤ hi) := by rw [isC_int, h2]; rfl
        rw [← e]
        exact k
      · have e : isC lo hi (.int i) = false := by rw [isC_int, h2]; rfl
        rw [← e]
        exact k
    · have e : isC lo hi x = false := by
        cases hx <;> first | rfl | cases h1
      rw [e] at k
      exact k
theorem ok_is_word (T : Txt w K mg a) : FnOk P w K mg base (L2.CX P w) 1 a.f_is_word a.d_is_word ["thing"] (sp_is_word K) := by
  refine T.is_word.F.okX sc_is_word (fun vs H Q E h => ?_) (fun cdv A outer s H vs Q E hr h => ?_)
  · obtain ⟨x, t, D, Ms, rfl, _⟩ := h
    rfl
  · obtain ⟨x, t, D, Ms, rfl, hx, o, hl, k⟩ := h
    refine ⟨_, (pss_cons (ps_if (PW.pt (pw_or (pt_not (pt_val (pe_callB (G.k_isi (K := K)) (by rfl) T.n_isinstance (by decide +kernel) (pa_cons (pv 0) (pa_cons (pe_bltn (v := .ty "str") (by rfl) T.n_str boot_str rfl) pa_nil))))) (pw_or1 (pt_not (pt_chain op_le op_le pe_int (pe_callB (G.k_lenU (K := K)) (by rfl) T.n_len (by decide +kernel) (pa_cons (pv 0) pa_nil)) (pe_glob (v := .int 4) rfl T.g_MOST_WORD ⟨_, rfl⟩)))))) (pss_one (ps_ret pe_bl)) pss_nil)
  (pss_one (ps_ret (pe_callB (G.k_all (K := K) rfl) (by rfl) T.n_all (by decide +kernel) (pa_cons (pe_lc (own := [("sign", 1)]) (g := (gName 1)) (tt := tYes) rfl sc_is_word.nd (pi_str (pv 0)) (blkOk_by (own := [("sign", 1)]) (N := ["thing", "sign"]) (sc := defScope s_is_word) (by decide +kernel)) (fun _ _ _ _ _ => (pg_name (i := 1) sc_is_word.nd rfl (by first | exact Or.inl rfl | exact Or.inr rfl))) (fun _ _ _ _ _ => pts_nil) (fun _ _ _ _ _ => (pe_cmpR (G.k_inU (K := K) hr) (pv 1) (pe_glob (v := .str "abcdefghijklmnopqrstuvwxyz") rfl T.g_LETTERS ⟨_, rfl⟩) (by first | rfl | exact nomark _)))) pa_nil))))), ?_⟩
    walk_at "go"
    refine isi hx (kit_str _ hx.mem) ?_
    walk_at "go"
    refine G.r_ite (fun h1 => ?_) (fun h1 => ?_)
    · have e : isWd x = false := by
        cases hx <;> first | rfl | cases h1
      walk_at "go"
      rw [← e]
      exact k _ o
    · obtain ⟨z, rfl⟩ : ∃ z, x = .str z := by
        cases hx <;> first | exact ⟨_, rfl⟩ | cases h1
      have hz := hl z rfl
      walk_at "go"
      refine G.r_lenS (Nat.le_trans hz (by decide)) ?_
      have fal : okWord z = false → ∀ H', G.Ok H' D Ms → Q (.bl false) H' := fun e H' o' => by
        have q := k H' o'
        rw [show isWd (.str z) = false from e] at q
        exact q
      walk_at "go"
      refine G.r_ite (fun h2 => ?_) (fun h2 => ?_)
      · walk_at "go"
        refine G.r_ite (fun h3 => ?_) (fun h3 => ?_)
        · have h4 : decide ((z.length : Int) ≤ 4) = false := by
            cases e : decide ((z.length : Int) ≤ 4)
            · rfl
            · rw [e] at h3
              cases h3
          walk_at "go"
          exact fal (by unfold okWord; rw [h4, Bool.and_false]; rfl) _ o
        · have h4 : decide ((z.length : Int) ≤ 4) = true := by
            cases e : decide ((z.length : Int) ≤ 4)
            · rw [e] at h3
              cases h3
            · rfl
          walk_at "go"
          refine G.lcMap (fun i => V.bl (decide (z.cps.toList.getD i 0 ∈ lets))) walk_str o (Nat.le_trans hz (by decide)) (fun _ _ _ _ => trivial) ?_ ?_
          · rintro i x L acc H' H'' Ny Nn hi o' ⟨rfl, c, hc, rfl⟩ q
            walk_at "go"
            refine ⟨rfl, ?_⟩
            walk_at "go"
            refine G.r_inC ?_
            have e : c = z.cps.toList.getD i 0 := by
              rw [List.getD_eq_getElem?_getD, Array.getElem?_toList, hc]
              rfl
            rw [e]
            exact q _ o'
          · intro L H' o'
            walk_at "go"
            refine G.r_all (bs := z.cps.toList.map fun c => decide (c ∈ lets)) (SqL.of (o'.at1 (.head _))) ?_ ?_
            · rw [List.map_map]
              refine List.ext_getElem (by simp) fun j h5 h6 => ?_
              simp at h5
              simp [h5]
            · have e : isWd (.str z) = ((z.cps.toList.map fun c => decide (c ∈ lets)).all id) := by
                show okWord z = _
                unfold okWord
                rw [h2, h4, List.all_map]
                rfl
              rw [← e]
              exact k _ o'.drop
      · walk_at "go"
        exact fal (by unfold okWord; rw [h2]; rfl) _ o
end
end PP

namespace PP
open PySem PySem.Spec PyProof.Rows L2 G
/-! the class Wish -/
def sp_Wish_init (a : A) : Sp := fun vs H Q _ => ∃ (D : Hp) (R : List (List Cell)) (p dx : Addr) (o : Int) (z : Str) (pr m : Int), vs = [.ref p, .int o, .str z, .int pr, .int m] ∧ Ok H D ([(p, .ins a.c_Wish dx [])] :: R) ∧
  ∀ H' t q, Ok H' D (cW a.c_Wish ⟨p, dx, t, q⟩ ⟨o, z, pr, m, true, [], []⟩ :: R) → Q .non H'
def sp_Wish_free (a : A) : Sp := fun vs H Q _ => ∃ (D : Hp) (R : List (List Cell)) (x : WA) (w : W), vs = [.ref x.p] ∧ Ok H D (cW a.c_Wish x w :: R) ∧ WOk w ∧ ∀ H', Ok H' D (cW a.c_Wish x w :: R) → Q (.int (free w)) H'
def sp_Wish_lacking (a : A) : Sp := fun vs H Q _ => ∃ (D : Hp) (R : List (List Cell)) (x : WA) (w : W), vs = [.ref x.p] ∧ Ok H D (cW a.c_Wish x w :: R) ∧ WOk w ∧ ∀ H', Ok H' D (cW a.c_Wish x w :: R) → Q (.int (lacking w)) H'
def sp_Wish_done (a : A) : Sp := fun vs H Q _ => ∃ (D : Hp) (R : List (List Cell)) (x : WA) (w : W), vs = [.ref x.p] ∧ Ok H D (cW a.c_Wish x w :: R) ∧ WOk w ∧ ∀ H' D' T L1 L2 as1 as2, Ok H' D' ([(L1, .lst (as1.map V.ref)), (L2, .lst (as2.map V.ref))] :: cW a.c_Wish x w :: R) → Same D D' →
  D' T = some (.tup [.bl w.st, .ref L1, .ref L2]) → Prs D' as1 (srt w.tk) → Prs D' as2 (srt w.pl) → Q (.ref T) H'
section
variable {P : Program} {w : World} {K : PySem.W.Frag} {mg : Str → Option Value} {base : Heap} {a : A} {H D : Hp} {Q : VK} {E : XK} {Ms : List (List G.Cell)}
theorem ok_Wish_init (T : Txt w K mg a) : FnOk P w K mg base (L2.CX P w) 1 a.f_Wish_init a.d_Wish_init ["self", "owner", "word", "price", "many"] (sp_Wish_init a) := by
  refine T.Wish_init.F.okX sc_Wish_init (fun vs H Q E h => ?_) (fun cdv A outer s H vs Q E hr h => ?_)
  · obtain ⟨D, R, p, dx, o, z, pr, m, rfl, _⟩ := h
    rfl
  · obtain ⟨D, R, p, dx, ow, z, pr, m, rfl, o, k⟩ := h
    have := T.cl_Wish; have := T.na_Wish_owner; have := T.na_Wish_word; have := T.na_Wish_price; have := T.na_Wish_many; have := T.na_Wish_stands; have := T.na_Wish_takings; have := T.na_Wish_pledges
    refine ⟨_, (pss_cons (G.k_sfld (K := K) (pv 0) (pv 1) rfl)
  (pss_cons (G.k_sfld (K := K) (pv 0) (pv 2) rfl)
  (pss_cons (G.k_sfld (K := K) (pv 0) (pv 3) rfl)
  (pss_cons (G.k_sfld (K := K) (pv 0) (pv 4) rfl)
  (pss_cons (G.k_sfld (K := K) (pv 0) pe_bl rfl)
  (pss_cons (G.k_sfld (K := K) (pv 0) pe_dnewK rfl)
  (pss_one (G.k_sfld (K := K) (pv 0) pe_dnewK rfl)))))))), ?_⟩
    walk_at "go"
    exact k _ _ _ (Ok.shutW (by walk_at "fin"))
theorem ok_Wish_free (T : Txt w K mg a) : FnOk P w K mg base (L2.CX P w) 1 a.f_Wish_free a.d_Wish_free ["self"] (sp_Wish_free a) := by
  refine T.Wish_free.F.okX sc_Wish_free (fun vs H Q E h => ?_) (fun cdv A outer s H vs Q E hr h => ?_)
  · obtain ⟨D, R, x, w, rfl, _⟩ := h
    rfl
  · obtain ⟨D, R, x, w, rfl, o, hw, k⟩ := h
    have := T.cl_Wish; have := T.na_Wish_owner; have := T.na_Wish_word; have := T.na_Wish_price; have := T.na_Wish_many; have := T.na_Wish_stands; have := T.na_Wish_takings; have := T.na_Wish_pledges
    refine ⟨_, (pss_cons (ps_set (i := 1) sc_Wish_free.nd rfl (by first | exact Or.inl rfl | exact Or.inr rfl) (pe_op (G.k_addU (K := K)) (pe_callB (G.k_sum (K := K) rfl) (by rfl) T.n_sum (by decide +kernel) (pa_cons (pe_lock (pe_lc (own := [("person", 2)]) (g := (gName 2)) (tt := tYes) rfl sc_Wish_free.nd (pi_keys (G.k_fld (K := K) (pv 0) rfl)) (blkOk_by (own := [("person", 2)]) (N := ["self", "held", "person"]) (sc := defScope s_Wish_free) (by decide +kernel)) (fun _ _ _ _ _ => (pg_name (i := 2) sc_Wish_free.nd rfl (by first | exact Or.inl rfl | exact Or.inr rfl))) (fun _ _ _ _ _ => pts_nil) (fun _ _ _ _ _ => (pe_ix (G.k_ixU (K := K) (hu_of hr)) (G.k_fld (K := K) (pv 0) rfl) (pv 2) (fun _ _ => rfl))))) pa_nil)) (pe_callTy call_int1 (by rfl) T.n_int (by decide +kernel) (pa_cons (pe_cmpR (G.k_neU (K := K) hr) (G.k_fld (K := K) (pv 0) rfl) pe_dnewK (nomark _)) pa_nil))))
  (pss_one (ps_ret (pe_callB (call_max2 rfl) (by rfl) T.n_max (by decide +kernel) (pa_cons pe_int (pa_cons (pe_op op_sub (G.k_fld (K := K) (pv 0) rfl) (pv 1)) pa_nil)))))), ?_⟩
    have o := o.openW
    walk_at "go"
    refine comp_self (l := w.tk) (fun x => rfl) rfl o (.there .here) (.head _) (by assumption) (by assumption) rfl hw.nt (Nat.le_trans hw.lt (by decide)) (fun L H1 o1 => ?_) rfl
    walk_at "go"
    refine r_sumAL (SqL.of (o1.at1 (.tail _ (.head _)))) ?_
    walk_at "go"
    have e : free w = if w.many - (alSum w.tk + if (!(kvs w.pl).isEmpty) = true then 1 else 0) > 0 then w.many - (alSum w.tk + if (!(kvs w.pl).isEmpty) = true then 1 else 0) else 0 := by
      unfold free held
      rw [kvs_isEmpty]
      cases w.pl <;> rfl
    rw [e] at k
    exact k _ (Ok.shutW (by walk_at "fin"))
theorem ok_Wish_lacking (T : Txt w K mg a) : FnOk P w K mg base (L2.CX P w) 1 a.f_Wish_lacking a.d_Wish_lacking ["self"] (sp_Wish_lacking a) := by
  refine T.Wish_lacking.F.okX sc_Wish_lacking (fun vs H Q E h => ?_) (fun cdv A outer s H vs Q E hr h => ?_)
  · obtain ⟨D, R, x, w, rfl, _⟩ := h
    rfl
  · obtain ⟨D, R, x, w, rfl, o, hw, k⟩ := h
    have := T.cl_Wish; have := T.na_Wish_owner; have := T.na_Wish_word; have := T.na_Wish_price; have := T.na_Wish_many; have := T.na_Wish_stands; have := T.na_Wish_takings; have := T.na_Wish_pledges
    refine ⟨_, (pss_one (ps_ret (pe_op op_sub (G.k_fld (K := K) (pv 0) rfl) (pe_callB (G.k_sum (K := K) rfl) (by rfl) T.n_sum (by decide +kernel) (pa_cons (pe_lock (pe_lc (own := [("person", 1)]) (g := (gName 1)) (tt := tYes) rfl sc_Wish_lacking.nd (pi_keys (G.k_fld (K := K) (pv 0) rfl)) (blkOk_by (own := [("person", 1)]) (N := ["self", "person"]) (sc := defScope s_Wish_lacking) (by decide +kernel)) (fun _ _ _ _ _ => (pg_name (i := 1) sc_Wish_lacking.nd rfl (by first | exact Or.inl rfl | exact Or.inr rfl))) (fun _ _ _ _ _ => pts_nil) (fun _ _ _ _ _ => (pe_ix (G.k_ixU (K := K) (hu_of hr)) (G.k_fld (K := K) (pv 0) rfl) (pv 1) (fun _ _ => rfl))))) pa_nil))))), ?_⟩
    have o := o.openW
    walk_at "go"
    refine comp_self (l := w.pl) (fun x => rfl) rfl o (.there (.there .here)) (.head _) (by assumption) (by assumption) rfl hw.np (Nat.le_trans hw.lp (by decide)) (fun L H1 o1 => ?_) rfl
    walk_at "go"
    refine r_sumAL (SqL.of (o1.at1 (.tail _ (.head _)))) ?_
    walk_at "go"
    exact k _ (Ok.shutW (by walk_at "fin"))
theorem ok_Wish_done (T : Txt w K mg a) : FnOk P w K mg base (L2.CX P w) 1 a.f_Wish_done a.d_Wish_done ["self"] (sp_Wish_done a) := by
  refine T.Wish_done.F.okX sc_Wish_done (fun vs H Q E h => ?_) (fun cdv A outer s H vs Q E hr h => ?_)
  · obtain ⟨D, R, x, w, rfl, _⟩ := h
    rfl
  · obtain ⟨D, R, x, w, rfl, o, hw, k⟩ := h
    have := T.cl_Wish; have := T.na_Wish_owner; have := T.na_Wish_word; have := T.na_Wish_price; have := T.na_Wish_many; have := T.na_Wish_stands; have := T.na_Wish_takings; have := T.na_Wish_pledges
    refine ⟨_, (pss_cons (ps_setLc (i := 1) (own := [("person", 3)]) (g := (gName 3)) (tt := tYes) rfl sc_Wish_done.nd rfl rfl (sw_true rfl rfl rfl (by decide +kernel)) (G.k_seq (K := K) (pe_callB (G.k_sorted (K := K) rfl) (by rfl) T.n_sorted (by decide +kernel) (pa_cons (G.k_fld (K := K) (pv 0) rfl) pa_nil))) (blkOk_by (own := [("person", 3)]) (N := ["self", "takings", "pledges", "person"]) (sc := defScope s_Wish_done) (by decide +kernel)) (fun _ _ _ _ _ => (pg_name (i := 3) sc_Wish_done.nd rfl (by first | exact Or.inl rfl | exact Or.inr rfl))) (fun _ _ _ _ _ => pts_nil) (fun _ _ _ _ _ => (pe_tup (pa_cons (pv 3) (pa_cons (pe_ix (G.k_ixU (K := K) (hu_of hr)) (G.k_fld (K := K) (pv 0) rfl) (pv 3) (fun _ _ => rfl)) pa_nil)))))
  (pss_cons (ps_setLc (i := 2) (own := [("person", 3)]) (g := (gName 3)) (tt := tYes) rfl sc_Wish_done.nd rfl rfl (sw_true rfl rfl rfl (by decide +kernel)) (G.k_seq (K := K) (pe_callB (G.k_sorted (K := K) rfl) (by rfl) T.n_sorted (by decide +kernel) (pa_cons (G.k_fld (K := K) (pv 0) rfl) pa_nil))) (blkOk_by (own := [("person", 3)]) (N := ["self", "takings", "pledges", "person"]) (sc := defScope s_Wish_done) (by decide +kernel)) (fun _ _ _ _ _ => (pg_name (i := 3) sc_Wish_done.nd rfl (by first | exact Or.inl rfl | exact Or.inr rfl))) (fun _ _ _ _ _ => pts_nil) (fun _ _ _ _ _ => (pe_tup (pa_cons (pv 3) (pa_cons (pe_ix (G.k_ixU (K := K) (hu_of hr)) (G.k_fld (K := K) (pv 0) rfl) (pv 3) (fun _ _ => rfl)) pa_nil)))))
  (pss_one (ps_ret (pe_tup (pa_cons (G.k_fld (K := K) (pv 0) rfl) (pa_cons (pv 1) (pa_cons (pv 2) pa_nil)))))))), ?_⟩
    have o := o.openW
    refine r_seq ?_
    refine comp_pairs (l := w.tk) rfl (fun x => rfl) rfl o (.tail _ (.head _)) (.head _) (by assumption) (by assumption) rfl hw.nt hw.lt (fun L1 H1 D1 as1 o1 s1 p1 => ?_)
    refine r_seq ?_
    refine comp_pairs (l := w.pl) rfl (fun x => rfl) rfl o1 (.tail _ (.tail _ (.tail _ (.head _)))) (.tail _ (.head _)) (by assumption) (by assumption) rfl hw.np hw.lp (fun L2 H2 D2 as2 o2 s2 p2 => ?_)
    walk_at "go"
    rename_i TT H3 o3
    obtain ⟨o4, s4, e4⟩ := o3.frz
    refine k _ _ TT L1 L2 as1 as2 ?_ ((s1.trans s2).trans s4) (e4 _ (.head _)) (p1.mono (s2.trans s4)) (p2.mono s4)
    refine o4.re ?_
    simp [cW]
    exact .swap _ _ _
end
end PP

namespace PP
open PySem PySem.Spec PyProof.Rows L2 G
/-! the class Gifts -/
structure GR where
  g : Addr
  dx : Addr
  l : Addr
  pe : Int
  xs : XS
def cGr (a : A) (Y : GR) : List Cell := cG a.c_Gifts a.c_Wish Y.g Y.dx Y.l Y.pe Y.xs
structure GOk (Y : GR) : Prop where
  w : ∀ x ∈ Y.xs, WOk x.2
  n : Y.xs.length ≤ 8
  p : 1 ≤ Y.pe ∧ Y.pe ≤ 5
def clsOf (a : A) : Err → Addr
  | .people => a.c_BadPeople
  | .person => a.c_BadPerson
  | .word => a.c_BadWord
  | .price => a.c_BadPrice
  | .many => a.c_BadMany
  | .wish => a.c_BadWish
  | .amount => a.c_BadAmount
  | .none => a.c_NoneFree
  | .much => a.c_TooMuch
  | .toomany => a.c_TooMany
theorem nt {b : Bool} (h : (!b) = true) : b = false := by cases b <;> first | rfl | cases h
theorem nf {b : Bool} (h : (!b) = false) : b = true := by cases b <;> first | rfl | cases h
def sp_Gifts_init (K : PySem.W.Frag) (a : A) : Sp := fun vs H Q E => ∃ (D : Hp) (R : List (List Cell)) (g dx : Addr) (p : V) (t : String), vs = [.ref g, p] ∧ Ok H D ([(g, .ins a.c_Gifts dx [])] :: R) ∧ Tv K D p t ∧
  (isC 1 5 p = true → ∀ H' l, Ok H' D (cGr a ⟨g, dx, l, intOf p, []⟩ :: R) → Q .non H') ∧ (isC 1 5 p = false → ∀ H', Ok H' D R → E (.ref a.c_BadPeople) none H')
def sp_look_at (K : PySem.W.Frag) (a : A) : Sp := fun vs H Q E => ∃ (D : Hp) (R : List (List Cell)) (Y : GR) (p : V) (t : String), vs = [.ref Y.g, p] ∧ Ok H D (cGr a Y :: R) ∧ Tv K D p t ∧
  (isC 0 (Y.pe - 1) p = true → ∀ H', Ok H' D (cGr a Y :: R) → Q .non H') ∧ (isC 0 (Y.pe - 1) p = false → ∀ H', Ok H' D (cGr a Y :: R) → E (.ref a.c_BadPerson) none H')
def sp_find (K : PySem.W.Frag) (a : A) (f : Int → List W → V → V → Except Err (Nat × W)) : Sp := fun vs H Q E => ∃ (D : Hp) (R : List (List Cell)) (Y : GR) (p n : V) (t u : String), vs = [.ref Y.g, p, n] ∧ Ok H D (cGr a Y :: R) ∧ Tv K D p t ∧ Tv K D n u ∧ GOk Y ∧
  (∀ i x, f Y.pe (wsOf Y.xs) p n = .ok (i, x.2) → Y.xs[i]? = some x → ∀ H', Ok H' D (cGr a Y :: R) → Q (.ref x.1.p) H') ∧ (∀ e, f Y.pe (wsOf Y.xs) p n = .error e → ∀ H', Ok H' D (cGr a Y :: R) → E (.ref (clsOf a e)) none H')
section
variable {P : Program} {w : World} {K : PySem.W.Frag} {mg : Str → Option Value} {base : Heap} {a : A} {H D : Hp} {Q : VK} {E : XK} {Ms R : List (List G.Cell)}
theorem openGr {Y : GR} (o : Ok H D (cGr a Y :: R)) : Ok H D ([(Y.g, .ins a.c_Gifts Y.dx (gF Y.pe Y.l))] :: [(Y.l, .lst (refs Y.xs))] :: WS a.c_Wish Y.xs :: R) := o.openG
theorem shutGr {Y : GR} (o : Ok H D ([(Y.g, .ins a.c_Gifts Y.dx (gF Y.pe Y.l))] :: [(Y.l, .lst (refs Y.xs))] :: WS a.c_Wish Y.xs :: R)) : Ok H D (cGr a Y :: R) := o.shutG
theorem g_me {Y : GR} {m : Str} {P : Prop} (o : Ok H D Ms) (k : cGr a Y ∈ Ms) (l : (gF Y.pe Y.l).lookup m = none) (q : P) : ∃ b dx fs, V.ref Y.g = .ref b ∧ H b = some (.ins a.c_Gifts dx fs) ∧ fs.lookup m = none ∧ P := ⟨Y.g, Y.dx, _, rfl, o.atC k (.head _), l, q⟩
local macro_rules | `(tactic| walk_at "g3") => `(tactic| ((with_reducible refine' g_me (by assumption) ?k ?l ?_); (case k => walk_at "mem"); (case l => rfl)))
theorem ok_Gifts_init (T : Txt w K mg a) : FnOk P w K mg base (L2.CX P w) 3 a.f_Gifts_init a.d_Gifts_init ["self", "people"] (sp_Gifts_init K a) := by
  refine T.Gifts_init.F.okX sc_Gifts_init (fun vs H Q E h => ?_) (fun cdv A outer s H vs Q E hr h => ?_)
  · obtain ⟨D, R, g, dx, p, t, rfl, _⟩ := h
    rfl
  · obtain ⟨D, R, g, dx, p, t, rfl, o, hp, k1, k2⟩ := h
    have := T.cl_Gifts; have := T.na_Gifts_people; have := T.na_Gifts_wishes
    refine ⟨_, (pss_cons (ps_if (pt_not (pt_val (pe_callS (ok_is_count (K := K) T) (hr.mono (by decide)) rfl T.is_count.g T.is_count.k T.is_count.b (fun σ => passAt (takes_of rfl rfl rfl rfl) σ) (pa_cons (pv 1) (pa_cons pe_int (pa_cons (pe_glob (v := .int 5) rfl T.g_MOST_PEOPLE ⟨_, rfl⟩) pa_nil)))))) (pss_one (ps_raise rfl (takes_of rfl rfl rfl rfl) (pmk_own PySem.F.excBase_ValueError T.x_BadPeople.x T.x_BadPeople.g T.x_BadPeople.k (raises_own T.x_BadPeople.b T.x_BadPeople.t) rfl))) pss_nil)
  (pss_cons (G.k_sfld (K := K) (pv 0) (pv 1) rfl)
  (pss_one (G.k_sfld (K := K) (pv 0) (pe_lst pa_nil) rfl)))), ?_⟩
    walk_at "go"
    refine u_is_count (hp.mono o.sub) ?_
    walk_at "go"
    refine r_ite (fun h1 => ?_) (fun h1 => ?_)
    · walk_at "go"
      exact k2 (nt h1) _ o.drop
    · obtain ⟨i, rfl, _⟩ := isC_is (nf h1)
      walk_at "go"
      exact k1 (nf h1) _ _ (shutGr (by
        simp only [WS, refs, List.flatMap_nil, List.map_nil]
        exact Ok.sel (Ok.nil (by assumption)) (.pick (.there .here) (.pick (.there .here) (.pick .here (.done .here))))))
theorem ok_Gifts_look_at (T : Txt w K mg a) : FnOk P w K mg base (L2.CX P w) 3 a.f_Gifts_look_at a.d_Gifts_look_at ["self", "person"] (sp_look_at K a) := by
  refine T.Gifts_look_at.F.okX sc_Gifts_look_at (fun vs H Q E h => ?_) (fun cdv A outer s H vs Q E hr h => ?_)
  · obtain ⟨D, R, Y, p, t, rfl, _⟩ := h
    rfl
  · obtain ⟨D, R, Y, p, t, rfl, o, hp, k1, k2⟩ := h
    have := T.cl_Gifts; have := T.na_Gifts_people; have := T.na_Gifts_wishes
    refine ⟨_, (pss_one (ps_if (pt_not (pt_val (pe_callS (ok_is_count (K := K) T) (hr.mono (by decide)) rfl T.is_count.g T.is_count.k T.is_count.b (fun σ => passAt (takes_of rfl rfl rfl rfl) σ) (pa_cons (pv 1) (pa_cons pe_int (pa_cons (pe_op op_sub (G.k_fld (K := K) (pv 0) rfl) pe_int) pa_nil)))))) (pss_one (ps_raise rfl (takes_of rfl rfl rfl rfl) (pmk_own PySem.F.excBase_ValueError T.x_BadPerson.x T.x_BadPerson.g T.x_BadPerson.k (raises_own T.x_BadPerson.b T.x_BadPerson.t) rfl))) pss_nil)), ?_⟩
    have o := openGr o
    walk_at "go"
    refine u_is_count (hp.mono o.sub) ?_
    walk_at "go"
    refine r_ite (fun h1 => ?_) (fun h1 => ?_)
    · walk_at "go"
      exact k2 (nt h1) _ (shutGr o)
    · walk_at "go"
      exact k1 (nf h1) _ (shutGr o)
theorem u_look_at {Y : GR} {p : V} {t : String} (o : Ok H D Ms) (k : Pk Ms (cGr a Y) R) (h : Tv K D p t) (q1 : isC 0 (Y.pe - 1) p = true → ∀ H', Ok H' D (cGr a Y :: R) → Q .non H') (q2 : isC 0 (Y.pe - 1) p = false → ∀ H', Ok H' D (cGr a Y :: R) → E (.ref a.c_BadPerson) none H') :
    sp_look_at K a [.ref Y.g, p] H Q E := ⟨D, R, Y, p, t, rfl, o.pk k, h, q1, q2⟩
theorem openAt {Y : GR} {i : Nat} {x : WA × W} (o : Ok H D (cGr a Y :: R)) (h : Y.xs[i]? = some x) : Ok H D ([(x.1.p, .ins a.c_Wish x.1.dx (wishF x.2 x.1.t x.1.q))] :: [(x.1.t, .dK (kvs x.2.tk))] :: [(x.1.q, .dK (kvs x.2.pl))] :: [(Y.g, .ins a.c_Gifts Y.dx (gF Y.pe Y.l))] :: [(Y.l, .lst (refs Y.xs))] :: WSx a.c_Wish Y.xs i :: R) :=
  (Ok.openW (((openGr o).pk (.there (.there .here))).openI h)).sel (.pick .here (.pick .here (.pick .here (.pick (.there .here) (.pick (.there .here) (.pick .here (.done .here)))))))
theorem shutAt {Y : GR} {i : Nat} {x : WA × W} {w' : W} (h : Y.xs[i]? = some x) (o : Ok H D ([(x.1.p, .ins a.c_Wish x.1.dx (wishF w' x.1.t x.1.q))] :: [(x.1.t, .dK (kvs w'.tk))] :: [(x.1.q, .dK (kvs w'.pl))] :: [(Y.g, .ins a.c_Gifts Y.dx (gF Y.pe Y.l))] :: [(Y.l, .lst (refs Y.xs))] :: WSx a.c_Wish Y.xs i :: R)) :
    Ok H D (cGr a { Y with xs := Y.xs.set i (x.1, w') } :: R) := by
  refine shutGr (Y := { Y with xs := Y.xs.set i (x.1, w') }) ?_
  have o1 : Ok H D (cW a.c_Wish (x.1, w').1 (x.1, w').2 :: WSx a.c_Wish Y.xs i :: [(Y.g, .ins a.c_Gifts Y.dx (gF Y.pe Y.l))] :: [(Y.l, .lst (refs Y.xs))] :: R) :=
    (Ok.shutW o).sel (.pick .here (.pick (.there (.there .here)) (.pick .here (.pick .here (.done .here)))))
  have o2 := o1.shutI (List.getElem?_eq_some_iff.mp h).1
  show Ok H D (_ :: [(Y.l, .lst (refs (Y.xs.set i (x.1, w'))))] :: _ :: R)
  rw [refs_set (x' := (x.1, w')) h rfl]
  exact o2.sel (.pick (.there .here) (.pick (.there .here) (.pick .here (.done .here))))
theorem ok_Gifts_own_wish (T : Txt w K mg a) : FnOk P w K mg base (L2.CX P w) 4 a.f_Gifts_own_wish a.d_Gifts_own_wish ["self", "owner", "wish"] (sp_find K a ownAt) := by
  refine T.Gifts_own_wish.F.okX sc_Gifts_own_wish (fun vs H Q E h => ?_) (fun cdv A outer s H vs Q E hr h => ?_)
  · obtain ⟨D, R, Y, p, n, t, u, rfl, _⟩ := h
    rfl
  · obtain ⟨D, R, Y, p, n, t, u, rfl, o, hp, hn, hY, k1, k2⟩ := h
    have := T.cl_Gifts; have := T.na_Gifts_people; have := T.na_Gifts_wishes; have := T.cl_Wish; have := T.na_Wish_owner; have := T.na_Wish_word; have := T.na_Wish_price; have := T.na_Wish_many; have := T.na_Wish_stands; have := T.na_Wish_takings; have := T.na_Wish_pledges
    refine ⟨_, (pss_cons (ps_expr (G.pe_me (pv 0) T.cl_Gifts T.Gifts_look_at.m (ok_Gifts_look_at (K := K) T) (hr.mono (by decide)) T.Gifts_look_at.b (passes_call (takes_of rfl rfl rfl rfl) (fun _ _ _ _ h => h)) (pa_cons (pv 1) pa_nil)))
  (pss_cons (ps_if (pt_not (pt_val (pe_callS (ok_is_count (K := K) T) (hr.mono (by decide)) rfl T.is_count.g T.is_count.k T.is_count.b (fun σ => passAt (takes_of rfl rfl rfl rfl) σ) (pa_cons (pv 2) (pa_cons pe_int (pa_cons (pe_op op_sub (pe_callB (G.k_lenU (K := K)) (by rfl) T.n_len (by decide +kernel) (pa_cons (G.k_fld (K := K) (pv 0) rfl) pa_nil)) pe_int) pa_nil)))))) (pss_one (ps_raise rfl (takes_of rfl rfl rfl rfl) (pmk_own PySem.F.excBase_ValueError T.x_BadWish.x T.x_BadWish.g T.x_BadWish.k (raises_own T.x_BadWish.b T.x_BadWish.t) rfl))) pss_nil)
  (pss_cons (ps_set (i := 3) sc_Gifts_own_wish.nd rfl (by first | exact Or.inl rfl | exact Or.inr rfl) (pe_ix (G.k_ixU (K := K) (hu_of hr)) (G.k_fld (K := K) (pv 0) rfl) (pv 2) (fun _ _ => rfl)))
  (pss_cons (ps_if (PW.pt (pw_or (pt_cmpR (G.k_neU (K := K) hr) (G.k_fld (K := K) (pv 3) rfl) (pv 1) (nomark _)) (pw_or1 (pt_not (pt_val (G.k_fld (K := K) (pv 3) rfl)))))) (pss_one (ps_raise rfl (takes_of rfl rfl rfl rfl) (pmk_own PySem.F.excBase_ValueError T.x_BadWish.x T.x_BadWish.g T.x_BadWish.k (raises_own T.x_BadWish.b T.x_BadWish.t) rfl))) pss_nil)
  (pss_one (ps_ret (pv 3))))))), ?_⟩
    walk_at "go"
    refine u_look_at o .here hp (fun h1 H1 o1 => ?_) (fun h1 H1 o1 => k2 .person (ownAt_p h1) _ o1)
    have o2 := openGr o1
    walk_at "go"
    refine u_is_count (hn.mono o2.sub) ?_
    rw [show ((refs Y.xs).length : Int) = ((wsOf Y.xs).length : Int) by rw [refs_len, wsOf_len]]
    walk_at "go"
    refine r_ite (fun h2 => ?_) (fun h2 => ?_)
    · walk_at "go"
      exact k2 .wish (ownAt_w h1 (nt h2)) _ o1
    · have h2 := nf h2
      obtain ⟨j, rfl, _⟩ := isC_is h1
      obtain ⟨m, rfl, h3, h4⟩ := isC_is h2
      obtain ⟨x, hx⟩ : ∃ x, Y.xs[m.toNat]? = some x := ⟨_, List.getElem?_eq_getElem (by rw [wsOf_len] at h4; omega)⟩
      have ef := ownAt_e (x := x.2) h1 h2 (by rw [wsOf_get, hx]; rfl)
      walk_at "go"
      refine r_ixL (SqL.of (o2.at1 (.tail _ (.head _)))) (at_wish h3 hx) ?_
      have o3 := openAt o1 hx
      walk_at "go"
      rw [decV]
      refine r_ite (fun h5 => ?_) (fun h5 => ?_)
      · walk_at "go"
        exact k2 .wish (by rw [ef, h5]; rfl) _ o1
      · walk_at "go"
        refine r_ite (fun h6 => ?_) (fun h6 => ?_)
        · walk_at "go"
          exact k2 .wish (by rw [ef, h5, h6]; rfl) _ o1
        · walk_at "go"
          exact k1 _ x (by rw [ef, h5, h6]; rfl) hx _ o1
theorem ok_Gifts_other_wish (T : Txt w K mg a) : FnOk P w K mg base (L2.CX P w) 4 a.f_Gifts_other_wish a.d_Gifts_other_wish ["self", "person", "wish"] (sp_find K a otherAt) := by
  refine T.Gifts_other_wish.F.okX sc_Gifts_other_wish (fun vs H Q E h => ?_) (fun cdv A outer s H vs Q E hr h => ?_)
  · obtain ⟨D, R, Y, p, n, t, u, rfl, _⟩ := h
    rfl
  · obtain ⟨D, R, Y, p, n, t, u, rfl, o, hp, hn, hY, k1, k2⟩ := h
    have := T.cl_Gifts; have := T.na_Gifts_people; have := T.na_Gifts_wishes; have := T.cl_Wish; have := T.na_Wish_owner; have := T.na_Wish_word; have := T.na_Wish_price; have := T.na_Wish_many; have := T.na_Wish_stands; have := T.na_Wish_takings; have := T.na_Wish_pledges
    refine ⟨_, (pss_cons (ps_expr (G.pe_me (pv 0) T.cl_Gifts T.Gifts_look_at.m (ok_Gifts_look_at (K := K) T) (hr.mono (by decide)) T.Gifts_look_at.b (passes_call (takes_of rfl rfl rfl rfl) (fun _ _ _ _ h => h)) (pa_cons (pv 1) pa_nil)))
  (pss_cons (ps_if (pt_not (pt_val (pe_callS (ok_is_count (K := K) T) (hr.mono (by decide)) rfl T.is_count.g T.is_count.k T.is_count.b (fun σ => passAt (takes_of rfl rfl rfl rfl) σ) (pa_cons (pv 2) (pa_cons pe_int (pa_cons (pe_op op_sub (pe_callB (G.k_lenU (K := K)) (by rfl) T.n_len (by decide +kernel) (pa_cons (G.k_fld (K := K) (pv 0) rfl) pa_nil)) pe_int) pa_nil)))))) (pss_one (ps_raise rfl (takes_of rfl rfl rfl rfl) (pmk_own PySem.F.excBase_ValueError T.x_BadWish.x T.x_BadWish.g T.x_BadWish.k (raises_own T.x_BadWish.b T.x_BadWish.t) rfl))) pss_nil)
  (pss_cons (ps_set (i := 3) sc_Gifts_other_wish.nd rfl (by first | exact Or.inl rfl | exact Or.inr rfl) (pe_ix (G.k_ixU (K := K) (hu_of hr)) (G.k_fld (K := K) (pv 0) rfl) (pv 2) (fun _ _ => rfl)))
  (pss_cons (ps_if (PW.pt (pw_or (pt_cmpR (G.k_eqU (K := K) hr) (G.k_fld (K := K) (pv 3) rfl) (pv 1) (nomark _)) (pw_or1 (pt_not (pt_val (G.k_fld (K := K) (pv 3) rfl)))))) (pss_one (ps_raise rfl (takes_of rfl rfl rfl rfl) (pmk_own PySem.F.excBase_ValueError T.x_BadWish.x T.x_BadWish.g T.x_BadWish.k (raises_own T.x_BadWish.b T.x_BadWish.t) rfl))) pss_nil)
  (pss_one (ps_ret (pv 3))))))), ?_⟩
    walk_at "go"
    refine u_look_at o .here hp (fun h1 H1 o1 => ?_) (fun h1 H1 o1 => k2 .person (otherAt_p h1) _ o1)
    have o2 := openGr o1
    walk_at "go"
    refine u_is_count (hn.mono o2.sub) ?_
    rw [show ((refs Y.xs).length : Int) = ((wsOf Y.xs).length : Int) by rw [refs_len, wsOf_len]]
    walk_at "go"
    refine r_ite (fun h2 => ?_) (fun h2 => ?_)
    · walk_at "go"
      exact k2 .wish (otherAt_w h1 (nt h2)) _ o1
    · have h2 := nf h2
      obtain ⟨j, rfl, _⟩ := isC_is h1
      obtain ⟨m, rfl, h3, h4⟩ := isC_is h2
      obtain ⟨x, hx⟩ : ∃ x, Y.xs[m.toNat]? = some x := ⟨_, List.getElem?_eq_getElem (by rw [wsOf_len] at h4; omega)⟩
      have ef := otherAt_e (x := x.2) h1 h2 (by rw [wsOf_get, hx]; rfl)
      walk_at "go"
      refine r_ixL (SqL.of (o2.at1 (.tail _ (.head _)))) (at_wish h3 hx) ?_
      have o3 := openAt o1 hx
      walk_at "go"
      rw [decV]
      refine r_ite (fun h5 => ?_) (fun h5 => ?_)
      · walk_at "go"
        exact k2 .wish (by rw [ef, h5]; rfl) _ o1
      · walk_at "go"
        refine r_ite (fun h6 => ?_) (fun h6 => ?_)
        · walk_at "go"
          exact k2 .wish (by rw [ef, h5, h6]; rfl) _ o1
        · walk_at "go"
          exact k1 _ x (by rw [ef, h5, h6]; rfl) hx _ o1
end
end PP

namespace PP
open PySem PySem.Spec PyProof.Rows L2 G
/-! the deeds on a list -/
def sp_m3 (K : PySem.W.Frag) (a : A) (f : Int → List W → V → V → V → Except Err (List W × Int)) : Sp := fun vs H Q E => ∃ (D : Hp) (R : List (List Cell)) (Y : GR) (p n c : V) (t u v : String), vs = [.ref Y.g, p, n, c] ∧ Ok H D (cGr a Y :: R) ∧ Tv K D p t ∧ Tv K D n u ∧ Tv K D c v ∧ GOk Y ∧
  (∀ ws' r, f Y.pe (wsOf Y.xs) p n c = .ok (ws', r) → ∀ H' xs', wsOf xs' = ws' → Ok H' D (cGr a { Y with xs := xs' } :: R) → Q (.int r) H') ∧ (∀ e, f Y.pe (wsOf Y.xs) p n c = .error e → ∀ H', Ok H' D (cGr a Y :: R) → E (.ref (clsOf a e)) none H')
section
variable {P : Program} {w : World} {K : PySem.W.Frag} {mg : Str → Option Value} {base : Heap} {a : A} {H D : Hp} {Q : VK} {E : XK} {Ms R : List (List G.Cell)}
local macro_rules | `(tactic| walk_at "g3") => `(tactic| ((with_reducible refine' g_me (by assumption) ?k ?l ?_); (case k => walk_at "mem"); (case l => rfl)))
theorem u_find {f : Int → List W → V → V → Except Err (Nat × W)} {Y : GR} {p n : V} {t u : String} (o : Ok H D Ms) (k : Pk Ms (cGr a Y) R) (hp : Tv K D p t) (hn : Tv K D n u) (hY : GOk Y)
  (q1 : ∀ i x, f Y.pe (wsOf Y.xs) p n = .ok (i, x.2) → Y.xs[i]? = some x → ∀ H', Ok H' D (cGr a Y :: R) → Q (.ref x.1.p) H') (q2 : ∀ e, f Y.pe (wsOf Y.xs) p n = .error e → ∀ H', Ok H' D (cGr a Y :: R) → E (.ref (clsOf a e)) none H') :
    sp_find K a f [.ref Y.g, p, n] H Q E := ⟨D, R, Y, p, n, t, u, rfl, o.pk k, hp, hn, hY, q1, q2⟩
theorem pk_append {α : Type} {Ms R : List α} {C : α} (k : Pk Ms C R) : C ∈ Ms := k.mem
theorem u_W {C : Addr} {x : WA} {w' : W} {d : Addr} {Ns : List (List Cell)} (o : Ok H D ([(x.p, .ins C x.dx (wishF w' x.t x.q))] :: [(x.t, .dK (kvs w'.tk))] :: [(x.q, .dK (kvs w'.pl))] :: Ns)) : Ok H D (cW C x w' :: Ns) := Ok.shutW o
theorem ok_Gifts_alter (T : Txt w K mg a) : FnOk P w K mg base (L2.CX P w) 5 a.f_Gifts_alter a.d_Gifts_alter ["self", "owner", "wish", "many"] (sp_m3 K a mAlter) := by
  refine T.Gifts_alter.F.okX sc_Gifts_alter (fun vs H Q E h => ?_) (fun cdv A outer s H vs Q E hr h => ?_)
  · obtain ⟨D, R, Y, p, n, c, t, u, v, rfl, _⟩ := h
    rfl
  · obtain ⟨D, R, Y, p, n, c, t, u, v, rfl, o, hp, hn, hc, hY, k1, k2⟩ := h
    have := T.cl_Gifts; have := T.na_Gifts_people; have := T.na_Gifts_wishes; have := T.cl_Wish; have := T.na_Wish_owner; have := T.na_Wish_word; have := T.na_Wish_price; have := T.na_Wish_many; have := T.na_Wish_stands; have := T.na_Wish_takings; have := T.na_Wish_pledges
    refine ⟨_, (pss_cons (ps_set (i := 4) sc_Gifts_alter.nd rfl (by first | exact Or.inl rfl | exact Or.inr rfl) (G.pe_me (pv 0) T.cl_Gifts T.Gifts_own_wish.m (ok_Gifts_own_wish (K := K) T) (hr.mono (by decide)) T.Gifts_own_wish.b (passes_call (takes_of rfl rfl rfl rfl) (fun _ _ _ _ h => h)) (pa_cons (pv 1) (pa_cons (pv 2) pa_nil))))
  (pss_cons (ps_if (pt_not (pt_val (pe_callS (ok_is_count (K := K) T) (hr.mono (by decide)) rfl T.is_count.g T.is_count.k T.is_count.b (fun σ => passAt (takes_of rfl rfl rfl rfl) σ) (pa_cons (pv 3) (pa_cons pe_int (pa_cons (pe_glob (v := .int 3) rfl T.g_MOST_PIECES ⟨_, rfl⟩) pa_nil)))))) (pss_one (ps_raise rfl (takes_of rfl rfl rfl rfl) (pmk_own PySem.F.excBase_ValueError T.x_BadMany.x T.x_BadMany.g T.x_BadMany.k (raises_own T.x_BadMany.b T.x_BadMany.t) rfl))) pss_nil)
  (pss_cons (ps_set (i := 5) sc_Gifts_alter.nd rfl (by first | exact Or.inl rfl | exact Or.inr rfl) (G.k_fld (K := K) (pv 4) rfl))
  (pss_cons (G.k_sfld (K := K) (pv 4) (pv 3) rfl)
  (pss_one (ps_ret (pv 5))))))), ?_⟩
    walk_at "go"
    refine u_find o .here hp hn hY (fun i x ef hx H1 o1 => ?_) (fun e ef H1 o1 => k2 e (by unfold mAlter; rw [ef]) _ o1)
    walk_at "go"
    refine u_is_count (hc.mono o1.sub) ?_
    walk_at "go"
    refine r_ite (fun h2 => ?_) (fun h2 => ?_)
    · walk_at "go"
      exact k2 .many (by unfold mAlter; rw [ef]; simp only [nt h2]; rfl) _ o1
    · have h2 := nf h2
      obtain ⟨m, rfl, h3, h4⟩ := isC_is h2
      have o3 := openAt o1 hx
      have hw := hY.w x (List.mem_of_getElem? hx)
      walk_at "go"
      exact k1 _ _ (by unfold mAlter; rw [ef]; simp only [h2]; rfl) _ (Y.xs.set i (x.1, { x.2 with many := m })) (wsOf_set) (shutAt hx (by walk_at "fin"))
theorem u_free {C : Addr} {x : WA} {w' : W} {Ns : List (List Cell)} (ec : C = a.c_Wish) (o : Ok H D ([(x.p, .ins C x.dx (wishF w' x.t x.q))] :: [(x.t, .dK (kvs w'.tk))] :: [(x.q, .dK (kvs w'.pl))] :: Ns)) (hw : WOk w')
  (q : ∀ H', Ok H' D ([(x.p, .ins C x.dx (wishF w' x.t x.q))] :: [(x.t, .dK (kvs w'.tk))] :: [(x.q, .dK (kvs w'.pl))] :: Ns) → Q (.int (free w')) H') : sp_Wish_free a [.ref x.p] H Q E := by
  subst ec
  exact ⟨D, Ns, x, w', rfl, Ok.shutW o, hw, fun H' o' => q H' o'.openW⟩
theorem u_lacking {C : Addr} {x : WA} {w' : W} {Ns : List (List Cell)} (ec : C = a.c_Wish) (o : Ok H D ([(x.p, .ins C x.dx (wishF w' x.t x.q))] :: [(x.t, .dK (kvs w'.tk))] :: [(x.q, .dK (kvs w'.pl))] :: Ns)) (hw : WOk w')
  (q : ∀ H', Ok H' D ([(x.p, .ins C x.dx (wishF w' x.t x.q))] :: [(x.t, .dK (kvs w'.tk))] :: [(x.q, .dK (kvs w'.pl))] :: Ns) → Q (.int (lacking w')) H') : sp_Wish_lacking a [.ref x.p] H Q E := by
  subst ec
  exact ⟨D, Ns, x, w', rfl, Ok.shutW o, hw, fun H' o' => q H' o'.openW⟩
theorem ok_Gifts_take (T : Txt w K mg a) : FnOk P w K mg base (L2.CX P w) 5 a.f_Gifts_take a.d_Gifts_take ["self", "person", "wish", "count"] (sp_m3 K a mTake) := by
  refine T.Gifts_take.F.okX sc_Gifts_take (fun vs H Q E h => ?_) (fun cdv A outer s H vs Q E hr h => ?_)
  · obtain ⟨D, R, Y, p, n, c, t, u, v, rfl, _⟩ := h
    rfl
  · obtain ⟨D, R, Y, p, n, c, t, u, v, rfl, o, hp, hn, hc, hY, k1, k2⟩ := h
    have := T.cl_Gifts; have := T.na_Gifts_people; have := T.na_Gifts_wishes; have := T.cl_Wish; have := T.na_Wish_owner; have := T.na_Wish_word; have := T.na_Wish_price; have := T.na_Wish_many; have := T.na_Wish_stands; have := T.na_Wish_takings; have := T.na_Wish_pledges
    refine ⟨_, (pss_cons (ps_set (i := 4) sc_Gifts_take.nd rfl (by first | exact Or.inl rfl | exact Or.inr rfl) (G.pe_me (pv 0) T.cl_Gifts T.Gifts_other_wish.m (ok_Gifts_other_wish (K := K) T) (hr.mono (by decide)) T.Gifts_other_wish.b (passes_call (takes_of rfl rfl rfl rfl) (fun _ _ _ _ h => h)) (pa_cons (pv 1) (pa_cons (pv 2) pa_nil))))
  (pss_cons (ps_if (pt_not (pt_val (pe_callS (ok_is_count (K := K) T) (hr.mono (by decide)) rfl T.is_count.g T.is_count.k T.is_count.b (fun σ => passAt (takes_of rfl rfl rfl rfl) σ) (pa_cons (pv 3) (pa_cons pe_int (pa_cons (pe_glob (v := .int 3) rfl T.g_MOST_PIECES ⟨_, rfl⟩) pa_nil)))))) (pss_one (ps_raise rfl (takes_of rfl rfl rfl rfl) (pmk_own PySem.F.excBase_ValueError T.x_BadMany.x T.x_BadMany.g T.x_BadMany.k (raises_own T.x_BadMany.b T.x_BadMany.t) rfl))) pss_nil)
  (pss_cons (ps_if (pt_cmpR op_lt (G.pe_me0 (pv 4) T.cl_Wish T.Wish_free.m (ok_Wish_free (K := K) T) (hr.mono (by decide)) T.Wish_free.b (passes_call (takes_of rfl rfl rfl rfl) (fun _ _ _ _ h => h))) (pv 3) (nomark _)) (pss_one (ps_raise rfl (takes_of rfl rfl rfl rfl) (pmk_own PySem.F.excBase_ValueError T.x_NoneFree.x T.x_NoneFree.g T.x_NoneFree.k (raises_own T.x_NoneFree.b T.x_NoneFree.t) rfl))) pss_nil)
  (pss_cons (ps_asg (pe_op (G.k_addU (K := K)) (pe_dget2 (hu_of hr) (G.k_fld (K := K) (pv 4) rfl) (pv 1) pe_int ⟨rfl, rfl, rfl, rfl⟩) (pv 3)) (pg_sub (G.k_fld (K := K) (pv 4) rfl) (pv 1) (G.set_U (hu_of hr))))
  (pss_one (ps_ret (G.pe_me0 (pv 4) T.cl_Wish T.Wish_free.m (ok_Wish_free (K := K) T) (hr.mono (by decide)) T.Wish_free.b (passes_call (takes_of rfl rfl rfl rfl) (fun _ _ _ _ h => h))))))))), ?_⟩
    walk_at "go"
    refine u_find o .here hp hn hY (fun i x ef hx H1 o1 => ?_) (fun e ef H1 o1 => k2 e (by unfold mTake; rw [ef]) _ o1)
    walk_at "go"
    refine u_is_count (hc.mono o1.sub) ?_
    walk_at "go"
    refine r_ite (fun h2 => ?_) (fun h2 => ?_)
    · walk_at "go"
      exact k2 .many (by unfold mTake; rw [ef]; simp only [nt h2]; rfl) _ o1
    · have h2 := nf h2
      obtain ⟨m, rfl, h3, h4⟩ := isC_is h2
      have o3 := openAt o1 hx
      have hw := hY.w x (List.mem_of_getElem? hx)
      obtain ⟨j, rfl, h5, h6⟩ := isC_is (otherAt_ok ef).1
      have hj : 0 ≤ j ∧ j < 5 := ⟨h5, by have := hY.p; omega⟩
      walk_at "go"
      refine u_free rfl o3 hw fun H2 o4 => ?_
      walk_at "go"
      refine r_ite (fun h7 => ?_) (fun h7 => ?_)
      · walk_at "go"
        exact k2 .none (mTake_n ef h2 h7) _ (by
          have q := shutAt hx o4
          rw [set_same hx] at q
          exact q)
      · walk_at "go"
        rw [al_getD]
        walk_at "go"
        refine r_setDI (by assumption) (.there .here) (kvs_lt hw.lt) fun H3 o5 => ?_
        rw [kvs_put hw.nt] at o5
        have o6 := o5.sel (.pick (.there .here) (.pick .here (.done .here)))
        walk_at "go"
        refine u_free (w' := takeW x.2 j m) rfl o6 (hw.take hj) fun H4 o7 => ?_
        walk_at "go"
        exact k1 _ _ (mTake_o ef h2 h7) _ _ wsOf_set (shutAt hx o7)
theorem ok_Gifts_pledge (T : Txt w K mg a) : FnOk P w K mg base (L2.CX P w) 5 a.f_Gifts_pledge a.d_Gifts_pledge ["self", "person", "wish", "amount"] (sp_m3 K a mPledge) := by
  refine T.Gifts_pledge.F.okX sc_Gifts_pledge (fun vs H Q E h => ?_) (fun cdv A outer s H vs Q E hr h => ?_)
  · obtain ⟨D, R, Y, p, n, c, t, u, v, rfl, _⟩ := h
    rfl
  · obtain ⟨D, R, Y, p, n, c, t, u, v, rfl, o, hp, hn, hc, hY, k1, k2⟩ := h
    have := T.cl_Gifts; have := T.na_Gifts_people; have := T.na_Gifts_wishes; have := T.cl_Wish; have := T.na_Wish_owner; have := T.na_Wish_word; have := T.na_Wish_price; have := T.na_Wish_many; have := T.na_Wish_stands; have := T.na_Wish_takings; have := T.na_Wish_pledges
    refine ⟨_, (pss_cons (ps_set (i := 4) sc_Gifts_pledge.nd rfl (by first | exact Or.inl rfl | exact Or.inr rfl) (G.pe_me (pv 0) T.cl_Gifts T.Gifts_other_wish.m (ok_Gifts_other_wish (K := K) T) (hr.mono (by decide)) T.Gifts_other_wish.b (passes_call (takes_of rfl rfl rfl rfl) (fun _ _ _ _ h => h)) (pa_cons (pv 1) (pa_cons (pv 2) pa_nil))))
  (pss_cons (ps_if (pt_not (pt_val (pe_callS (ok_is_count (K := K) T) (hr.mono (by decide)) rfl T.is_count.g T.is_count.k T.is_count.b (fun σ => passAt (takes_of rfl rfl rfl rfl) σ) (pa_cons (pv 3) (pa_cons pe_int (pa_cons (pe_glob (v := .int 20) rfl T.g_MOST_PRICE ⟨_, rfl⟩) pa_nil)))))) (pss_one (ps_raise rfl (takes_of rfl rfl rfl rfl) (pmk_own PySem.F.excBase_ValueError T.x_BadAmount.x T.x_BadAmount.g T.x_BadAmount.k (raises_own T.x_BadAmount.b T.x_BadAmount.t) rfl))) pss_nil)
  (pss_cons (ps_if (PW.pt (pw_and (pt_cmpR (G.k_eqU (K := K) hr) (G.k_fld (K := K) (pv 4) rfl) pe_dnewK (nomark _)) (pw_and1 (pt_cmpR (G.k_eqU (K := K) hr) (G.pe_me0 (pv 4) T.cl_Wish T.Wish_free.m (ok_Wish_free (K := K) T) (hr.mono (by decide)) T.Wish_free.b (passes_call (takes_of rfl rfl rfl rfl) (fun _ _ _ _ h => h))) pe_int (nomark _))))) (pss_one (ps_raise rfl (takes_of rfl rfl rfl rfl) (pmk_own PySem.F.excBase_ValueError T.x_NoneFree.x T.x_NoneFree.g T.x_NoneFree.k (raises_own T.x_NoneFree.b T.x_NoneFree.t) rfl))) pss_nil)
  (pss_cons (ps_if (pt_cmpR op_gt (pv 3) (G.pe_me0 (pv 4) T.cl_Wish T.Wish_lacking.m (ok_Wish_lacking (K := K) T) (hr.mono (by decide)) T.Wish_lacking.b (passes_call (takes_of rfl rfl rfl rfl) (fun _ _ _ _ h => h))) (nomark _)) (pss_one (ps_raise rfl (takes_of rfl rfl rfl rfl) (pmk_own PySem.F.excBase_ValueError T.x_TooMuch.x T.x_TooMuch.g T.x_TooMuch.k (raises_own T.x_TooMuch.b T.x_TooMuch.t) rfl))) pss_nil)
  (pss_cons (ps_asg (pe_op (G.k_addU (K := K)) (pe_dget2 (hu_of hr) (G.k_fld (K := K) (pv 4) rfl) (pv 1) pe_int ⟨rfl, rfl, rfl, rfl⟩) (pv 3)) (pg_sub (G.k_fld (K := K) (pv 4) rfl) (pv 1) (G.set_U (hu_of hr))))
  (pss_one (ps_ret (G.pe_me0 (pv 4) T.cl_Wish T.Wish_lacking.m (ok_Wish_lacking (K := K) T) (hr.mono (by decide)) T.Wish_lacking.b (passes_call (takes_of rfl rfl rfl rfl) (fun _ _ _ _ h => h)))))))))), ?_⟩
    walk_at "go"
    refine u_find o .here hp hn hY (fun i x ef hx H1 o1 => ?_) (fun e ef H1 o1 => k2 e (by unfold mPledge; rw [ef]) _ o1)
    walk_at "go"
    refine u_is_count (hc.mono o1.sub) ?_
    walk_at "go"
    refine r_ite (fun h2 => ?_) (fun h2 => ?_)
    · walk_at "go"
      exact k2 .amount (by unfold mPledge; rw [ef]; simp only [nt h2]; rfl) _ o1
    · have h2 := nf h2
      obtain ⟨m, rfl, h3, h4⟩ := isC_is h2
      have o3 := openAt o1 hx
      have hw := hY.w x (List.mem_of_getElem? hx)
      obtain ⟨j, rfl, h5, h6⟩ := isC_is (otherAt_ok ef).1
      have hj : 0 ≤ j ∧ j < 5 := ⟨h5, by have := hY.p; omega⟩
      have same : ∀ H', Ok H' D ([(x.1.p, .ins a.c_Wish x.1.dx (wishF x.2 x.1.t x.1.q))] :: [(x.1.t, .dK (kvs x.2.tk))] :: [(x.1.q, .dK (kvs x.2.pl))] :: [(Y.g, .ins a.c_Gifts Y.dx (gF Y.pe Y.l))] :: [(Y.l, .lst (refs Y.xs))] :: WSx a.c_Wish Y.xs i :: R) → Ok H' D (cGr a Y :: R) := fun H' o' => by
        have q := shutAt hx o'
        rw [set_same hx] at q
        exact q
      repeat (first | (with_reducible refine r_next ?_) | (with_reducible refine r_seq ?_))
      refine (r_ifJ (x.2.pl.isEmpty && decide (free x.2 = 0)) (fun H' => Ok H' D ([(x.1.p, .ins a.c_Wish x.1.dx (wishF x.2 x.1.t x.1.q))] :: [(x.1.t, .dK (kvs x.2.tk))] :: [(x.1.q, .dK (kvs x.2.pl))] :: [(Y.g, .ins a.c_Gifts Y.dx (gF Y.pe Y.l))] :: [(Y.l, .lst (refs Y.xs))] :: WSx a.c_Wish Y.xs i :: R)) (fun B hB => ?_) (fun h7 H2 o4 => ?_) (fun h7 H2 o4 => ?_))
      · walk_at "go"
        have o9 := (by assumption : Ok _ D ([(_, .dK [])] :: [(x.1.p, _)] :: _)).drop
        rw [kvs_isEmpty]
        refine r_ite (fun h5' => ?_) (fun h5' => ?_)
        · walk_at "go"
          refine u_free rfl o9 hw fun H2 o4 => ?_
          walk_at "go"
          rw [decV]
          have q := hB _ o4
          rw [h5', Bool.true_and] at q
          exact q
        · have q := hB _ o9
          rw [h5', Bool.false_and] at q
          exact q
      · walk_at "go"
        exact k2 .none (mPledge_n ef h2 h7) _ (same _ o4)
      · walk_at "go"
        refine u_lacking rfl o4 hw fun H3 o5 => ?_
        walk_at "go"
        refine r_ite (fun h8 => ?_) (fun h8 => ?_)
        · walk_at "go"
          exact k2 .much (mPledge_m ef h2 h7 h8) _ (same _ o5)
        · walk_at "go"
          rw [al_getD]
          walk_at "go"
          refine r_setDI (by assumption) (.there (.there .here)) (kvs_lt hw.lp) fun H3 o5 => ?_
          rw [kvs_put hw.np] at o5
          have o6 := o5.sel (.pick (.there .here) (.pick (.there .here) (.pick .here (.done .here))))
          walk_at "go"
          refine u_lacking (w' := pledgeW x.2 j m) rfl o6 (hw.pledge hj) fun H4 o7 => ?_
          walk_at "go"
          exact k1 _ _ (mPledge_o ef h2 h7 h8) _ _ wsOf_set (shutAt hx o7)
end
end PP

namespace PP
open PySem PySem.Spec PyProof.Rows L2 G
/-! drop, back, wish -/
def sp_drop (K : PySem.W.Frag) (a : A) : Sp := fun vs H Q E => ∃ (D : Hp) (R : List (List Cell)) (Y : GR) (p n : V) (t u : String), vs = [.ref Y.g, p, n] ∧ Ok H D (cGr a Y :: R) ∧ Tv K D p t ∧ Tv K D n u ∧ GOk Y ∧
  (∀ ws', mDrop Y.pe (wsOf Y.xs) p n = .ok ws' → ∀ H' xs', wsOf xs' = ws' → Ok H' D (cGr a { Y with xs := xs' } :: R) → Q .non H') ∧ (∀ e, mDrop Y.pe (wsOf Y.xs) p n = .error e → ∀ H', Ok H' D (cGr a Y :: R) → E (.ref (clsOf a e)) none H')
def sp_back (K : PySem.W.Frag) (a : A) : Sp := fun vs H Q E => ∃ (D : Hp) (R : List (List Cell)) (Y : GR) (p n : V) (t u : String), vs = [.ref Y.g, p, n] ∧ Ok H D (cGr a Y :: R) ∧ Tv K D p t ∧ Tv K D n u ∧ GOk Y ∧
  (∀ ws' r1 r2, mBack Y.pe (wsOf Y.xs) p n = .ok (ws', r1, r2) → ∀ H' xs' T, wsOf xs' = ws' → Ok H' D ([(T, .tup [.int r1, .int r2])] :: cGr a { Y with xs := xs' } :: R) → Q (.ref T) H') ∧ (∀ e, mBack Y.pe (wsOf Y.xs) p n = .error e → ∀ H', Ok H' D (cGr a Y :: R) → E (.ref (clsOf a e)) none H')
def sp_wish (K : PySem.W.Frag) (a : A) : Sp := fun vs H Q E => ∃ (D : Hp) (R : List (List Cell)) (Y : GR) (o z p m : V) (t1 t2 t3 t4 : String), vs = [.ref Y.g, o, z, p, m] ∧ Ok H D (cGr a Y :: R) ∧ Tv K D o t1 ∧ Tv K D z t2 ∧ Tv K D p t3 ∧ Tv K D m t4 ∧ (∀ y, z = .str y → y.length ≤ 1000) ∧ GOk Y ∧
  (∀ ws' r, mWish Y.pe (wsOf Y.xs) o z p m = .ok (ws', r) → ∀ H' xs', wsOf xs' = ws' → Ok H' D (cGr a { Y with xs := xs' } :: R) → Q (.int r) H') ∧ (∀ e, mWish Y.pe (wsOf Y.xs) o z p m = .error e → ∀ H', Ok H' D (cGr a Y :: R) → E (.ref (clsOf a e)) none H')
section
variable {P : Program} {w : World} {K : PySem.W.Frag} {mg : Str → Option Value} {base : Heap} {a : A} {H D : Hp} {Q : VK} {E : XK} {Ms R : List (List G.Cell)}
local macro_rules | `(tactic| walk_at "g3") => `(tactic| ((with_reducible refine' g_me (by assumption) ?k ?l ?_); (case k => walk_at "mem"); (case l => rfl)))
theorem ok_Gifts_drop (T : Txt w K mg a) : FnOk P w K mg base (L2.CX P w) 5 a.f_Gifts_drop a.d_Gifts_drop ["self", "owner", "wish"] (sp_drop K a) := by
  refine T.Gifts_drop.F.okX sc_Gifts_drop (fun vs H Q E h => ?_) (fun cdv A outer s H vs Q E hr h => ?_)
  · obtain ⟨D, R, Y, p, n, t, u, rfl, _⟩ := h
    rfl
  · obtain ⟨D, R, Y, p, n, t, u, rfl, o, hp, hn, hY, k1, k2⟩ := h
    have := T.cl_Gifts; have := T.na_Gifts_people; have := T.na_Gifts_wishes; have := T.cl_Wish; have := T.na_Wish_owner; have := T.na_Wish_word; have := T.na_Wish_price; have := T.na_Wish_many; have := T.na_Wish_stands; have := T.na_Wish_takings; have := T.na_Wish_pledges
    refine ⟨_, (pss_cons (ps_set (i := 3) sc_Gifts_drop.nd rfl (by first | exact Or.inl rfl | exact Or.inr rfl) (G.pe_me (pv 0) T.cl_Gifts T.Gifts_own_wish.m (ok_Gifts_own_wish (K := K) T) (hr.mono (by decide)) T.Gifts_own_wish.b (passes_call (takes_of rfl rfl rfl rfl) (fun _ _ _ _ h => h)) (pa_cons (pv 1) (pa_cons (pv 2) pa_nil))))
  (pss_one (G.k_sfld (K := K) (pv 3) pe_bl rfl))), ?_⟩
    walk_at "go"
    refine u_find o .here hp hn hY (fun i x ef hx H1 o1 => ?_) (fun e ef H1 o1 => k2 e (by unfold mDrop; rw [ef]) _ o1)
    have o3 := openAt o1 hx
    walk_at "go"
    exact k1 _ (by unfold mDrop; rw [ef]) _ (Y.xs.set i (x.1, { x.2 with st := false })) (wsOf_set) (shutAt hx (by walk_at "fin"))
theorem ok_Gifts_back (T : Txt w K mg a) : FnOk P w K mg base (L2.CX P w) 4 a.f_Gifts_back a.d_Gifts_back ["self", "person", "wish"] (sp_back K a) := by
  refine T.Gifts_back.F.okX sc_Gifts_back (fun vs H Q E h => ?_) (fun cdv A outer s H vs Q E hr h => ?_)
  · obtain ⟨D, R, Y, p, n, t, u, rfl, _⟩ := h
    rfl
  · obtain ⟨D, R, Y, p, n, t, u, rfl, o, hp, hn, hY, k1, k2⟩ := h
    have := T.cl_Gifts; have := T.na_Gifts_people; have := T.na_Gifts_wishes; have := T.cl_Wish; have := T.na_Wish_owner; have := T.na_Wish_word; have := T.na_Wish_price; have := T.na_Wish_many; have := T.na_Wish_stands; have := T.na_Wish_takings; have := T.na_Wish_pledges
    refine ⟨_, (pss_cons (ps_expr (G.pe_me (pv 0) T.cl_Gifts T.Gifts_look_at.m (ok_Gifts_look_at (K := K) T) (hr.mono (by decide)) T.Gifts_look_at.b (passes_call (takes_of rfl rfl rfl rfl) (fun _ _ _ _ h => h)) (pa_cons (pv 1) pa_nil)))
  (pss_cons (ps_if (pt_not (pt_val (pe_callS (ok_is_count (K := K) T) (hr.mono (by decide)) rfl T.is_count.g T.is_count.k T.is_count.b (fun σ => passAt (takes_of rfl rfl rfl rfl) σ) (pa_cons (pv 2) (pa_cons pe_int (pa_cons (pe_op op_sub (pe_callB (G.k_lenU (K := K)) (by rfl) T.n_len (by decide +kernel) (pa_cons (G.k_fld (K := K) (pv 0) rfl) pa_nil)) pe_int) pa_nil)))))) (pss_one (ps_raise rfl (takes_of rfl rfl rfl rfl) (pmk_own PySem.F.excBase_ValueError T.x_BadWish.x T.x_BadWish.g T.x_BadWish.k (raises_own T.x_BadWish.b T.x_BadWish.t) rfl))) pss_nil)
  (pss_cons (ps_set (i := 3) sc_Gifts_back.nd rfl (by first | exact Or.inl rfl | exact Or.inr rfl) (pe_ix (G.k_ixU (K := K) (hu_of hr)) (G.k_fld (K := K) (pv 0) rfl) (pv 2) (fun _ _ => rfl)))
  (pss_cons (ps_if (PW.pt (pw_and (pt_cmpR (G.k_ninU (K := K) hr) (pv 1) (G.k_fld (K := K) (pv 3) rfl) (by first | rfl | exact nomark _)) (pw_and1 (pt_cmpR (G.k_ninU (K := K) hr) (pv 1) (G.k_fld (K := K) (pv 3) rfl) (by first | rfl | exact nomark _))))) (pss_one (ps_raise rfl (takes_of rfl rfl rfl rfl) (pmk_own PySem.F.excBase_ValueError T.x_BadWish.x T.x_BadWish.g T.x_BadWish.k (raises_own T.x_BadWish.b T.x_BadWish.t) rfl))) pss_nil)
  (pss_one (ps_ret (pe_tup (pa_cons (pe_dpop2 (G.k_fld (K := K) (pv 3) rfl) (pv 1) pe_int ⟨rfl, rfl, rfl, rfl⟩) (pa_cons (pe_dpop2 (G.k_fld (K := K) (pv 3) rfl) (pv 1) pe_int ⟨rfl, rfl, rfl, rfl⟩) pa_nil))))))))), ?_⟩
    walk_at "go"
    refine u_look_at o .here hp (fun h1 H1 o1 => ?_) (fun h1 H1 o1 => k2 .person (by unfold mBack; rw [h1]; rfl) _ o1)
    have o2 := openGr o1
    walk_at "go"
    refine u_is_count (hn.mono o2.sub) ?_
    rw [show ((refs Y.xs).length : Int) = ((wsOf Y.xs).length : Int) by rw [refs_len, wsOf_len]]
    walk_at "go"
    refine r_ite (fun h2 => ?_) (fun h2 => ?_)
    · walk_at "go"
      exact k2 .wish (by unfold mBack; rw [h1, nt h2]; rfl) _ o1
    · have h2 := nf h2
      obtain ⟨j, rfl, _⟩ := isC_is h1
      obtain ⟨m, rfl, h3, h4⟩ := isC_is h2
      obtain ⟨x, hx⟩ : ∃ x, Y.xs[m.toNat]? = some x := ⟨_, List.getElem?_eq_getElem (by rw [wsOf_len] at h4; omega)⟩
      have hw := hY.w x (List.mem_of_getElem? hx)
      have ef : mBack Y.pe (wsOf Y.xs) (.int j) (.int m) = bif !(alGet x.2.tk j).isSome && !(alGet x.2.pl j).isSome then .error .wish else
          .ok ((wsOf Y.xs).set m.toNat (backW x.2 j), (alGet x.2.tk j).getD 0, (alGet x.2.pl j).getD 0) := by
        unfold mBack
        rw [h1, h2]
        show (match (wsOf Y.xs)[m.toNat]? with | none => _ | some x => _) = _
        rw [wsOf_get, hx]
        rfl
      walk_at "go"
      refine r_ixL (SqL.of (o2.at1 (.tail _ (.head _)))) (at_wish h3 hx) ?_
      have o3 := openAt o1 hx
      repeat (first | (with_reducible refine r_name ?_) | (with_reducible refine r_next ?_) | (with_reducible refine r_seq ?_))
      refine r_ifJ (!(alGet x.2.tk j).isSome && !(alGet x.2.pl j).isSome) (fun H' => H' = H1) (fun B hB => ?_) (fun h7 H2 o4 => ?_) (fun h7 H2 o4 => ?_)
      · walk_at "go"
        rw [al_some]
        refine r_ite (fun h5' => ?_) (fun h5' => ?_)
        · walk_at "go"
          rw [al_some]
          have q := hB _ rfl
          rw [h5', Bool.true_and] at q
          exact q
        · have q := hB _ rfl
          rw [h5', Bool.false_and] at q
          exact q
      · subst o4
        walk_at "go"
        exact k2 .wish (by rw [ef, h7]; rfl) _ o1
      · subst o4
        walk_at "go"
        -- the two pops: there or not
        have fin : ∀ (H' : Hp) (T : Addr), Ok H' D ([(T, .tup [.int ((alGet x.2.tk j).getD 0), .int ((alGet x.2.pl j).getD 0)])] :: [(x.1.p, .ins a.c_Wish x.1.dx (wishF (backW x.2 j) x.1.t x.1.q))] :: [(x.1.t, .dK (kvs (backW x.2 j).tk))] :: [(x.1.q, .dK (kvs (backW x.2 j).pl))] :: [(Y.g, .ins a.c_Gifts Y.dx (gF Y.pe Y.l))] :: [(Y.l, .lst (refs Y.xs))] :: WSx a.c_Wish Y.xs m.toNat :: R) → Q (.ref T) H' := fun H' T o' =>
          k1 _ _ _ (by rw [ef, h7]; rfl) H' (Y.xs.set m.toNat (x.1, backW x.2 j)) T wsOf_set ((shutAt hx (o'.sel (.pick (.there .here) (.pick (.there .here) (.pick (.there .here) (.pick (.there .here) (.pick (.there .here) (.pick (.there .here) (.pick .here (.done .here))))))))) : Ok H' D (_ :: [(T, _)] :: R)).sel (.pick (.there .here) (.pick .here (.done .here))))
        refine r_dpopA o3 (.there .here) fun H3 o4 => ?_
        walk_at "go"
        refine r_dpopA o4 (.there (.there .here)) fun H4 o5 => ?_
        walk_at "go"
        exact fin _ _ (by walk_at "fin")
theorem refs_snoc {xs : XS} {y : WA × W} : refs (xs ++ [y]) = refs xs ++ [.ref y.1.p] := by simp [refs]
theorem WS_snoc {C : Addr} {xs : XS} {y : WA × W} : WS C (xs ++ [y]) = WS C xs ++ cW C y.1 y.2 := by simp [WS]
theorem u_is_word2 {x : V} {t : String} (h : Tv K D x t) (o : Ok H D Ms) (l : ∀ z, x = .str z → z.length ≤ 1000) (q : ∀ H', Ok H' D Ms → Q (.bl (isWd x)) H') : sp_is_word K [x] H Q E := u_is_word (h.mono o.sub) o l q
theorem ok_Gifts_wish (T : Txt w K mg a) : FnOk P w K mg base (L2.CX P w) 4 a.f_Gifts_wish a.d_Gifts_wish ["self", "owner", "word", "price", "many"] (sp_wish K a) := by
  refine T.Gifts_wish.F.okX sc_Gifts_wish (fun vs H Q E h => ?_) (fun cdv A outer s H vs Q E hr h => ?_)
  · obtain ⟨D, R, Y, o, z, p, m, t1, t2, t3, t4, rfl, _⟩ := h
    rfl
  · obtain ⟨D, R, Y, ow, z, p, m, t1, t2, t3, t4, rfl, o, g1, g2, g3, g4, hz, hY, k1, k2⟩ := h
    have := T.cl_Gifts; have := T.na_Gifts_people; have := T.na_Gifts_wishes; have := T.cl_Wish; have := T.na_Wish_owner; have := T.na_Wish_word; have := T.na_Wish_price; have := T.na_Wish_many; have := T.na_Wish_stands; have := T.na_Wish_takings; have := T.na_Wish_pledges
    refine ⟨_, (pss_cons (ps_expr (G.pe_me (pv 0) T.cl_Gifts T.Gifts_look_at.m (ok_Gifts_look_at (K := K) T) (hr.mono (by decide)) T.Gifts_look_at.b (passes_call (takes_of rfl rfl rfl rfl) (fun _ _ _ _ h => h)) (pa_cons (pv 1) pa_nil)))
  (pss_cons (ps_if (pt_not (pt_val (pe_callS (ok_is_word (K := K) T) (hr.mono (by decide)) rfl T.is_word.g T.is_word.k T.is_word.b (fun σ => passAt (takes_of rfl rfl rfl rfl) σ) (pa_cons (pv 2) pa_nil)))) (pss_one (ps_raise rfl (takes_of rfl rfl rfl rfl) (pmk_own PySem.F.excBase_ValueError T.x_BadWord.x T.x_BadWord.g T.x_BadWord.k (raises_own T.x_BadWord.b T.x_BadWord.t) rfl))) pss_nil)
  (pss_cons (ps_if (pt_not (pt_val (pe_callS (ok_is_count (K := K) T) (hr.mono (by decide)) rfl T.is_count.g T.is_count.k T.is_count.b (fun σ => passAt (takes_of rfl rfl rfl rfl) σ) (pa_cons (pv 3) (pa_cons pe_int (pa_cons (pe_glob (v := .int 20) rfl T.g_MOST_PRICE ⟨_, rfl⟩) pa_nil)))))) (pss_one (ps_raise rfl (takes_of rfl rfl rfl rfl) (pmk_own PySem.F.excBase_ValueError T.x_BadPrice.x T.x_BadPrice.g T.x_BadPrice.k (raises_own T.x_BadPrice.b T.x_BadPrice.t) rfl))) pss_nil)
  (pss_cons (ps_if (pt_not (pt_val (pe_callS (ok_is_count (K := K) T) (hr.mono (by decide)) rfl T.is_count.g T.is_count.k T.is_count.b (fun σ => passAt (takes_of rfl rfl rfl rfl) σ) (pa_cons (pv 4) (pa_cons pe_int (pa_cons (pe_glob (v := .int 3) rfl T.g_MOST_PIECES ⟨_, rfl⟩) pa_nil)))))) (pss_one (ps_raise rfl (takes_of rfl rfl rfl rfl) (pmk_own PySem.F.excBase_ValueError T.x_BadMany.x T.x_BadMany.g T.x_BadMany.k (raises_own T.x_BadMany.b T.x_BadMany.t) rfl))) pss_nil)
  (pss_cons (ps_if (pt_cmpR (G.k_eqU (K := K) hr) (pe_callB (G.k_lenU (K := K)) (by rfl) T.n_len (by decide +kernel) (pa_cons (G.k_fld (K := K) (pv 0) rfl) pa_nil)) (pe_glob (v := .int 8) rfl T.g_MOST_WISHES ⟨_, rfl⟩) (nomark _)) (pss_one (ps_raise rfl (takes_of rfl rfl rfl rfl) (pmk_own PySem.F.excBase_ValueError T.x_TooMany.x T.x_TooMany.g T.x_TooMany.k (raises_own T.x_TooMany.b T.x_TooMany.t) rfl))) pss_nil)
  (pss_cons (ps_expr (G.k_bm (K := K) (pe_bm PySem.F.plainAttrs_list PySem.F.slot_list_append PySem.F.type_list_append mt_append (G.k_fld (K := K) (pv 0) rfl) (pa_cons (G.pe_mk T.mk_Wish (ok_Wish_init (K := K) T) (hr.mono (by decide)) rfl T.c_Wish T.Wish_init.b (passes_call (takes_of rfl rfl rfl rfl) (fun _ _ _ _ h => h)) (pa_cons (pv 1) (pa_cons (pv 2) (pa_cons (pv 3) (pa_cons (pv 4) pa_nil))))) pa_nil))))
  (pss_one (ps_ret (pe_op op_sub (pe_callB (G.k_lenU (K := K)) (by rfl) T.n_len (by decide +kernel) (pa_cons (G.k_fld (K := K) (pv 0) rfl) pa_nil)) pe_int))))))))), ?_⟩
    walk_at "go"
    refine u_look_at o .here g1 (fun h1 H1 o1 => ?_) (fun h1 H1 o1 => k2 .person (by unfold mWish; rw [h1]; rfl) _ o1)
    walk_at "go"
    refine u_is_word2 g2 o1 hz fun H2 o2 => ?_
    walk_at "go"
    refine r_ite (fun h2 => ?_) (fun h2 => ?_)
    · walk_at "go"
      exact k2 .word (by unfold mWish; rw [h1, nt h2]; rfl) _ o2
    have h2 := nf h2
    walk_at "go"
    refine u_is_count (g3.mono o2.sub) ?_
    walk_at "go"
    refine r_ite (fun h3 => ?_) (fun h3 => ?_)
    · walk_at "go"
      exact k2 .price (by unfold mWish; rw [h1, h2, nt h3]; rfl) _ o2
    have h3 := nf h3
    walk_at "go"
    refine u_is_count (g4.mono o2.sub) ?_
    walk_at "go"
    refine r_ite (fun h4 => ?_) (fun h4 => ?_)
    · walk_at "go"
      exact k2 .many (by unfold mWish; rw [h1, h2, h3, nt h4]; rfl) _ o2
    have h4 := nf h4
    have o3 := openGr o2
    obtain ⟨i1, rfl, _⟩ := isC_is h1
    obtain ⟨z1, rfl, _⟩ := isWd_is h2
    obtain ⟨i2, rfl, _⟩ := isC_is h3
    obtain ⟨i3, rfl, _⟩ := isC_is h4
    walk_at "go"
    rw [decV, show decide (((refs Y.xs).length : Int) = 8) = decide ((wsOf Y.xs).length = 8) by rw [refs_len, wsOf_len]; exact decide_eq_decide.mpr (by omega)]
    refine r_ite (fun h5 => ?_) (fun h5 => ?_)
    · walk_at "go"
      exact k2 .toomany (by unfold mWish; rw [h1, h2, h3, h4, h5]; rfl) _ o2
    walk_at "go"
    rename_i x dx H3 o4
    refine ⟨D, _, _, _, i1, z1, i2, i3, rfl, o4, fun H4 t q o4 => ⟨rfl, ?_⟩⟩
    have o5 := o4.pk (.there (.there .here))
    have hn := hY.n
    walk_at "go"
    refine r_app o5 .here (Nat.lt_of_le_of_lt (show _ ≤ 8 by rw [refs_len]; exact hn) (by decide)) fun H5 o6 => ?_
    walk_at "go"
    have el : ((refs Y.xs ++ [V.ref x]).length : Int) - 1 = ((wsOf Y.xs).length : Int) := by
      rw [List.length_append, refs_len, wsOf_len, List.length_singleton]
      omega
    rw [el]
    refine k1 _ _ (by unfold mWish; rw [h1, h2, h3, h4, h5]; rfl) H5 (Y.xs ++ [(⟨x, dx, t, q⟩, ⟨i1, z1, i2, i3, true, [], []⟩)]) (by unfold wsOf; rw [List.map_append]; rfl) (shutGr ?_)
    show Ok H5 D (_ :: [(Y.l, .lst (refs (Y.xs ++ _)))] :: WS a.c_Wish (Y.xs ++ _) :: R)
    rw [refs_snoc, WS_snoc]
    refine (o6.sel (.pick (.there (.there .here)) (.pick .here (.pick (.there .here) (.pick .here (.done .here)))))).re ?_
    simp
end
end PP

namespace PP
open PySem PySem.Spec PyProof.Rows L2 G
/-! seen -/
def sp_seen (K : PySem.W.Frag) (a : A) : Sp := fun vs H Q E => ∃ (D : Hp) (R : List (List Cell)) (Y : GR) (p : V) (t : String), vs = [.ref Y.g, p] ∧ Ok H D (cGr a Y :: R) ∧ Tv K D p t ∧ GOk Y ∧
  (isC 0 (Y.pe - 1) p = true → ∀ H' D' L lc ts, Ok H' D' ([(L, .lst (ts.map V.ref))] :: lc :: cGr a Y :: R) → Same D D' → RowsIs D' lc ts (seenM (intOf p) (wsOf Y.xs)) → Q (.ref L) H') ∧
  (isC 0 (Y.pe - 1) p = false → ∀ H', Ok H' D (cGr a Y :: R) → E (.ref a.c_BadPerson) none H')
section
variable {P : Program} {w : World} {K : PySem.W.Frag} {mg : Str → Option Value} {base : Heap} {a : A} {H D : Hp} {Q : VK} {E : XK} {Ms R : List (List G.Cell)}
local macro_rules | `(tactic| walk_at "g3") => `(tactic| ((with_reducible refine' g_me (by assumption) ?k ?l ?_); (case k => walk_at "mem"); (case l => rfl)))
theorem seenFrom_len (p : Int) : ∀ (i : Nat) (ws : List W), (seenFrom p i ws).length ≤ ws.length
  | _, [] => Nat.le_refl _
  | i, w :: r => by
    have h := seenFrom_len p (i + 1) r
    have h2 : (rowOf p i w).toList.length ≤ 1 := by cases rowOf p i w <;> simp
    show ((rowOf p i w).toList ++ seenFrom p (i + 1) r).length ≤ _
    rw [List.length_append, List.length_cons]
    omega
theorem ok_Gifts_seen (T : Txt w K mg a) : FnOk P w K mg base (L2.CX P w) 4 a.f_Gifts_seen a.d_Gifts_seen ["self", "person"] (sp_seen K a) := by
  refine T.Gifts_seen.F.okX sc_Gifts_seen (fun vs H Q E h => ?_) (fun cdv A outer s H vs Q E hr h => ?_)
  · obtain ⟨D, R, Y, p, t, rfl, _⟩ := h
    rfl
  · obtain ⟨D, R, Y, p, t, rfl, o, hp, hY, k1, k2⟩ := h
    have := T.cl_Gifts; have := T.na_Gifts_people; have := T.na_Gifts_wishes; have := T.cl_Wish; have := T.na_Wish_owner; have := T.na_Wish_word; have := T.na_Wish_price; have := T.na_Wish_many; have := T.na_Wish_stands; have := T.na_Wish_takings; have := T.na_Wish_pledges
    refine ⟨_, (pss_cons (ps_expr (G.pe_me (pv 0) T.cl_Gifts T.Gifts_look_at.m (ok_Gifts_look_at (K := K) T) (hr.mono (by decide)) T.Gifts_look_at.b (passes_call (takes_of rfl rfl rfl rfl) (fun _ _ _ _ h => h)) (pa_cons (pv 1) pa_nil)))
  (pss_cons (ps_set (i := 2) sc_Gifts_seen.nd rfl (by first | exact Or.inl rfl | exact Or.inr rfl) (pe_lst pa_nil))
  (pss_cons (ps_for (passes_of rfl) rfl (G.k_enum (K := K) rfl T.n_enumerate (pa_cons (G.k_fld (K := K) (pv 0) rfl) pa_nil)) (G.k_gtup (K := K) rfl (pgs_cons (pg_name (i := 3) sc_Gifts_seen.nd rfl (by first | exact Or.inl rfl | exact Or.inr rfl)) (pgs_cons (pg_name (i := 4) sc_Gifts_seen.nd rfl (by first | exact Or.inl rfl | exact Or.inr rfl)) pgs_nil)))
  (pss_cons (ps_set (i := 5) sc_Gifts_seen.nd rfl (by first | exact Or.inl rfl | exact Or.inr rfl) (pe_or (pe_cmpR (G.k_neU (K := K) hr) (G.k_fld (K := K) (pv 4) rfl) pe_dnewK (nomark _)) (pe_one (pe_cmpR (G.k_neU (K := K) hr) (G.k_fld (K := K) (pv 4) rfl) pe_dnewK (nomark _)))))
  (pss_one (ps_if (PW.pt (pw_or (pt_val (G.k_fld (K := K) (pv 4) rfl)) (pw_or1 (PW.pt (pw_and (pt_val (pv 5)) (pw_and1 (pt_cmpR (G.k_neU (K := K) hr) (G.k_fld (K := K) (pv 4) rfl) (pv 1) (nomark _)))))))) (pss_cons (ps_set (i := 6) sc_Gifts_seen.nd rfl (by first | exact Or.inl rfl | exact Or.inr rfl) (pe_ifExp (pt_cmpR (G.k_eqU (K := K) hr) (G.k_fld (K := K) (pv 4) rfl) (pv 1) (nomark _)) pe_non (G.pe_me0 (pv 4) T.cl_Wish T.Wish_done.m (ok_Wish_done (K := K) T) (hr.mono (by decide)) T.Wish_done.b (passes_call (takes_of rfl rfl rfl rfl) (fun _ _ _ _ h => h)))))
  (pss_one (ps_expr (G.k_bm (K := K) (pe_bm PySem.F.plainAttrs_list PySem.F.slot_list_append PySem.F.type_list_append mt_append (pv 2) (pa_cons (pe_tup (pa_cons (pv 3) (pa_cons (G.k_fld (K := K) (pv 4) rfl) (pa_cons (G.k_fld (K := K) (pv 4) rfl) (pa_cons (G.k_fld (K := K) (pv 4) rfl) (pa_cons (G.k_fld (K := K) (pv 4) rfl) (pa_cons (pv 6) pa_nil))))))) pa_nil)))))) pss_nil))))
  (pss_one (ps_ret (pv 2)))))), ?_⟩
    walk_at "go"
    refine u_look_at o .here hp (fun h1 H1 o1 => ?_) (fun h1 H1 o1 => k2 h1 _ o1)
    obtain ⟨j, rfl, _⟩ := isC_is h1
    walk_at "go"
    rename_i L H2 o2
    have o3 := openGr (o2.pk (.there .here))
    walk_at "go"
    refine r_ienum (SqL.of (o3.at1 (.tail _ (.head _)))) ?_
    refine for_it (walk_enum (xs := refs Y.xs)) (fun i σ H' => ∃ v1 v2 v3 v4 D' lc ts, σ = [some (.ref Y.g), some (.int j), some (.ref L), v1, v2, v3, v4] ∧ Ok H' D' ([(L, .lst (ts.map V.ref))] :: lc :: cGr a Y :: R) ∧ Same D D' ∧ RowsIs D' lc ts (seenFrom j 0 ((wsOf Y.xs).take i)))
      ⟨none, none, none, none, D, [], [], rfl, o2.sel (.pick .here (.done .here)) |>.nil.sel (.pick (.there .here) (.pick .here (.done .here))), Same.refl D, .nil⟩ ?_ ?_ ?_
    · rintro i σ H' _ ⟨v1, v2, v3, v4, D', lc, ts, rfl, o', s', hr'⟩
      exact SqL.of ((openGr (o'.pk (.there (.there .here)))).at1 (.tail _ (.head _)))
    · rintro i y σ H' H'' hi ⟨v1, v2, v3, v4, D', lc, ts, rfl, o', s', hr'⟩ ⟨TT, x1, x2, rfl, nT, rfl, ex1, ex2⟩
      obtain rfl := Option.some.inj ex1
      rw [refs_len] at hi
      obtain ⟨x, hx⟩ : ∃ x, Y.xs[i]? = some x := ⟨_, List.getElem?_eq_getElem hi⟩
      have ex3 : (refs Y.xs)[i]? = some (.ref x.1.p) := by unfold refs; rw [List.getElem?_map, hx]; rfl
      have ex2 : (refs Y.xs)[i]? = some x2 := ex2
      rw [ex3] at ex2
      obtain rfl := Option.some.inj ex2
      have oT := o'.new (o := .tup [.int (i : Nat), .ref x.1.p]) nT
      refine r_gtup (SqT.of (oT.at1 (.head _))) rfl ?_
      have o4 := openAt (oT.sel (.pick (.there (.there (.there .here))) (.pick (.there .here) (.pick (.there .here) (.done (.there .here)))))) hx
      have hw := hY.w x (List.mem_of_getElem? hx)
      generalize upd H' TT (.tup [.int (i : Nat), .ref x.1.p]) = H3 at o4 oT ⊢
      have hlt : ts.length ≤ 8 := by
        have e1 := Paired.length hr'
        have e2 := seenFrom_len j 0 ((wsOf Y.xs).take i)
        have e3 := hY.n
        rw [List.length_take] at e2
        omega
      have etk : (wsOf Y.xs).take (i + 1) = (wsOf Y.xs).take i ++ [x.2] := by
        rw [List.take_succ, wsOf_get, hx]
        rfl
      have ei : 0 + ((wsOf Y.xs).take i).length = i := by
        rw [List.length_take, wsOf_len]
        omega
      have esn : seenFrom j 0 ((wsOf Y.xs).take (i + 1)) = seenFrom j 0 ((wsOf Y.xs).take i) ++ (rowOf j i x.2).toList := by
        rw [etk, seenFrom_snoc, ei]
      have shut : ∀ {H4 D4 : Hp} {lc4 : List Cell} {zs : List V}, Ok H4 D4 ([(x.1.p, .ins a.c_Wish x.1.dx (wishF x.2 x.1.t x.1.q))] :: [(x.1.t, .dK (kvs x.2.tk))] :: [(x.1.q, .dK (kvs x.2.pl))] :: [(Y.g, .ins a.c_Gifts Y.dx (gF Y.pe Y.l))] :: [(Y.l, .lst (refs Y.xs))] :: WSx a.c_Wish Y.xs i :: [(L, .lst zs)] :: lc4 :: R) → Ok H4 D4 ([(L, .lst zs)] :: lc4 :: cGr a Y :: R) := fun o5 => by
        have q := shutAt hx o5
        rw [set_same hx] at q
        exact q.sel (.pick (.there .here) (.pick (.there .here) (.pick .here (.done .here))))
      clear oT
      iterate 7 walk_at "g1"
      refine r_valJ (te := tOrV _ _) (.bl (!x.2.tk.isEmpty || !x.2.pl.isEmpty)) (fun H4 => Ok H4 D' ([(x.1.p, .ins a.c_Wish x.1.dx (wishF x.2 x.1.t x.1.q))] :: [(x.1.t, .dK (kvs x.2.tk))] :: [(x.1.q, .dK (kvs x.2.pl))] :: [(Y.g, .ins a.c_Gifts Y.dx (gF Y.pe Y.l))] :: [(Y.l, .lst (refs Y.xs))] :: WSx a.c_Wish Y.xs i :: [(L, .lst (ts.map V.ref))] :: lc :: R)) (fun Q' k => ?_) (fun H4 o5 => ?_)
      · walk_at "go"
        refine r_ite (fun h => ?_) (fun h => ?_)
        · rw [kvs_empty] at h
          rw [h] at k
          exact k _ (by walk_at "fin")
        · walk_at "go"
          rw [kvs_empty] at h ⊢
          rw [h] at k
          exact k _ (by walk_at "fin")
      · walk_at "g1"
        with_reducible refine r_ifJ (x.2.st || ((!x.2.tk.isEmpty || !x.2.pl.isEmpty) && !decide (x.2.ow = j))) (fun H4 => Ok H4 D' ([(x.1.p, .ins a.c_Wish x.1.dx (wishF x.2 x.1.t x.1.q))] :: [(x.1.t, .dK (kvs x.2.tk))] :: [(x.1.q, .dK (kvs x.2.pl))] :: [(Y.g, .ins a.c_Gifts Y.dx (gF Y.pe Y.l))] :: [(Y.l, .lst (refs Y.xs))] :: WSx a.c_Wish Y.xs i :: [(L, .lst (ts.map V.ref))] :: lc :: R)) (fun B k => ?_) (fun hc H5 o6 => ?_) (fun hc H5 o6 => ?_)
        · walk_at "go"
          refine r_ite (fun h => ?_) (fun h => ?_)
          · rw [h] at k
            exact k _ o5
          · walk_at "go"
            refine r_ite (fun h2 => ?_) (fun h2 => ?_)
            · walk_at "go"
              rw [decV]
              rw [h, h2] at k
              exact k _ o5
            · rw [h, h2] at k
              exact k _ o5
        · walk_at "go"
          rw [decV]
          refine r_ite (fun h => ?_) (fun h => ?_)
          · walk_at "go"
            rename_i T6 H6 o7 H7 o8
            obtain ⟨o9, s9, e9⟩ := (o8.pk (.there .here)).frz
            have e := e9 _ (.head _)
            have o10 : Ok _ _ ([(x.1.p, .ins a.c_Wish x.1.dx (wishF x.2 x.1.t x.1.q))] :: [(x.1.t, .dK (kvs x.2.tk))] :: [(x.1.q, .dK (kvs x.2.pl))] :: [(Y.g, .ins a.c_Gifts Y.dx (gF Y.pe Y.l))] :: [(Y.l, .lst (refs Y.xs))] :: WSx a.c_Wish Y.xs i :: [(L, .lst (ts.map V.ref ++ [.ref T6]))] :: lc :: R) := o9.sel (by walk_at "sel")
            have o11 := shut o10
            have er : rowOf j i x.2 = some ⟨i, x.2.ow, x.2.word, x.2.price, x.2.many, none⟩ := by
              unfold rowOf
              rw [hc, if_pos (of_decide_eq_true h)]
              rfl
            refine ⟨_, _, _, _, _, lc, ts ++ [T6], rfl, (by rw [List.map_append]; exact o11), s'.trans s9, ?_⟩
            rw [esn, er]
            exact Paired.snoc (hr'.mono s9 fun c h => h) ⟨_, e, rfl⟩
          · walk_at "go"
            refine ⟨D', _, x.1, x.2, rfl, Ok.shutW o6, hw, fun H6 D6 T6 L1 L2 as1 as2 o7 s7 e7 p1 p2 => ?_⟩
            have o8 := (o7.pk (.there .here)).openW
            clear o7
            walk_at "go"
            rename_i T7 H7 o7 H8 o9
            obtain ⟨o9, s9, e9⟩ := (o9.pk (.there .here)).frz
            have e := e9 _ (.head _)
            have o10 : Ok _ _ ([(x.1.p, .ins a.c_Wish x.1.dx (wishF x.2 x.1.t x.1.q))] :: [(x.1.t, .dK (kvs x.2.tk))] :: [(x.1.q, .dK (kvs x.2.pl))] :: [(Y.g, .ins a.c_Gifts Y.dx (gF Y.pe Y.l))] :: [(Y.l, .lst (refs Y.xs))] :: WSx a.c_Wish Y.xs i :: [(L, .lst (ts.map V.ref ++ [.ref T7]))] :: [(L1, .lst (as1.map V.ref)), (L2, .lst (as2.map V.ref))] :: lc :: R) := o9.sel (by walk_at "sel")
            have o11 := shut (zs := ts.map V.ref ++ [.ref T7]) (lc4 := (L1, .lst (as1.map V.ref)) :: (L2, .lst (as2.map V.ref)) :: lc) (o10.re (.of_eq (by simp only [List.flatten_cons, List.cons_append, List.nil_append])))
            have er : rowOf j i x.2 = some ⟨i, x.2.ow, x.2.word, x.2.price, x.2.many, some (x.2.st, srt x.2.tk, srt x.2.pl)⟩ := by
              unfold rowOf
              rw [hc, if_neg (of_decide_eq_false h)]
              rfl
            refine ⟨_, _, _, _, _, _, ts ++ [T7], rfl, (by rw [List.map_append]; exact o11), (s'.trans s7).trans s9, ?_⟩
            rw [esn, er]
            exact Paired.snoc (hr'.mono (s7.trans s9) fun c h => .tail _ (.tail _ h)) ⟨_, e, T6, L1, L2, as1, as2, rfl, s9 _ _ e7, .head _, .tail _ (.head _), p1.mono s9, p2.mono s9⟩
        · walk_at "go"
          refine ⟨_, _, _, _, D', lc, ts, rfl, shut o6, s', ?_⟩
          rw [esn]
          have e : rowOf j i x.2 = none := by unfold rowOf; rw [hc]; rfl
          rw [e]
          simpa using hr'
    · rintro σ H' ⟨v1, v2, v3, v4, D', lc, ts, rfl, o', s', hr'⟩
      rw [refs_len, ← wsOf_len, List.take_length] at hr'
      walk_at "go"
      exact k1 h1 _ _ _ _ _ o' s' hr'
end
end PP

namespace PP
open PySem PySem.Spec PyProof.Rows L2 G
/-! what are deeds -/
def isIntD : PyData → Bool
  | .int _ => true
  | _ => false
def isStrD : PyData → Bool
  | .str _ => true
  | _ => false
def tyD : PyData → String
  | .none => "NoneType"
  | .bool _ => "bool"
  | .int _ => "int"
  | .str _ => "str"
  | .list _ => "list"
  | .tuple _ => "tuple"
  | .dict _ => "dict"
theorem fz_tv {K : PySem.W.Frag} {D H : Hp} {v : V} {d : PyData} (e : Same D H) (h : Fz D v d) : Tv K H v (tyD d) := by
  cases h with
  | non => exact .non
  | bl b => exact .bl b
  | int i => exact .int i
  | str x => exact .str x
  | lst h _ => exact .lst (e _ _ h)
  | tup h _ => exact .tup (e _ _ h)
  | dct h => exact .dct (e _ _ h)
theorem isW_D {D : Hp} {v : V} {d : PyData} (h : Fz D v d) : isW v = isIntD d := by cases h <;> rfl
theorem tyD_int (d : PyData) : (tyD d == "int") = isIntD d := by cases d <;> rfl
theorem tyD_str (d : PyData) : (tyD d == "str") = isStrD d := by cases d <;> rfl
def sizeD (k : Str) : Option Int :=
  if k = "wish" then some 5 else if k = "alter" then some 4 else if k = "drop" then some 3 else if k = "take" then some 4 else if k = "pledge" then some 4 else if k = "back" then some 3 else none
theorem sizeD_bd {z : Str} {n : Int} (h : sizeD z = some n) : 3 ≤ n ∧ n ≤ 5 := by
  unfold sizeD at h
  (repeat' split at h) <;> first | (cases h; omega) | cases h
def wishD : List PyData → Bool
  | [x, z, y, u] => isStrD z && (isIntD x && (isIntD y && isIntD u))
  | _ => false
def isDeedD : PyData → Bool
  | .tuple (.str k :: r) => match sizeD k with
    | none => false
    | some n => decide ((r.length : Int) + 1 = n) && (if k = "wish" then wishD r else r.all isIntD)
  | _ => false
def areDeedsD : PyData → Bool
  | .list ds => decide (ds.length ≤ 30) && ds.all isDeedD
  | _ => false
def kinds7 : List Str := ["wish", "alter", "drop", "take", "pledge", "back", "give"]
def KnownD : PyData → Prop
  | .tuple (.str k :: _) => k ∈ kinds7
  | _ => True
theorem isDeedD_dat (d : Deed) : isDeedD d.dat = true := by cases d <;> rfl
theorem known_dat (d : Deed) : KnownD d.dat := by cases d <;> (show _ ∈ kinds7; decide)
theorem areDeedsD_dat (ds : List Deed) : areDeedsD (.list (ds.map Deed.dat)) = decide (ds.length ≤ 30) := by
  show (decide ((ds.map Deed.dat).length ≤ 30) && (ds.map Deed.dat).all isDeedD) = _
  rw [List.length_map, List.all_map, show ds.all (isDeedD ∘ Deed.dat) = true from List.all_eq_true.mpr (fun d _ => isDeedD_dat d), Bool.and_true]
theorem sIx1 {n : Nat} (h : 1 ≤ n) : HT.sIx n 0 (some 1) = 1 := (HT.sIx_nat n 0 1).trans (by omega)
theorem at0 {v : V} {vs : List V} : atI (v :: vs) 0 = some v := atI_nat (xs := v :: vs) (j := 0) rfl
theorem fz_len0 {D : Hp} {xs : List V} (h : FzAll D xs []) : xs = [] := by cases h; rfl
theorem fz_cons {D : Hp} {xs : List V} {d : PyData} {ds : List PyData} (h : FzAll D xs (d :: ds)) : ∃ v vs, xs = v :: vs ∧ Fz D v d ∧ FzAll D vs ds := by
  cases h with
  | cons h t => exact ⟨_, _, rfl, h, t⟩
def sp_is_deed (K : PySem.W.Frag) : Sp := fun vs H Q _ => ∃ (D : Hp) (R : List (List Cell)) (v : V) (d : PyData), vs = [v] ∧ Ok H D R ∧ Fz D v d ∧ KnownD d ∧ ∀ H', Ok H' D R → Q (.bl (isDeedD d)) H'
def sp_are_deeds (K : PySem.W.Frag) : Sp := fun vs H Q _ => ∃ (D : Hp) (R : List (List Cell)) (v : V) (d : PyData), vs = [v] ∧ Ok H D R ∧ Fz D v d ∧ (∀ ds, d = .list ds → ∀ x ∈ ds, KnownD x) ∧ ∀ H', Ok H' D R → Q (.bl (areDeedsD d)) H'
def sp_check_people (K : PySem.W.Frag) (a : A) : Sp := fun vs H Q E => ∃ v t, vs = [v] ∧ Tv K H v t ∧ (isC 1 5 v = true → Q .non H) ∧ (isC 1 5 v = false → E (.ref a.c_BadPeople) none H)
def sp_check_deeds (K : PySem.W.Frag) (a : A) : Sp := fun vs H Q E => ∃ (D : Hp) (R : List (List Cell)) (v : V) (d : PyData), vs = [v] ∧ Ok H D R ∧ Fz D v d ∧ (∀ ds, d = .list ds → ∀ x ∈ ds, KnownD x) ∧
  (areDeedsD d = true → ∀ H', Ok H' D R → Q .non H') ∧ (areDeedsD d = false → ∀ H', Ok H' D R → E (.ref a.c_BadDeeds) none H')
section
variable {P : Program} {w : World} {K : PySem.W.Frag} {mg : Str → Option Value} {base : Heap} {a : A} {H D : Hp} {Q : VK} {E : XK} {Ms R : List (List G.Cell)}
/-- the sizes by kind -/
theorem size_at (T : Txt w K mg a) {k : Str} (hk : k ∈ kinds7) : (∃ n t, sizeD k = some n ∧ PySem.W.nsIn K a.g_SIZES k = some (some (.int n t))) ∨ (sizeD k = none ∧ PySem.W.nsIn K a.g_SIZES k = some none) := by
  simp only [kinds7, List.mem_cons, List.not_mem_nil, or_false] at hk
  rcases hk with rfl | rfl | rfl | rfl | rfl | rfl | rfl
  · exact .inl ⟨5, _, by decide, T.v_SIZES_wish⟩
  · exact .inl ⟨4, _, by decide, T.v_SIZES_alter⟩
  · exact .inl ⟨3, _, by decide, T.v_SIZES_drop⟩
  · exact .inl ⟨4, _, by decide, T.v_SIZES_take⟩
  · exact .inl ⟨4, _, by decide, T.v_SIZES_pledge⟩
  · exact .inl ⟨3, _, by decide, T.v_SIZES_back⟩
  · exact .inr ⟨by decide, T.v_SIZES_give⟩
theorem u_whole {v : V} {d : PyData} (e : Same D H) (h : Fz D v d) (q : Q (.bl (isIntD d)) H) : sp_is_whole K [v] H Q E := ⟨v, _, rfl, fz_tv e h, by rw [isW_D h]; exact q⟩
theorem all_at {f : PyData → Bool} {ds : List PyData} : (List.range ds.length).map (fun i => V.bl (f (ds.getD i .none))) = (ds.map f).map V.bl := by
  rw [List.map_map]
  refine List.ext_getElem (by simp) fun i h1 h2 => ?_
  simp at h1
  simp [h1]
theorem ok_is_deed (T : Txt w K mg a) : FnOk P w K mg base (L2.CX P w) 2 a.f_is_deed a.d_is_deed ["thing"] (sp_is_deed K) := by
  refine T.is_deed.F.okX sc_is_deed (fun vs H Q E h => ?_) (fun cdv A outer s H vs Q E hr h => ?_)
  · obtain ⟨D, R, v, d, rfl, _⟩ := h
    rfl
  · obtain ⟨D, R, v, d, rfl, o, hf, hk, k⟩ := h
    refine ⟨_, (pss_cons (ps_if (PW.pt (pw_or (pt_not (pt_val (pe_callB (G.k_isi (K := K)) (by rfl) T.n_isinstance (by decide +kernel) (pa_cons (pv 0) (pa_cons (pe_bltn (v := .ty "tuple") (by rfl) T.n_tuple boot_tuple rfl) pa_nil))))) (pw_or (pt_cmpR op_lt (pe_callB (G.k_lenU (K := K)) (by rfl) T.n_len (by decide +kernel) (pa_cons (pv 0) pa_nil)) pe_int (nomark _)) (pw_or (pt_not (pt_val (pe_callB (G.k_isi (K := K)) (by rfl) T.n_isinstance (by decide +kernel) (pa_cons (pe_ix (G.k_ixU (K := K) (hu_of hr)) (pv 0) pe_int (fun _ _ => rfl)) (pa_cons (pe_bltn (v := .ty "str") (by rfl) T.n_str boot_str rfl) pa_nil))))) (pw_or1 (pt_cmpR (G.k_ninKD (K := K) (w := w) T.d_SIZES) (pe_ix (G.k_ixU (K := K) (hu_of hr)) (pv 0) pe_int (fun _ _ => rfl)) (pe_glob (v := .ref a.g_SIZES) rfl T.g_SIZES rfl) (by first | rfl | exact nomark _))))))) (pss_one (ps_ret pe_bl)) pss_nil)
  (pss_cons (ps_if (pt_cmpR (G.k_neU (K := K) hr) (pe_callB (G.k_lenU (K := K)) (by rfl) T.n_len (by decide +kernel) (pa_cons (pv 0) pa_nil)) (pe_ix (G.k_ixKD (K := K) (w := w)) (pe_glob (v := .ref a.g_SIZES) rfl T.g_SIZES rfl) (pe_ix (G.k_ixU (K := K) (hu_of hr)) (pv 0) pe_int (fun _ _ => rfl)) (fun _ _ => rfl)) (nomark _)) (pss_one (ps_ret pe_bl)) pss_nil)
  (pss_cons (ps_set (i := 1) sc_is_deed.nd rfl (by first | exact Or.inl rfl | exact Or.inr rfl) (pe_slice (G.k_slU (K := K)) (pv 0) (po_some pe_int) po_none))
  (pss_cons (ps_if (pt_cmpR (G.k_eqU (K := K) hr) (pe_ix (G.k_ixU (K := K) (hu_of hr)) (pv 0) pe_int (fun _ _ => rfl)) pe_str (nomark _)) (pss_cons (ps_if (pt_not (pt_val (pe_callB (G.k_isi (K := K)) (by rfl) T.n_isinstance (by decide +kernel) (pa_cons (pe_ix (G.k_ixU (K := K) (hu_of hr)) (pv 0) pe_int (fun _ _ => rfl)) (pa_cons (pe_bltn (v := .ty "str") (by rfl) T.n_str boot_str rfl) pa_nil))))) (pss_one (ps_ret pe_bl)) pss_nil)
  (pss_one (ps_set (i := 1) sc_is_deed.nd rfl (by first | exact Or.inl rfl | exact Or.inr rfl) (pe_tup (pa_cons (pe_ix (G.k_ixU (K := K) (hu_of hr)) (pv 0) pe_int (fun _ _ => rfl)) (pa_cons (pe_ix (G.k_ixU (K := K) (hu_of hr)) (pv 0) pe_int (fun _ _ => rfl)) (pa_cons (pe_ix (G.k_ixU (K := K) (hu_of hr)) (pv 0) pe_int (fun _ _ => rfl)) pa_nil))))))) pss_nil)
  (pss_one (ps_ret (pe_callB (G.k_all (K := K) rfl) (by rfl) T.n_all (by decide +kernel) (pa_cons (pe_lc (own := [("one", 2)]) (g := (gName 2)) (tt := tYes) rfl sc_is_deed.nd (G.k_seq (K := K) (pv 1)) (blkOk_by (own := [("one", 2)]) (N := ["thing", "numbers", "one"]) (sc := defScope s_is_deed) (by decide +kernel)) (fun _ _ _ _ _ => (pg_name (i := 2) sc_is_deed.nd rfl (by first | exact Or.inl rfl | exact Or.inr rfl))) (fun _ _ _ _ _ => pts_nil) (fun _ _ _ _ _ => (pe_call (ok_is_whole (K := K) T) (hr.mono (by decide)) rfl T.is_whole.g T.is_whole.k T.is_whole.b .nil passL (pa_cons (pv 2) pa_nil)))) pa_nil)))))))), ?_⟩
    have tv := fz_tv (K := K) o.sub hf
    -- the end: all of the numbers
    walk_at "go"
    refine isi tv (kit_tuple _ tv.mem) ?_
    walk_at "go"
    cases d with
    | none => walk_at "go"; exact k _ o
    | bool b => walk_at "go"; exact k _ o
    | int i => walk_at "go"; exact k _ o
    | str x => walk_at "go"; exact k _ o
    | list ds => walk_at "go"; exact k _ o
    | dict kv => walk_at "go"; exact k _ o
    | tuple ds =>
      obtain ⟨p, xs, rfl, hp, hxs⟩ := fz_tup hf
      have hpT := SqT.of (K := K) hp
      rw [show (!(tyD (.tuple ds) == "tuple")) = false from rfl]
      walk_at "go"
      refine r_lenT (o.sqT hpT) ?_
      walk_at "go"
      cases ds with
      | nil =>
        obtain rfl := fz_len0 hxs
        walk_at "go"
        exact k _ o
      | cons d0 r =>
        obtain ⟨v0, vs, rfl, h0, hvs⟩ := fz_cons hxs
        have hl := hvs.len
        rw [show decide (((v0 :: vs).length : Int) < 1) = false from decide_eq_false (by rw [List.length_cons]; omega)]
        walk_at "go"
        refine r_ixT (o.sqT hpT) at0 ?_
        walk_at "go"
        have tv0 := fz_tv (K := K) o.sub h0
        refine isi tv0 (kit_str _ tv0.mem) ?_
        walk_at "go"
        rw [tyD_str]
        cases hs : isStrD d0 with
        | false =>
          walk_at "go"
          rw [show isDeedD (.tuple (d0 :: r)) = false by cases d0 <;> first | rfl | cases hs] at k
          exact k _ o
        | true =>
          obtain ⟨z, rfl⟩ : ∃ z, d0 = .str z := by cases d0 <;> first | exact ⟨_, rfl⟩ | cases hs
          obtain rfl := fz_str h0
          walk_at "go"
          refine r_ixT (o.sqT hpT) at0 ?_
          walk_at "go"
          rcases size_at T hk with ⟨n, t, e1, e2⟩ | ⟨e1, e2⟩
          · refine r_ninKD e2 ?_
            walk_at "go"
            refine r_lenT (o.sqT hpT) ?_
            walk_at "go"
            refine r_ixT (o.sqT hpT) at0 ?_
            refine r_ixKD T.d_SIZES e2 ?_
            walk_at "go"
            rw [decV]
            have e3 : isDeedD (.tuple (.str z :: r)) = (decide ((r.length : Int) + 1 = n) && (if z = "wish" then wishD r else r.all isIntD)) := by
              show (match sizeD z with | none => false | some n => _) = _
              rw [e1]
            rw [e3] at k
            have e4 : decide (((V.str z :: vs).length : Int) = n) = decide ((r.length : Int) + 1 = n) := by rw [List.length_cons, hl]; rfl
            rw [e4]
            cases hn : decide ((r.length : Int) + 1 = n) with
            | false =>
              rw [hn] at k
              walk_at "go"
              exact k _ o
            | true =>
              rw [hn] at k
              have hn2 := of_decide_eq_true hn
              have hn3 := sizeD_bd e1
              walk_at "go"
              refine r_slT o (o.sqT hpT) (by
                rintro ⟨h1, _⟩
                have := sIx1 (n := (V.str z :: vs).length) (by rw [List.length_cons]; omega)
                rw [this] at h1
                cases h1) fun p1 H1 o1 => ?_
              have ecut : cutV (V.str z :: vs) (some 1) none = vs := by
                have := sIx1 (n := (V.str z :: vs).length) (by rw [List.length_cons]; omega)
                unfold cutV
                rw [this]
                show List.take ((V.str z :: vs).length - 1) vs = vs
                rw [List.length_cons]
                exact List.take_of_length_le (by omega)
              rw [ecut] at o1
              walk_at "go"
              refine r_ixT (o1.sqT hpT) at0 ?_
              walk_at "go"
              -- the numbers told, one by one
              have fin : ∀ {E : XK} {H2 : Hp} {Ms : List (List Cell)} {p2 : Addr} {ys : List V} {es : List PyData} {Q' : VK}, Ok H2 D Ms → FzAll D ys es → SqT K H2 p2 ys → [(p2, .tup ys)] ∈ Ms → es.length ≤ 1000 → (∀ H3 L, Ok H3 D ([(L, .lst ((es.map isIntD).map V.bl))] :: Ms) → Q' (.ref L) H3) →
                  ∀ {σ : L2.St}, σ[1]? = some (some (.ref p2)) → 3 ≤ σ.length → tLc (iSeq K (tVar 1)) (gName 2) tYes (tCall (sp_is_whole K) [] E (tCons (tVar 2) tNil)) [2] σ H2 Q' := by
                intro E' H2 Ms p2 ys es Q' o2 f2 s2 m2 l2 q2 σ hσ hlσ
                refine r_lc (i_seq (r_var hσ (r_iseqT s2 ?_)))
                have hle := f2.len
                refine lcMap (fun i => V.bl (isIntD (es.getD i .none))) walk_tup o2 (by omega) (fun L acc H' o' => SqT.of (o'.at1 (.tail _ m2))) ?_ ?_
                · rintro i x L acc H' H'' Ny Nn hi o' ⟨rfl, ex⟩ q'
                  obtain ⟨d, hd, fd⟩ := f2.get ex
                  refine r_name ⟨by simp [wipe, List.set_set], ?_⟩
                  refine r_yes (r_iteT (r_call (r_cons (r_var (v := x) ?_ (r_nil ?_)))))
                  · show ((σ.set 2 none).set 2 _)[2]? = _
                    rw [List.getElem?_set_self (by simp; omega)]
                  · refine u_whole o'.sub fd ?_
                    have e5 : es.getD i .none = d := by rw [List.getD_eq_getElem?_getD, hd]; rfl
                    have q5 := q' _ o'
                    rw [e5] at q5
                    exact q5
                · intro L H' o'
                  rw [hle, all_at] at o'
                  exact q2 _ _ o'
              by_cases hz : z = "wish"
              · subst hz
                obtain rfl : n = 5 := by
                  have := e1.symm.trans (show sizeD "wish" = some 5 by decide)
                  exact Option.some.inj this
                match r, hvs, hn2, hl with
                | [], _, h, _ => simp at h
                | [_], _, h, _ => simp at h
                | [_, _], _, h, _ => simp at h
                | [_, _, _], _, h, _ => simp at h
                | _ :: _ :: _ :: _ :: _ :: _, _, h, _ => simp at h; omega
                | [dx, dz, dy, du], hvs, _, _ =>
                  obtain ⟨vx, _, rfl, fx, hvs⟩ := fz_cons hvs
                  obtain ⟨vz, _, rfl, fz, hvs⟩ := fz_cons hvs
                  obtain ⟨vy, _, rfl, fy, hvs⟩ := fz_cons hvs
                  obtain ⟨vu, _, rfl, fu, hvs⟩ := fz_cons hvs
                  obtain rfl := fz_len0 hvs
                  rw [show (true && (if ("wish" : Str) = "wish" then wishD [dx, dz, dy, du] else [dx, dz, dy, du].all isIntD)) = (isStrD dz && (isIntD dx && (isIntD dy && isIntD du))) from rfl] at k
                  rw [show decide (V.str "wish" = V.str "wish") = true from decide_eq_true rfl]
                  walk_at "go"
                  have tvz := fz_tv (K := K) o1.sub fz
                  refine isi tvz (kit_str _ tvz.mem) ?_
                  walk_at "go"
                  rw [tyD_str]
                  cases hsz : isStrD dz with
                  | false =>
                    rw [hsz] at k
                    walk_at "go"
                    exact k _ o1.drop
                  | true =>
                    rw [hsz] at k
                    repeat (first | with_reducible refine r_bl ?_ | with_reducible refine r_iteF ?_ | with_reducible refine r_iteKF rfl ?_ | with_reducible refine r_next ?_ | with_reducible refine r_seq ?_)
                    refine r_asg (r_tup (r_cons (r_op (r_var rfl (r_c (r_ixT (o1.sqT hpT) rfl (r_cons (r_op (r_var rfl (r_c (r_ixT (o1.sqT hpT) rfl (r_cons (r_op (r_var rfl (r_c (r_ixT (o1.sqT hpT) rfl (r_nil ?_)))))))))))))))))
                    refine r_newT o1 (sz_of rfl) fun p2 H2 o2 => ?_
                    repeat (first | with_reducible refine r_name ?_ | with_reducible refine r_next ?_ | with_reducible refine r_seq ?_)
                    refine r_ret (r_cb (r_cons (fin (σ := [some (.ref p), some (.ref p2), none]) (es := [dx, dy, du]) o2 (.cons fx (.cons fy (.cons fu .nil))) (SqT.of (o2.at1 (.head _))) (.head _) (show 3 ≤ 1000 by decide) (fun H3 L o3 => ?_) rfl (Nat.le_refl 3))))
                    refine r_nil (r_all (bs := [dx, dy, du].map isIntD) (SqL.of (o3.at1 (.head _))) rfl ?_)
                    have := k _ o3.drop.drop.drop
                    simpa using this
              · rw [if_neg hz] at k
                rw [show decide (V.str z = V.str "wish") = false from decide_eq_false (fun h => hz (V.str.inj h))]
                repeat (first | with_reducible refine r_iteF ?_ | with_reducible refine r_next ?_ | with_reducible refine r_seq ?_)
                refine r_ret (r_cb (r_cons (fin (σ := [some (.ref p), some (.ref p1), none]) (es := r) o1 hvs (SqT.of (o1.at1 (.head _))) (.head _) (by
                  omega) (fun H3 L o3 => ?_) rfl (Nat.le_refl 3))))
                refine r_nil (r_all (bs := r.map isIntD) (SqL.of (o3.at1 (.head _))) rfl ?_)
                have := k _ o3.drop.drop
                rw [List.all_map]
                simpa using this
          · refine r_ninKD e2 ?_
            walk_at "go"
            rw [show isDeedD (.tuple (.str z :: r)) = false by show (match sizeD z with | none => false | some n => _) = _; rw [e1]] at k
            exact k _ o
theorem ok_are_deeds (T : Txt w K mg a) : FnOk P w K mg base (L2.CX P w) 3 a.f_are_deeds a.d_are_deeds ["thing"] (sp_are_deeds K) := by
  refine T.are_deeds.F.okX sc_are_deeds (fun vs H Q E h => ?_) (fun cdv A outer s H vs Q E hr h => ?_)
  · obtain ⟨D, R, v, d, rfl, _⟩ := h
    rfl
  · obtain ⟨D, R, v, d, rfl, o, hf, hk, k⟩ := h
    refine ⟨_, (pss_one (ps_ret (pe_and (pe_callB (G.k_isi (K := K)) (by rfl) T.n_isinstance (by decide +kernel) (pa_cons (pv 0) (pa_cons (pe_bltn (v := .ty "list") (by rfl) T.n_list boot_list rfl) pa_nil))) (pe_and (pe_cmpR op_le (pe_callB (G.k_lenU (K := K)) (by rfl) T.n_len (by decide +kernel) (pa_cons (pv 0) pa_nil)) (pe_glob (v := .int 30) rfl T.g_MOST_DEEDS ⟨_, rfl⟩) (nomark _)) (pe_one (pe_callB (G.k_all (K := K) rfl) (by rfl) T.n_all (by decide +kernel) (pa_cons (pe_lc (own := [("one", 1)]) (g := (gName 1)) (tt := tYes) rfl sc_are_deeds.nd (G.k_seq (K := K) (pv 0)) (blkOk_by (own := [("one", 1)]) (N := ["thing", "one"]) (sc := defScope s_are_deeds) (by decide +kernel)) (fun _ _ _ _ _ => (pg_name (i := 1) sc_are_deeds.nd rfl (by first | exact Or.inl rfl | exact Or.inr rfl))) (fun _ _ _ _ _ => pts_nil) (fun _ _ _ _ _ => (pe_call (ok_is_deed (K := K) T) (hr.mono (by decide)) rfl T.is_deed.g T.is_deed.k T.is_deed.b .nil passL (pa_cons (pv 1) pa_nil)))) pa_nil))))))), ?_⟩
    have tv := fz_tv (K := K) o.sub hf
    walk_at "go"
    refine isi tv (kit_list _ tv.mem) ?_
    walk_at "go"
    cases d with
    | none => walk_at "go"; exact k _ o
    | bool b => walk_at "go"; exact k _ o
    | int i => walk_at "go"; exact k _ o
    | str x => walk_at "go"; exact k _ o
    | tuple ds => walk_at "go"; exact k _ o
    | dict kv => walk_at "go"; exact k _ o
    | list ds =>
      obtain ⟨p, xs, rfl, hp, hxs⟩ := fz_lst hf
      have hle := hxs.len
      have hpL := SqL.of (K := K) (o.dat hp)
      rw [show (tyD (.list ds) == "list") = true from rfl]
      walk_at "go"
      have ek : areDeedsD (.list ds) = (decide ((xs.length : Int) ≤ 30) && ds.all isDeedD) := by
        show (decide (ds.length ≤ 30) && ds.all isDeedD) = _
        rw [decide_eq_decide.mpr (show ds.length ≤ 30 ↔ (xs.length : Int) ≤ 30 by omega)]
      rw [ek] at k
      refine r_ite (fun h => ?_) (fun h => ?_)
      · rw [h] at k
        have hb := of_decide_eq_true h
        walk_at "go"
        refine r_iseqL hpL ?_
        refine lcMap (fun i => V.bl (isDeedD (ds.getD i .none))) (walk_list (xs := xs)) o (by omega) (fun L acc H' o' => SqL.of (o'.dat hp)) ?_ ?_
        · rintro i x L acc H' H'' Ny Nn hi o' ⟨rfl, ex⟩ q'
          obtain ⟨d, hd, fd⟩ := hxs.get ex
          clear o
          walk_at "g1"
          refine ⟨rfl, ?_⟩
          walk_at "go"
          refine ⟨D, _, x, d, rfl, o', fd, hk _ rfl d (List.mem_of_getElem? hd), fun H2 o2 => ?_⟩
          have e5 : ds.getD i .none = d := by rw [List.getD_eq_getElem?_getD, hd]; rfl
          have q5 := q' _ o2
          rw [e5] at q5
          exact q5
        · intro L H' o'
          rw [hle, all_at] at o'
          clear o
          walk_at "go"
          refine r_all (bs := ds.map isDeedD) (SqL.of (o'.at1 (.head _))) rfl ?_
          have := k _ o'.drop
          rw [List.all_map]
          simpa using this
      · rw [h] at k
        exact k _ o
theorem ok_check_people (T : Txt w K mg a) : FnOk P w K mg base (L2.CX P w) 3 a.f_check_people a.d_check_people ["people"] (sp_check_people K a) := by
  refine T.check_people.F.okX sc_check_people (fun vs H Q E h => ?_) (fun cdv A outer s H vs Q E hr h => ?_)
  · obtain ⟨v, t, rfl, _⟩ := h
    rfl
  · obtain ⟨v, t, rfl, tv, k1, k2⟩ := h
    refine ⟨_, (pss_one (ps_if (pt_not (pt_val (pe_callS (ok_is_count (K := K) T) (hr.mono (by decide)) rfl T.is_count.g T.is_count.k T.is_count.b (fun σ => passAt (takes_of rfl rfl rfl rfl) σ) (pa_cons (pv 0) (pa_cons pe_int (pa_cons (pe_glob (v := .int 5) rfl T.g_MOST_PEOPLE ⟨_, rfl⟩) pa_nil)))))) (pss_one (ps_raise rfl (takes_of rfl rfl rfl rfl) (pmk_own PySem.F.excBase_ValueError T.x_BadPeople.x T.x_BadPeople.g T.x_BadPeople.k (raises_own T.x_BadPeople.b T.x_BadPeople.t) rfl))) pss_nil)), ?_⟩
    walk_at "go"
    refine u_is_count tv ?_
    walk_at "go"
    cases hc : isC 1 5 v with
    | true => walk_at "go"; exact k1 hc
    | false => walk_at "go"; exact k2 hc
theorem ok_check_deeds (T : Txt w K mg a) : FnOk P w K mg base (L2.CX P w) 4 a.f_check_deeds a.d_check_deeds ["deeds"] (sp_check_deeds K a) := by
  refine T.check_deeds.F.okX sc_check_deeds (fun vs H Q E h => ?_) (fun cdv A outer s H vs Q E hr h => ?_)
  · obtain ⟨D, R, v, d, rfl, _⟩ := h
    rfl
  · obtain ⟨D, R, v, d, rfl, o, hf, hk, k1, k2⟩ := h
    refine ⟨_, (pss_one (ps_if (pt_not (pt_val (pe_callS (ok_are_deeds (K := K) T) (hr.mono (by decide)) rfl T.are_deeds.g T.are_deeds.k T.are_deeds.b (fun σ => passAt (takes_of rfl rfl rfl rfl) σ) (pa_cons (pv 0) pa_nil)))) (pss_one (ps_raise rfl (takes_of rfl rfl rfl rfl) (pmk_own PySem.F.excBase_ValueError T.x_BadDeeds.x T.x_BadDeeds.g T.x_BadDeeds.k (raises_own T.x_BadDeeds.b T.x_BadDeeds.t) rfl))) pss_nil)), ?_⟩
    walk_at "go"
    refine ⟨D, R, v, d, rfl, o, hf, hk, fun H1 o1 => ?_⟩
    walk_at "go"
    cases hc : areDeedsD d with
    | true => walk_at "go"; exact k1 hc _ o1
    | false => walk_at "go"; exact k2 hc _ o1
end
end PP

namespace PP
open PySem PySem.Spec PyProof.Rows L2 G
/-! done, played -/
def sp_done (K : PySem.W.Frag) (a : A) : Sp := fun vs H Q E => ∃ (D : Hp) (R : List (List Cell)) (Y : GR) (d : Addr) (dd : Deed), vs = [.ref Y.g, .ref d] ∧ Ok H D (cGr a Y :: R) ∧ GOk Y ∧ D d = some (.tup dd.row) ∧ dd.short ∧
  (∀ y, stepM Y.pe (wsOf Y.xs) dd = some y → ∀ H' D' xs' v, Ok H' D' (cGr a { Y with xs := xs' } :: R) → Same D D' → wsOf xs' = y.1 → ResAt D' v y.2 → Q v H') ∧
  (stepM Y.pe (wsOf Y.xs) dd = none → ∀ e H', Ok H' D (cGr a Y :: R) → E (.ref (clsOf a e)) none H')
def sp_played (K : PySem.W.Frag) (a : A) : Sp := fun vs H Q _ => ∃ (D : Hp) (R : List (List Cell)) (ld : Addr) (ds : List Addr) (dds : List Deed) (pe : Int), vs = [.int pe, .ref ld] ∧ Ok H D R ∧ (1 ≤ pe ∧ pe ≤ 5) ∧ SqL K D ld (ds.map V.ref) ∧ RowsAt D ds dds ∧ (∀ d ∈ dds, d.short) ∧ ds.length ≤ 1000 ∧
  ∀ H' D' T L vs g dx l xs, Ok H' D' (cGr a ⟨g, dx, l, pe, xs⟩ :: [(L, .lst vs)] :: R) → Same D D' → GOk ⟨g, dx, l, pe, xs⟩ → wsOf xs = (playF pe 0 [] dds).1 → ResAts D' vs (playF pe 0 [] dds).2.1 → D' T = some (.tup [.ref g, .ref L, .int (playF pe 0 [] dds).2.2]) → Q (.ref T) H'
section
variable {P : Program} {w : World} {K : PySem.W.Frag} {mg : Str → Option Value} {base : Heap} {a : A} {H D : Hp} {Q : VK} {E : XK} {Ms R : List (List G.Cell)}
theorem exm_err (T : Txt w K mg a) (e : Err) : PySem.W.exmOne K (.ref (clsOf a e)) (.ref a.c_GiftError) = some true := by
  cases e
  · exact T.m_BadPeople
  · exact T.m_BadPerson
  · exact T.m_BadWord
  · exact T.m_BadPrice
  · exact T.m_BadMany
  · exact T.m_BadWish
  · exact T.m_BadAmount
  · exact T.m_NoneFree
  · exact T.m_TooMuch
  · exact T.m_TooMany
theorem g_meX {g dx l : Addr} {pe : Int} {xs : XS} {m : Str} {P : Prop} (o : Ok H D Ms) (k : cGr a ⟨g, dx, l, pe, xs⟩ ∈ Ms) (l : (gF pe l).lookup m = none) (q : P) : ∃ b dx fs, V.ref g = .ref b ∧ H b = some (.ins a.c_Gifts dx fs) ∧ fs.lookup m = none ∧ P := g_me (Y := ⟨g, dx, _, pe, xs⟩) o k l q
local macro_rules | `(tactic| walk_at "g3") => `(tactic| first
  | ((with_reducible refine' g_me (by assumption) ?k ?l ?_); (case k => walk_at "mem"); (case l => rfl))
  | ((with_reducible refine' G.r_gtup ?h ?l ?_); (case h => walk_at "sqT"); (case l => rfl))
  | fail)
theorem ok_done (T : Txt w K mg a) : FnOk P w K mg base (L2.CX P w) 6 a.f_done a.d_done ["gifts", "deed"] (sp_done K a) := by
  refine T.done.F.okX sc_done (fun vs H Q E h => ?_) (fun cdv A outer s H vs Q E hr h => ?_)
  · obtain ⟨D, R, Y, d, dd, rfl, _⟩ := h
    rfl
  · obtain ⟨D, R, Y, d, dd, rfl, o, hY, hd, hg, k1, k2⟩ := h
    have := T.cl_Gifts; have := T.na_Gifts_people; have := T.na_Gifts_wishes
    refine ⟨_, (pss_cons (ps_set (i := 2) sc_done.nd rfl (by first | exact Or.inl rfl | exact Or.inr rfl) (pe_ix (G.k_ixU (K := K) (hu_of hr)) (pv 1) pe_int (fun _ _ => rfl)))
  (pss_cons (ps_if (pt_cmpR (G.k_eqU (K := K) hr) (pv 2) pe_str (nomark _)) (pss_one (ps_ret (G.pe_me (pv 0) T.cl_Gifts T.Gifts_wish.m (ok_Gifts_wish (K := K) T) (hr.mono (by decide)) T.Gifts_wish.b (passes_call (takes_of rfl rfl rfl rfl) (fun _ _ _ _ h => h)) (pa_cons (pe_ix (G.k_ixU (K := K) (hu_of hr)) (pv 1) pe_int (fun _ _ => rfl)) (pa_cons (pe_ix (G.k_ixU (K := K) (hu_of hr)) (pv 1) pe_int (fun _ _ => rfl)) (pa_cons (pe_ix (G.k_ixU (K := K) (hu_of hr)) (pv 1) pe_int (fun _ _ => rfl)) (pa_cons (pe_ix (G.k_ixU (K := K) (hu_of hr)) (pv 1) pe_int (fun _ _ => rfl)) pa_nil))))))) pss_nil)
  (pss_cons (ps_if (pt_cmpR (G.k_eqU (K := K) hr) (pv 2) pe_str (nomark _)) (pss_one (ps_ret (G.pe_me (pv 0) T.cl_Gifts T.Gifts_alter.m (ok_Gifts_alter (K := K) T) (hr.mono (by decide)) T.Gifts_alter.b (passes_call (takes_of rfl rfl rfl rfl) (fun _ _ _ _ h => h)) (pa_cons (pe_ix (G.k_ixU (K := K) (hu_of hr)) (pv 1) pe_int (fun _ _ => rfl)) (pa_cons (pe_ix (G.k_ixU (K := K) (hu_of hr)) (pv 1) pe_int (fun _ _ => rfl)) (pa_cons (pe_ix (G.k_ixU (K := K) (hu_of hr)) (pv 1) pe_int (fun _ _ => rfl)) pa_nil)))))) pss_nil)
  (pss_cons (ps_if (pt_cmpR (G.k_eqU (K := K) hr) (pv 2) pe_str (nomark _)) (pss_one (ps_ret (G.pe_me (pv 0) T.cl_Gifts T.Gifts_drop.m (ok_Gifts_drop (K := K) T) (hr.mono (by decide)) T.Gifts_drop.b (passes_call (takes_of rfl rfl rfl rfl) (fun _ _ _ _ h => h)) (pa_cons (pe_ix (G.k_ixU (K := K) (hu_of hr)) (pv 1) pe_int (fun _ _ => rfl)) (pa_cons (pe_ix (G.k_ixU (K := K) (hu_of hr)) (pv 1) pe_int (fun _ _ => rfl)) pa_nil))))) pss_nil)
  (pss_cons (ps_if (pt_cmpR (G.k_eqU (K := K) hr) (pv 2) pe_str (nomark _)) (pss_one (ps_ret (G.pe_me (pv 0) T.cl_Gifts T.Gifts_take.m (ok_Gifts_take (K := K) T) (hr.mono (by decide)) T.Gifts_take.b (passes_call (takes_of rfl rfl rfl rfl) (fun _ _ _ _ h => h)) (pa_cons (pe_ix (G.k_ixU (K := K) (hu_of hr)) (pv 1) pe_int (fun _ _ => rfl)) (pa_cons (pe_ix (G.k_ixU (K := K) (hu_of hr)) (pv 1) pe_int (fun _ _ => rfl)) (pa_cons (pe_ix (G.k_ixU (K := K) (hu_of hr)) (pv 1) pe_int (fun _ _ => rfl)) pa_nil)))))) pss_nil)
  (pss_cons (ps_if (pt_cmpR (G.k_eqU (K := K) hr) (pv 2) pe_str (nomark _)) (pss_one (ps_ret (G.pe_me (pv 0) T.cl_Gifts T.Gifts_pledge.m (ok_Gifts_pledge (K := K) T) (hr.mono (by decide)) T.Gifts_pledge.b (passes_call (takes_of rfl rfl rfl rfl) (fun _ _ _ _ h => h)) (pa_cons (pe_ix (G.k_ixU (K := K) (hu_of hr)) (pv 1) pe_int (fun _ _ => rfl)) (pa_cons (pe_ix (G.k_ixU (K := K) (hu_of hr)) (pv 1) pe_int (fun _ _ => rfl)) (pa_cons (pe_ix (G.k_ixU (K := K) (hu_of hr)) (pv 1) pe_int (fun _ _ => rfl)) pa_nil)))))) pss_nil)
  (pss_one (ps_ret (G.pe_me (pv 0) T.cl_Gifts T.Gifts_back.m (ok_Gifts_back (K := K) T) (hr.mono (by decide)) T.Gifts_back.b (passes_call (takes_of rfl rfl rfl rfl) (fun _ _ _ _ h => h)) (pa_cons (pe_ix (G.k_ixU (K := K) (hu_of hr)) (pv 1) pe_int (fun _ _ => rfl)) (pa_cons (pe_ix (G.k_ixU (K := K) (hu_of hr)) (pv 1) pe_int (fun _ _ => rfl)) pa_nil))))))))))), ?_⟩
    have hdT := SqT.of (K := K) hd
    cases dd with
    | wish p z pr m =>
      have du := step_wish (pe := Y.pe) (ws := wsOf Y.xs) (p := p) (z := z) (pr := pr) (m := m)
      walk_at "go"
      refine ⟨D, R, Y, _, _, _, _, _, _, _, _, rfl, o, .int p, .str z, .int pr, .int m, fun y hy => (by cases hy; exact hg), hY, fun ws' r e H' xs' ex o' => ?_, fun e ee H' o' => k2 (du.2 e ee) e H' o'⟩
      exact k1 _ (du.1 ws' r e) H' D xs' _ o' (Same.refl D) ex rfl
    | alter p i m =>
      have du := step_alter (pe := Y.pe) (ws := wsOf Y.xs) (p := p) (i := i) (m := m)
      walk_at "go"
      refine ⟨D, R, Y, _, _, _, _, _, _, rfl, o, .int p, .int i, .int m, hY, fun ws' r e H' xs' ex o' => ?_, fun e ee H' o' => k2 (du.2 e ee) e H' o'⟩
      exact k1 _ (du.1 ws' r e) H' D xs' _ o' (Same.refl D) ex rfl
    | drop p i =>
      have du := step_drop (pe := Y.pe) (ws := wsOf Y.xs) (p := p) (i := i)
      walk_at "go"
      refine ⟨D, R, Y, _, _, _, _, rfl, o, .int p, .int i, hY, fun ws' e H' xs' ex o' => ?_, fun e ee H' o' => k2 (du.2 e ee) e H' o'⟩
      exact k1 _ (du.1 ws' e) H' D xs' _ o' (Same.refl D) ex rfl
    | take p i c =>
      have du := step_take (pe := Y.pe) (ws := wsOf Y.xs) (p := p) (i := i) (c := c)
      walk_at "go"
      refine ⟨D, R, Y, _, _, _, _, _, _, rfl, o, .int p, .int i, .int c, hY, fun ws' r e H' xs' ex o' => ?_, fun e ee H' o' => k2 (du.2 e ee) e H' o'⟩
      exact k1 _ (du.1 ws' r e) H' D xs' _ o' (Same.refl D) ex rfl
    | pledge p i c =>
      have du := step_pledge (pe := Y.pe) (ws := wsOf Y.xs) (p := p) (i := i) (c := c)
      walk_at "go"
      refine ⟨D, R, Y, _, _, _, _, _, _, rfl, o, .int p, .int i, .int c, hY, fun ws' r e H' xs' ex o' => ?_, fun e ee H' o' => k2 (du.2 e ee) e H' o'⟩
      exact k1 _ (du.1 ws' r e) H' D xs' _ o' (Same.refl D) ex rfl
    | back p i =>
      have du := step_back (pe := Y.pe) (ws := wsOf Y.xs) (p := p) (i := i)
      walk_at "go"
      refine ⟨D, R, Y, _, _, _, _, rfl, o, .int p, .int i, hY, fun ws' r1 r2 e H' xs' TT ex o' => ?_, fun e ee H' o' => k2 (du.2 e ee) e H' o'⟩
      obtain ⟨o9, s9, e9⟩ := o'.frz
      exact k1 _ (du.1 ws' r1 r2 e) H' _ xs' _ o9 s9 ex ⟨TT, rfl, e9 _ (.head _)⟩
theorem ok_played (T : Txt w K mg a) : FnOk P w K mg base (L2.CX P w) 7 a.f_played a.d_played ["people", "deeds"] (sp_played K a) := by
  refine T.played.F.okX sc_played (fun vs H Q E h => ?_) (fun cdv A outer s H vs Q E hr h => ?_)
  · obtain ⟨D, R, ld, ds, dds, pe, rfl, _⟩ := h
    rfl
  · obtain ⟨D, R, ld, ds, dds, pe, rfl, o, hp, hs, hd, hsh, hl, k⟩ := h
    refine ⟨_, (pss_cons (ps_par (i := 2) (j := 3) rfl sc_played.nd rfl rfl (by decide) rfl rfl (pa_cons (G.pe_mk T.mk_Gifts (ok_Gifts_init (K := K) T) (hr.mono (by decide)) rfl T.c_Gifts T.Gifts_init.b (passes_call (takes_of rfl rfl rfl rfl) (fun _ _ _ _ h => h)) (pa_cons (pv 0) pa_nil)) (pa_cons (pe_lst pa_nil) pa_nil)) rfl)
  (pss_cons (ps_for (passes_of rfl) rfl (G.k_enum (K := K) rfl T.n_enumerate (pa_cons (pv 1) pa_nil)) (G.k_gtup (K := K) rfl (pgs_cons (pg_name (i := 4) sc_played.nd rfl (by first | exact Or.inl rfl | exact Or.inr rfl)) (pgs_cons (pg_name (i := 5) sc_played.nd rfl (by first | exact Or.inl rfl | exact Or.inr rfl)) pgs_nil)))
  (pss_cons (ps_try_only rfl rfl ⟨rfl, by decide, .inl T.x_GiftError.g⟩ takes0 (fun W pn xe tk _ => (pss_one (ps_set (i := 6) sc_played.nd rfl (by first | exact Or.inl rfl | exact Or.inr rfl) (pe_callS (ok_done (K := K) T) (hr.mono (by decide)) rfl T.done.g T.done.k T.done.b (fun σ => passAt tk σ) (pa_cons (pv 2) (pa_cons (pv 5) pa_nil)))))) (fun _ _ _ _ _ _ _ => (pss_one (ps_ret (pe_tup (pa_cons (pv 2) (pa_cons (pv 3) (pa_cons (pv 4) pa_nil))))))))
  (pss_one (ps_expr (G.k_bm (K := K) (pe_bm PySem.F.plainAttrs_list PySem.F.slot_list_append PySem.F.type_list_append mt_append (pv 3) (pa_cons (pv 6) pa_nil)))))))
  (pss_one (ps_ret (pe_tup (pa_cons (pv 2) (pa_cons (pv 3) (pa_cons (pe_un un_neg pe_int) pa_nil)))))))), ?_⟩
    walk_at "go"
    rename_i g dx H1 o1
    refine ⟨D, R, g, dx, .int pe, _, rfl, o1, .int pe, fun h1 H2 l o2 => ⟨rfl, ?_⟩, fun h1 => absurd (isC_t hp) (by rw [h1]; decide)⟩
    have o2 : Ok H2 D (cGr a ⟨g, dx, l, pe, []⟩ :: R) := o2
    clear o1
    walk_at "go"
    rename_i Lr H3 o3
    refine r_ienum (o3.sqL hs) ?_
    refine for_it (walk_enum (xs := ds.map V.ref)) (fun i σ H' => ∃ v4 v5 v6 D' xg vs rs, σ = [some (.int pe), some (.ref ld), some (.ref g), some (.ref Lr), v4, v5, v6] ∧ Ok H' D' (cGr a ⟨g, dx, l, pe, xg⟩ :: [(Lr, .lst vs)] :: R) ∧ Same D D' ∧ GOk ⟨g, dx, l, pe, xg⟩ ∧ vs.length ≤ i ∧ ResAts D' vs rs ∧ playF pe 0 [] dds = ((playF pe i (wsOf xg) (dds.drop i)).1, rs ++ (playF pe i (wsOf xg) (dds.drop i)).2.1, (playF pe i (wsOf xg) (dds.drop i)).2.2))
      ⟨none, none, none, D, [], [], [], rfl, o3.sel (by walk_at "sel"), Same.refl D, ⟨fun x h => (nomatch h), Nat.zero_le _, hp⟩, Nat.le_refl _, .nil, rfl⟩ ?_ ?_ ?_
    · rintro i σ H' _ ⟨v4, v5, v6, D', xg, vs, rs, rfl, o', s', _⟩
      exact o'.sqL (s'.seq hs)
    · rintro i y σ H' H'' hi ⟨v4, v5, v6, D', xg, vs, rs, rfl, o', s', hY, hvl, hrs, hpl⟩ ⟨TT, x1, x2, rfl, nT, rfl, ex1, ex2⟩
      obtain rfl := Option.some.inj ex1
      have hi4 : i < ds.length := by rwa [List.length_map] at hi
      have ex2 : (ds.map V.ref)[i]? = some x2 := ex2
      rw [List.getElem?_map, List.getElem?_eq_getElem hi4] at ex2
      obtain rfl := Option.some.inj ex2
      obtain ⟨dd, hdd, e1⟩ := paired_get hd hi4
      have e1 := s' _ _ e1
      have hdr : dds.drop i = dd :: dds.drop (i + 1) := by
        obtain ⟨hi5, e5⟩ := List.getElem?_eq_some_iff.mp hdd
        rw [← e5, List.drop_eq_getElem_cons hi5]
      have hsh1 := hsh dd (List.mem_of_getElem? hdd)
      rw [hdr] at hpl
      generalize ds[i] = d at e1 nT ⊢
      have oT := o'.new (o := .tup [.int (i : Nat), .ref d]) nT
      refine r_gtup (SqT.of (oT.at1 (.head _))) rfl ?_
      have o4 := oT.drop
      generalize upd H' TT (.tup [.int (i : Nat), .ref d]) = H4 at o4 oT ⊢
      clear oT o' o2 o3
      have hvz : vs.length < sizeLine := by rw [sizeLine_eq]; omega
      walk_at "go"
      refine ⟨D', _, ⟨g, dx, l, pe, xg⟩, d, dd, rfl, o4, hY, e1, hsh1, fun y hst H5 D5 xs' v o5 s5 e5 r5 => ?_, fun hst e H5 o5 => ?_⟩
      · clear o4
        have hst : stepM pe (wsOf xg) dd = some y := hst
        rw [playF_some hst] at hpl
        have hX : WsOk (wsOf xs') := by rw [e5]; exact stepM_ok hst (XOk.to ⟨hY.w, hY.n⟩) hp.2
        walk_at "go"
        refine ⟨_, _, _, D5, xs', vs ++ [v], rs ++ [y.2], rfl, by walk_at "fin", s'.trans s5, ⟨(XOk.of hX).w, (XOk.of hX).n, hp⟩, by rw [List.length_append]; show vs.length + 1 ≤ i + 1; omega, Paired.snoc (hrs.mono s5) r5, ?_⟩
        rw [hpl, e5, List.append_assoc]
        rfl
      · have hst : stepM pe (wsOf xg) dd = none := hst
        rw [playF_none hst] at hpl
        refine ⟨true, exm_err T e, fun _ ad na => ?_, fun h => (nomatch h)⟩
        clear o4
        walk_at "go"
        rename_i T6 H6 o6
        obtain ⟨o7, s7, e7⟩ := o6.frz
        refine k H6 _ T6 Lr vs g dx l xg o7 (s'.trans s7) hY ?_ ?_ ?_
        · rw [hpl]
        · rw [hpl]
          show ResAts _ vs (rs ++ [])
          rw [List.append_nil]
          exact hrs.mono s7
        · rw [hpl]
          exact e7 _ (.head _)
    · rintro σ H' ⟨v4, v5, v6, D', xg, vs, rs, rfl, o', s', hY, hvl, hrs, hpl⟩
      rw [show dds.drop (ds.map V.ref).length = [] from by rw [List.length_map, Paired.length hd]; exact List.drop_length] at hpl
      clear o2 o3
      walk_at "go"
      rename_i T6 H6 o6
      obtain ⟨o7, s7, e7⟩ := o6.frz
      refine k H6 _ T6 Lr vs g dx l xg o7 (s'.trans s7) hY ?_ ?_ ?_
      · rw [hpl]; rfl
      · rw [hpl]
        show ResAts _ vs (rs ++ [])
        rw [List.append_nil]
        exact hrs.mono s7
      · rw [hpl]
        exact e7 _ (.head _)
end
end PP

namespace PP
open PySem PySem.Spec PyProof.Rows L2 G
/-! Done, Halt -/
def sp_Done_init (K : PySem.W.Frag) (a : A) : Sp := fun vs H Q _ => ∃ (D : Hp) (R : List (List Cell)) (x dx r : Addr) (ys : List V), vs = [.ref x, .ref r] ∧ Ok H D ([(x, .ins a.c_Done dx [])] :: R) ∧ SqL K H r ys ∧
  ∀ H' L, Ok H' D ([(x, .ins a.c_Done dx [("results", .ref L)])] :: [(L, .lst ys)] :: R) → Q .non H'
def sp_Done_shows (K : PySem.W.Frag) (a : A) : Sp := fun vs H Q _ => ∃ (D : Hp) (R : List (List Cell)) (x dx L ld : Addr) (ds : List Addr) (dds : List Deed) (pe : Int) (d : PyData), vs = [.ref x, .int pe, .ref ld] ∧ Ok H D R ∧ (1 ≤ pe ∧ pe ≤ 5) ∧ SqL K D ld (ds.map V.ref) ∧ RowsAt D ds dds ∧ (∀ d ∈ dds, d.short) ∧ ds.length ≤ 1000 ∧
  (∀ H' D', Ok H' D' R → Same D D' → H' x = some (.ins a.c_Done dx [("results", .ref L)]) ∧ Dp K H' (.ref L) d) ∧ SeqAt.shaped d = true ∧
  ∀ H' D', Ok H' D' R → Same D D' → Q (.bl (decide ((playF pe 0 [] dds).2.2 < 0) && PyData.eqv (ressD (playF pe 0 [] dds).2.1) d)) H'
def sp_Halt_init (a : A) : Sp := fun vs H Q _ => ∃ (D : Hp) (R : List (List Cell)) (x dx : Addr) (v : V), vs = [.ref x, v] ∧ Ok H D ([(x, .ins a.c_Halt dx [])] :: R) ∧
  ∀ H', Ok H' D ([(x, .ins a.c_Halt dx [("place", v)])] :: R) → Q .non H'
def sp_Halt_shows (K : PySem.W.Frag) (a : A) : Sp := fun vs H Q _ => ∃ (D : Hp) (R : List (List Cell)) (x dx ld : Addr) (ds : List Addr) (dds : List Deed) (pe pl : Int), vs = [.ref x, .int pe, .ref ld] ∧ Ok H D R ∧ (1 ≤ pe ∧ pe ≤ 5) ∧ SqL K D ld (ds.map V.ref) ∧ RowsAt D ds dds ∧ (∀ d ∈ dds, d.short) ∧ ds.length ≤ 1000 ∧
  (∀ H' D', Ok H' D' R → Same D D' → H' x = some (.ins a.c_Halt dx [("place", .int pl)])) ∧
  ∀ H' D', Ok H' D' R → Same D D' → Q (.bl (decide (0 ≤ pl) && decide ((playF pe 0 [] dds).2.2 = pl))) H'
section
variable {P : Program} {w : World} {K : PySem.W.Frag} {mg : Str → Option Value} {base : Heap} {a : A} {H D : Hp} {Q : VK} {E : XK} {Ms R : List (List G.Cell)}
theorem r_kl {p : Addr} {ys : List V} {P : Addr → List V → Prop} {S1 S2 : Addr → List V → Prop} (h : S1 p ys) (q : P p ys) : ∃ p' ys', [V.ref p] = [.ref p'] ∧ (S1 p' ys' ∨ S2 p' ys') ∧ P p' ys' := ⟨p, ys, rfl, .inl h, q⟩
local macro_rules | `(tactic| walk_at "g3") => `(tactic| first
  | ((with_reducible refine' G.r_gtup ?h ?l ?_); (case h => walk_at "sqT"); (case l => rfl))
  | fail)
theorem ok_Done_init (T : Txt w K mg a) : FnOk P w K mg base (L2.CX P w) 1 a.f_Done_init a.d_Done_init ["self", "results"] (sp_Done_init K a) := by
  refine T.Done_init.F.okX sc_Done_init (fun vs H Q E h => ?_) (fun cdv A outer s H vs Q E hr h => ?_)
  · obtain ⟨D, R, x, dx, r, ys, rfl, _⟩ := h
    rfl
  · obtain ⟨D, R, x, dx, r, ys, rfl, o, hs, k⟩ := h
    have := T.cl_Done; have := T.na_Done_results
    refine ⟨_, (pss_one (G.k_sfld (K := K) (pv 0) (pe_callTy (G.k_list (K := K)) (by rfl) T.n_list (by decide +kernel) (pa_cons (pv 1) pa_nil)) rfl)), ?_⟩
    walk_at "go"
    refine ⟨r, ys, rfl, .inl hs, fun L nL => ?_⟩
    have o2 := o.new (o := .lst ys) nL
    clear o
    walk_at "go"
    exact k _ L (by walk_at "fin")
theorem ok_Halt_init (T : Txt w K mg a) : FnOk P w K mg base (L2.CX P w) 1 a.f_Halt_init a.d_Halt_init ["self", "place"] (sp_Halt_init a) := by
  refine T.Halt_init.F.okX sc_Halt_init (fun vs H Q E h => ?_) (fun cdv A outer s H vs Q E hr h => ?_)
  · obtain ⟨D, R, x, dx, v, rfl, _⟩ := h
    rfl
  · obtain ⟨D, R, x, dx, v, rfl, o, k⟩ := h
    have := T.cl_Halt; have := T.na_Halt_place
    refine ⟨_, (pss_one (G.k_sfld (K := K) (pv 0) (pv 1) rfl)), ?_⟩
    walk_at "go"
    exact k _ (by walk_at "fin")
theorem u_played {ld : Addr} {ds : List Addr} {dds : List Deed} {pe : Int} (o : Ok H D R) (hp : 1 ≤ pe ∧ pe ≤ 5) (hs : SqL K D ld (ds.map V.ref)) (hd : RowsAt D ds dds) (hsh : ∀ d ∈ dds, d.short) (hl : ds.length ≤ 1000)
  (q : ∀ H' D' T L vs g dx l xs, Ok H' D' (cGr a ⟨g, dx, l, pe, xs⟩ :: [(L, .lst vs)] :: R) → Same D D' → GOk ⟨g, dx, l, pe, xs⟩ → wsOf xs = (playF pe 0 [] dds).1 → ResAts D' vs (playF pe 0 [] dds).2.1 → D' T = some (.tup [.ref g, .ref L, .int (playF pe 0 [] dds).2.2]) → Q (.ref T) H') : sp_played K a [.int pe, .ref ld] H Q E :=
  ⟨D, R, ld, ds, dds, pe, rfl, o, hp, hs, hd, hsh, hl, q⟩
theorem ok_Done_shows (T : Txt w K mg a) : FnOk P w K mg base (L2.CX P w) 8 a.f_Done_shows a.d_Done_shows ["self", "people", "deeds"] (sp_Done_shows K a) := by
  refine T.Done_shows.F.okX sc_Done_shows (fun vs H Q E h => ?_) (fun cdv A outer s H vs Q E hr h => ?_)
  · obtain ⟨D, R, x, dx, L, ld, ds, dds, pe, d, rfl, _⟩ := h
    rfl
  · obtain ⟨D, R, x, dx, L, ld, ds, dds, pe, d, rfl, o, hp, hs, hd, hsh, hl, hx, hshd, k⟩ := h
    have := T.cl_Done; have := T.na_Done_results
    refine ⟨_, (pss_cons (ps_asg (pe_callS (ok_played (K := K) T) (hr.mono (by decide)) rfl T.played.g T.played.k T.played.b (fun σ => passAt (takes_of rfl rfl rfl rfl) σ) (pa_cons (pv 1) (pa_cons (pv 2) pa_nil))) (G.k_gtup (K := K) rfl (pgs_cons (pg_name (i := 3) sc_Done_shows.nd rfl (by first | exact Or.inl rfl | exact Or.inr rfl)) (pgs_cons (pg_name (i := 4) sc_Done_shows.nd rfl (by first | exact Or.inl rfl | exact Or.inr rfl)) (pgs_cons (pg_name (i := 5) sc_Done_shows.nd rfl (by first | exact Or.inl rfl | exact Or.inr rfl)) pgs_nil)))))
  (pss_one (ps_ret (pe_and (pe_cmpR op_lt (pv 5) pe_int (nomark _)) (pe_one (pe_cmpR (G.k_eqU (K := K) hr) (pv 4) (G.k_fld (K := K) (pv 0) rfl) (nomark _))))))), ?_⟩
    walk_at "go"
    refine u_played o hp hs hd hsh hl fun H1 D1 TT Lr vs g dxg l xs o1 s1 hY e1 r1 t1 => ?_
    clear o
    refine r_gtup (SqT.of (o1.dat t1)) rfl ?_
    have o2 : Ok H1 D1 R := o1.drop.drop
    obtain ⟨hx1, hx2⟩ := hx H1 D1 o2 s1
    walk_at "go"
    refine r_ite (fun h1 => ?_) (fun h1 => ?_)
    · rw [h1] at k
      walk_at "go"
      refine r_eqD (.lst (SqL.of (o1.at1 (.tail _ (.head _)))) (dp_ress o1.sub r1)) hx2 (shaped_ress _) hshd ?_
      exact k H1 D1 o2 s1
    · rw [h1] at k
      exact k H1 D1 o2 s1
theorem ok_Halt_shows (T : Txt w K mg a) : FnOk P w K mg base (L2.CX P w) 8 a.f_Halt_shows a.d_Halt_shows ["self", "people", "deeds"] (sp_Halt_shows K a) := by
  refine T.Halt_shows.F.okX sc_Halt_shows (fun vs H Q E h => ?_) (fun cdv A outer s H vs Q E hr h => ?_)
  · obtain ⟨D, R, x, dx, ld, ds, dds, pe, pl, rfl, _⟩ := h
    rfl
  · obtain ⟨D, R, x, dx, ld, ds, dds, pe, pl, rfl, o, hp, hs, hd, hsh, hl, hx, k⟩ := h
    have := T.cl_Halt; have := T.na_Halt_place
    refine ⟨_, (pss_one (ps_ret (pe_and (pe_cmpR op_ge (G.k_fld (K := K) (pv 0) rfl) pe_int (nomark _)) (pe_one (pe_cmpR (G.k_eqU (K := K) hr) (pe_ix (G.k_ixU (K := K) (hu_of hr)) (pe_callS (ok_played (K := K) T) (hr.mono (by decide)) rfl T.played.g T.played.k T.played.b (fun σ => passAt (takes_of rfl rfl rfl rfl) σ) (pa_cons (pv 1) (pa_cons (pv 2) pa_nil))) pe_int (fun _ _ => rfl)) (G.k_fld (K := K) (pv 0) rfl) (nomark _)))))), ?_⟩
    have hx0 := hx H D o (Same.refl D)
    walk_at "go"
    refine r_ite (fun h1 => ?_) (fun h1 => ?_)
    · rw [show decide (0 ≤ pl) = true from h1] at k
      walk_at "go"
      refine u_played o hp hs hd hsh hl fun H1 D1 TT Lr vs g dxg l xs o1 s1 hY e1 r1 t1 => ?_
      clear o
      have o2 : Ok H1 D1 R := o1.drop.drop
      have hx1 := hx H1 D1 o2 s1
      walk_at "go"
      rw [decV]
      exact k H1 D1 o2 s1
    · rw [show decide (0 ≤ pl) = false from h1] at k
      exact k H D o (Same.refl D)
end
end PP

namespace PP
open PySem PySem.Spec PyProof.Rows L2 G
/-! told -/
def sp_told (K : PySem.W.Frag) (a : A) : Sp := fun vs H Q E => ∃ (D : Hp) (R : List (List Cell)) (vp v : V) (t : String) (d : PyData), vs = [vp, v] ∧ Ok H D R ∧ Tv K D vp t ∧ Fz D v d ∧ (∀ ds, d = .list ds → ∀ x ∈ ds, KnownD x) ∧
  (isC 1 5 vp = false → ∀ H', Ok H' D R → E (.ref a.c_BadPeople) none H') ∧
  (isC 1 5 vp = true → areDeedsD d = false → ∀ H', Ok H' D R → E (.ref a.c_BadDeeds) none H') ∧
  (isC 1 5 vp = true → areDeedsD d = true → ∃ dds, d = .list (dds.map Deed.dat) ∧ (∀ x ∈ dds, x.short) ∧ dds.length ≤ 30 ∧
    ((playF (intOf vp) 0 [] dds).2.2 < 0 → ∀ H' D' x dx L vs, Ok H' D' ([(x, .ins a.c_Done dx [("results", .ref L)])] :: [(L, .lst vs)] :: R) → Same D D' → ResAts D' vs (playF (intOf vp) 0 [] dds).2.1 → Q (.ref x) H') ∧
    (0 ≤ (playF (intOf vp) 0 [] dds).2.2 → ∀ H' D' x dx, Ok H' D' ([(x, .ins a.c_Halt dx [("place", .int (playF (intOf vp) 0 [] dds).2.2)])] :: R) → Same D D' → Q (.ref x) H'))
section
variable {P : Program} {w : World} {K : PySem.W.Frag} {mg : Str → Option Value} {base : Heap} {a : A} {H D : Hp} {Q : VK} {E : XK} {Ms R : List (List G.Cell)}
local macro_rules | `(tactic| walk_at "g3") => `(tactic| first
  | ((with_reducible refine' G.r_gtup ?h ?l ?_); (case h => walk_at "sqT"); (case l => rfl))
  | fail)
theorem ok_told (T : Txt w K mg a) : FnOk P w K mg base (L2.CX P w) 8 a.f_told a.d_told ["people", "deeds"] (sp_told K a) := by
  refine T.told.F.okX sc_told (fun vs H Q E h => ?_) (fun cdv A outer s H vs Q E hr h => ?_)
  · obtain ⟨D, R, vp, v, t, d, rfl, _⟩ := h
    rfl
  · obtain ⟨D, R, vp, v, t, d, rfl, o, tv, hf, hk, k1, k2, k3⟩ := h
    refine ⟨_, (pss_cons (ps_expr (pe_callS (ok_check_people (K := K) T) (hr.mono (by decide)) rfl T.check_people.g T.check_people.k T.check_people.b (fun σ => passAt (takes_of rfl rfl rfl rfl) σ) (pa_cons (pv 0) pa_nil)))
  (pss_cons (ps_expr (pe_callS (ok_check_deeds (K := K) T) (hr.mono (by decide)) rfl T.check_deeds.g T.check_deeds.k T.check_deeds.b (fun σ => passAt (takes_of rfl rfl rfl rfl) σ) (pa_cons (pv 1) pa_nil)))
  (pss_cons (ps_asg (pe_callS (ok_played (K := K) T) (hr.mono (by decide)) rfl T.played.g T.played.k T.played.b (fun σ => passAt (takes_of rfl rfl rfl rfl) σ) (pa_cons (pv 0) (pa_cons (pv 1) pa_nil))) (G.k_gtup (K := K) rfl (pgs_cons (pg_name (i := 2) sc_told.nd rfl (by first | exact Or.inl rfl | exact Or.inr rfl)) (pgs_cons (pg_name (i := 3) sc_told.nd rfl (by first | exact Or.inl rfl | exact Or.inr rfl)) (pgs_cons (pg_name (i := 4) sc_told.nd rfl (by first | exact Or.inl rfl | exact Or.inr rfl)) pgs_nil)))))
  (pss_one (ps_ret (pe_ifExp (pt_cmpR op_lt (pv 4) pe_int (nomark _)) (G.pe_mk T.mk_Done (ok_Done_init (K := K) T) (hr.mono (by decide)) rfl T.c_Done T.Done_init.b (passes_call (takes_of rfl rfl rfl rfl) (fun _ _ _ _ h => h)) (pa_cons (pv 3) pa_nil)) (G.pe_mk T.mk_Halt (ok_Halt_init (K := K) T) (hr.mono (by decide)) rfl T.c_Halt T.Halt_init.b (passes_call (takes_of rfl rfl rfl rfl) (fun _ _ _ _ h => h)) (pa_cons (pv 4) pa_nil)))))))), ?_⟩
    walk_at "go"
    refine ⟨vp, t, rfl, tv.mono o.sub, fun h1 => ?_, fun h1 => k1 h1 _ o⟩
    walk_at "go"
    refine ⟨D, R, v, d, rfl, o, hf, hk, fun h2 H1 o1 => ?_, fun h2 H1 o1 => k2 h1 h2 _ o1⟩
    obtain ⟨dds, rfl, hsh, hl, k4, k5⟩ := k3 h1 h2
    obtain ⟨pe, rfl, p1, p2⟩ := isC_is h1
    obtain ⟨ld, xs, rfl, hld, hxs⟩ := fz_lst hf
    obtain ⟨ds, rfl, hds⟩ := fz_deeds hxs
    clear o
    walk_at "go"
    refine u_played o1 ⟨p1, p2⟩ (SqL.of hld) hds hsh (by rw [Paired.length hds]; omega) fun H2 D2 TT Lr vs g dxg l xs o2 s2 hY e2 r2 t2 => ?_
    clear o1
    have k4 : (playF pe 0 [] dds).2.2 < 0 → _ := k4
    have k5 : 0 ≤ (playF pe 0 [] dds).2.2 → _ := k5
    change ResAts D2 vs (playF (intOf (.int pe)) 0 [] dds).2.1 at r2
    have o3 : Ok H2 D2 ([(Lr, .lst vs)] :: R) := o2.drop
    clear o2
    walk_at "go"
    refine r_ite (fun hn => ?_) (fun hn => ?_)
    · walk_at "go"
      rename_i x dx H4 o4
      refine ⟨D2, _, x, dx, Lr, vs, rfl, o4, SqL.of (o4.at1 (.tail _ (.head _))), fun H5 L o5 => ⟨rfl, ?_⟩⟩
      exact k4 (of_decide_eq_true hn) H5 D2 x dx L vs (o5.sel (by walk_at "sel")) s2 r2
    · walk_at "go"
      rename_i x dx H4 o4
      refine ⟨D2, _, x, dx, _, rfl, o4, fun H5 o5 => ⟨rfl, ?_⟩⟩
      exact k5 (by have := of_decide_eq_false hn; omega) H5 D2 x dx (o5.sel (by walk_at "sel")) s2
end
end PP

namespace PP
open PySem PySem.Spec PyProof.Rows L2 G
/-! the law's numbers -/
theorem big_add {i j : Int} {a : Nat} (ha : i.natAbs < 2 ^ a) (hb : j.natAbs < 2 ^ a) : (i + j).natAbs < 2 ^ (a + 1) := by
  rw [Nat.pow_succ]
  omega
theorem big_up {i : Int} {a b : Nat} (ha : i.natAbs < 2 ^ a) (h : a ≤ b) : i.natAbs < 2 ^ b := Nat.lt_of_lt_of_le ha (Nat.pow_le_pow_right (by decide) h)
theorem big_small {i : Int} {b : Nat} (h0 : -1048576 < i) (h1 : i < 1048576) (h : 20 ≤ b) : i.natAbs < 2 ^ b := by
  have e : (2 : Nat) ^ 20 = 1048576 := by decide
  have h2 : i.natAbs < 2 ^ 20 := by omega
  exact big_up h2 h
theorem mulG {i j : Int} {a b : Nat} (ha : i.natAbs < 2 ^ a) (hb : j.natAbs < 2 ^ b) (h : 20 ≤ a ∧ 20 ≤ b ∧ a ≤ 20000000 ∧ b ≤ 20000000) : CMulG i j := by
  have x := PySem.Flt.log2_lt_of (show 0 < a by omega) ha
  have y := PySem.Flt.log2_lt_of (show 0 < b by omega) hb
  unfold CMulG
  omega
theorem mulS {i j : Int} (hi : -1048576 < i ∧ i < 1048576) (hj : -1048576 < j ∧ j < 1048576) : CMulG i j := mulG (a := 20) (b := 20) (big_small hi.1 hi.2 (by decide)) (big_small hj.1 hj.2 (by decide)) (by omega)
theorem atI_all {ns : List Int} {m : Int} (P : Int → Prop) (h0 : 0 ≤ m) (h1 : m < ns.length) (hp : ∀ z ∈ ns, P z) : ∃ z, atI (ns.map V.int) m = some (.int z) ∧ P z := by
  have hi : m.toNat < ns.length := by omega
  refine ⟨ns[m.toNat], ?_, hp _ (List.getElem_mem hi)⟩
  have e : atI (ns.map V.int) ((m.toNat : Nat) : Int) = some (.int ns[m.toNat]) := atI_nat (by rw [List.getElem?_map, List.getElem?_eq_getElem hi]; rfl)
  rwa [show ((m.toNat : Nat) : Int) = m by omega] at e
def sp_law_cell_at (K : PySem.W.Frag) : Sp := fun vs H Q _ => ∃ (b : Nat) (a : Addr) (ns : List Int) (k : Int), vs = [.ref a, .int k] ∧ 0 ≤ k ∧ SqL K H a (ns.map V.int) ∧ (∀ z ∈ ns, z.natAbs < 2 ^ b) ∧ ∀ m : Int, m.natAbs < 2 ^ b → Q (.int m) H
def sp_law_draw : Sp := fun vs H Q _ => ∃ (D : Hp) (R : List (List Cell)) (b : Nat) (c k m : Int), vs = [.int c, .int k, .int m] ∧ Ok H D R ∧ (20 ≤ b ∧ b ≤ 20000000) ∧ c.natAbs < 2 ^ b ∧ (0 ≤ k ∧ k ≤ 100) ∧ 0 < m ∧ ∀ H' r, Ok H' D R → 0 ≤ r → r < m → Q (.int r) H'
def sp_law_value : Sp := fun vs H Q _ => ∃ (D : Hp) (R : List (List Cell)) (b : Nat) (c k : Int), vs = [.int c, .int k] ∧ Ok H D R ∧ (100 ≤ b ∧ b ≤ 4000000) ∧ c.natAbs < 2 ^ b ∧ (0 ≤ k ∧ k ≤ 100) ∧ ∀ H' r, Ok H' D R → r.natAbs < 2 ^ (b + 1) → Q (.int r) H'
section
variable {P : Program} {w : World} {K : PySem.W.Frag} {mg : Str → Option Value} {base : Heap} {a : A} {H D : Hp} {Q : VK} {E : XK} {Ms R : List (List G.Cell)}
theorem ok_law_cell_at (T : Txt w K mg a) : FnOk P w K mg base (L2.CX P w) 1 a.f_law_cell_at a.d_law_cell_at ["_law_script", "_law_k"] (sp_law_cell_at K) := by
  refine T.law_cell_at.F.okX sc_law_cell_at (fun vs H Q E h => ?_) (fun cdv A outer s H vs Q E hr h => ?_)
  · obtain ⟨b, l, ns, k, rfl, _⟩ := h
    rfl
  · obtain ⟨b, l, ns, k, rfl, h0, hs, hb, q⟩ := h
    refine ⟨_, (pss_cons (ps_if (pt_cmpR op_lt (pv 1) (pe_callB (G.k_lenU (K := K)) (by rfl) T.n_len (by decide +kernel) (pa_cons (pv 0) pa_nil)) (nomark _)) (pss_one (ps_ret (pe_ix (G.k_ixU (K := K) (hu_of hr)) (pv 0) (pv 1) (fun _ _ => rfl)))) pss_nil)
  (pss_one (ps_ret pe_int))), ?_⟩
    walk_at "go"
    refine r_ite (fun h => ?_) (fun h => ?_)
    · have h1 := of_decide_eq_true h
      obtain ⟨z, e, hz⟩ := atI_all (fun z => z.natAbs < 2 ^ b) h0 (by simpa using h1) hb
      walk_at "g1"
      walk_at "g1"
      walk_at "g1"
      walk_at "g1"
      exact r_ixL hs e (q _ hz)
    · walk_at "go"
      exact q 0 (by exact Nat.two_pow_pos _)
local macro_rules | `(tactic| walk_at "g3") => `(tactic| first
  | ((with_reducible refine' G.r_mulI ?c ?_); (case c => first | exact mulS (by omega) (by omega) | exact mulG (by assumption) (by assumption) (by omega) | exact mulG (by assumption) (big_small (b := 20) (by omega) (by omega) (by decide)) (by omega) | exact mulG (big_small (b := 20) (by omega) (by omega) (by decide)) (by assumption) (by omega)))
  | ((with_reducible refine' G.r_I ?c ?_); (case c => first | assumption | (show (0 : Int) < _; omega) | (show (0 : Int) ≤ _; omega) | exact ⟨by decide, by decide, by decide⟩ | exact wide_div (b := 30) (by omega) (by decide) (by decide) (by decide)))
  | fail)
theorem ok_law_draw (T : Txt w K mg a) : FnOk P w K mg base (L2.CX P w) 1 a.f_law_draw a.d_law_draw ["_law_cell", "_law_k", "_law_many"] sp_law_draw := by
  refine T.law_draw.F.okX sc_law_draw (fun vs H Q E h => ?_) (fun cdv A outer s H vs Q E hr h => ?_)
  · obtain ⟨D, R, b, c, k, m, rfl, _⟩ := h
    rfl
  · obtain ⟨D, R, b, c, k, m, rfl, o, hb, hc, hk, hm, q⟩ := h
    refine ⟨_, (pss_cons (ps_set (i := 3) sc_law_draw.nd rfl (by first | exact Or.inl rfl | exact Or.inr rfl) (pe_tup (pa_cons pe_int (pa_cons pe_int (pa_cons pe_int (pa_cons pe_int (pa_cons pe_int (pa_cons pe_int (pa_cons pe_int (pa_cons pe_int (pa_cons pe_int (pa_cons pe_int (pa_cons pe_int (pa_cons pe_int (pa_cons pe_int (pa_cons pe_int (pa_cons pe_int (pa_cons pe_int pa_nil))))))))))))))))))
  (pss_one (ps_ret (pe_op op_mod (pe_op op_mod (pe_op (G.k_addU (K := K)) (pe_op G.op_mulU (pv 0) pe_int) (pe_op G.op_mulU (pv 1) pe_int)) (pe_ix (G.k_ixU (K := K) (hu_of hr)) (pv 3) (pe_op op_mod (pv 1) pe_int) (fun _ _ => rfl))) (pv 2))))), ?_⟩
    walk_at "go"
    rename_i TT H1 o1
    obtain ⟨z, ez, hz⟩ := atI_all (ns := [1000003, 1000033, 1000037, 1000039, 1000081, 1000099, 1000117, 1000121, 1000133, 1000151, 1000159, 1000171, 1000183, 1000187, 1000193, 1000199]) (m := k % 16) (fun z => 0 < z) (by omega) (by show k % 16 < 16; omega) (by decide)
    refine r_ixT (SqT.of (o1.at1 (.head _))) ez ?_
    walk_at "go"
    exact q _ _ (by walk_at "fin") (Int.emod_nonneg _ (by omega)) (Int.emod_lt_of_pos _ hm)
theorem ok_law_value (T : Txt w K mg a) : FnOk P w K mg base (L2.CX P w) 2 a.f_law_value a.d_law_value ["_law_cell", "_law_turn"] sp_law_value := by
  refine T.law_value.F.okX sc_law_value (fun vs H Q E h => ?_) (fun cdv A outer s H vs Q E hr h => ?_)
  · obtain ⟨D, R, b, c, k, rfl, _⟩ := h
    rfl
  · obtain ⟨D, R, b, c, k, rfl, o, hb, hc, hk, q⟩ := h
    refine ⟨_, (pss_cons (ps_if (pt_cmpR op_ge (pv 0) (pe_op op_pow pe_int pe_int) (nomark _)) (pss_one (ps_ret (pe_op op_shr (pe_op op_sub (pv 0) (pe_op op_pow pe_int pe_int)) (pe_op G.op_mulU pe_int (pv 1))))) pss_nil)
  (pss_cons (ps_set (i := 2) sc_law_value.nd rfl (by first | exact Or.inl rfl | exact Or.inr rfl) (pe_callS (ok_law_draw (K := K) T) (hr.mono (by decide)) rfl T.law_draw.g T.law_draw.k T.law_draw.b (fun σ => passAt (takes_of rfl rfl rfl rfl) σ) (pa_cons (pe_op G.op_mulU (pe_op (G.k_addU (K := K)) (pv 0) (pe_op G.op_mulU pe_int (pv 1))) (pe_op (G.k_addU (K := K)) (pe_op (G.k_addU (K := K)) (pv 0) (pe_op G.op_mulU pe_int (pv 1))) pe_int)) (pa_cons (pe_op (G.k_addU (K := K)) (pe_op op_mod (pv 1) pe_int) pe_int) (pa_cons pe_int pa_nil)))))
  (pss_one (ps_ret (pe_op (G.k_addU (K := K)) (pe_op G.op_mulU (pv 2) pe_int) (pe_callS (ok_law_draw (K := K) T) (hr.mono (by decide)) rfl T.law_draw.g T.law_draw.k T.law_draw.b (fun σ => passAt (takes_of rfl rfl rfl rfl) σ) (pa_cons (pe_op (G.k_addU (K := K)) (pe_op G.op_mulU (pe_op (G.k_addU (K := K)) (pv 0) (pe_op G.op_mulU pe_int (pv 1))) (pe_op (G.k_addU (K := K)) (pv 0) pe_int)) (pe_op G.op_mulU pe_int (pv 1))) (pa_cons (pe_op (G.k_addU (K := K)) (pe_op op_mod (pv 1) pe_int) pe_int) (pa_cons pe_int pa_nil))))))))), ?_⟩
    walk_at "go"
    have e0 : (2 : Nat) ^ 40 = 1099511627776 := by decide
    have hk2 : k.natAbs < 2 ^ b := big_small (by omega) (by omega) (by omega)
    refine r_ite (fun h => ?_) (fun h => ?_)
    · have h1 := of_decide_eq_true h
      have hX : (0 : Int) ≤ 10 ^ Int.toNat 18 := by decide
      walk_at "go"
      generalize (10 : Int) ^ Int.toNat 18 = X at h1 hX ⊢
      refine q _ _ o (Nat.lt_of_le_of_lt (Int.natAbs_ediv_le_natAbs _ _) ?_)
      rw [Nat.pow_succ]
      omega
    · have q1 : (c + 977 * k).natAbs < 2 ^ (b + 1) := big_add hc (big_small (by omega) (by omega) (by omega))
      have q2 : (c + 31 * k + 5).natAbs < 2 ^ (b + 2) := big_add (big_add hc (big_small (by omega) (by omega) (by omega))) (big_small (by omega) (by omega) (by omega))
      have q3 : (c + 31 * k).natAbs < 2 ^ (b + 1) := big_add hc (big_small (by omega) (by omega) (by omega))
      have q4 : (c + 7).natAbs < 2 ^ (b + 1) := big_add hc (big_small (by omega) (by omega) (by omega))
      have q5 := wide_lt q1 q2
      have q6 := big_add (big_up (wide_lt q3 q4) (show _ ≤ 2 * b + 2 by omega)) (big_small (b := 2 * b + 2) (show -1048576 < 977 * k by omega) (by omega) (by omega))
      walk_at "go"
      refine ⟨D, R, 2 * b + 3, _, _, _, rfl, o, by omega, big_up q5 (by omega), by omega, by decide, fun H1 r1 o1 l1 u1 => ?_⟩
      walk_at "go"
      refine ⟨D, R, 2 * b + 3, _, _, _, rfl, o1, by omega, big_up q6 (by omega), by omega, by decide, fun H2 r2 o2 l2 u2 => ?_⟩
      walk_at "go"
      refine q _ _ o2 (big_up (a := 41) ?_ (by omega))
      rw [Nat.pow_succ, e0]
      omega
end
end PP

namespace PP
open PySem PySem.Spec PyProof.Rows L2 G
/-! people, words -/
def sp_law_people (K : PySem.W.Frag) : Sp := fun vs H Q _ => ∃ (D : Hp) (R : List (List Cell)) (b : Nat) (a : Addr) (ns : List Int), vs = [.ref a] ∧ Ok H D R ∧ SqL K D a (ns.map V.int) ∧ (100 ≤ b ∧ b ≤ 4000000) ∧ (∀ z ∈ ns, z.natAbs < 2 ^ b) ∧ ∀ (H' : Hp) (p : Int), Ok H' D R → 1 ≤ p → p ≤ 5 → Q (.int p) H'
def sp_law_word : Sp := fun vs H Q _ => ∃ (D : Hp) (R : List (List Cell)) (n : Int), vs = [.int n] ∧ Ok H D R ∧ ∀ (H' : Hp) (z : Str), Ok H' D R → okWord z = true → Q (.str z) H'
section
variable {P : Program} {w : World} {K : PySem.W.Frag} {mg : Str → Option Value} {base : Heap} {a : A} {H D : Hp} {Q : VK} {E : XK} {Ms R : List (List G.Cell)}
local macro_rules | `(tactic| walk_at "g3") => `(tactic| first
  | ((with_reducible refine' G.r_mulI ?c ?_); (case c => first | exact mulS (by omega) (by omega)))
  | ((with_reducible refine' G.r_I ?c ?_); (case c => first | assumption | (show (0 : Int) < _; omega) | (show (0 : Int) ≤ _; omega) | exact wide_div (b := 30) (by omega) (by omega) (by decide) (by decide)))
  | fail)
theorem ok_law_people (T : Txt w K mg a) : FnOk P w K mg base (L2.CX P w) 3 a.f_law_people a.d_law_people ["_law_script"] (sp_law_people K) := by
  refine T.law_people.F.okX sc_law_people (fun vs H Q E h => ?_) (fun cdv A outer s H vs Q E hr h => ?_)
  · obtain ⟨D, R, b, l, ns, rfl, _⟩ := h
    rfl
  · obtain ⟨D, R, b, l, ns, rfl, o, hs, hb, hn, q⟩ := h
    refine ⟨_, (pss_one (ps_ret (pe_op (G.k_addU (K := K)) pe_int (pe_op op_mod (pe_op (G.k_addU (K := K)) (pe_callS (ok_law_value (K := K) T) (hr.mono (by decide)) rfl T.law_value.g T.law_value.k T.law_value.b (fun σ => passAt (takes_of rfl rfl rfl rfl) σ) (pa_cons (pe_callS (ok_law_cell_at (K := K) T) (hr.mono (by decide)) rfl T.law_cell_at.g T.law_cell_at.k T.law_cell_at.b (fun σ => passAt (takes_of rfl rfl rfl rfl) σ) (pa_cons (pv 0) (pa_cons pe_int pa_nil))) (pa_cons pe_int pa_nil))) pe_int) pe_int)))), ?_⟩
    walk_at "go"
    refine ⟨b, l, ns, 0, rfl, by decide, o.sqL hs, hn, fun m hm => ?_⟩
    walk_at "go"
    refine ⟨D, R, b, m, 1, rfl, o, hb, hm, by omega, fun H1 r o1 _ => ?_⟩
    walk_at "go"
    exact q _ _ o1 (by omega) (by omega)
theorem atI_mem {α : Type} {xs : List α} {m : Int} (h0 : 0 ≤ m) (h1 : m < xs.length) : ∃ c, atI xs m = some c ∧ c ∈ xs := by
  have hi : m.toNat < xs.length := by omega
  refine ⟨xs[m.toNat], ?_, List.getElem_mem hi⟩
  have e : atI xs ((m.toNat : Nat) : Int) = some xs[m.toNat] := atI_nat (List.getElem?_eq_getElem hi)
  rwa [show ((m.toNat : Nat) : Int) = m by omega] at e
theorem word_snoc {z : Str} {c : Nat} {i : Nat} (h : z.length = i) (hz : ∀ x ∈ z.cps.toList, x ∈ lets) (hc : c ∈ lets) : (z ++ ⟨#[c]⟩ : Str).length = i + 1 ∧ ∀ x ∈ (z ++ ⟨#[c]⟩ : Str).cps.toList, x ∈ lets := by
  have h' : z.cps.size = i := h
  constructor
  · show (z.cps ++ #[c]).size = i + 1
    rw [Array.size_append, h']
    rfl
  · intro x hx
    have hx' : x ∈ (z.cps ++ #[c]).toList := hx
    rw [Array.toList_append, List.mem_append] at hx'
    rcases hx' with h | h
    · exact hz x h
    · obtain rfl := List.mem_singleton.mp h
      exact hc
theorem ok_law_word (T : Txt w K mg a) : FnOk P w K mg base (L2.CX P w) 1 a.f_law_word a.d_law_word ["_law_number"] sp_law_word := by
  refine T.law_word.F.okX sc_law_word (fun vs H Q E h => ?_) (fun cdv A outer s H vs Q E hr h => ?_)
  · obtain ⟨D, R, n, rfl, _⟩ := h
    rfl
  · obtain ⟨D, R, n, rfl, o, q⟩ := h
    refine ⟨_, (pss_cons (ps_set (i := 1) sc_law_word.nd rfl (by first | exact Or.inl rfl | exact Or.inr rfl) pe_str)
  (pss_cons (ps_for (passes_of rfl) rfl (pi_range1 rfl T.n_range (pa_cons (pe_op (G.k_addU (K := K)) pe_int (pe_op op_mod (pv 0) pe_int)) pa_nil)) (pg_name (i := 2) sc_law_word.nd rfl (by first | exact Or.inl rfl | exact Or.inr rfl))
  (pss_one (ps_set (i := 1) sc_law_word.nd rfl (by first | exact Or.inl rfl | exact Or.inr rfl) (pe_op (G.k_addU (K := K)) (pv 1) (pe_ix (G.k_ixU (K := K) (hu_of hr)) pe_str (pe_op op_mod (pe_op op_fdivW (pv 0) (pe_op G.op_mulU pe_int (pe_op (G.k_addU (K := K)) (pe_op G.op_mulU pe_int (pv 2)) pe_int))) pe_int) (fun _ _ => rfl))))))
  (pss_one (ps_ret (pv 1))))), ?_⟩
    walk_at "go"
    refine r_irng1 (by omega) ?_
    refine for_it walk_range (fun i σ H' => ∃ v1 z, σ = [some (.int n), some (.str z), v1] ∧ Ok H' D R ∧ z.length = i ∧ ∀ x ∈ z.cps.toList, x ∈ lets) ⟨none, "", rfl, o, rfl, fun x h => (nomatch h)⟩ ?_ ?_ ?_
    · intros
      trivial
    · rintro i y σ H' H'' hi ⟨v1, z, rfl, o', hl, hz⟩ ⟨rfl, rfl⟩
      walk_at "go"
      obtain ⟨c, ec, hc⟩ := atI_mem (xs := lets) (m := n / (4 * (7 * (0 + (i : Int)) + 1)) % 26) (by omega) (by show _ < (26 : Int); omega)
      refine r_ixS (by rw [sizeLine_eq]; show 26 ≤ _; omega) ec ?_
      obtain ⟨h1, h2⟩ := word_snoc hl hz hc
      refine r_addS (by rw [sizeLine_eq, hl]; show i + 1 ≤ _; omega) ?_
      walk_at "go"
      exact ⟨_, _, rfl, o', h1, h2⟩
    · rintro σ H' ⟨v1, z, rfl, o', hl, hz⟩
      walk_at "go"
      refine q _ _ o' ?_
      unfold okWord
      rw [hl, decide_eq_true (show (1 : Int) ≤ ((1 + n % 4).toNat : Nat) by omega), decide_eq_true (show (((1 + n % 4).toNat : Nat) : Int) ≤ 4 by omega), List.all_eq_true.mpr fun x hx => decide_eq_true (hz x hx)]
      rfl
end
end PP

namespace PP
open PySem PySem.Spec PyProof.Rows L2 G
/-! a deed -/
def sp_law_deed : Sp := fun vs H Q _ => ∃ (D : Hp) (R : List (List Cell)) (b : Nat) (c k pe nw : Int), vs = [.int c, .int k, .int pe, .int nw] ∧ Ok H D R ∧ (100 ≤ b ∧ b ≤ 4000000) ∧ c.natAbs < 2 ^ b ∧ 1 ≤ pe ∧ 0 ≤ nw ∧
  ∀ H' D' d dd, Ok H' D' R → Same D D' → D' d = some (.tup (Deed.row dd)) → dd.Good pe → Q (.ref d) H'
section
variable {P : Program} {w : World} {K : PySem.W.Frag} {mg : Str → Option Value} {base : Heap} {a : A} {H D : Hp} {Q : VK} {E : XK} {Ms R : List (List G.Cell)}
local macro_rules | `(tactic| walk_at "g3") => `(tactic| first
  | ((with_reducible refine' G.r_mulI ?c ?_); (case c => first | exact mulS (by omega) (by omega)))
  | ((with_reducible refine' G.r_I ?c ?_); (case c => first | assumption | (show (0 : Int) < _; omega) | (show (0 : Int) ≤ _; omega) | exact wide_div (b := 30) (by omega) (by omega) (by decide) (by decide)))
  | fail)
theorem u_law_word {n : Int} (o : Ok H D R) (q : ∀ (H' : Hp) (z : Str), Ok H' D R → okWord z = true → Q (.str z) H') : sp_law_word [.int n] H Q E := ⟨D, R, n, rfl, o, q⟩
theorem ok_law_deed (T : Txt w K mg a) : FnOk P w K mg base (L2.CX P w) 3 a.f_law_deed a.d_law_deed ["_law_cell", "_law_at", "_law_people_here", "_law_wishes"] sp_law_deed := by
  refine T.law_deed.F.okX sc_law_deed (fun vs H Q E h => ?_) (fun cdv A outer s H vs Q E hr h => ?_)
  · obtain ⟨D, R, b, c, k, pe, nw, rfl, _⟩ := h
    rfl
  · obtain ⟨D, R, b, c, k, pe, nw, rfl, o, hb, hc, hp, hn, q⟩ := h
    have fin : ∀ {H9 : Hp} {d : Addr} (dd : Deed), Ok H9 D ([(d, .tup dd.row)] :: R) → dd.Good pe → Q (.ref d) H9 := fun dd o8 g => by
      obtain ⟨o9, s9, e9⟩ := o8.frz
      exact q _ _ _ dd o9 s9 (e9 _ (.head _)) g
    refine ⟨_, (pss_cons (ps_set (i := 4) sc_law_deed.nd rfl (by first | exact Or.inl rfl | exact Or.inr rfl) (pe_op op_fdivW (pe_callS (ok_law_value (K := K) T) (hr.mono (by decide)) rfl T.law_value.g T.law_value.k T.law_value.b (fun σ => passAt (takes_of rfl rfl rfl rfl) σ) (pa_cons (pv 0) (pa_cons (pe_op op_mod (pv 1) pe_int) pa_nil))) pe_int))
  (pss_cons (ps_par (i := 5) (j := 6) rfl sc_law_deed.nd rfl rfl (by decide) rfl rfl (pa_cons (pe_op op_mod (pe_op op_fdivW (pv 4) pe_int) (pv 2)) (pa_cons (pe_op op_mod (pe_op op_fdivW (pv 4) pe_int) (pe_op (G.k_addU (K := K)) (pv 3) pe_int)) pa_nil)) rfl)
  (pss_cons (ps_set (i := 7) sc_law_deed.nd rfl (by first | exact Or.inl rfl | exact Or.inr rfl) (pe_op op_mod (pv 4) pe_int))
  (pss_cons (ps_if (PW.pt (pw_or (pt_cmpR op_lt (pv 7) pe_int (nomark _)) (pw_or1 (pt_cmpR (G.k_eqU (K := K) hr) (pv 3) pe_int (nomark _))))) (pss_one (ps_ret (pe_tup (pa_cons pe_str (pa_cons (pv 5) (pa_cons (pe_callS (ok_law_word (K := K) T) (hr.mono (by decide)) rfl T.law_word.g T.law_word.k T.law_word.b (fun σ => passAt (takes_of rfl rfl rfl rfl) σ) (pa_cons (pe_op op_fdivW (pv 4) pe_int) pa_nil)) (pa_cons (pe_op (G.k_addU (K := K)) pe_int (pe_op op_mod (pe_op op_fdivW (pv 4) pe_int) pe_int)) (pa_cons (pe_op (G.k_addU (K := K)) pe_int (pe_op op_mod (pe_op op_fdivW (pv 4) pe_int) pe_int)) pa_nil)))))))) pss_nil)
  (pss_cons (ps_if (pt_cmpR op_lt (pv 7) pe_int (nomark _)) (pss_one (ps_ret (pe_tup (pa_cons pe_str (pa_cons (pv 5) (pa_cons (pv 6) (pa_cons (pe_op (G.k_addU (K := K)) pe_int (pe_op op_mod (pe_op op_fdivW (pv 4) pe_int) pe_int)) pa_nil))))))) pss_nil)
  (pss_cons (ps_if (pt_cmpR (G.k_eqU (K := K) hr) (pv 7) pe_int (nomark _)) (pss_one (ps_ret (pe_tup (pa_cons pe_str (pa_cons (pv 5) (pa_cons (pv 6) pa_nil)))))) pss_nil)
  (pss_cons (ps_if (pt_cmpR op_lt (pv 7) pe_int (nomark _)) (pss_one (ps_ret (pe_tup (pa_cons pe_str (pa_cons (pv 5) (pa_cons (pv 6) (pa_cons (pe_op (G.k_addU (K := K)) pe_int (pe_op op_mod (pe_op op_mod (pe_op op_fdivW (pv 4) pe_int) pe_int) pe_int)) pa_nil))))))) pss_nil)
  (pss_cons (ps_if (pt_cmpR op_lt (pv 7) pe_int (nomark _)) (pss_cons (ps_set (i := 8) sc_law_deed.nd rfl (by first | exact Or.inl rfl | exact Or.inr rfl) (pe_op (G.k_addU (K := K)) pe_int (pe_op op_mod (pe_op op_fdivW (pv 4) pe_int) (pe_ix (G.k_ixU (K := K) (hu_of hr)) (pe_tup (pa_cons pe_int (pa_cons pe_int (pa_cons pe_int (pa_cons pe_int pa_nil))))) (pe_op op_mod (pe_op op_fdivW (pv 4) pe_int) pe_int) (fun _ _ => rfl)))))
  (pss_one (ps_ret (pe_tup (pa_cons pe_str (pa_cons (pv 5) (pa_cons (pv 6) (pa_cons (pv 8) pa_nil)))))))) pss_nil)
  (pss_one (ps_ret (pe_tup (pa_cons pe_str (pa_cons (pv 5) (pa_cons (pv 6) pa_nil)))))))))))))), ?_⟩
    walk_at "go"
    refine ⟨D, R, b, _, _, rfl, o, hb, hc, by omega, fun H1 n o1 _ => ?_⟩
    walk_at "go"
    generalize hN : n / 3 = N
    have g1 : 0 ≤ N / 16 % pe ∧ N / 16 % pe < pe := ⟨Int.emod_nonneg _ (by omega), Int.emod_lt_of_pos _ (by omega)⟩
    refine r_ite (fun h => ?_) (fun h => ?_)
    · walk_at "go"
      refine u_law_word o1 fun H2 z o2 hz => ?_
      walk_at "go"
      rename_i TT H3 o3
      refine fin (.wish _ z _ _) o3 ⟨g1, hz, ⟨by omega, by omega⟩, by omega, by omega⟩
    walk_at "go"
    refine r_ite (fun h => ?_) (fun h => ?_)
    · walk_at "go"
      refine u_law_word o1 fun H2 z o2 hz => ?_
      walk_at "go"
      rename_i TT H3 o3
      refine fin (.wish _ z _ _) o3 ⟨g1, hz, ⟨by omega, by omega⟩, by omega, by omega⟩
    walk_at "go"
    refine r_ite (fun h => ?_) (fun h => ?_)
    · walk_at "go"
      rename_i TT H3 o3
      exact fin (.alter _ _ _) o3 ⟨g1, by omega, by omega⟩
    walk_at "go"
    refine r_ite (fun h => ?_) (fun h => ?_)
    · walk_at "go"
      rename_i TT H3 o3
      exact fin (.drop _ _) o3 g1
    walk_at "go"
    refine r_ite (fun h => ?_) (fun h => ?_)
    · walk_at "go"
      rename_i TT H3 o3
      exact fin (.take _ _ _) o3 ⟨g1, by omega, by omega⟩
    walk_at "go"
    refine r_ite (fun h => ?_) (fun h => ?_)
    · walk_at "go"
      rename_i TT H3 o3
      obtain ⟨v, ev, hv⟩ := atI_all (ns := [20, 4, 20, 9]) (m := N / 20480 % 4) (fun z => 0 < z ∧ z ≤ 20) (by omega) (by show N / 20480 % 4 < 4; omega) (by decide)
      refine r_ixT (SqT.of (o3.at1 (.head _))) ev ?_
      have g2 : 0 ≤ N / 1024 % v ∧ N / 1024 % v < v := ⟨Int.emod_nonneg _ (by omega), Int.emod_lt_of_pos _ hv.1⟩
      walk_at "go"
      rename_i T4 H4 o4
      exact fin (.pledge _ _ _) (o4.sel (.pick .here (.done (.there .here)))) ⟨g1, by omega, by omega⟩
    walk_at "go"
    rename_i TT H3 o3
    exact fin (.back _ _) o3 g1
end
end PP

namespace PP
open PySem PySem.Spec PyProof.Rows L2 G
/-! free, refused -/
def sp_law_free : Sp := fun vs H Q _ => ∃ (D : Hp) (R : List (List Cell)) (x : WA) (w : W), vs = [.ref x.p] ∧ Ok H D (cV x w :: R) ∧ WOk w ∧ ∀ H', Ok H' D (cV x w :: R) → Q (.int (free w)) H'
def sp_law_refused : Sp := fun vs H Q _ => ∃ (D : Hp) (R : List (List Cell)) (l d : Addr) (xs : XS) (dd : Deed), vs = [.ref l, .ref d] ∧ Ok H D (cL l xs :: R) ∧ XOk xs ∧ D d = some (.tup dd.row) ∧ ∀ H', Ok H' D (cL l xs :: R) → Q (.bl (rfz (wsOf xs) dd)) H'
section
variable {P : Program} {w : World} {K : PySem.W.Frag} {mg : Str → Option Value} {base : Heap} {a : A} {H D : Hp} {Q : VK} {E : XK} {Ms R : List (List G.Cell)}
local macro_rules | `(tactic| walk_at "g3") => `(tactic| first
  | ((with_reducible refine' G.r_inT ?h ?f ?g ?_); (case h => walk_at "sqT"); (case f => rfl); (case g => rfl))
  | fail)
theorem kvs_int (l : AL) : (kvs l).map (·.2) = (l.map (fun p : Int × Int => p.2)).map V.int := by
  unfold kvs
  rw [List.map_map, List.map_map]
  rfl
theorem ok_law_free (T : Txt w K mg a) : FnOk P w K mg base (L2.CX P w) 1 a.f_law_free a.d_law_free ["_law_wish"] sp_law_free := by
  refine T.law_free.F.okX sc_law_free (fun vs H Q E h => ?_) (fun cdv A outer s H vs Q E hr h => ?_)
  · obtain ⟨D, R, x, w, rfl, _⟩ := h
    rfl
  · obtain ⟨D, R, x, w, rfl, o, hw, k⟩ := h
    refine ⟨_, (pss_cons (ps_set (i := 1) sc_law_free.nd rfl (by first | exact Or.inl rfl | exact Or.inr rfl) (pe_op (G.k_addU (K := K)) (pe_callB (G.k_sum (K := K) rfl) (by rfl) T.n_sum (by decide +kernel) (pa_cons (G.pe_listValues rfl (pe_ix (G.k_ixU (K := K) (hu_of hr)) (pv 0) pe_str (fun _ _ => rfl)) rfl T.n_list (by decide +kernel)) pa_nil)) (pe_ifExp (pt_cmpR (G.k_neU (K := K) hr) (pe_ix (G.k_ixU (K := K) (hu_of hr)) (pv 0) pe_str (fun _ _ => rfl)) pe_dnewK (nomark _)) pe_int pe_int)))
  (pss_one (ps_ret (pe_callB (call_max2 rfl) (by rfl) T.n_max (by decide +kernel) (pa_cons pe_int (pa_cons (pe_op op_sub (pe_ix (G.k_ixU (K := K) (hu_of hr)) (pv 0) pe_str (fun _ _ => rfl)) (pv 1)) pa_nil)))))), ?_⟩
    have o := o.openV
    walk_at "go"
    refine r_valsE o (o.at1 (.tail _ (.head _))) fun L H1 o1 => ?_
    walk_at "go"
    refine r_sum (SqL.of (o1.at1 (.head _))) (kvs_int _) ?_
    walk_at "go"
    have e : free w = if w.many - (alSum w.tk + if (!(kvs w.pl).isEmpty) = true then 1 else 0) > 0 then w.many - (alSum w.tk + if (!(kvs w.pl).isEmpty) = true then 1 else 0) else 0 := by
      unfold free held
      rw [kvs_isEmpty]
      cases w.pl <;> rfl
    refine r_ite (fun h => ?_) (fun h => ?_)
    · walk_at "go"
      rw [e, h] at k
      exact k _ (Ok.shutV (by walk_at "fin"))
    · walk_at "go"
      rw [e, h] at k
      exact k _ (Ok.shutV (by walk_at "fin"))
theorem u_law_free {x : WA} {w : W} (o : Ok H D (cV x w :: R)) (h : WOk w) (q : ∀ H', Ok H' D (cV x w :: R) → Q (.int (free w)) H') : sp_law_free [.ref x.p] H Q E := ⟨D, R, x, w, rfl, o, h, q⟩
theorem ok_law_refused (T : Txt w K mg a) : FnOk P w K mg base (L2.CX P w) 2 a.f_law_refused a.d_law_refused ["_law_wishes", "_law_deed_here"] sp_law_refused := by
  refine T.law_refused.F.okX sc_law_refused (fun vs H Q E h => ?_) (fun cdv A outer s H vs Q E hr h => ?_)
  · obtain ⟨D, R, l, d, xs, dd, rfl, _⟩ := h
    rfl
  · obtain ⟨D, R, l, d, xs, dd, rfl, o, hx, hd, k⟩ := h
    refine ⟨_, (pss_cons (ps_set (i := 2) sc_law_refused.nd rfl (by first | exact Or.inl rfl | exact Or.inr rfl) (pe_ix (G.k_ixU (K := K) (hu_of hr)) (pv 1) pe_int (fun _ _ => rfl)))
  (pss_cons (ps_if (pt_cmpR (G.k_eqU (K := K) hr) (pv 2) pe_str (nomark _)) (pss_one (ps_ret (pe_cmpR (G.k_eqU (K := K) hr) (pe_callB (G.k_lenU (K := K)) (by rfl) T.n_len (by decide +kernel) (pa_cons (pv 0) pa_nil)) pe_int (nomark _)))) pss_nil)
  (pss_cons (ps_if (pt_not (pt_chain op_le op_lt pe_int (pe_ix (G.k_ixU (K := K) (hu_of hr)) (pv 1) pe_int (fun _ _ => rfl)) (pe_callB (G.k_lenU (K := K)) (by rfl) T.n_len (by decide +kernel) (pa_cons (pv 0) pa_nil)))) (pss_one (ps_ret pe_bl)) pss_nil)
  (pss_cons (ps_set (i := 3) sc_law_refused.nd rfl (by first | exact Or.inl rfl | exact Or.inr rfl) (pe_ix (G.k_ixU (K := K) (hu_of hr)) (pv 0) (pe_ix (G.k_ixU (K := K) (hu_of hr)) (pv 1) pe_int (fun _ _ => rfl)) (fun _ _ => rfl)))
  (pss_cons (ps_if (pt_cmpR (G.k_eqU (K := K) hr) (pv 2) pe_str (nomark _)) (pss_one (ps_ret (pe_and (pe_cmpR (G.k_ninU (K := K) hr) (pe_ix (G.k_ixU (K := K) (hu_of hr)) (pv 1) pe_int (fun _ _ => rfl)) (pe_ix (G.k_ixU (K := K) (hu_of hr)) (pv 3) pe_str (fun _ _ => rfl)) (by first | rfl | exact nomark _)) (pe_one (pe_cmpR (G.k_ninU (K := K) hr) (pe_ix (G.k_ixU (K := K) (hu_of hr)) (pv 1) pe_int (fun _ _ => rfl)) (pe_ix (G.k_ixU (K := K) (hu_of hr)) (pv 3) pe_str (fun _ _ => rfl)) (by first | rfl | exact nomark _)))))) pss_nil)
  (pss_cons (ps_if (PW.pt (pw_or (pt_not (pt_val (pe_ix (G.k_ixU (K := K) (hu_of hr)) (pv 3) pe_str (fun _ _ => rfl)))) (pw_or1 (pt_cmpR (G.k_neU (K := K) hr) (pe_cmpR (G.k_eqU (K := K) hr) (pe_ix (G.k_ixU (K := K) (hu_of hr)) (pv 3) pe_str (fun _ _ => rfl)) (pe_ix (G.k_ixU (K := K) (hu_of hr)) (pv 1) pe_int (fun _ _ => rfl)) (nomark _)) (pe_cmpR (G.k_inU (K := K) hr) (pv 2) (pe_tup (pa_cons pe_str (pa_cons pe_str pa_nil))) (by first | rfl | exact nomark _)) (nomark _))))) (pss_one (ps_ret pe_bl)) pss_nil)
  (pss_cons (ps_if (pt_cmpR (G.k_eqU (K := K) hr) (pv 2) pe_str (nomark _)) (pss_one (ps_ret (pe_cmpR op_lt (pe_callS (ok_law_free (K := K) T) (hr.mono (by decide)) rfl T.law_free.g T.law_free.k T.law_free.b (fun σ => passAt (takes_of rfl rfl rfl rfl) σ) (pa_cons (pv 3) pa_nil)) (pe_ix (G.k_ixU (K := K) (hu_of hr)) (pv 1) pe_int (fun _ _ => rfl)) (nomark _)))) pss_nil)
  (pss_cons (ps_if (pt_cmpR (G.k_eqU (K := K) hr) (pv 2) pe_str (nomark _)) (pss_cons (ps_set (i := 4) sc_law_refused.nd rfl (by first | exact Or.inl rfl | exact Or.inr rfl) (pe_op op_sub (pe_ix (G.k_ixU (K := K) (hu_of hr)) (pv 3) pe_str (fun _ _ => rfl)) (pe_callB (G.k_sum (K := K) rfl) (by rfl) T.n_sum (by decide +kernel) (pa_cons (G.pe_listValues rfl (pe_ix (G.k_ixU (K := K) (hu_of hr)) (pv 3) pe_str (fun _ _ => rfl)) rfl T.n_list (by decide +kernel)) pa_nil))))
  (pss_one (ps_ret (pe_or (pe_and (pe_cmpR (G.k_eqU (K := K) hr) (pe_ix (G.k_ixU (K := K) (hu_of hr)) (pv 3) pe_str (fun _ _ => rfl)) pe_dnewK (nomark _)) (pe_one (pe_cmpR (G.k_eqU (K := K) hr) (pe_callS (ok_law_free (K := K) T) (hr.mono (by decide)) rfl T.law_free.g T.law_free.k T.law_free.b (fun σ => passAt (takes_of rfl rfl rfl rfl) σ) (pa_cons (pv 3) pa_nil)) pe_int (nomark _)))) (pe_one (pe_cmpR op_gt (pe_ix (G.k_ixU (K := K) (hu_of hr)) (pv 1) pe_int (fun _ _ => rfl)) (pv 4) (nomark _))))))) pss_nil)
  (pss_one (ps_ret pe_bl)))))))))), ?_⟩
    have hdT := SqT.of (K := K) hd
    have o1 := o.openL
    cases dd with
    | wish p z pr m =>
      walk_at "go"
      have e : decide (V.int ((refs xs).length : Nat) = V.int 8) = rfz (wsOf xs) (.wish p z pr m) := by
        rw [decV, refs_len]
        show _ = decide ((wsOf xs).length = 8)
        rw [wsOf_len]
        exact decide_eq_decide.mpr (by omega)
      rw [← e] at k
      exact k _ o
    | alter p i m =>
      have hr1 := refs_len (xs := xs)
      iterate 18 (first | walk_at "g1" | walk_at "g2")
      with_reducible refine r_ifJ (!decide (0 ≤ i ∧ i < ((refs xs).length : Int))) (fun H' => H' = H) (fun B k2 => ?_) (fun hc H1 e1 => ?_) (fun hc H1 e1 => ?_)
      · walk_at "go"
        refine r_ite (fun h => ?_) (fun h => ?_)
        · walk_at "go"
          have e : (!decide (i < ((refs xs).length : Int))) = !decide (0 ≤ i ∧ i < ((refs xs).length : Int)) := by rw [decide_eq_decide.mpr (show i < ((refs xs).length : Int) ↔ 0 ≤ i ∧ i < ((refs xs).length : Int) from ⟨fun z => ⟨of_decide_eq_true h, z⟩, fun z => z.2⟩)]
          rw [e]
          exact k2 _ rfl
        · walk_at "go"
          have e : (!decide (0 ≤ i ∧ i < ((refs xs).length : Int))) = !false := by rw [decide_eq_false fun z => of_decide_eq_false h z.1]
          rw [e] at k2
          exact k2 _ rfl
      · subst e1
        walk_at "go"
        rw [rfz_no (d := .alter p i m) rfl (if_neg fun z => (by rw [wsOf_len, ← hr1] at z; rw [decide_eq_true (show 0 ≤ i ∧ i < ((refs xs).length : Int) from z)] at hc; cases hc))] at k
        exact k _ o
      · subst e1
        have hc2 : 0 ≤ i ∧ i < ((refs xs).length : Int) := by
          by_cases z : 0 ≤ i ∧ i < ((refs xs).length : Int)
          · exact z
          · rw [decide_eq_false z] at hc; cases hc
        have hlt : i.toNat < xs.length := by omega
        obtain ⟨x, hx2⟩ : ∃ x, xs[i.toNat]? = some x := ⟨_, List.getElem?_eq_getElem hlt⟩
        have o2 := o.openLA hx2
        have hw := hx.w x (List.mem_of_getElem? hx2)
        have ea : wAt (wsOf xs) i = some x.2 := by
          unfold wAt
          rw [if_pos (by rw [wsOf_len, ← hr1]; exact hc2), wsOf_get, hx2]
          rfl
        have ek : rfz (wsOf xs) (.alter p i m) = rfW x.2 (.alter p i m) := rfz_at (d := .alter p i m) rfl ea
        rw [ek] at k
        clear o1
        walk_at "go"
        refine r_ixL (SqL.of (o2.at1 (.tail _ (.tail _ (.tail _ (.head _)))))) (at_wish hc2.1 hx2) ?_
        iterate 12 (first | walk_at "g1" | walk_at "g2")
        with_reducible refine r_ifJ (!x.2.st || !decide (x.2.ow = p)) (fun H' => Ok H' D ([(x.1.p, .dK (lawF x.2 x.1.t x.1.q))] :: [(x.1.t, .dK (kvs x.2.tk))] :: [(x.1.q, .dK (kvs x.2.pl))] :: [(l, .lst (refs xs))] :: LSx xs i.toNat :: R)) (fun B k2 => ?_) (fun hc H1 e1 => ?_) (fun hc H1 e1 => ?_)
        · walk_at "go"
          refine r_ite (fun h => ?_) (fun h => ?_)
          · rw [h] at k2
            exact k2 _ o2
          · walk_at "go"
            rw [h, ← show (!decide (V.bl (decide (V.int x.2.ow = V.int p)) = V.bl (inV (.str "alter") [.str "alter", .str "drop"]))) = (!decide (x.2.ow = p)) from by rw [decV]; cases decide (x.2.ow = p) <;> rfl] at k2
            exact k2 _ (by walk_at "fin")
        · clear o2
          walk_at "go"
          have e5 : rfW x.2 (.alter p i m) = true := by exact hc
          rw [e5] at k
          exact k _ (by have q := Ok.shutLA hx2 e1; rwa [set_same hx2] at q)
        · clear o2
          walk_at "go"
          have e5 : rfW x.2 (.alter p i m) = false := hc
          rw [e5] at k
          exact k _ (by have q := Ok.shutLA hx2 e1; rwa [set_same hx2] at q)
    | drop p i =>
      have hr1 := refs_len (xs := xs)
      iterate 18 (first | walk_at "g1" | walk_at "g2")
      with_reducible refine r_ifJ (!decide (0 ≤ i ∧ i < ((refs xs).length : Int))) (fun H' => H' = H) (fun B k2 => ?_) (fun hc H1 e1 => ?_) (fun hc H1 e1 => ?_)
      · walk_at "go"
        refine r_ite (fun h => ?_) (fun h => ?_)
        · walk_at "go"
          have e : (!decide (i < ((refs xs).length : Int))) = !decide (0 ≤ i ∧ i < ((refs xs).length : Int)) := by rw [decide_eq_decide.mpr (show i < ((refs xs).length : Int) ↔ 0 ≤ i ∧ i < ((refs xs).length : Int) from ⟨fun z => ⟨of_decide_eq_true h, z⟩, fun z => z.2⟩)]
          rw [e]
          exact k2 _ rfl
        · walk_at "go"
          have e : (!decide (0 ≤ i ∧ i < ((refs xs).length : Int))) = !false := by rw [decide_eq_false fun z => of_decide_eq_false h z.1]
          rw [e] at k2
          exact k2 _ rfl
      · subst e1
        walk_at "go"
        rw [rfz_no (d := .drop p i) rfl (if_neg fun z => (by rw [wsOf_len, ← hr1] at z; rw [decide_eq_true (show 0 ≤ i ∧ i < ((refs xs).length : Int) from z)] at hc; cases hc))] at k
        exact k _ o
      · subst e1
        have hc2 : 0 ≤ i ∧ i < ((refs xs).length : Int) := by
          by_cases z : 0 ≤ i ∧ i < ((refs xs).length : Int)
          · exact z
          · rw [decide_eq_false z] at hc; cases hc
        have hlt : i.toNat < xs.length := by omega
        obtain ⟨x, hx2⟩ : ∃ x, xs[i.toNat]? = some x := ⟨_, List.getElem?_eq_getElem hlt⟩
        have o2 := o.openLA hx2
        have hw := hx.w x (List.mem_of_getElem? hx2)
        have ea : wAt (wsOf xs) i = some x.2 := by
          unfold wAt
          rw [if_pos (by rw [wsOf_len, ← hr1]; exact hc2), wsOf_get, hx2]
          rfl
        have ek : rfz (wsOf xs) (.drop p i) = rfW x.2 (.drop p i) := rfz_at (d := .drop p i) rfl ea
        rw [ek] at k
        clear o1
        walk_at "go"
        refine r_ixL (SqL.of (o2.at1 (.tail _ (.tail _ (.tail _ (.head _)))))) (at_wish hc2.1 hx2) ?_
        iterate 12 (first | walk_at "g1" | walk_at "g2")
        with_reducible refine r_ifJ (!x.2.st || !decide (x.2.ow = p)) (fun H' => Ok H' D ([(x.1.p, .dK (lawF x.2 x.1.t x.1.q))] :: [(x.1.t, .dK (kvs x.2.tk))] :: [(x.1.q, .dK (kvs x.2.pl))] :: [(l, .lst (refs xs))] :: LSx xs i.toNat :: R)) (fun B k2 => ?_) (fun hc H1 e1 => ?_) (fun hc H1 e1 => ?_)
        · walk_at "go"
          refine r_ite (fun h => ?_) (fun h => ?_)
          · rw [h] at k2
            exact k2 _ o2
          · walk_at "go"
            rw [h, ← show (!decide (V.bl (decide (V.int x.2.ow = V.int p)) = V.bl (inV (.str "drop") [.str "alter", .str "drop"]))) = (!decide (x.2.ow = p)) from by rw [decV]; cases decide (x.2.ow = p) <;> rfl] at k2
            exact k2 _ (by walk_at "fin")
        · clear o2
          walk_at "go"
          have e5 : rfW x.2 (.drop p i) = true := by exact hc
          rw [e5] at k
          exact k _ (by have q := Ok.shutLA hx2 e1; rwa [set_same hx2] at q)
        · clear o2
          walk_at "go"
          have e5 : rfW x.2 (.drop p i) = false := hc
          rw [e5] at k
          exact k _ (by have q := Ok.shutLA hx2 e1; rwa [set_same hx2] at q)
    | take p i c =>
      have hr1 := refs_len (xs := xs)
      iterate 18 (first | walk_at "g1" | walk_at "g2")
      with_reducible refine r_ifJ (!decide (0 ≤ i ∧ i < ((refs xs).length : Int))) (fun H' => H' = H) (fun B k2 => ?_) (fun hc H1 e1 => ?_) (fun hc H1 e1 => ?_)
      · walk_at "go"
        refine r_ite (fun h => ?_) (fun h => ?_)
        · walk_at "go"
          have e : (!decide (i < ((refs xs).length : Int))) = !decide (0 ≤ i ∧ i < ((refs xs).length : Int)) := by rw [decide_eq_decide.mpr (show i < ((refs xs).length : Int) ↔ 0 ≤ i ∧ i < ((refs xs).length : Int) from ⟨fun z => ⟨of_decide_eq_true h, z⟩, fun z => z.2⟩)]
          rw [e]
          exact k2 _ rfl
        · walk_at "go"
          have e : (!decide (0 ≤ i ∧ i < ((refs xs).length : Int))) = !false := by rw [decide_eq_false fun z => of_decide_eq_false h z.1]
          rw [e] at k2
          exact k2 _ rfl
      · subst e1
        walk_at "go"
        rw [rfz_no (d := .take p i c) rfl (if_neg fun z => (by rw [wsOf_len, ← hr1] at z; rw [decide_eq_true (show 0 ≤ i ∧ i < ((refs xs).length : Int) from z)] at hc; cases hc))] at k
        exact k _ o
      · subst e1
        have hc2 : 0 ≤ i ∧ i < ((refs xs).length : Int) := by
          by_cases z : 0 ≤ i ∧ i < ((refs xs).length : Int)
          · exact z
          · rw [decide_eq_false z] at hc; cases hc
        have hlt : i.toNat < xs.length := by omega
        obtain ⟨x, hx2⟩ : ∃ x, xs[i.toNat]? = some x := ⟨_, List.getElem?_eq_getElem hlt⟩
        have o2 := o.openLA hx2
        have hw := hx.w x (List.mem_of_getElem? hx2)
        have ea : wAt (wsOf xs) i = some x.2 := by
          unfold wAt
          rw [if_pos (by rw [wsOf_len, ← hr1]; exact hc2), wsOf_get, hx2]
          rfl
        have ek : rfz (wsOf xs) (.take p i c) = rfW x.2 (.take p i c) := rfz_at (d := .take p i c) rfl ea
        rw [ek] at k
        clear o1
        walk_at "go"
        refine r_ixL (SqL.of (o2.at1 (.tail _ (.tail _ (.tail _ (.head _)))))) (at_wish hc2.1 hx2) ?_
        iterate 12 (first | walk_at "g1" | walk_at "g2")
        with_reducible refine r_ifJ (!x.2.st || decide (x.2.ow = p)) (fun H' => Ok H' D ([(x.1.p, .dK (lawF x.2 x.1.t x.1.q))] :: [(x.1.t, .dK (kvs x.2.tk))] :: [(x.1.q, .dK (kvs x.2.pl))] :: [(l, .lst (refs xs))] :: LSx xs i.toNat :: R)) (fun B k2 => ?_) (fun hc H1 e1 => ?_) (fun hc H1 e1 => ?_)
        · walk_at "go"
          refine r_ite (fun h => ?_) (fun h => ?_)
          · rw [h] at k2
            exact k2 _ o2
          · walk_at "go"
            rw [h, ← show (!decide (V.bl (decide (V.int x.2.ow = V.int p)) = V.bl (inV (.str "take") [.str "alter", .str "drop"]))) = (decide (x.2.ow = p)) from by rw [decV]; cases decide (x.2.ow = p) <;> rfl] at k2
            exact k2 _ (by walk_at "fin")
        · clear o2
          walk_at "go"
          have e5 : rfW x.2 (.take p i c) = true := by show ((!x.2.st || decide (x.2.ow = p)) || _) = true; rw [hc]; rfl
          rw [e5] at k
          exact k _ (by have q := Ok.shutLA hx2 e1; rwa [set_same hx2] at q)
        · clear o2
          walk_at "go"
          refine u_law_free e1.shutV hw fun H2 o3 => ?_
          have o4 := o3.openV
          walk_at "go"
          have e5 : rfW x.2 (.take p i c) = decide (free x.2 < c) := by show ((!x.2.st || decide (x.2.ow = p)) || _) = _; rw [hc]; rfl
          rw [e5] at k
          exact k _ (by have q := Ok.shutLA hx2 o4; rwa [set_same hx2] at q)
    | pledge p i c =>
      have hr1 := refs_len (xs := xs)
      iterate 18 (first | walk_at "g1" | walk_at "g2")
      with_reducible refine r_ifJ (!decide (0 ≤ i ∧ i < ((refs xs).length : Int))) (fun H' => H' = H) (fun B k2 => ?_) (fun hc H1 e1 => ?_) (fun hc H1 e1 => ?_)
      · walk_at "go"
        refine r_ite (fun h => ?_) (fun h => ?_)
        · walk_at "go"
          have e : (!decide (i < ((refs xs).length : Int))) = !decide (0 ≤ i ∧ i < ((refs xs).length : Int)) := by rw [decide_eq_decide.mpr (show i < ((refs xs).length : Int) ↔ 0 ≤ i ∧ i < ((refs xs).length : Int) from ⟨fun z => ⟨of_decide_eq_true h, z⟩, fun z => z.2⟩)]
          rw [e]
          exact k2 _ rfl
        · walk_at "go"
          have e : (!decide (0 ≤ i ∧ i < ((refs xs).length : Int))) = !false := by rw [decide_eq_false fun z => of_decide_eq_false h z.1]
          rw [e] at k2
          exact k2 _ rfl
      · subst e1
        walk_at "go"
        rw [rfz_no (d := .pledge p i c) rfl (if_neg fun z => (by rw [wsOf_len, ← hr1] at z; rw [decide_eq_true (show 0 ≤ i ∧ i < ((refs xs).length : Int) from z)] at hc; cases hc))] at k
        exact k _ o
      · subst e1
        have hc2 : 0 ≤ i ∧ i < ((refs xs).length : Int) := by
          by_cases z : 0 ≤ i ∧ i < ((refs xs).length : Int)
          · exact z
          · rw [decide_eq_false z] at hc; cases hc
        have hlt : i.toNat < xs.length := by omega
        obtain ⟨x, hx2⟩ : ∃ x, xs[i.toNat]? = some x := ⟨_, List.getElem?_eq_getElem hlt⟩
        have o2 := o.openLA hx2
        have hw := hx.w x (List.mem_of_getElem? hx2)
        have ea : wAt (wsOf xs) i = some x.2 := by
          unfold wAt
          rw [if_pos (by rw [wsOf_len, ← hr1]; exact hc2), wsOf_get, hx2]
          rfl
        have ek : rfz (wsOf xs) (.pledge p i c) = rfW x.2 (.pledge p i c) := rfz_at (d := .pledge p i c) rfl ea
        rw [ek] at k
        clear o1
        walk_at "go"
        refine r_ixL (SqL.of (o2.at1 (.tail _ (.tail _ (.tail _ (.head _)))))) (at_wish hc2.1 hx2) ?_
        iterate 12 (first | walk_at "g1" | walk_at "g2")
        with_reducible refine r_ifJ (!x.2.st || decide (x.2.ow = p)) (fun H' => Ok H' D ([(x.1.p, .dK (lawF x.2 x.1.t x.1.q))] :: [(x.1.t, .dK (kvs x.2.tk))] :: [(x.1.q, .dK (kvs x.2.pl))] :: [(l, .lst (refs xs))] :: LSx xs i.toNat :: R)) (fun B k2 => ?_) (fun hc H1 e1 => ?_) (fun hc H1 e1 => ?_)
        · walk_at "go"
          refine r_ite (fun h => ?_) (fun h => ?_)
          · rw [h] at k2
            exact k2 _ o2
          · walk_at "go"
            rw [h, ← show (!decide (V.bl (decide (V.int x.2.ow = V.int p)) = V.bl (inV (.str "pledge") [.str "alter", .str "drop"]))) = (decide (x.2.ow = p)) from by rw [decV]; cases decide (x.2.ow = p) <;> rfl] at k2
            exact k2 _ (by walk_at "fin")
        · clear o2
          walk_at "go"
          have e5 : rfW x.2 (.pledge p i c) = true := by show ((!x.2.st || decide (x.2.ow = p)) || _) = true; rw [hc]; rfl
          rw [e5] at k
          exact k _ (by have q := Ok.shutLA hx2 e1; rwa [set_same hx2] at q)
        · clear o2
          walk_at "go"
          refine r_valsE e1 (e1.at1 (.tail _ (.tail _ (.head _)))) fun L H2 o3 => ?_
          walk_at "go"
          refine r_sum (SqL.of (o3.at1 (.head _))) (kvs_int _) ?_
          clear e1
          walk_at "go"
          rename_i pD H3 o4
          have o4 : Ok H3 D ([(x.1.p, .dK (lawF x.2 x.1.t x.1.q))] :: [(x.1.t, .dK (kvs x.2.tk))] :: [(x.1.q, .dK (kvs x.2.pl))] :: [(l, .lst (refs xs))] :: LSx xs i.toNat :: R) := o4.sel (by walk_at "sel")
          clear o3
          have e5 : rfW x.2 (.pledge p i c) = ((x.2.pl.isEmpty && decide (free x.2 = 0)) || decide (lacking x.2 < c)) := by show ((!x.2.st || decide (x.2.ow = p)) || _) = _; rw [hc]; rfl
          rw [e5] at k
          have fin : ∀ {H9 : Hp}, Ok H9 D ([(x.1.p, .dK (lawF x.2 x.1.t x.1.q))] :: [(x.1.t, .dK (kvs x.2.tk))] :: [(x.1.q, .dK (kvs x.2.pl))] :: [(l, .lst (refs xs))] :: LSx xs i.toNat :: R) → Ok H9 D (cL l xs :: R) := fun o9 => by have q := Ok.shutLA hx2 o9; rwa [set_same hx2] at q
          refine r_ite (fun h => ?_) (fun h => ?_)
          · rw [kvs_empty] at h
            rw [h] at k
            walk_at "go"
            refine u_law_free o4.shutV hw fun H4 o5 => ?_
            have o5 := o5.openV
            clear o4
            walk_at "go"
            rw [decV]
            refine r_ite (fun h2 => ?_) (fun h2 => ?_)
            · rw [h2] at k
              exact k _ (fin o5)
            · walk_at "go"
              rw [h2] at k
              exact k _ (fin o5)
          · rw [kvs_empty] at h
            rw [h] at k
            walk_at "go"
            exact k _ (fin o4)
    | back p i =>
      have hr1 := refs_len (xs := xs)
      iterate 18 (first | walk_at "g1" | walk_at "g2")
      with_reducible refine r_ifJ (!decide (0 ≤ i ∧ i < ((refs xs).length : Int))) (fun H' => H' = H) (fun B k2 => ?_) (fun hc H1 e1 => ?_) (fun hc H1 e1 => ?_)
      · walk_at "go"
        refine r_ite (fun h => ?_) (fun h => ?_)
        · walk_at "go"
          have e : (!decide (i < ((refs xs).length : Int))) = !decide (0 ≤ i ∧ i < ((refs xs).length : Int)) := by rw [decide_eq_decide.mpr (show i < ((refs xs).length : Int) ↔ 0 ≤ i ∧ i < ((refs xs).length : Int) from ⟨fun z => ⟨of_decide_eq_true h, z⟩, fun z => z.2⟩)]
          rw [e]
          exact k2 _ rfl
        · walk_at "go"
          have e : (!decide (0 ≤ i ∧ i < ((refs xs).length : Int))) = !false := by rw [decide_eq_false fun z => of_decide_eq_false h z.1]
          rw [e] at k2
          exact k2 _ rfl
      · subst e1
        walk_at "go"
        rw [rfz_no (d := .back p i) rfl (if_neg fun z => (by rw [wsOf_len, ← hr1] at z; rw [decide_eq_true (show 0 ≤ i ∧ i < ((refs xs).length : Int) from z)] at hc; cases hc))] at k
        exact k _ o
      · subst e1
        have hc2 : 0 ≤ i ∧ i < ((refs xs).length : Int) := by
          by_cases z : 0 ≤ i ∧ i < ((refs xs).length : Int)
          · exact z
          · rw [decide_eq_false z] at hc; cases hc
        have hlt : i.toNat < xs.length := by omega
        obtain ⟨x, hx2⟩ : ∃ x, xs[i.toNat]? = some x := ⟨_, List.getElem?_eq_getElem hlt⟩
        have o2 := o.openLA hx2
        have hw := hx.w x (List.mem_of_getElem? hx2)
        have ea : wAt (wsOf xs) i = some x.2 := by
          unfold wAt
          rw [if_pos (by rw [wsOf_len, ← hr1]; exact hc2), wsOf_get, hx2]
          rfl
        have ek : rfz (wsOf xs) (.back p i) = rfW x.2 (.back p i) := rfz_at (d := .back p i) rfl ea
        rw [ek] at k
        clear o1
        walk_at "go"
        refine r_ixL (SqL.of (o2.at1 (.tail _ (.tail _ (.tail _ (.head _)))))) (at_wish hc2.1 hx2) ?_
        walk_at "go"
        have v1 : (valV (kvs x.2.tk) (Sum.inl p)).isSome = (alGet x.2.tk p).isSome := by rw [kvs_val, Option.isSome_map]
        have v2 : (valV (kvs x.2.pl) (Sum.inl p)).isSome = (alGet x.2.pl p).isSome := by rw [kvs_val, Option.isSome_map]
        have e5 : rfW x.2 (.back p i) = (!(alGet x.2.tk p).isSome && !(alGet x.2.pl p).isSome) := rfl
        rw [e5] at k
        refine r_ite (fun h => ?_) (fun h => ?_)
        · rw [v1] at h
          rw [h] at k
          walk_at "go"
          rw [v2]
          exact k _ (by have q := Ok.shutLA hx2 o2; rwa [set_same hx2] at q)
        · rw [v1] at h
          rw [h] at k
          exact k _ (by have q := Ok.shutLA hx2 o2; rwa [set_same hx2] at q)
end
end PP

namespace PP
open PySem PySem.Spec PyProof.Rows L2 G
/-! done -/
def sp_law_done : Sp := fun vs H Q _ => ∃ (D : Hp) (R : List (List Cell)) (l d : Addr) (xs : XS) (dd : Deed) (pe : Int), vs = [.ref l, .ref d] ∧ Ok H D (cL l xs :: R) ∧ XOk xs ∧ D d = some (.tup dd.row) ∧ dd.Good pe ∧ pe ≤ 5 ∧ rfz (wsOf xs) dd = false ∧
  ∀ H' D' xs' v, Ok H' D' (cL l xs' :: R) → Same D D' → wsOf xs' = (doL (wsOf xs) dd).1 → ResAt D' v (doL (wsOf xs) dd).2 → Q v H'
section
variable {P : Program} {w : World} {K : PySem.W.Frag} {mg : Str → Option Value} {base : Heap} {a : A} {H D : Hp} {Q : VK} {E : XK} {Ms R : List (List G.Cell)}
theorem perm3 {α : Type} (a b c l : α) (S : List α) (R : List (List α)) : ([a] :: [b] :: [c] :: [l] :: S :: R).flatten.Perm ((l :: (S ++ [a, b, c])) :: R).flatten := by
  have h1 : (([a, b, c] ++ l :: (S ++ R.flatten)) : List α).Perm (l :: ([a, b, c] ++ (S ++ R.flatten))) := List.perm_middle
  have h2 : (([a, b, c] ++ (S ++ R.flatten)) : List α).Perm ((S ++ [a, b, c]) ++ R.flatten) := by
    rw [← List.append_assoc]
    exact List.perm_append_comm.append_right _
  exact h1.trans (h2.cons l)
theorem refs_snoc' {xs : XS} {y : WA × W} : refs (xs ++ [y]) = refs xs ++ [.ref y.1.p] := by simp [refs]
theorem ok_law_done (T : Txt w K mg a) : FnOk P w K mg base (L2.CX P w) 2 a.f_law_done a.d_law_done ["_law_wishes", "_law_deed_here"] sp_law_done := by
  refine T.law_done.F.okX sc_law_done (fun vs H Q E h => ?_) (fun cdv A outer s H vs Q E hr h => ?_)
  · obtain ⟨D, R, l, d, xs, dd, pe, rfl, _⟩ := h
    rfl
  · obtain ⟨D, R, l, d, xs, dd, pe, rfl, o, hx, hd, hg, hp, hf, k⟩ := h
    refine ⟨_, (pss_cons (ps_par (i := 2) (j := 3) rfl sc_law_done.nd rfl rfl (by decide) rfl rfl (pa_cons (pe_ix (G.k_ixU (K := K) (hu_of hr)) (pv 1) pe_int (fun _ _ => rfl)) (pa_cons (pe_ix (G.k_ixU (K := K) (hu_of hr)) (pv 1) pe_int (fun _ _ => rfl)) pa_nil)) rfl)
  (pss_cons (ps_if (pt_cmpR (G.k_eqU (K := K) hr) (pv 2) pe_str (nomark _)) (pss_cons (ps_expr (G.k_bm (K := K) (pe_bm PySem.F.plainAttrs_list PySem.F.slot_list_append PySem.F.type_list_append mt_append (pv 0) (pa_cons (pe_disp (pps_cons pe_str (pv 3) (pps_cons pe_str (pe_ix (G.k_ixU (K := K) (hu_of hr)) (pv 1) pe_int (fun _ _ => rfl)) (pps_cons pe_str (pe_ix (G.k_ixU (K := K) (hu_of hr)) (pv 1) pe_int (fun _ _ => rfl)) (pps_cons pe_str (pe_ix (G.k_ixU (K := K) (hu_of hr)) (pv 1) pe_int (fun _ _ => rfl)) pps_nil)))) (by rfl) (by rfl) (fun z => by cases z) (by decide)) pa_nil))))
  (pss_cons (ps_expr (G.k_bm (K := K) (pe_bm PySem.F.plainAttrs_dict PySem.F.slot_dict_update PySem.F.type_dict_update G.mt_updateD (pe_ix (G.k_ixU (K := K) (hu_of hr)) (pv 0) (pe_un un_neg pe_int) (fun _ _ => rfl)) (pa_cons (pe_disp (pps_cons pe_str pe_bl (pps_cons pe_str pe_dnewK (pps_cons pe_str pe_dnewK pps_nil))) (by rfl) (by rfl) (fun z => by cases z) (by decide)) pa_nil))))
  (pss_one (ps_ret (pe_op op_sub (pe_callB (G.k_lenU (K := K)) (by rfl) T.n_len (by decide +kernel) (pa_cons (pv 0) pa_nil)) pe_int))))) pss_nil)
  (pss_cons (ps_set (i := 4) sc_law_done.nd rfl (by first | exact Or.inl rfl | exact Or.inr rfl) (pe_ix (G.k_ixU (K := K) (hu_of hr)) (pv 0) (pe_ix (G.k_ixU (K := K) (hu_of hr)) (pv 1) pe_int (fun _ _ => rfl)) (fun _ _ => rfl)))
  (pss_cons (ps_if (pt_cmpR (G.k_eqU (K := K) hr) (pv 2) pe_str (nomark _)) (pss_cons (ps_asg (pe_tup (pa_cons (pe_ix (G.k_ixU (K := K) (hu_of hr)) (pv 4) pe_str (fun _ _ => rfl)) (pa_cons (pe_ix (G.k_ixU (K := K) (hu_of hr)) (pv 1) pe_int (fun _ _ => rfl)) pa_nil))) (G.k_gtup (K := K) rfl (pgs_cons (pg_name (i := 5) sc_law_done.nd rfl (by first | exact Or.inl rfl | exact Or.inr rfl)) (pgs_cons (pg_sub (pv 4) pe_str (G.set_U (hu_of hr))) pgs_nil))))
  (pss_one (ps_ret (pv 5)))) pss_nil)
  (pss_cons (ps_if (pt_cmpR (G.k_eqU (K := K) hr) (pv 2) pe_str (nomark _)) (pss_cons (ps_asg pe_bl (pg_sub (pv 4) pe_str (G.set_U (hu_of hr))))
  (pss_one (ps_ret pe_non))) pss_nil)
  (pss_cons (ps_if (pt_cmpR (G.k_eqU (K := K) hr) (pv 2) pe_str (nomark _)) (pss_cons (ps_asg (pe_op (G.k_addU (K := K)) (pe_dget2 (hu_of hr) (pe_ix (G.k_ixU (K := K) (hu_of hr)) (pv 4) pe_str (fun _ _ => rfl)) (pv 3) pe_int ⟨rfl, rfl, rfl, rfl⟩) (pe_ix (G.k_ixU (K := K) (hu_of hr)) (pv 1) pe_int (fun _ _ => rfl))) (pg_sub (pe_ix (G.k_ixU (K := K) (hu_of hr)) (pv 4) pe_str (fun _ _ => rfl)) (pv 3) (G.set_U (hu_of hr))))
  (pss_one (ps_ret (pe_callS (ok_law_free (K := K) T) (hr.mono (by decide)) rfl T.law_free.g T.law_free.k T.law_free.b (fun σ => passAt (takes_of rfl rfl rfl rfl) σ) (pa_cons (pv 4) pa_nil))))) pss_nil)
  (pss_cons (ps_if (pt_cmpR (G.k_eqU (K := K) hr) (pv 2) pe_str (nomark _)) (pss_cons (ps_asg (pe_op (G.k_addU (K := K)) (pe_dget2 (hu_of hr) (pe_ix (G.k_ixU (K := K) (hu_of hr)) (pv 4) pe_str (fun _ _ => rfl)) (pv 3) pe_int ⟨rfl, rfl, rfl, rfl⟩) (pe_ix (G.k_ixU (K := K) (hu_of hr)) (pv 1) pe_int (fun _ _ => rfl))) (pg_sub (pe_ix (G.k_ixU (K := K) (hu_of hr)) (pv 4) pe_str (fun _ _ => rfl)) (pv 3) (G.set_U (hu_of hr))))
  (pss_one (ps_ret (pe_op op_sub (pe_ix (G.k_ixU (K := K) (hu_of hr)) (pv 4) pe_str (fun _ _ => rfl)) (pe_callB (G.k_sum (K := K) rfl) (by rfl) T.n_sum (by decide +kernel) (pa_cons (G.pe_listValues rfl (pe_ix (G.k_ixU (K := K) (hu_of hr)) (pv 4) pe_str (fun _ _ => rfl)) rfl T.n_list (by decide +kernel)) pa_nil)))))) pss_nil)
  (pss_one (ps_ret (pe_tup (pa_cons (pe_dpop2 (pe_ix (G.k_ixU (K := K) (hu_of hr)) (pv 4) pe_str (fun _ _ => rfl)) (pv 3) pe_int ⟨rfl, rfl, rfl, rfl⟩) (pa_cons (pe_dpop2 (pe_ix (G.k_ixU (K := K) (hu_of hr)) (pv 4) pe_str (fun _ _ => rfl)) (pv 3) pe_int ⟨rfl, rfl, rfl, rfl⟩) pa_nil)))))))))))), ?_⟩
    have hdT := SqT.of (K := K) hd
    cases hw : dd.isW with
    | true =>
      cases dd <;> first | (cases hw; done) | skip
      rename_i p z pr m
      have o1 := o.openL
      have hr1 := refs_len (xs := xs)
      have h9 := hx.n
      clear o
      walk_at "go"
      rename_i pD H1 o2
      refine r_dispE [(Sum.inr "owner", .int p), (Sum.inr "word", .str z), (Sum.inr "price", .int pr), (Sum.inr "many", .int m)] (kvs' := [(Sum.inr "owner", .int p), (Sum.inr "word", .str z), (Sum.inr "price", .int pr), (Sum.inr "many", .int m)]) (by assumption) .here rfl rfl rfl fun H2 o3 => ?_
      clear o2 o1
      walk_at "go"
      refine r_app o3 (.there .here) (by rw [hr1, sizeLine_eq]; omega) fun H3 o4 => ?_
      clear o3
      walk_at "go"
      refine r_ixL (SqL.of (o4.at1 (.head _))) (atI_last _ _) ?_
      walk_at "go"
      rename_i pD2 H4 o5 p6 H6 o6 p7 H7 o7
      refine r_dispE [(Sum.inr "stands", .bl true), (Sum.inr "takings", .ref p6), (Sum.inr "pledges", .ref p7)] (kvs' := [(Sum.inr "stands", .bl true), (Sum.inr "takings", .ref p6), (Sum.inr "pledges", .ref p7)]) o7 (.there (.there .here)) rfl rfl rfl fun H8 o8 => ?_
      clear o4 o5 o6 o7
      walk_at "go"
      refine r_updE (k3 := lawF ⟨p, z, pr, m, true, [], []⟩ p6 p7) o8 (.there (.there (.there (.there .here)))) (.head _) rfl rfl fun H9 o9 => ?_
      clear o8
      walk_at "go"
      have o10 : Ok H9 D ([(pD, .dK (lawF ⟨p, z, pr, m, true, [], []⟩ p6 p7))] :: [(p6, .dK [])] :: [(p7, .dK [])] :: [(l, .lst (refs xs ++ [.ref pD]))] :: LS xs :: R) := o9.sel (by walk_at "sel")
      refine k H9 D (xs ++ [(⟨pD, 0, p6, p7⟩, ⟨p, z, pr, m, true, [], []⟩)]) _ (o10.re ?_) (Same.refl D) (by show _ = wsOf xs ++ [_]; simp [wsOf]) ?_
      · unfold cL
        rw [refs_snoc', LS_snoc]
        exact perm3 _ _ _ _ _ _
      · show V.int _ = V.int _
        rw [List.length_append, hr1, wsOf_len]
        show V.int (((xs.length + 1 : Nat) : Int) - 1) = _
        rw [show (((xs.length + 1 : Nat) : Int) - 1) = xs.length by omega]
    | false =>
      obtain ⟨x0, ea⟩ : ∃ x0, wAt (wsOf xs) dd.num = some x0 := by
        cases h : wAt (wsOf xs) dd.num with
        | some x0 => exact ⟨x0, rfl⟩
        | none => rw [rfz_no hw h] at hf; cases hf
      rw [doL_at hw ea] at k
      have hr1 := refs_len (xs := xs)
      have hc2 : 0 ≤ dd.num ∧ dd.num < ((refs xs).length : Int) := by
        unfold wAt at ea
        split at ea
        · rename_i z
          rwa [wsOf_len, ← hr1] at z
        · cases ea
      obtain ⟨x, hx2⟩ : ∃ x, xs[dd.num.toNat]? = some x := ⟨_, List.getElem?_eq_getElem (by omega)⟩
      have e0 : x0 = x.2 := by
        unfold wAt at ea
        rw [if_pos (by rwa [wsOf_len, ← hr1]), wsOf_get, hx2] at ea
        exact (Option.some.inj ea).symm
      subst e0
      have o2 := o.openLA hx2
      have hw2 := hx.w x (List.mem_of_getElem? hx2)
      have fin : ∀ {H9 D9 : Hp} {v : V}, Same D D9 → Ok H9 D9 ([(x.1.p, .dK (lawF (doW x.2 dd).1 x.1.t x.1.q))] :: [(x.1.t, .dK (kvs (doW x.2 dd).1.tk))] :: [(x.1.q, .dK (kvs (doW x.2 dd).1.pl))] :: [(l, .lst (refs xs))] :: LSx xs dd.num.toNat :: R) → ResAt D9 v (doW x.2 dd).2 → Q v H9 := fun s9 o9 r9 => k _ _ (xs.set dd.num.toNat (x.1, (doW x.2 dd).1)) _ (Ok.shutLA hx2 o9) s9 wsOf_set r9
      clear o k
      cases dd with
      | wish => cases hw
      | alter p i m =>
        walk_at "go"
        refine r_ixL (SqL.of (o2.at1 (.tail _ (.tail _ (.tail _ (.head _)))))) (at_wish hc2.1 hx2) ?_
        walk_at "go"
        rename_i TT H1 o3
        refine r_gtup (SqT.of (o3.at1 (.head _))) rfl ?_
        clear o2
        walk_at "go"
        exact fin (Same.refl D) (by walk_at "fin") rfl
      | drop p i =>
        walk_at "go"
        refine r_ixL (SqL.of (o2.at1 (.tail _ (.tail _ (.tail _ (.head _)))))) (at_wish hc2.1 hx2) ?_
        walk_at "go"
        rename_i H1 o3
        exact fin (Same.refl D) (by walk_at "fin") rfl
      | take p i c =>
        walk_at "go"
        refine r_ixL (SqL.of (o2.at1 (.tail _ (.tail _ (.tail _ (.head _)))))) (at_wish hc2.1 hx2) ?_
        walk_at "go"
        rw [al_getD]
        walk_at "go"
        refine r_setDI (by assumption) (.there .here) (kvs_lt hw2.lt) fun H3 o5 => ?_
        rw [kvs_put hw2.nt] at o5
        have o6 : Ok H3 D ([(x.1.p, .dK (lawF (takeW x.2 p c) x.1.t x.1.q))] :: [(x.1.t, .dK (kvs (takeW x.2 p c).tk))] :: [(x.1.q, .dK (kvs x.2.pl))] :: [(l, .lst (refs xs))] :: LSx xs i.toNat :: R) := o5.sel (by walk_at "sel")
        walk_at "go"
        refine u_law_free o6.shutV (hw2.take ⟨hg.1.1, by have := hg.1.2; omega⟩) fun H4 o7 => ?_
        exact fin (Same.refl D) o7.openV rfl
      | pledge p i c =>
        walk_at "go"
        refine r_ixL (SqL.of (o2.at1 (.tail _ (.tail _ (.tail _ (.head _)))))) (at_wish hc2.1 hx2) ?_
        walk_at "go"
        rw [al_getD]
        walk_at "go"
        refine r_setDI (by assumption) (.there (.there .here)) (kvs_lt hw2.lp) fun H3 o5 => ?_
        rw [kvs_put hw2.np] at o5
        have o6 : Ok H3 D ([(x.1.p, .dK (lawF (pledgeW x.2 p c) x.1.t x.1.q))] :: [(x.1.t, .dK (kvs x.2.tk))] :: [(x.1.q, .dK (kvs (pledgeW x.2 p c).pl))] :: [(l, .lst (refs xs))] :: LSx xs i.toNat :: R) := o5.sel (by walk_at "sel")
        clear o5 o2
        walk_at "go"
        refine r_valsE o6 (o6.at1 (.tail _ (.tail _ (.head _)))) fun L H4 o7 => ?_
        walk_at "go"
        refine r_sum (SqL.of (o7.at1 (.head _))) (kvs_int _) ?_
        walk_at "go"
        exact fin (Same.refl D) o7.drop rfl
      | back p i =>
        walk_at "go"
        refine r_ixL (SqL.of (o2.at1 (.tail _ (.tail _ (.tail _ (.head _)))))) (at_wish hc2.1 hx2) ?_
        walk_at "go"
        refine r_dpopA o2 (.there .here) fun H3 o4 => ?_
        walk_at "go"
        refine r_dpopA o4 (.there (.there .here)) fun H4 o5 => ?_
        walk_at "go"
        rename_i TT H5 o6
        obtain ⟨o7, s7, e7⟩ := o6.frz
        exact fin s7 (by walk_at "fin") ⟨_, rfl, e7 _ (.head _)⟩
end
end PP

namespace PP
open PySem PySem.Spec PyProof.Rows L2 G
/-! drawn -/
def cutG {α : Type} (ns : List α) (lo hi : Option Int) : List α := (ns.drop (HT.sIx ns.length 0 lo)).take (HT.sIx ns.length ns.length hi - HT.sIx ns.length 0 lo)
theorem cutV_map {α : Type} (f : α → V) (ns : List α) (lo hi : Option Int) : cutV (ns.map f) lo hi = (cutG ns lo hi).map f := by
  unfold cutV cutG
  rw [List.length_map, List.map_take, List.map_drop]
theorem cutG_mem {α : Type} {ns : List α} {lo hi : Option Int} {z : α} (h : z ∈ cutG ns lo hi) : z ∈ ns := List.mem_of_mem_drop (List.mem_of_mem_take h)
theorem cutG_len {α : Type} {ns : List α} {lo hi : Option Int} : (cutG ns lo hi).length ≤ ns.length := by
  unfold cutG
  rw [List.length_take, List.length_drop]
  omega
theorem cutG_le {α : Type} {ns : List α} {lo hi : Int} (h0 : 0 ≤ lo) (h1 : 0 ≤ hi) : (cutG ns (some lo) (some hi)).length ≤ (hi - lo).toNat := by
  have e1 : HT.sIx ns.length 0 (some lo) = min lo.toNat ns.length := if_neg (by omega)
  have e2 : HT.sIx ns.length ns.length (some hi) = min hi.toNat ns.length := if_neg (by omega)
  unfold cutG
  rw [List.length_take, List.length_drop, e1, e2]
  omega
def DeedsAt (D : Hp) (pe : Int) : List Addr → List Deed → Prop := Paired fun d dd => D d = some (.tup (Deed.row dd)) ∧ dd.Good pe
theorem DeedsAt.mono {D D' : Hp} {pe : Int} (e : Same D D') {ds : List Addr} {dds : List Deed} (h : DeedsAt D pe ds dds) : DeedsAt D' pe ds dds := Paired.mapP h fun _ _ q => ⟨e _ _ q.1, q.2⟩
def sp_law_drawn (K : PySem.W.Frag) : Sp := fun vs H Q _ => ∃ (D : Hp) (R : List (List Cell)) (b : Nat) (a : Addr) (ns : List Int) (lo hi pe : Int), vs = [.ref a, .int lo, .int hi, .int pe] ∧ Ok H D R ∧ SqL K D a (ns.map V.int) ∧ (100 ≤ b ∧ b ≤ 4000000) ∧ (∀ z ∈ ns, z.natAbs < 2 ^ b) ∧ (1 ≤ pe ∧ pe ≤ 5) ∧ ns.length ≤ 1000 ∧
  ∀ H' D' L ds dds, Ok H' D' ([(L, .lst (ds.map V.ref))] :: R) → Same D D' → DeedsAt D' pe ds dds → dds.length ≤ (cutG ns (some lo) (some hi)).length → Q (.ref L) H'
section
variable {P : Program} {w : World} {K : PySem.W.Frag} {mg : Str → Option Value} {base : Heap} {a : A} {H D : Hp} {Q : VK} {E : XK} {Ms R : List (List G.Cell)}
theorem u_law_refused {l d : Addr} {xs : XS} {dd : Deed} (o : Ok H D (cL l xs :: R)) (hx : XOk xs) (hd : D d = some (.tup dd.row)) (q : ∀ H', Ok H' D (cL l xs :: R) → Q (.bl (rfz (wsOf xs) dd)) H') : sp_law_refused [.ref l, .ref d] H Q E := ⟨D, R, l, d, xs, dd, rfl, o, hx, hd, q⟩
theorem u_law_done {l d : Addr} {xs : XS} {dd : Deed} {pe : Int} (o : Ok H D (cL l xs :: R)) (hx : XOk xs) (hd : D d = some (.tup dd.row)) (g : dd.Good pe) (hp : pe ≤ 5) (hf : rfz (wsOf xs) dd = false)
  (q : ∀ H' D' xs' v, Ok H' D' (cL l xs' :: R) → Same D D' → XOk xs' → wsOf xs' = (doL (wsOf xs) dd).1 → ResAt D' v (doL (wsOf xs) dd).2 → Q v H') : sp_law_done [.ref l, .ref d] H Q E :=
  ⟨D, R, l, d, xs, dd, pe, rfl, o, hx, hd, g, hp, hf, fun H' D' xs' v o' s' e' r' => q H' D' xs' v o' s' (XOk.of (by rw [e']; exact hx.to.do g hp hf)) e' r'⟩
theorem ok_law_drawn (T : Txt w K mg a) : FnOk P w K mg base (L2.CX P w) 4 a.f_law_drawn a.d_law_drawn ["_law_script", "_law_begin", "_law_end", "_law_people_here"] (sp_law_drawn K) := by
  refine T.law_drawn.F.okX sc_law_drawn (fun vs H Q E h => ?_) (fun cdv A outer s H vs Q E hr h => ?_)
  · obtain ⟨D, R, b, l, ns, lo, hi, pe, rfl, _⟩ := h
    rfl
  · obtain ⟨D, R, b, l, ns, lo, hi, pe, rfl, o, hs, hb, hn, hp, hl, k⟩ := h
    refine ⟨_, (pss_cons (ps_par (i := 4) (j := 5) rfl sc_law_drawn.nd rfl rfl (by decide) rfl rfl (pa_cons (pe_lst pa_nil) (pa_cons (pe_lst pa_nil) pa_nil)) rfl)
  (pss_cons (ps_for (passes_of rfl) rfl (G.k_enum (K := K) rfl T.n_enumerate (pa_cons (pe_slice (G.k_slU (K := K)) (pv 0) (po_some (pv 1)) (po_some (pv 2))) pa_nil)) (G.k_gtup (K := K) rfl (pgs_cons (pg_name (i := 6) sc_law_drawn.nd rfl (by first | exact Or.inl rfl | exact Or.inr rfl)) (pgs_cons (pg_name (i := 7) sc_law_drawn.nd rfl (by first | exact Or.inl rfl | exact Or.inr rfl)) pgs_nil)))
  (pss_cons (ps_set (i := 8) sc_law_drawn.nd rfl (by first | exact Or.inl rfl | exact Or.inr rfl) (pe_callS (ok_law_deed (K := K) T) (hr.mono (by decide)) rfl T.law_deed.g T.law_deed.k T.law_deed.b (fun σ => passAt (takes_of rfl rfl rfl rfl) σ) (pa_cons (pv 7) (pa_cons (pv 6) (pa_cons (pv 3) (pa_cons (pe_callB (G.k_lenU (K := K)) (by rfl) T.n_len (by decide +kernel) (pa_cons (pv 4) pa_nil)) pa_nil))))))
  (pss_cons (ps_expr (G.k_bm (K := K) (pe_bm PySem.F.plainAttrs_list PySem.F.slot_list_append PySem.F.type_list_append mt_append (pv 5) (pa_cons (pv 8) pa_nil))))
  (pss_one (ps_if (pt_not (pt_val (pe_callS (ok_law_refused (K := K) T) (hr.mono (by decide)) rfl T.law_refused.g T.law_refused.k T.law_refused.b (fun σ => passAt (takes_of rfl rfl rfl rfl) σ) (pa_cons (pv 4) (pa_cons (pv 8) pa_nil))))) (pss_one (ps_expr (pe_callS (ok_law_done (K := K) T) (hr.mono (by decide)) rfl T.law_done.g T.law_done.k T.law_done.b (fun σ => passAt (takes_of rfl rfl rfl rfl) σ) (pa_cons (pv 4) (pa_cons (pv 8) pa_nil))))) pss_nil)))))
  (pss_one (ps_ret (pv 5))))), ?_⟩
    walk_at "go"
    rename_i LW H1 o1 LF H2 o2
    refine r_slL o2 (o2.sqL hs) fun LC H3 o3 => ?_
    rw [cutV_map] at o3
    walk_at "go"
    refine r_ienum (SqL.of (o3.at1 (.head _))) ?_
    refine for_it (walk_enum (xs := (cutG ns (some lo) (some hi)).map V.int)) (fun i σ H' => ∃ v1 v2 v3 D' xs ds dds, σ = [some (.ref l), some (.int lo), some (.int hi), some (.int pe), some (.ref LW), some (.ref LF), v1, v2, v3] ∧ Ok H' D' ([(LF, .lst (ds.map V.ref))] :: cL LW xs :: [(LC, .lst ((cutG ns (some lo) (some hi)).map V.int))] :: R) ∧ Same D D' ∧ XOk xs ∧ DeedsAt D' pe ds dds ∧ dds.length = i)
      ⟨none, none, none, D, [], [], [], rfl, (o3.sel (.pick (.there .here) (.pick (.there .here) (.pick .here (.done .here))))).re (.of_eq (by simp [cL, LS, refs])), Same.refl D, ⟨fun x h => (nomatch h), by decide⟩, .nil, rfl⟩ ?_ ?_ ?_
    · rintro i σ H' _ ⟨v1, v2, v3, D', xs, ds, dds, rfl, o', s', hx, hd, hil⟩
      exact SqL.of (o'.at1 (.tail _ (.tail _ (.head _))))
    · rintro i y σ H' H'' hlt ⟨v1, v2, v3, D', xs, ds, dds, rfl, o', s', hx, hd, hil⟩ ⟨TT, x1, x2, rfl, nT, rfl, ex1, ex2⟩
      obtain rfl := Option.some.inj ex1
      obtain ⟨z, ez, hz⟩ : ∃ z, x2 = V.int z ∧ z ∈ ns := by
        have e : ((cutG ns (some lo) (some hi)).map V.int)[i]? = some x2 := ex2
        rw [List.getElem?_map] at e
        cases e3 : (cutG ns (some lo) (some hi))[i]? with
        | none => rw [e3] at e; cases e
        | some z =>
          rw [e3] at e
          exact ⟨z, (Option.some.inj e).symm, cutG_mem (List.mem_of_getElem? e3)⟩
      subst ez
      have oT := o'.new (o := .tup [.int (i : Nat), .int z]) nT
      refine r_gtup (SqT.of (oT.at1 (.head _))) rfl ?_
      have o4 := oT.drop
      generalize upd H' TT (.tup [.int (i : Nat), .int z]) = H4 at o4 oT ⊢
      clear oT
      have o5 : Ok H4 D' ([(LW, .lst (refs xs))] :: LS xs :: [(LF, .lst (ds.map V.ref))] :: [(LC, .lst ((cutG ns (some lo) (some hi)).map V.int))] :: R) := (o4.pk (.there .here)).openL
      walk_at "go"
      refine ⟨D', _, b, z, i, pe, _, rfl, o4, hb, hn z hz, hp.1, by omega, fun H5 D5 d dd o6 s6 e6 g6 => ?_⟩
      clear o5
      walk_at "go"
      refine r_app o6 .here (by
        have e1 := Paired.length hd
        have e2 : (cutG ns (some lo) (some hi)).length ≤ ns.length := cutG_len
        rw [List.length_map] at hlt
        rw [List.length_map, sizeLine_eq]
        omega) fun H6 o7 => ?_
      clear o6
      walk_at "go"
      refine u_law_refused (o7.pk (.there .here)) hx e6 fun H7 o8 => ?_
      walk_at "go"
      refine r_ite (fun h => ?_) (fun h => ?_)
      · walk_at "go"
        refine u_law_done o8 hx e6 g6 hp.2 (by simpa using h) fun H8 D8 xs' v o9 s9 hx' _ _ => ?_
        walk_at "go"
        exact ⟨_, _, _, D8, xs', ds ++ [d], dds ++ [dd], rfl, (by rw [List.map_append]; exact o9.sel (.pick (.there .here) (.pick .here (.pick .here (.done .here))))), (s'.trans s6).trans s9, hx', Paired.snoc (hd.mono (s6.trans s9)) ⟨s9 _ _ e6, g6⟩, by rw [List.length_append, hil]; rfl⟩
      · walk_at "go"
        exact ⟨_, _, _, D5, xs, ds ++ [d], dds ++ [dd], rfl, (by rw [List.map_append]; exact o8.sel (.pick (.there .here) (.pick .here (.pick .here (.done .here))))), (s'.trans s6), hx, Paired.snoc (hd.mono s6) ⟨e6, g6⟩, by rw [List.length_append, hil]; rfl⟩
    · rintro σ H' ⟨v1, v2, v3, D', xs, ds, dds, rfl, o', s', hx, hd, hil⟩
      walk_at "go"
      refine k _ _ _ _ _ (o'.sel (.pick .here (.done (.there (.there .here))))) s' hd ?_
      rw [hil, List.length_map]
      exact Nat.le_refl _
end
end PP

namespace PP
open PySem PySem.Spec PyProof.Rows L2 G
/-! whole -/
def sp_law_whole (K : PySem.W.Frag) : Sp := fun vs H Q _ => ∃ x T, vs = [x] ∧ Tv K H x T ∧ Q (.bl (isW x)) H
theorem ne_self {x : V} : (!decide (x = x)) = false := by simp
theorem dec_self {b : Bool} : decide (b = b) = true := decide_eq_true rfl
section
variable {P : Program} {w : World} {K : PySem.W.Frag} {mg : Str → Option Value} {base : Heap} {a : A} {H D : Hp} {Q : VK} {E : XK} {Ms R : List (List G.Cell)}
theorem isB {a b : Bool} (q : Q (.bl (decide (a = b))) H) : rIsB (.bl a) (.bl b) H Q := ⟨a, b, rfl, rfl, q⟩
theorem notB {a b : Bool} (q : Q (.bl (!decide (a = b))) H) : rNotB (.bl a) (.bl b) H Q := ⟨a, b, rfl, rfl, q⟩
theorem ok_law_whole (T : Txt w K mg a) : FnOk P w K mg base (L2.CX P w) 1 a.f_law_whole a.d_law_whole ["_law_number"] (sp_law_whole K) := by
  refine T.law_whole.F.okX sc_law_whole (fun vs H Q E h => ?_) (fun cdv A outer s H vs Q E hr h => ?_)
  · obtain ⟨x, t, rfl, _⟩ := h
    rfl
  · obtain ⟨x, t, rfl, hx, q⟩ := h
    refine ⟨_, (pss_one (ps_ret (pe_and (pe_callB (G.k_isi (K := K)) (by rfl) T.n_isinstance (by decide +kernel) (pa_cons (pv 0) (pa_cons (pe_bltn (v := .ty "int") (by rfl) T.n_int boot_int rfl) pa_nil))) (pe_one (pe_not (pe_callB (G.k_isi (K := K)) (by rfl) T.n_isinstance (by decide +kernel) (pa_cons (pv 0) (pa_cons (pe_bltn (v := .ty "bool") (by rfl) T.n_bool boot_bool rfl) pa_nil)))))))), ?_⟩
    walk_at "go"
    refine isi hx (kit_int _ hx.mem) ?_
    walk_at "go"
    refine r_ite (fun h1 => ?_) (fun h1 => ?_)
    · walk_at "go"
      refine isi hx (kit_bool _ hx.mem) ?_
      walk_at "go"
      have e : isW x = !(t == "bool") := by
        rw [isW_of hx]
        have := hx.mem
        revert h1
        cases hx <;> decide
      rw [← e]
      exact q
    · have e : isW x = false := by
        rw [isW_of hx]
        revert h1
        cases hx <;> decide
      rw [e] at q
      exact q
theorem u_law_whole {x : V} {t : String} (h : Tv K H x t) (q : Q (.bl (t == "int")) H) : sp_law_whole K [x] H Q E := ⟨x, t, rfl, h, by rw [isW_of h]; exact q⟩
end
end PP

namespace PP
open PySem PySem.Spec PyProof.Rows L2 G
/-! says, good -/
theorem DeedsAt.of {D : Hp} {pe : Int} {ds : List Addr} {dds : List Deed} (h : RowsAt D ds dds) (g : ∀ d ∈ dds, d.Good pe) : DeedsAt D pe ds dds := paired_all h g
theorem DeedsAt.rows {D : Hp} {pe : Int} {ds : List Addr} {dds : List Deed} (h : DeedsAt D pe ds dds) : RowsAt D ds dds := paired_fst h
theorem DeedsAt.good {D : Hp} {pe : Int} : ∀ {ds : List Addr} {dds : List Deed}, DeedsAt D pe ds dds → ∀ d ∈ dds, d.Good pe
  | _, _, .nil, _, h => nomatch h
  | _, _, .cons h t, d, hd => by
    rcases List.mem_cons.mp hd with rfl | hd
    · exact h.2
    · exact DeedsAt.good t d hd
def sp_law_says : Sp := fun vs H Q _ => ∃ b c, vs = [.bl b, .bl c] ∧ Q (.bl (decide (b = c))) H
def sp_law_good (K : PySem.W.Frag) : Sp := fun vs H Q _ => ∃ (D : Hp) (R : List (List Cell)) (b : Nat) (a : Addr) (ns : List Int) (lo hi pe : Int), vs = [.ref a, .int lo, .int hi, .int pe] ∧ Ok H D R ∧ SqL K D a (ns.map V.int) ∧ (100 ≤ b ∧ b ≤ 4000000) ∧ (∀ z ∈ ns, z.natAbs < 2 ^ b) ∧ (1 ≤ pe ∧ pe ≤ 5) ∧ ns.length ≤ 1000 ∧
  ∀ H' D' L ds dds, Ok H' D' ([(L, .lst (ds.map V.ref))] :: R) → Same D D' → DeedsAt D' pe ds dds → dds.length ≤ (cutG ns (some lo) (some hi)).length → (playF pe 0 [] dds).2.2 = -1 → Q (.ref L) H'
section
variable {P : Program} {w : World} {K : PySem.W.Frag} {mg : Str → Option Value} {base : Heap} {a : A} {H D : Hp} {Q : VK} {E : XK} {Ms R : List (List G.Cell)}
local macro_rules | `(tactic| walk_at "g3") => `(tactic| first
  | ((with_reducible refine' G.r_gtup ?h ?l ?_); (case h => walk_at "sqT"); (case l => rfl))
  | fail)
theorem ok_law_says (T : Txt w K mg a) : FnOk P w K mg base (L2.CX P w) 1 a.f_law_says a.d_law_says ["_law_said", "_law_due_here"] sp_law_says := by
  refine T.law_says.F.okX sc_law_says (fun vs H Q E h => ?_) (fun cdv A outer s H vs Q E hr h => ?_)
  · obtain ⟨b, c, rfl, _⟩ := h
    rfl
  · obtain ⟨b, c, rfl, k⟩ := h
    refine ⟨_, (pss_one (ps_ret (pe_and (pe_callB (G.k_isi (K := K)) (by rfl) T.n_isinstance (by decide +kernel) (pa_cons (pv 0) (pa_cons (pe_bltn (v := .ty "bool") (by rfl) T.n_bool boot_bool rfl) pa_nil))) (pe_one (pe_cmpR (G.k_eqU (K := K) hr) (pv 0) (pv 1) (nomark _)))))), ?_⟩
    walk_at "go"
    refine isi (b := true) (Tv.bl b) (by decide +kernel) ?_
    walk_at "go"
    rw [show decide (V.bl b = V.bl c) = decide (b = c) by by_cases e : b = c <;> simp [e]]
    exact k
theorem u_says {b c : Bool} (q : Q (.bl (decide (b = c))) H) : sp_law_says [.bl b, .bl c] H Q E := ⟨b, c, rfl, q⟩
theorem ok_law_good (T : Txt w K mg a) : FnOk P w K mg base (L2.CX P w) 5 a.f_law_good a.d_law_good ["_law_script", "_law_begin", "_law_end", "_law_people_here"] (sp_law_good K) := by
  refine T.law_good.F.okX sc_law_good (fun vs H Q E h => ?_) (fun cdv A outer s H vs Q E hr h => ?_)
  · obtain ⟨D, R, b, l, ns, lo, hi, pe, rfl, _⟩ := h
    rfl
  · obtain ⟨D, R, b, l, ns, lo, hi, pe, rfl, o, hs, hb, hn, hp, hl, k⟩ := h
    refine ⟨_, (pss_cons (ps_par (i := 4) (j := 5) rfl sc_law_good.nd rfl rfl (by decide) rfl rfl (pa_cons (pe_lst pa_nil) (pa_cons (pe_lst pa_nil) pa_nil)) rfl)
  (pss_cons (ps_for (passes_of rfl) rfl (G.k_seq (K := K) (pe_callS (ok_law_drawn (K := K) T) (hr.mono (by decide)) rfl T.law_drawn.g T.law_drawn.k T.law_drawn.b (fun σ => passAt (takes_of rfl rfl rfl rfl) σ) (pa_cons (pv 0) (pa_cons (pv 1) (pa_cons (pv 2) (pa_cons (pv 3) pa_nil)))))) (pg_name (i := 6) sc_law_good.nd rfl (by first | exact Or.inl rfl | exact Or.inr rfl))
  (pss_one (ps_if (pt_not (pt_val (pe_callS (ok_law_refused (K := K) T) (hr.mono (by decide)) rfl T.law_refused.g T.law_refused.k T.law_refused.b (fun σ => passAt (takes_of rfl rfl rfl rfl) σ) (pa_cons (pv 4) (pa_cons (pv 6) pa_nil))))) (pss_cons (ps_expr (pe_callS (ok_law_done (K := K) T) (hr.mono (by decide)) rfl T.law_done.g T.law_done.k T.law_done.b (fun σ => passAt (takes_of rfl rfl rfl rfl) σ) (pa_cons (pv 4) (pa_cons (pv 6) pa_nil))))
  (pss_one (ps_expr (G.k_bm (K := K) (pe_bm PySem.F.plainAttrs_list PySem.F.slot_list_append PySem.F.type_list_append mt_append (pv 5) (pa_cons (pv 6) pa_nil)))))) pss_nil)))
  (pss_one (ps_ret (pv 5))))), ?_⟩
    walk_at "go"
    rename_i LW H1 o1 LF H2 o2
    refine ⟨D, _, b, l, ns, lo, hi, pe, rfl, o2, hs, hb, hn, hp, hl, fun H3 D3 L ds0 dds0 o3 s3 d3 l3 => ?_⟩
    obtain ⟨o4, s4, e4⟩ := o3.frz
    have hL := SqL.of (K := K) (e4 _ (.head _))
    have d4 := d3.mono s4
    clear o1 o2 o3
    refine r_iseqL (o4.sqL hL) ?_
    refine for_it (walk_list (xs := ds0.map V.ref)) (fun i σ H' => ∃ v6 D' xs ds dds, σ = [some (.ref l), some (.int lo), some (.int hi), some (.int pe), some (.ref LW), some (.ref LF), v6] ∧ Ok H' D' ([(LF, .lst (ds.map V.ref))] :: cL LW xs :: R) ∧ Same (addD D3 [(L, .lst (ds0.map V.ref))]) D' ∧ XOk xs ∧ DeedsAt D' pe ds dds ∧ dds.length ≤ i ∧ (playF pe 0 [] dds).2.2 = -1 ∧ (playF pe 0 [] dds).1 = wsOf xs)
      ⟨none, _, [], [], [], rfl, (o4.sel (.pick .here (.pick .here (.done .here)))).re (.of_eq (by simp [cL, LS, refs])), Same.refl _, ⟨fun x h => (nomatch h), by decide⟩, .nil, Nat.le_refl _, rfl, rfl⟩ ?_ ?_ ?_
    · rintro i σ H' _ ⟨v6, D', xs, ds, dds, rfl, o', s', _⟩
      exact o'.sqL (s'.seq hL)
    · rintro i x σ H' H'' hlt ⟨v6, D', xs, ds, dds, rfl, o', s', hx, hd, hil, hp1, hp2⟩ ⟨rfl, ex⟩
      have hi4 : i < ds0.length := by rwa [List.length_map] at hlt
      have ex2 : (ds0.map V.ref)[i]? = some x := ex
      rw [List.getElem?_map, List.getElem?_eq_getElem hi4] at ex2
      obtain rfl := Option.some.inj ex2
      obtain ⟨dd, hdd, e1, g1⟩ := paired_get d4 hi4
      have e1 := s' _ _ e1
      generalize ds0[i] = d at e1 ⊢
      clear o4
      walk_at "go"
      refine u_law_refused (o'.pk (.there .here)) hx e1 fun H7 o8 => ?_
      clear o'
      walk_at "go"
      refine r_ite (fun h => ?_) (fun h => ?_)
      · have hf : rfz (wsOf xs) dd = false := by simpa using h
        have hst : stepM pe (wsOf xs) dd = some (doL (wsOf xs) dd) := by rw [stepM_good g1, hf]; rfl
        have hfz : (ds.map V.ref).length < sizeLine := by
          have e1 := Paired.length hd
          have e2 : (cutG ns (some lo) (some hi)).length ≤ ns.length := cutG_len
          have e3 := Paired.length d3
          rw [List.length_map, sizeLine_eq]
          omega
        walk_at "go"
        refine u_law_done o8 hx e1 g1 hp.2 hf fun H8 D8 xs' v o9 s9 hx' hw9 _ => ?_
        clear o8
        walk_at "go"
        have hs9 := playF_snoc (d := dd) hp1 (by rw [hp2]; exact hst)
        exact ⟨_, D8, xs', ds ++ [d], dds ++ [dd], rfl, by rw [List.map_append]; walk_at "fin", s'.trans s9, hx', Paired.snoc (hd.mono s9) ⟨s9 _ _ e1, g1⟩, by rw [List.length_append]; show dds.length + 1 ≤ i + 1; omega, hs9.1, by rw [hs9.2, hw9]⟩
      · walk_at "go"
        exact ⟨_, D', xs, ds, dds, rfl, o8.sel (by walk_at "sel"), s', hx, hd, by omega, hp1, hp2⟩
    · rintro σ H' ⟨v6, D', xs, ds, dds, rfl, o', s', hx, hd, hil, hp1, hp2⟩
      clear o4
      walk_at "go"
      refine k _ _ _ _ _ (o'.sel (.pick .here (.done (.there .here)))) ((s3.trans s4).trans s') hd ?_ hp1
      rw [List.length_map] at hil
      have e3 := Paired.length d3
      omega
end
end PP

namespace PP
open PySem PySem.Spec PyProof.Rows L2 G
/-! k03: numbers good, played, due, bent -/
def lettD : Deed → Prop
  | .wish _ z _ _ => PyData.strOk z = true ∧ (1 ≤ z.length → z.length ≤ 4 → okWord z = true)
  | _ => True
def whoD : Deed → Int
  | .wish p _ _ _ => p
  | .alter p _ _ => p
  | .drop p _ => p
  | .take p _ _ => p
  | .pledge p _ _ => p
  | .back p _ => p
def inB (lo x hi : Int) : Bool := decide (lo ≤ x) && decide (x ≤ hi)
def nbB : Deed → Bool
  | .wish _ z pr m => inB 1 z.length 4 && (inB 1 pr 20 && inB 1 m 3)
  | .alter _ _ m => inB 1 m 3
  | .take _ _ m => inB 1 m 3
  | .pledge _ _ m => inB 1 m 20
  | _ => true
def sp_law_numbers_good (K : PySem.W.Frag) : Sp := fun vs H Q _ => ∃ (D : Hp) (R : List (List Cell)) (d : Addr) (dd : Deed), vs = [.ref d] ∧ Ok H D R ∧ D d = some (.tup dd.row) ∧ dd.short ∧ ∀ H', Ok H' D R → Q (.bl (nbB dd)) H'
def okRow (d : Deed) : Prop := d.short ∧ lettD d
theorem row1 (d : Deed) : atI d.row 1 = some (.int (whoD d)) := by cases d <;> rfl
theorem good_eq {pe : Int} {d : Deed} (h : lettD d) : goodB pe d = ((decide (0 ≤ whoD d) && decide (whoD d < pe)) && nbB d) := by
  cases d with
  | wish p z pr m =>
    have h : 1 ≤ z.length → z.length ≤ 4 → okWord z = true := h.2
    show (decide (0 ≤ p ∧ p < pe) && okWord z && decide (1 ≤ pr ∧ pr ≤ 20) && decide (1 ≤ m ∧ m ≤ 3)) = ((decide (0 ≤ p) && decide (p < pe)) && (inB 1 z.length 4 && (inB 1 pr 20 && inB 1 m 3)))
    have e : okWord z = inB 1 z.length 4 := by
      by_cases hz : 1 ≤ z.length ∧ z.length ≤ 4
      · rw [h hz.1 hz.2]
        simp [inB]
        omega
      · have : inB 1 z.length 4 = false := by
          simp [inB]
          omega
        rw [this]
        unfold okWord
        have : (decide (1 ≤ (z.length : Int)) && decide ((z.length : Int) ≤ 4)) = false := this
        rw [this]
        rfl
    rw [e]
    simp only [inB, Bool.decide_and]
    cases decide (0 ≤ p) <;> cases decide (p < pe) <;> simp [Bool.and_assoc]
  | alter p i m =>
    show (decide (0 ≤ p ∧ p < pe) && decide (1 ≤ m ∧ m ≤ 3)) = ((decide (0 ≤ p) && decide (p < pe)) && inB 1 m 3)
    simp [inB, Bool.decide_and]
  | drop p i =>
    show decide (0 ≤ p ∧ p < pe) = ((decide (0 ≤ p) && decide (p < pe)) && true)
    simp [Bool.decide_and]
  | take p i m =>
    show (decide (0 ≤ p ∧ p < pe) && decide (1 ≤ m ∧ m ≤ 3)) = ((decide (0 ≤ p) && decide (p < pe)) && inB 1 m 3)
    simp [inB, Bool.decide_and]
  | pledge p i m =>
    show (decide (0 ≤ p ∧ p < pe) && decide (1 ≤ m ∧ m ≤ 20)) = ((decide (0 ≤ p) && decide (p < pe)) && inB 1 m 20)
    simp [inB, Bool.decide_and]
  | back p i =>
    show decide (0 ≤ p ∧ p < pe) = ((decide (0 ≤ p) && decide (p < pe)) && true)
    simp [Bool.decide_and]
def sp_law_played (K : PySem.W.Frag) : Sp := fun vs H Q _ => ∃ (D : Hp) (R : List (List Cell)) (ld : Addr) (ds : List Addr) (dds : List Deed) (pe : Int), vs = [.int pe, .ref ld] ∧ Ok H D R ∧ (1 ≤ pe ∧ pe ≤ 5) ∧ SqL K D ld (ds.map V.ref) ∧ RowsAt D ds dds ∧ (∀ d ∈ dds, okRow d) ∧ ds.length ≤ 1000 ∧
  ∀ H' D' T L vs, Ok H' D' R → Same D D' → D' L = some (.lst vs) → ResAts D' vs (playF pe 0 [] dds).2.1 → D' T = some (.tup [.ref L, .int (playF pe 0 [] dds).2.2]) → Q (.ref T) H'
section
variable {P : Program} {w : World} {K : PySem.W.Frag} {mg : Str → Option Value} {base : Heap} {a : A} {H D : Hp} {Q : VK} {E : XK} {Ms R : List (List G.Cell)}
local macro_rules | `(tactic| walk_at "g3") => `(tactic| first
  | ((with_reducible refine' G.r_gtup ?h ?l ?_); (case h => walk_at "sqT"); (case l => rfl))
  | ((with_reducible refine' G.r_inT ?h ?f ?g ?_); (case h => walk_at "sqT"); (case f => rfl); (case g => rfl))
  | fail)
local macro_rules | `(tactic| walk_at "ite") => `(tactic| (walk_at "go"; repeat' ((refine r_ite (fun h => ?_) (fun h => ?_)) <;> walk_at "go")))
theorem ok_law_numbers_good (T : Txt w K mg a) : FnOk P w K mg base (L2.CX P w) 1 a.f_law_numbers_good a.d_law_numbers_good ["_law_deed_here"] (sp_law_numbers_good K) := by
  refine T.law_numbers_good.F.okX sc_law_numbers_good (fun vs H Q E h => ?_) (fun cdv A outer s H vs Q E hr h => ?_)
  · obtain ⟨D, R, d, dd, rfl, _⟩ := h
    rfl
  · obtain ⟨D, R, d, dd, rfl, o, hd, hs, k⟩ := h
    refine ⟨_, (pss_cons (ps_if (pt_cmpR (G.k_eqU (K := K) hr) (pe_ix (G.k_ixU (K := K) (hu_of hr)) (pv 0) pe_int (fun _ _ => rfl)) pe_str (nomark _)) (pss_one (ps_ret (pe_and (pe_chain op_le op_le pe_int (pe_callB (G.k_lenU (K := K)) (by rfl) T.n_len (by decide +kernel) (pa_cons (pe_ix (G.k_ixU (K := K) (hu_of hr)) (pv 0) pe_int (fun _ _ => rfl)) pa_nil)) pe_int) (pe_and (pe_chain op_le op_le pe_int (pe_ix (G.k_ixU (K := K) (hu_of hr)) (pv 0) pe_int (fun _ _ => rfl)) pe_int) (pe_one (pe_chain op_le op_le pe_int (pe_ix (G.k_ixU (K := K) (hu_of hr)) (pv 0) pe_int (fun _ _ => rfl)) pe_int)))))) pss_nil)
  (pss_cons (ps_if (pt_cmpR (G.k_inU (K := K) hr) (pe_ix (G.k_ixU (K := K) (hu_of hr)) (pv 0) pe_int (fun _ _ => rfl)) (pe_tup (pa_cons pe_str (pa_cons pe_str pa_nil))) (by first | rfl | exact nomark _)) (pss_one (ps_ret (pe_chain op_le op_le pe_int (pe_ix (G.k_ixU (K := K) (hu_of hr)) (pv 0) pe_int (fun _ _ => rfl)) pe_int))) pss_nil)
  (pss_one (ps_ret (pe_or (pe_cmpR (G.k_neU (K := K) hr) (pe_ix (G.k_ixU (K := K) (hu_of hr)) (pv 0) pe_int (fun _ _ => rfl)) pe_str (nomark _)) (pe_one (pe_chain op_le op_le pe_int (pe_ix (G.k_ixU (K := K) (hu_of hr)) (pv 0) pe_int (fun _ _ => rfl)) pe_int))))))), ?_⟩
    have k' : ∀ {b : Bool} {H' : Hp}, Ok H' D R → nbB dd = b → Q (.bl b) H' := fun o e => e ▸ k _ o
    cases dd with
    | wish p z pr m =>
      walk_at "go"
      refine r_lenS (Nat.le_trans hs (by decide)) ?_
      walk_at "ite"
      all_goals (refine k' (by walk_at "fin") ?_; simp [nbB, inB, *])
    | alter p i m =>
      walk_at "ite"
      all_goals (refine k' (by walk_at "fin") ?_; simp [nbB, inB, *])
    | take p i m =>
      walk_at "ite"
      all_goals (refine k' (by walk_at "fin") ?_; simp [nbB, inB, *])
    | pledge p i m =>
      walk_at "ite"
      all_goals (refine k' (by walk_at "fin") ?_; simp [nbB, inB, *])
    | drop p i =>
      walk_at "ite"
      all_goals (refine k' (by walk_at "fin") ?_; simp [nbB, inB, *])
    | back p i =>
      walk_at "ite"
      all_goals (refine k' (by walk_at "fin") ?_; simp [nbB, inB, *])
theorem ok_law_played (T : Txt w K mg a) : FnOk P w K mg base (L2.CX P w) 3 a.f_law_played a.d_law_played ["_law_people_here", "_law_deeds"] (sp_law_played K) := by
  refine T.law_played.F.okX sc_law_played (fun vs H Q E h => ?_) (fun cdv A outer s H vs Q E hr h => ?_)
  · obtain ⟨D, R, ld, ds, dds, pe, rfl, _⟩ := h
    rfl
  · obtain ⟨D, R, ld, ds, dds, pe, rfl, o, hp, hs, hd, hg, hl, k⟩ := h
    refine ⟨_, (pss_cons (ps_par (i := 2) (j := 3) rfl sc_law_played.nd rfl rfl (by decide) rfl rfl (pa_cons (pe_lst pa_nil) (pa_cons (pe_lst pa_nil) pa_nil)) rfl)
  (pss_cons (ps_for (passes_of rfl) rfl (G.k_enum (K := K) rfl T.n_enumerate (pa_cons (pv 1) pa_nil)) (G.k_gtup (K := K) rfl (pgs_cons (pg_name (i := 4) sc_law_played.nd rfl (by first | exact Or.inl rfl | exact Or.inr rfl)) (pgs_cons (pg_name (i := 5) sc_law_played.nd rfl (by first | exact Or.inl rfl | exact Or.inr rfl)) pgs_nil)))
  (pss_cons (ps_if (PW.pt (pw_or (pt_not (pt_chain op_le op_lt pe_int (pe_ix (G.k_ixU (K := K) (hu_of hr)) (pv 5) pe_int (fun _ _ => rfl)) (pv 0))) (pw_or (pt_not (pt_val (pe_callS (ok_law_numbers_good (K := K) T) (hr.mono (by decide)) rfl T.law_numbers_good.g T.law_numbers_good.k T.law_numbers_good.b (fun σ => passAt (takes_of rfl rfl rfl rfl) σ) (pa_cons (pv 5) pa_nil)))) (pw_or1 (pt_val (pe_callS (ok_law_refused (K := K) T) (hr.mono (by decide)) rfl T.law_refused.g T.law_refused.k T.law_refused.b (fun σ => passAt (takes_of rfl rfl rfl rfl) σ) (pa_cons (pv 2) (pa_cons (pv 5) pa_nil)))))))) (pss_one (ps_ret (pe_tup (pa_cons (pv 3) (pa_cons (pv 4) pa_nil))))) pss_nil)
  (pss_one (ps_expr (G.k_bm (K := K) (pe_bm PySem.F.plainAttrs_list PySem.F.slot_list_append PySem.F.type_list_append mt_append (pv 3) (pa_cons (pe_callS (ok_law_done (K := K) T) (hr.mono (by decide)) rfl T.law_done.g T.law_done.k T.law_done.b (fun σ => passAt (takes_of rfl rfl rfl rfl) σ) (pa_cons (pv 2) (pa_cons (pv 5) pa_nil))) pa_nil)))))))
  (pss_one (ps_ret (pe_tup (pa_cons (pv 3) (pa_cons (pe_un un_neg pe_int) pa_nil))))))), ?_⟩
    walk_at "go"
    rename_i LW H1 o1 LF H2 o2
    refine r_ienum (o2.sqL hs) ?_
    refine for_it (walk_enum (xs := ds.map V.ref)) (fun i σ H' => ∃ v4 v5 D' xs vs rs, σ = [some (.int pe), some (.ref ld), some (.ref LW), some (.ref LF), v4, v5] ∧ Ok H' D' (cL LW xs :: [(LF, .lst vs)] :: R) ∧ Same D D' ∧ XOk xs ∧ vs.length ≤ i ∧ ResAts D' vs rs ∧ playF pe 0 [] dds = ((playF pe i (wsOf xs) (dds.drop i)).1, rs ++ (playF pe i (wsOf xs) (dds.drop i)).2.1, (playF pe i (wsOf xs) (dds.drop i)).2.2))
      ⟨none, none, D, [], [], [], rfl, (o2.pk (.there .here)).re (.of_eq (by simp [cL, LS, refs])), Same.refl D, ⟨fun x h => (nomatch h), by decide⟩, Nat.le_refl _, .nil, rfl⟩ ?_ ?_ ?_
    · rintro i σ H' _ ⟨v4, v5, D', xs, vs, rs, rfl, o', s', _⟩
      exact o'.sqL (s'.seq hs)
    · rintro i y σ H' H'' hi ⟨v4, v5, D', xs, vs, rs, rfl, o', s', hx, hvl, hrs, hpl⟩ ⟨TT, x1, x2, rfl, nT, rfl, ex1, ex2⟩
      obtain rfl := Option.some.inj ex1
      have hi4 : i < ds.length := by rwa [List.length_map] at hi
      have ex2 : (ds.map V.ref)[i]? = some x2 := ex2
      rw [List.getElem?_map, List.getElem?_eq_getElem hi4] at ex2
      obtain rfl := Option.some.inj ex2
      obtain ⟨dd, hdd, e1⟩ := paired_get hd hi4
      obtain ⟨zd, ld1⟩ := hg dd (List.mem_of_getElem? hdd)
      have ge := good_eq (pe := pe) ld1
      have e1 := s' _ _ e1
      have hdr : dds.drop i = dd :: dds.drop (i + 1) := by
        obtain ⟨hi5, e5⟩ := List.getElem?_eq_some_iff.mp hdd
        rw [← e5, List.drop_eq_getElem_cons hi5]
      rw [hdr] at hpl
      generalize ds[i] = d at e1 nT ⊢
      have oT := o'.new (o := .tup [.int (i : Nat), .ref d]) nT
      refine r_gtup (SqT.of (oT.at1 (.head _))) rfl ?_
      have o4 := oT.drop
      generalize upd H' TT (.tup [.int (i : Nat), .ref d]) = H4 at o4 oT ⊢
      clear oT o' o1 o2
      have hvz : vs.length < sizeLine := by rw [sizeLine_eq]; omega
      have fin : ∀ {H6 : Hp} {T6 : Addr}, stepM pe (wsOf xs) dd = none → Ok H6 D' ([(T6, .tup [.ref LF, .int (i : Nat)])] :: [(LF, .lst vs)] :: R) → Q (.ref T6) H6 := by
        intro H6 T6 hst o6
        rw [playF_none hst] at hpl
        obtain ⟨D7, o7, s7, e7⟩ := okFrzN [[(T6, .tup [.ref LF, .int (i : Nat)])], [(LF, .lst vs)]] (R := R) o6
        refine k H6 D7 T6 LF vs o7 (s'.trans s7) (e7 _ (.tail _ (.head _)) _ (.head _)) ?_ ?_
        · rw [hpl]
          show ResAts _ vs (rs ++ [])
          rw [List.append_nil]
          exact hrs.mono s7
        · rw [hpl]
          exact e7 _ (.head _) _ (.head _)
      have bad : goodB pe dd = false → stepM pe (wsOf xs) dd = none := fun h => by
        unfold stepM
        rw [h]
        rfl
      walk_at "go"
      refine r_ixT (o4.sqT (SqT.of e1)) (row1 dd) ?_
      walk_at "go"
      refine r_ite (fun h1 => ?_) (fun h1 => ?_)
      · walk_at "go"
        refine r_ite (fun h2 => ?_) (fun h2 => ?_)
        · walk_at "go"
          rename_i T6 H6 o6
          refine fin (bad ?_) (o6.sel (by walk_at "sel"))
          rw [ge, show decide (whoD dd < pe) = false by simpa using h2]
          simp
        · have h2 : decide (whoD dd < pe) = true := by simpa using h2
          walk_at "go"
          refine ⟨D', _, d, dd, rfl, o4, e1, zd, fun H5 o5 => ?_⟩
          clear o4
          walk_at "go"
          refine r_ite (fun h3 => ?_) (fun h3 => ?_)
          · walk_at "go"
            rename_i T6 H6 o6
            refine fin (bad ?_) (o6.sel (by walk_at "sel"))
            rw [ge, show nbB dd = false by simpa using h3]
            simp
          · have h3 : nbB dd = true := by simpa using h3
            have g1 : dd.Good pe := goodB_ok (by rw [ge, h1, h2, h3]; rfl)
            walk_at "go"
            refine u_law_refused o5 hx e1 fun H6 o6 => ?_
            clear o5
            walk_at "go"
            refine r_ite (fun h => ?_) (fun h => ?_)
            · walk_at "go"
              rename_i T7 H7 o7
              refine fin ?_ (o7.sel (by walk_at "sel"))
              rw [stepM_good g1, h]
              rfl
            · have hst : stepM pe (wsOf xs) dd = some (doL (wsOf xs) dd) := by rw [stepM_good g1, h]; rfl
              clear fin bad
              rw [playF_some hst] at hpl
              walk_at "go"
              refine u_law_done o6 hx e1 g1 hp.2 h fun H8 D8 xs' v o9 s9 hx' hw9 r9 => ?_
              clear o6
              walk_at "go"
              refine ⟨_, _, D8, xs', vs ++ [v], rs ++ [(doL (wsOf xs) dd).2], rfl, by walk_at "fin", s'.trans s9, hx', by rw [List.length_append]; show vs.length + 1 ≤ i + 1; omega, Paired.snoc (hrs.mono s9) r9, ?_⟩
              rw [hpl, hw9, List.append_assoc]
              rfl
      · walk_at "go"
        rename_i T6 H6 o6
        refine fin (bad ?_) (o6.sel (by walk_at "sel"))
        rw [ge, h1]
        simp
    · rintro σ H' ⟨v4, v5, D', xs, vs, rs, rfl, o', s', hx, hvl, hrs, hpl⟩
      rw [show dds.drop (ds.map V.ref).length = [] from by rw [List.length_map, Paired.length hd]; exact List.drop_length] at hpl
      clear o1 o2
      walk_at "go"
      rename_i T6 H6 o6
      obtain ⟨D7, o7, s7, e7⟩ := okFrzN [[(T6, .tup [.ref LF, .int (-1)])], [(LF, .lst vs)]] (R := R) (o6.sel (by walk_at "sel"))
      refine k H6 D7 T6 LF vs o7 (s'.trans s7) (e7 _ (.tail _ (.head _)) _ (.head _)) ?_ ?_
      · rw [hpl]
        show ResAts _ vs (rs ++ [])
        rw [List.append_nil]
        exact hrs.mono s7
      · rw [hpl]
        exact e7 _ (.head _) _ (.head _)
end
end PP

namespace PP
open PySem PySem.Spec PyProof.Rows L2 G
/-! k03: due, bent -/
inductive Ans
  | done (rs : List Res)
  | halt (pl : Int)
def AnsAt (K : PySem.W.Frag) (a : A) (D : Hp) (R : List (List Cell)) (x : Addr) : Ans → Prop
  | .done rs => ∃ dx L, ∀ H' D', Ok H' D' R → Same D D' → H' x = some (.ins a.c_Done dx [("results", .ref L)]) ∧ Dp K H' (.ref L) (ressD rs)
  | .halt pl => ∃ dx, ∀ H' D', Ok H' D' R → Same D D' → H' x = some (.ins a.c_Halt dx [("place", .int pl)])
theorem AnsAt.mono {K : PySem.W.Frag} {a : A} {D D' : Hp} {R : List (List Cell)} {x : Addr} (s : Same D D') : ∀ {n : Ans}, AnsAt K a D R x n → AnsAt K a D' R x n
  | .done _, ⟨dx, L, h⟩ => ⟨dx, L, fun H1 D1 o1 s1 => h H1 D1 o1 (s.trans s1)⟩
  | .halt _, ⟨dx, h⟩ => ⟨dx, fun H1 D1 o1 s1 => h H1 D1 o1 (s.trans s1)⟩
def dueB (rs : List Res) (pl : Int) : Ans → Bool
  | .done ss => decide (pl < 0) && decide (ss = rs)
  | .halt q => decide (0 ≤ pl) && decide (q = pl)
def sp_law_due (K : PySem.W.Frag) (a : A) : Sp := fun vs H Q _ => ∃ (D : Hp) (R : List (List Cell)) (ld x : Addr) (ds : List Addr) (dds : List Deed) (pe : Int) (n : Ans), vs = [.int pe, .ref ld, .ref x] ∧ Ok H D R ∧ (1 ≤ pe ∧ pe ≤ 5) ∧ SqL K D ld (ds.map V.ref) ∧ RowsAt D ds dds ∧ (∀ d ∈ dds, okRow d) ∧ ds.length ≤ 1000 ∧ AnsAt K a D R x n ∧
  ∀ H' D', Ok H' D' R → Same D D' → Q (.bl (dueB (playF pe 0 [] dds).2.1 (playF pe 0 [] dds).2.2 n)) H'
/-- where a deed's numbers stand -/
def numsAt : Deed → List Nat
  | .wish _ _ _ _ => [1, 3, 4]
  | .drop _ _ => [1, 2]
  | .back _ _ => [1, 2]
  | _ => [1, 2, 3]
theorem row_len (d : Deed) : d.row.length ≤ 5 := by cases d <;> simp [Deed.row]
theorem row_num {d : Deed} {i : Nat} (h : i ∈ numsAt d) : i < d.row.length ∧ (∃ z, d.row[i]? = some (.int z)) ∧ ∀ z, ∃ e : Deed, d.row.set i (.int z) = e.row ∧ (okRow d → okRow e) := by
  cases d with
  | wish p y pr m =>
    rcases List.mem_cons.mp h with rfl | h
    · exact ⟨(by decide : 1 < 5), ⟨p, rfl⟩, fun z => ⟨.wish z y pr m, rfl, id⟩⟩
    rcases List.mem_cons.mp h with rfl | h
    · exact ⟨(by decide : 3 < 5), ⟨pr, rfl⟩, fun z => ⟨.wish p y z m, rfl, id⟩⟩
    rcases List.mem_cons.mp h with rfl | h
    · exact ⟨(by decide : 4 < 5), ⟨m, rfl⟩, fun z => ⟨.wish p y pr z, rfl, id⟩⟩
    cases h
  | alter p i m =>
    rcases List.mem_cons.mp h with rfl | h
    · exact ⟨(by decide : 1 < 4), ⟨p, rfl⟩, fun z => ⟨.alter z i m, rfl, id⟩⟩
    rcases List.mem_cons.mp h with rfl | h
    · exact ⟨(by decide : 2 < 4), ⟨i, rfl⟩, fun z => ⟨.alter p z m, rfl, id⟩⟩
    rcases List.mem_cons.mp h with rfl | h
    · exact ⟨(by decide : 3 < 4), ⟨m, rfl⟩, fun z => ⟨.alter p i z, rfl, id⟩⟩
    cases h
  | drop p i =>
    rcases List.mem_cons.mp h with rfl | h
    · exact ⟨(by decide : 1 < 3), ⟨p, rfl⟩, fun z => ⟨.drop z i, rfl, id⟩⟩
    rcases List.mem_cons.mp h with rfl | h
    · exact ⟨(by decide : 2 < 3), ⟨i, rfl⟩, fun z => ⟨.drop p z, rfl, id⟩⟩
    cases h
  | take p i m =>
    rcases List.mem_cons.mp h with rfl | h
    · exact ⟨(by decide : 1 < 4), ⟨p, rfl⟩, fun z => ⟨.take z i m, rfl, id⟩⟩
    rcases List.mem_cons.mp h with rfl | h
    · exact ⟨(by decide : 2 < 4), ⟨i, rfl⟩, fun z => ⟨.take p z m, rfl, id⟩⟩
    rcases List.mem_cons.mp h with rfl | h
    · exact ⟨(by decide : 3 < 4), ⟨m, rfl⟩, fun z => ⟨.take p i z, rfl, id⟩⟩
    cases h
  | pledge p i m =>
    rcases List.mem_cons.mp h with rfl | h
    · exact ⟨(by decide : 1 < 4), ⟨p, rfl⟩, fun z => ⟨.pledge z i m, rfl, id⟩⟩
    rcases List.mem_cons.mp h with rfl | h
    · exact ⟨(by decide : 2 < 4), ⟨i, rfl⟩, fun z => ⟨.pledge p z m, rfl, id⟩⟩
    rcases List.mem_cons.mp h with rfl | h
    · exact ⟨(by decide : 3 < 4), ⟨m, rfl⟩, fun z => ⟨.pledge p i z, rfl, id⟩⟩
    cases h
  | back p i =>
    rcases List.mem_cons.mp h with rfl | h
    · exact ⟨(by decide : 1 < 3), ⟨p, rfl⟩, fun z => ⟨.back z i, rfl, id⟩⟩
    rcases List.mem_cons.mp h with rfl | h
    · exact ⟨(by decide : 2 < 3), ⟨i, rfl⟩, fun z => ⟨.back p z, rfl, id⟩⟩
    cases h
theorem row_kind {d : Deed} {i : Nat} (h : i < d.row.length) : (i ∈ numsAt d ∧ ∃ z, d.row[i]? = some (.int z)) ∨ (i ∉ numsAt d ∧ ∃ z, d.row[i]? = some (.str z)) := by
  cases d with
  | wish p y pr m => match i, h with
    | 0, _ => exact .inr ⟨by show 0 ∉ [1, 3, 4]; decide, _, rfl⟩
    | 1, _ => exact .inl ⟨by show 1 ∈ [1, 3, 4]; decide, _, rfl⟩
    | 2, _ => exact .inr ⟨by show 2 ∉ [1, 3, 4]; decide, _, rfl⟩
    | 3, _ => exact .inl ⟨by show 3 ∈ [1, 3, 4]; decide, _, rfl⟩
    | 4, _ => exact .inl ⟨by show 4 ∈ [1, 3, 4]; decide, _, rfl⟩
  | alter p j m => match i, h with
    | 0, _ => exact .inr ⟨by show 0 ∉ [1, 2, 3]; decide, _, rfl⟩
    | 1, _ => exact .inl ⟨by show 1 ∈ [1, 2, 3]; decide, _, rfl⟩
    | 2, _ => exact .inl ⟨by show 2 ∈ [1, 2, 3]; decide, _, rfl⟩
    | 3, _ => exact .inl ⟨by show 3 ∈ [1, 2, 3]; decide, _, rfl⟩
  | take p j m => match i, h with
    | 0, _ => exact .inr ⟨by show 0 ∉ [1, 2, 3]; decide, _, rfl⟩
    | 1, _ => exact .inl ⟨by show 1 ∈ [1, 2, 3]; decide, _, rfl⟩
    | 2, _ => exact .inl ⟨by show 2 ∈ [1, 2, 3]; decide, _, rfl⟩
    | 3, _ => exact .inl ⟨by show 3 ∈ [1, 2, 3]; decide, _, rfl⟩
  | pledge p j m => match i, h with
    | 0, _ => exact .inr ⟨by show 0 ∉ [1, 2, 3]; decide, _, rfl⟩
    | 1, _ => exact .inl ⟨by show 1 ∈ [1, 2, 3]; decide, _, rfl⟩
    | 2, _ => exact .inl ⟨by show 2 ∈ [1, 2, 3]; decide, _, rfl⟩
    | 3, _ => exact .inl ⟨by show 3 ∈ [1, 2, 3]; decide, _, rfl⟩
  | drop p j => match i, h with
    | 0, _ => exact .inr ⟨by show 0 ∉ [1, 2]; decide, _, rfl⟩
    | 1, _ => exact .inl ⟨by show 1 ∈ [1, 2]; decide, _, rfl⟩
    | 2, _ => exact .inl ⟨by show 2 ∈ [1, 2]; decide, _, rfl⟩
  | back p j => match i, h with
    | 0, _ => exact .inr ⟨by show 0 ∉ [1, 2]; decide, _, rfl⟩
    | 1, _ => exact .inl ⟨by show 1 ∈ [1, 2]; decide, _, rfl⟩
    | 2, _ => exact .inl ⟨by show 2 ∈ [1, 2]; decide, _, rfl⟩
/-- those below i -/
def numsTo (d : Deed) (i : Nat) : List Int := ((List.range i).filter fun j => decide (j ∈ numsAt d)).map fun (j : Nat) => (j : Int)
theorem numsTo_succ {d : Deed} {i : Nat} : numsTo d (i + 1) = numsTo d i ++ (if i ∈ numsAt d then [(i : Int)] else []) := by
  unfold numsTo
  rw [List.range_succ, List.filter_append, List.map_append]
  congr 1
  by_cases h : i ∈ numsAt d <;> simp [h]
theorem numsTo_mem {d : Deed} {i : Nat} {z : Int} (h : z ∈ numsTo d i) : ∃ j : Nat, z = j ∧ j ∈ numsAt d := by
  obtain ⟨j, hj, rfl⟩ := List.mem_map.mp h
  exact ⟨j, rfl, of_decide_eq_true (List.mem_filter.mp hj).2⟩
theorem numsTo_pos (d : Deed) : 0 < (numsTo d d.row.length).length := by
  cases d with
  | wish => show 0 < (((List.range 5).filter fun j => decide (j ∈ [1, 3, 4])).map fun (j : Nat) => (j : Int)).length; decide
  | alter => show 0 < (((List.range 4).filter fun j => decide (j ∈ [1, 2, 3])).map fun (j : Nat) => (j : Int)).length; decide
  | take => show 0 < (((List.range 4).filter fun j => decide (j ∈ [1, 2, 3])).map fun (j : Nat) => (j : Int)).length; decide
  | pledge => show 0 < (((List.range 4).filter fun j => decide (j ∈ [1, 2, 3])).map fun (j : Nat) => (j : Int)).length; decide
  | drop => show 0 < (((List.range 3).filter fun j => decide (j ∈ [1, 2])).map fun (j : Nat) => (j : Int)).length; decide
  | back => show 0 < (((List.range 3).filter fun j => decide (j ∈ [1, 2])).map fun (j : Nat) => (j : Int)).length; decide
theorem numsTo_len (d : Deed) (i : Nat) : (numsTo d i).length ≤ i := by
  unfold numsTo
  rw [List.length_map]
  refine Nat.le_trans (List.length_filter_le _ _) ?_
  rw [List.length_range]
  exact Nat.le_refl _
def sp_law_bent : Sp := fun vs H Q _ => ∃ (D : Hp) (R : List (List Cell)) (d : Addr) (dd : Deed) (n : Int), vs = [.ref d, .int n] ∧ Ok H D R ∧ D d = some (.tup dd.row) ∧ okRow dd ∧
  ∀ H' D' t (e : Deed), Ok H' D' R → Same D D' → D' t = some (.tup e.row) → okRow e → Q (.ref t) H'
section
variable {P : Program} {w : World} {K : PySem.W.Frag} {mg : Str → Option Value} {base : Heap} {a : A} {H D : Hp} {Q : VK} {E : XK} {Ms R : List (List G.Cell)}
local macro_rules | `(tactic| walk_at "g3") => `(tactic| first
  | ((with_reducible refine' G.r_gtup ?h ?l ?_); (case h => walk_at "sqT"); (case l => rfl))
  | fail)
theorem ok_law_due (T : Txt w K mg a) : FnOk P w K mg base (L2.CX P w) 4 a.f_law_due a.d_law_due ["_law_people_here", "_law_deeds", "_law_found"] (sp_law_due K a) := by
  refine T.law_due.F.okX sc_law_due (fun vs H Q E h => ?_) (fun cdv A outer s H vs Q E hr h => ?_)
  · obtain ⟨D, R, ld, x, ds, dds, pe, n, rfl, _⟩ := h
    rfl
  · obtain ⟨D, R, ld, x, ds, dds, pe, n, rfl, o, hp, hs, hd, hg, hl, ha, k⟩ := h
    have := T.cl_Done; have := T.na_Done_results; have := T.cl_Halt; have := T.na_Halt_place
    refine ⟨_, (pss_cons (ps_asg (pe_callS (ok_law_played (K := K) T) (hr.mono (by decide)) rfl T.law_played.g T.law_played.k T.law_played.b (fun σ => passAt (takes_of rfl rfl rfl rfl) σ) (pa_cons (pv 0) (pa_cons (pv 1) pa_nil))) (G.k_gtup (K := K) rfl (pgs_cons (pg_name (i := 3) sc_law_due.nd rfl (by first | exact Or.inl rfl | exact Or.inr rfl)) (pgs_cons (pg_name (i := 4) sc_law_due.nd rfl (by first | exact Or.inl rfl | exact Or.inr rfl)) pgs_nil))))
  (pss_cons (ps_if (pt_val (pe_callB (G.k_isi (K := K)) (by rfl) T.n_isinstance (by decide +kernel) (pa_cons (pv 2) (pa_cons (pe_glob (v := .ref a.c_Done) rfl T.c_Done rfl) pa_nil)))) (pss_one (ps_ret (pe_and (pe_cmpR op_lt (pv 4) pe_int (nomark _)) (pe_one (pe_cmpR (G.k_eqU (K := K) hr) (G.k_fld (K := K) (pv 2) rfl) (pv 3) (nomark _)))))) pss_nil)
  (pss_one (ps_ret (pe_and (pe_cmpR op_ge (pv 4) pe_int (nomark _)) (pe_one (pe_cmpR (G.k_eqU (K := K) hr) (G.k_fld (K := K) (pv 2) rfl) (pv 4) (nomark _)))))))), ?_⟩
    walk_at "go"
    refine ⟨D, R, ld, ds, dds, pe, rfl, o, hp, hs, hd, hg, hl, fun H1 D1 T1 L vs o1 s1 e1 r1 t1 => ?_⟩
    clear o
    generalize (playF pe 0 [] dds).2.1 = rs at r1 t1 k
    generalize (playF pe 0 [] dds).2.2 = pl at t1 k
    have k := k H1 D1 o1 s1
    refine r_gtup (SqT.of (o1.dat t1)) rfl ?_
    walk_at "go"
    cases n with
    | done ss =>
      obtain ⟨dx, L2, hx⟩ := ha
      obtain ⟨hx, hL⟩ := hx H1 D1 o1 s1
      refine isiO hx T.cl_Done T.o_Done T.i_Done_Done ?_
      walk_at "go"
      refine r_ite (fun h => ?_) (fun h => ?_)
      · walk_at "go"
        refine r_eqD hL (.lst (SqL.of (o1.dat e1)) (dp_ress o1.sub r1)) (shaped_ress _) (shaped_ress _) ?_
        rw [show PyData.eqv (ressD ss) (.list (rs.map resD)) = decide (ss = rs) from eqv_ress ss rs]
        have k : Q (.bl (decide (pl < 0) && decide (ss = rs))) H1 := k
        rw [h] at k
        exact k
      · walk_at "go"
        have k : Q (.bl (decide (pl < 0) && decide (ss = rs))) H1 := k
        rw [h] at k
        exact k
    | halt q =>
      obtain ⟨dx, hx⟩ := ha
      have hx := hx H1 D1 o1 s1
      refine isiO hx T.cl_Halt T.o_Halt T.i_Halt_Done ?_
      walk_at "go"
      refine r_ite (fun h => ?_) (fun h => ?_)
      · walk_at "go"
        have k : Q (.bl (decide (0 ≤ pl) && decide (q = pl))) H1 := k
        rw [h] at k
        rw [show decide (V.int q = V.int pl) = decide (q = pl) by by_cases e : q = pl <;> simp [e]]
        exact k
      · walk_at "go"
        have k : Q (.bl (decide (0 ≤ pl) && decide (q = pl))) H1 := k
        rw [h] at k
        exact k
theorem ok_law_bent (T : Txt w K mg a) : FnOk P w K mg base (L2.CX P w) 2 a.f_law_bent a.d_law_bent ["_law_deed_here", "_law_number"] sp_law_bent := by
  refine T.law_bent.F.okX sc_law_bent (fun vs H Q E h => ?_) (fun cdv A outer s H vs Q E hr h => ?_)
  · obtain ⟨D, R, d, dd, n, rfl, _⟩ := h
    rfl
  · obtain ⟨D, R, d, dd, n, rfl, o, hd, hg, k⟩ := h
    refine ⟨_, (pss_cons (ps_setLc (i := 2) (own := [("_law_at", 5), ("_law_one", 6)]) (g := (gTup K 2 (gCons (gName 5) (gCons (gName 6) gNil)))) (tt := _) rfl sc_law_bent.nd rfl rfl (sw_true rfl rfl rfl (by decide +kernel)) (G.k_enumT (K := K) rfl T.n_enumerate (pa_cons (pv 0) pa_nil)) (blkOk_by (own := [("_law_at", 5), ("_law_one", 6)]) (N := ["_law_deed_here", "_law_number", "_law_spots", "_law_spot", "_law_parts", "_law_at", "_law_one"]) (sc := defScope s_law_bent) (by decide +kernel)) (fun _ _ _ _ _ => (G.k_gtup (K := K) rfl (pgs_cons (pg_name (i := 5) sc_law_bent.nd rfl (by first | exact Or.inl rfl | exact Or.inr rfl)) (pgs_cons (pg_name (i := 6) sc_law_bent.nd rfl (by first | exact Or.inl rfl | exact Or.inr rfl)) pgs_nil)))) (fun _ _ _ _ _ => (pts_one (pt_val (pe_call (ok_law_whole (K := K) T) (hr.mono (by decide)) rfl T.law_whole.g T.law_whole.k T.law_whole.b .nil passL (pa_cons (pv 6) pa_nil))))) (fun _ _ _ _ _ => (pv 5)))
  (pss_cons (ps_set (i := 3) sc_law_bent.nd rfl (by first | exact Or.inl rfl | exact Or.inr rfl) (pe_ix (G.k_ixU (K := K) (hu_of hr)) (pv 2) (pe_op op_mod (pv 1) (pe_callB (G.k_lenU (K := K)) (by rfl) T.n_len (by decide +kernel) (pa_cons (pv 2) pa_nil))) (fun _ _ => rfl)))
  (pss_cons (ps_set (i := 4) sc_law_bent.nd rfl (by first | exact Or.inl rfl | exact Or.inr rfl) (pe_callTy (G.k_list (K := K)) (by rfl) T.n_list (by decide +kernel) (pa_cons (pv 0) pa_nil)))
  (pss_cons (ps_asg (pe_op (G.k_addU (K := K)) (pe_ix (G.k_ixU (K := K) (hu_of hr)) (pv 4) (pv 3) (fun _ _ => rfl)) (pe_ix (G.k_ixU (K := K) (hu_of hr)) (pe_tup (pa_cons pe_int (pa_cons (pe_un un_neg pe_int) (pa_cons pe_int (pa_cons pe_int pa_nil))))) (pe_op op_mod (pe_op op_fdivW (pv 1) pe_int) pe_int) (fun _ _ => rfl))) (pg_sub (pv 4) (pv 3) (G.set_U (hu_of hr))))
  (pss_one (ps_ret (pe_callTy (G.k_tuple (K := K)) (by rfl) T.n_tuple (by decide +kernel) (pa_cons (pv 4) pa_nil)))))))), ?_⟩
    have hrl := row_len dd
    walk_at "go"
    refine i_enumT ?_
    walk_at "go"
    refine r_ienumT (SqT.of (o.dat hd)) ?_
    refine lcG (walk_enumT (xs := dd.row)) o (fun i acc D' => D' = D ∧ acc = (numsTo dd i).map V.int) (by omega) ⟨rfl, rfl⟩ ?_ ?_ ?_ ?_
    · rintro i acc D' ⟨rfl, rfl⟩
      rw [List.length_map]
      exact numsTo_len dd i
    · rintro i L acc H' D' o' _ ⟨rfl, rfl⟩
      exact SqT.of (o'.dat hd)
    · rintro i x L acc H' H'' D' Ny Nn hi o' _ ⟨rfl, rfl⟩ ⟨TT, x1, x2, rfl, nT, rfl, ex1, ex2⟩ ky kn
      obtain rfl := Option.some.inj ex1
      have ex2 : dd.row[i]? = some x2 := ex2
      have oT := o'.new (o := .tup [.int (i : Nat), x2]) nT
      refine r_gtup (SqT.of (oT.at1 (.head _))) rfl ?_
      have o4 := oT.drop
      generalize upd H' TT (.tup [.int (i : Nat), x2]) = H4 at o4 oT ⊢
      clear oT o'
      walk_at "g1"
      walk_at "g1"
      walk_at "g1"
      walk_at "g1"
      walk_at "g1"
      refine ⟨rfl, ?_⟩
      have es := numsTo_succ (d := dd) (i := i)
      rcases row_kind hi with ⟨hm, z, ez⟩ | ⟨hm, z, ez⟩
      · rw [ez] at ex2
        obtain rfl := Option.some.inj ex2
        walk_at "go"
        refine u_law_whole (.int z) ?_
        walk_at "go"
        refine ky _ _ _ o4 (Same.refl _) ⟨rfl, ?_⟩
        rw [es, if_pos hm, List.map_append]
        rfl
      · rw [ez] at ex2
        obtain rfl := Option.some.inj ex2
        walk_at "go"
        refine u_law_whole (.str z) ?_
        walk_at "go"
        refine kn _ _ o4 (Same.refl _) ⟨rfl, ?_⟩
        rw [es, if_neg hm, List.append_nil]
    · rintro L acc H' D' o' _ ⟨rfl, rfl⟩
      have hpos := numsTo_pos dd
      have hm : (((numsTo dd dd.row.length).map V.int).length : Int) = ((numsTo dd dd.row.length).length : Int) := by rw [List.length_map]
      clear o
      walk_at "go"
      rw [hm]
      refine r_I (show (0 : Int) < _ by omega) ?_
      obtain ⟨_, ez, j, rfl, hj⟩ := atI_all (ns := numsTo dd dd.row.length) (m := n % ((numsTo dd dd.row.length).length : Int)) (fun z => ∃ j : Nat, z = j ∧ j ∈ numsAt dd) (Int.emod_nonneg _ (by omega)) (Int.emod_lt_of_pos _ (by omega)) (fun z hz => numsTo_mem hz)
      walk_at "go"
      refine r_ixL (SqL.of (o'.at1 (.head _))) ez ?_
      walk_at "go"
      obtain ⟨hjl, ⟨z, ezj⟩, hset⟩ := row_num hj
      refine ⟨d, _, rfl, .inr (SqT.of (o'.dat hd)), fun h1 n1 => ?_⟩
      have o1 := o'.new (o := .lst dd.row) n1
      clear o'
      walk_at "go"
      refine r_ixL (SqL.of (o1.at1 (.head _))) (atI_nat ezj) ?_
      walk_at "go"
      rename_i p4 H4 o4
      refine r_I (wide_div (b := 30) (by decide) (by decide) (by decide) (by decide)) ?_
      walk_at "go"
      refine r_I (show (0 : Int) < 4 by decide) ?_
      obtain ⟨c, ec, _⟩ := atI_all (ns := [1, -1, 2, 30]) (m := n / 7 % 4) (fun _ => True) (Int.emod_nonneg _ (by decide)) (Int.emod_lt_of_pos _ (by decide)) (fun _ _ => trivial)
      refine r_ixT (SqT.of (o4.at1 (.head _))) ec ?_
      refine r_addI ?_
      obtain ⟨e, he, hge⟩ := hset (z + c)
      walk_at "go"
      refine r_setL o4 (.there .here) (j := j) (by unfold ixN; rw [if_pos (by omega), if_pos (by omega)]; rfl) fun H5 o5 => ?_
      rw [he] at o5
      clear o1 o4
      walk_at "go"
      refine ⟨h1, _, rfl, .inl ⟨SqL.of (o5.at1 (.head _)), fun t nt => ?_⟩⟩
      have o6 := o5.new (o := .tup e.row) nt
      obtain ⟨D7, o7, s7, e7⟩ := okFrzN [[(t, .tup e.row)]] (R := R) (o6.sel (by walk_at "sel"))
      exact k _ D7 t e o7 s7 (e7 _ (.head _) _ (.head _)) (hge hg)
end
end PP

namespace PP
open PySem PySem.Spec PyProof.Rows L2 G
/-! k03: right -/
theorem lay_dat {d : Deed} (h : okRow d) : d.dat.canLay0 = true := by
  cases d with
  | wish p z pr m =>
    have hz : PyData.strOk z = true := h.2.1
    show PyData.canLayAll0 [.str "wish", .int p, .str z, .int pr, .int m] = true
    simp only [PyData.canLayAll0, PyData.canLay0, hz]
    decide +kernel
  | alter p i m => show PyData.canLayAll0 [.str "alter", .int p, .int i, .int m] = true; simp only [PyData.canLayAll0, PyData.canLay0]; decide +kernel
  | drop p i => show PyData.canLayAll0 [.str "drop", .int p, .int i] = true; simp only [PyData.canLayAll0, PyData.canLay0]; decide +kernel
  | take p i m => show PyData.canLayAll0 [.str "take", .int p, .int i, .int m] = true; simp only [PyData.canLayAll0, PyData.canLay0]; decide +kernel
  | pledge p i m => show PyData.canLayAll0 [.str "pledge", .int p, .int i, .int m] = true; simp only [PyData.canLayAll0, PyData.canLay0]; decide +kernel
  | back p i => show PyData.canLayAll0 [.str "back", .int p, .int i] = true; simp only [PyData.canLayAll0, PyData.canLay0]; decide +kernel
theorem depth_dat (d : Deed) : d.dat.depth ≤ 1 := by cases d <;> simp [Deed.dat, PyData.depth, PyData.depthAll]
theorem lay_dats : ∀ {ds : List Deed}, (∀ d ∈ ds, okRow d) → PyData.canLayAll0 (ds.map Deed.dat) = true
  | [], _ => rfl
  | d :: r, g => by
    show (PyData.canLay0 d.dat && PyData.canLayAll0 (r.map Deed.dat)) = true
    rw [lay_dat (g d (.head _)), lay_dats fun x hx => g x (.tail _ hx)]
    rfl
theorem depth_dats : ∀ (ds : List Deed), PyData.depthAll (ds.map Deed.dat) ≤ 1
  | [] => by simp [PyData.depthAll]
  | d :: r => by
    rw [List.map_cons, PyData.depthAll]
    exact Nat.max_le.mpr ⟨depth_dat d, depth_dats r⟩
theorem shaped_rowsK {ds : List Deed} (g : ∀ d ∈ ds, okRow d) : SeqAt.shaped (.list (ds.map Deed.dat)) = true := by
  unfold SeqAt.shaped
  rw [Bool.and_eq_true]
  have d1 := depth_dats ds
  refine ⟨lay_dats g, decide_eq_true ?_⟩
  simp only [PyData.depth]
  omega
theorem due_self {rs : List Res} {pl : Int} (h : pl < 0) : dueB rs pl (.done rs) = true := by
  show (decide (pl < 0) && decide (rs = rs)) = true
  rw [decide_eq_true h, decide_eq_true rfl]
  rfl
theorem due_selfH {rs : List Res} {pl : Int} (h : 0 ≤ pl) : dueB rs pl (.halt pl) = true := by
  show (decide (0 ≤ pl) && decide (pl = pl)) = true
  rw [decide_eq_true h, decide_eq_true rfl]
  rfl
theorem due_more {rs : List Res} {pl : Int} : dueB rs pl (.done (rs ++ [.int 0])) = false := by
  show (decide (pl < 0) && decide (rs ++ [.int 0] = rs)) = false
  have e : decide (rs ++ [Res.int 0] = rs) = false := decide_eq_false fun e => by
    have := congrArg List.length e
    simp at this
  rw [e, Bool.and_false]
def OthD (D : Hp) (t : Addr) : Prop := ∃ m l ds dds, D t = some (.tup [.int m, .ref l]) ∧ (1 ≤ m ∧ m ≤ 5) ∧ D l = some (.lst (ds.map V.ref)) ∧ RowsAt D ds dds ∧ (∀ d ∈ dds, okRow d) ∧ ds.length ≤ 1000
theorem OthD.mono {D D' : Hp} {t : Addr} (s : Same D D') (h : OthD D t) : OthD D' t := by
  obtain ⟨m, l, ds, dds, h1, h2, h3, h4, h5⟩ := h
  exact ⟨m, l, ds, dds, s _ _ h1, h2, s _ _ h3, h4.mono s, h5⟩
def sp_law_right (K : PySem.W.Frag) : Sp := fun vs H Q _ => ∃ (D : Hp) (R : List (List Cell)) (ld lo : Addr) (ds ts : List Addr) (dds : List Deed) (pe : Int), vs = [.int pe, .ref ld, .ref lo] ∧ Ok H D R ∧ (1 ≤ pe ∧ pe ≤ 5) ∧ SqL K D ld (ds.map V.ref) ∧ RowsAt D ds dds ∧ (∀ d ∈ dds, okRow d) ∧ dds.length ≤ 30 ∧
  SqL K D lo (ts.map V.ref) ∧ (∀ t ∈ ts, OthD D t) ∧ ∀ H' D', Ok H' D' R → Same D D' → Q (.bl true) H'
section
variable {P : Program} {w : World} {K : PySem.W.Frag} {mg : Str → Option Value} {base : Heap} {a : A} {H D : Hp} {Q : VK} {E : XK} {Ms R : List (List G.Cell)}
theorem u_whole_int {i : Int} (q : Q (.bl true) H) : sp_law_whole K [.int i] H Q E := ⟨.int i, _, rfl, .int i, q⟩
theorem spot_eq (z pl : Int) : (decide (0 ≤ z) && decide (pl = z)) = (decide (0 ≤ pl) && decide (z = pl)) := by
  by_cases e : z = pl
  · subst e; rfl
  · rw [decide_eq_false (fun h : pl = z => e h.symm), decide_eq_false e, Bool.and_false, Bool.and_false]
theorem dp_rows2 {l : Addr} {ds : List Addr} {dds : List Deed} (e : Same D H) (h : H l = some (.lst (ds.map V.ref))) (hd : RowsAt D ds dds) : Dp K H (.ref l) (.list (dds.map Deed.dat)) := by
  refine .lst (SqL.of h) ?_
  clear h
  induction hd with
  | nil => exact .nil
  | cons h _ ih => exact .cons (Fz.dp e (fz_row h) (by rename_i b _ _ _; cases b <;> rfl)) ih
theorem dp_rowsS {l : Addr} {ds : List Addr} {dds : List Deed} (e : Same D H) (h : SqL K H l (ds.map V.ref)) (hd : RowsAt D ds dds) : Dp K H (.ref l) (.list (dds.map Deed.dat)) := by
  refine .lst h ?_
  clear h
  induction hd with
  | nil => exact .nil
  | cons h _ ih => exact .cons (Fz.dp e (fz_row h) (by rename_i b _ _ _; cases b <;> rfl)) ih
theorem u_told {v : V} {dds : List Deed} {pe : Int} (o : Ok H D R) (hp : 1 ≤ pe ∧ pe ≤ 5) (f : Fz D v (.list (dds.map Deed.dat))) (hs : ∀ x ∈ dds, x.short) (hl : dds.length ≤ 30)
    (q1 : (playF pe 0 [] dds).2.2 < 0 → ∀ H' D' x dx L vs, Ok H' D' ([(x, .ins a.c_Done dx [("results", .ref L)])] :: [(L, .lst vs)] :: R) → Same D D' → ResAts D' vs (playF pe 0 [] dds).2.1 → Q (.ref x) H')
    (q2 : 0 ≤ (playF pe 0 [] dds).2.2 → ∀ H' D' x dx, Ok H' D' ([(x, .ins a.c_Halt dx [("place", .int (playF pe 0 [] dds).2.2)])] :: R) → Same D D' → Q (.ref x) H') : sp_told K a [.int pe, v] H Q E := by
  refine ⟨D, R, .int pe, v, _, .list (dds.map Deed.dat), rfl, o, .int pe, f, ?_, ?_, ?_, ?_⟩
  · intro ds e x hx
    cases e
    obtain ⟨d, _, rfl⟩ := List.mem_map.mp hx
    exact known_dat d
  · intro h
    exact absurd (isC_t hp) (by rw [h]; decide)
  · intro _ h
    rw [areDeedsD_dat, decide_eq_true hl] at h
    cases h
  · intro _ _
    exact ⟨dds, rfl, hs, hl, q1, q2⟩
theorem u_Done_shows {x ld : Addr} {ds : List Addr} {dds : List Deed} {pe : Int} {rs : List Res} (o : Ok H D R) (ha : AnsAt K a D R x (.done rs)) (hp : 1 ≤ pe ∧ pe ≤ 5) (hs : SqL K D ld (ds.map V.ref)) (hd : RowsAt D ds dds) (hg : ∀ d ∈ dds, okRow d) (hl : ds.length ≤ 1000)
    (q : ∀ H' D', Ok H' D' R → Same D D' → Q (.bl (dueB (playF pe 0 [] dds).2.1 (playF pe 0 [] dds).2.2 (.done rs))) H') : sp_Done_shows K a [.ref x, .int pe, .ref ld] H Q E := by
  obtain ⟨dx, L, hx⟩ := ha
  refine ⟨D, R, x, dx, L, ld, ds, dds, pe, ressD rs, rfl, o, hp, hs, hd, fun d h => (hg d h).1, hl, hx, shaped_ress rs, fun H' D' o' s' => ?_⟩
  have := q H' D' o' s'
  rw [eqv_ress]
  have e : decide ((playF pe 0 [] dds).2.1 = rs) = decide (rs = (playF pe 0 [] dds).2.1) := by
    by_cases h : rs = (playF pe 0 [] dds).2.1
    · rw [decide_eq_true h, decide_eq_true h.symm]
    · rw [decide_eq_false h, decide_eq_false fun z => h z.symm]
  rw [e]
  exact this
theorem u_Halt_shows {x ld : Addr} {ds : List Addr} {dds : List Deed} {pe pl : Int} (o : Ok H D R) (ha : AnsAt K a D R x (.halt pl)) (hp : 1 ≤ pe ∧ pe ≤ 5) (hs : SqL K D ld (ds.map V.ref)) (hd : RowsAt D ds dds) (hg : ∀ d ∈ dds, okRow d) (hl : ds.length ≤ 1000)
    (q : ∀ H' D', Ok H' D' R → Same D D' → Q (.bl (dueB (playF pe 0 [] dds).2.1 (playF pe 0 [] dds).2.2 (.halt pl))) H') : sp_Halt_shows K a [.ref x, .int pe, .ref ld] H Q E := by
  obtain ⟨dx, hx⟩ := ha
  refine ⟨D, R, x, dx, ld, ds, dds, pe, pl, rfl, o, hp, hs, hd, fun d h => (hg d h).1, hl, hx, fun H' D' o' s' => ?_⟩
  have := q H' D' o' s'
  rw [spot_eq]
  exact this
local macro_rules | `(tactic| walk_at "g3") => `(tactic| first
  | ((with_reducible refine' G.r_gtup ?h ?l ?_); (case h => walk_at "sqT"); (case l => rfl))
  | fail)
set_option maxHeartbeats 8000000 in
theorem ok_law_right (T : Txt w K mg a) : FnOk P w K mg base (L2.CX P w) 10 a.f_law_right a.d_law_right ["_law_people_here", "_law_deeds", "_law_others"] (sp_law_right K) := by
  refine T.law_right.F.okX sc_law_right (fun vs H Q E h => ?_) (fun cdv A outer s H vs Q E hr h => ?_)
  · obtain ⟨D, R, ld, lo, ds, ts, dds, pe, rfl, _⟩ := h
    rfl
  · obtain ⟨D, R, ld, lo, ds, ts, dds, pe, rfl, o, hp, hs, hd, hg, hl, ho, ht, k⟩ := h
    have := T.cl_Done; have := T.na_Done_results; have := T.cl_Halt; have := T.na_Halt_place
    refine ⟨_, (pss_cons (ps_par (i := 3) (j := 4) rfl sc_law_right.nd rfl rfl (by decide) rfl rfl (pa_cons (pe_callTy (G.k_list (K := K)) (by rfl) T.n_list (by decide +kernel) (pa_cons (pv 1) pa_nil)) (pa_cons (pe_ix (G.k_ixU (K := K) (hu_of hr)) (pe_callS (ok_law_played (K := K) T) (hr.mono (by decide)) rfl T.law_played.g T.law_played.k T.law_played.b (fun σ => passAt (takes_of rfl rfl rfl rfl) σ) (pa_cons (pv 0) (pa_cons (pv 1) pa_nil))) pe_int (fun _ _ => rfl)) pa_nil)) rfl)
  (pss_cons (ps_for (passes_of rfl) rfl (pi_range1 rfl T.n_range (pa_cons pe_int pa_nil)) (pg_name (i := 5) sc_law_right.nd rfl (by first | exact Or.inl rfl | exact Or.inr rfl))
  (pss_cons (ps_set (i := 6) sc_law_right.nd rfl (by first | exact Or.inl rfl | exact Or.inr rfl) (pe_callS (ok_told (K := K) T) (hr.mono (by decide)) rfl T.told.g T.told.k T.told.b (fun σ => passAt (takes_of rfl rfl rfl rfl) σ) (pa_cons (pv 0) (pa_cons (pv 3) pa_nil))))
  (pss_cons (ps_set (i := 7) sc_law_right.nd rfl (by first | exact Or.inl rfl | exact Or.inr rfl) (pe_lst (pa_cons (pe_callB (G.k_isi (K := K)) (by rfl) T.n_isinstance (by decide +kernel) (pa_cons (pv 6) (pa_cons (pe_glob (v := .ref a.c_Done) rfl T.c_Done rfl) pa_nil))) (pa_cons (pe_callB (G.k_isi (K := K)) (by rfl) T.n_isinstance (by decide +kernel) (pa_cons (pv 6) (pa_cons (pe_glob (v := .ref a.c_Halt) rfl T.c_Halt rfl) pa_nil))) pa_nil))))
  (pss_cons (ps_if (PW.pt (pw_or (pt_not (pt_val (pe_callB (G.k_isi (K := K)) (by rfl) T.n_isinstance (by decide +kernel) (pa_cons (pv 6) (pa_cons (pe_glob (v := .ref a.c_Answer) rfl T.c_Answer rfl) pa_nil))))) (pw_or (pt_cmpR (G.k_neU (K := K) hr) (pv 7) (pe_lst (pa_cons (pe_cmpR op_lt (pv 4) pe_int (nomark _)) (pa_cons (pe_cmpR op_ge (pv 4) pe_int (nomark _)) pa_nil))) (nomark _)) (pw_or1 (pt_cmpR (G.k_neU (K := K) hr) (pv 3) (pv 1) (nomark _)))))) (pss_one (ps_ret pe_bl)) pss_nil)
  (pss_cons (ps_if (PW.pt (pw_or (pt_val (pe_callB (G.k_isi (K := K)) (by rfl) T.n_isinstance (by decide +kernel) (pa_cons (pv 6) (pa_cons (pe_glob (v := .ref a.c_Same) rfl T.c_Same rfl) pa_nil)))) (pw_or (pt_val (pe_callB (G.k_isi (K := K)) (by rfl) T.n_isinstance (by decide +kernel) (pa_cons (pv 6) (pa_cons (pe_glob (v := .ref a.c_Apart) rfl T.c_Apart rfl) pa_nil)))) (pw_or (pt_val (pe_callB (G.k_isi (K := K)) (by rfl) T.n_isinstance (by decide +kernel) (pa_cons (pv 6) (pa_cons (pe_glob (v := .ref a.c_Paid) rfl T.c_Paid rfl) pa_nil)))) (pw_or1 (pt_val (pe_callB (G.k_isi (K := K)) (by rfl) T.n_isinstance (by decide +kernel) (pa_cons (pv 6) (pa_cons (pe_glob (v := .ref a.c_Short) rfl T.c_Short rfl) pa_nil))))))))) (pss_one (ps_ret pe_bl)) pss_nil)
  (pss_cons (ps_if (PW.pt (pw_or (pt_not (pt_val (pe_callS (ok_law_due (K := K) T) (hr.mono (by decide)) rfl T.law_due.g T.law_due.k T.law_due.b (fun σ => passAt (takes_of rfl rfl rfl rfl) σ) (pa_cons (pv 0) (pa_cons (pv 1) (pa_cons (pv 6) pa_nil)))))) (pw_or1 (pt_cmpR op_notBl (G.pe_both (G.pe_me (pv 6) T.cl_Done T.Done_shows.m (ok_Done_shows (K := K) T) (hr.mono (by decide)) T.Done_shows.b (passes_call (takes_of rfl rfl rfl rfl) (fun _ _ _ _ h => h)) (pa_cons (pv 0) (pa_cons (pv 1) pa_nil))) (G.pe_me (pv 6) T.cl_Halt T.Halt_shows.m (ok_Halt_shows (K := K) T) (hr.mono (by decide)) T.Halt_shows.b (passes_call (takes_of rfl rfl rfl rfl) (fun _ _ _ _ h => h)) (pa_cons (pv 0) (pa_cons (pv 1) pa_nil)))) pe_bl (nomark _))))) (pss_one (ps_ret pe_bl)) pss_nil)
  (pss_cons (ps_if (PW.pt (pw_and (pt_cmpR op_ge (pv 4) pe_int (nomark _)) (pw_and1 (pt_not (pt_val (pe_callS (ok_law_whole (K := K) T) (hr.mono (by decide)) rfl T.law_whole.g T.law_whole.k T.law_whole.b (fun σ => passAt (takes_of rfl rfl rfl rfl) σ) (pa_cons (G.k_fld (K := K) (pv 6) rfl) pa_nil))))))) (pss_one (ps_ret pe_bl)) pss_nil)
  (pss_cons (ps_for (passes_of rfl) rfl (G.k_seq (K := K) (pv 2)) (G.k_gtup (K := K) rfl (pgs_cons (pg_name (i := 8) sc_law_right.nd rfl (by first | exact Or.inl rfl | exact Or.inr rfl)) (pgs_cons (pg_name (i := 9) sc_law_right.nd rfl (by first | exact Or.inl rfl | exact Or.inr rfl)) pgs_nil)))
  (pss_one (ps_if (pt_not (pt_val (pe_callS (ok_law_says (K := K) T) (hr.mono (by decide)) rfl T.law_says.g T.law_says.k T.law_says.b (fun σ => passAt (takes_of rfl rfl rfl rfl) σ) (pa_cons (G.pe_both (G.pe_me (pv 6) T.cl_Done T.Done_shows.m (ok_Done_shows (K := K) T) (hr.mono (by decide)) T.Done_shows.b (passes_call (takes_of rfl rfl rfl rfl) (fun _ _ _ _ h => h)) (pa_cons (pv 8) (pa_cons (pv 9) pa_nil))) (G.pe_me (pv 6) T.cl_Halt T.Halt_shows.m (ok_Halt_shows (K := K) T) (hr.mono (by decide)) T.Halt_shows.b (passes_call (takes_of rfl rfl rfl rfl) (fun _ _ _ _ h => h)) (pa_cons (pv 8) (pa_cons (pv 9) pa_nil)))) (pa_cons (pe_callS (ok_law_due (K := K) T) (hr.mono (by decide)) rfl T.law_due.g T.law_due.k T.law_due.b (fun σ => passAt (takes_of rfl rfl rfl rfl) σ) (pa_cons (pv 8) (pa_cons (pv 9) (pa_cons (pv 6) pa_nil)))) pa_nil))))) (pss_one (ps_ret pe_bl)) pss_nil)))
  (pss_one (ps_if (pt_cmpR op_lt (pv 4) pe_int (nomark _)) (pss_cons (ps_expr (G.k_bm (K := K) (pe_bm PySem.F.plainAttrs_list PySem.F.slot_list_append PySem.F.type_list_append mt_append (G.k_fld (K := K) (pv 6) rfl) (pa_cons pe_int pa_nil))))
  (pss_one (ps_if (pt_cmpR op_notBl (G.pe_both (G.pe_me (pv 6) T.cl_Done T.Done_shows.m (ok_Done_shows (K := K) T) (hr.mono (by decide)) T.Done_shows.b (passes_call (takes_of rfl rfl rfl rfl) (fun _ _ _ _ h => h)) (pa_cons (pv 0) (pa_cons (pv 1) pa_nil))) (G.pe_me (pv 6) T.cl_Halt T.Halt_shows.m (ok_Halt_shows (K := K) T) (hr.mono (by decide)) T.Halt_shows.b (passes_call (takes_of rfl rfl rfl rfl) (fun _ _ _ _ h => h)) (pa_cons (pv 0) (pa_cons (pv 1) pa_nil)))) pe_bl (nomark _)) (pss_one (ps_ret pe_bl)) pss_nil))) pss_nil))))))))))
  (pss_one (ps_ret pe_bl)))), ?_⟩
    have m1 := Paired.length hd
    walk_at "go"
    refine ⟨ld, _, rfl, .inl (o.sqL hs), fun h1 n1 => ?_⟩
    have o1 := o.new (o := .lst (ds.map V.ref)) n1
    obtain ⟨D2, o2, s2, e2⟩ := okFrzN [[(h1, .lst (ds.map V.ref))]] (R := R) o1
    have hh1 := e2 _ (.head _) _ (.head _)
    clear o o1 e2
    walk_at "go"
    refine ⟨D2, R, ld, ds, dds, pe, rfl, o2, hp, s2.seq hs, hd.mono s2, hg, by omega, fun H3 D3 T3 L vs o3 s3 e3 r3 t3 => ?_⟩
    clear o2
    refine r_ixT (SqT.of (o3.dat t3)) rfl ?_
    walk_at "go"
    clear e3 r3 t3
    have sA := s2.trans s3
    have hh1 := s3 _ _ hh1
    refine r_irng1 (by omega) ?_
    refine for_it walk_range (fun i σ H' => ∃ v5 v6 v7 v8 v9 D', σ = [some (.int pe), some (.ref ld), some (.ref lo), some (.ref h1), some (.int (playF pe 0 [] dds).2.2), v5, v6, v7, v8, v9] ∧ Ok H' D' R ∧ Same D3 D') ⟨_, _, _, _, _, D3, rfl, o3, Same.refl D3⟩ ?_ ?_ ?_
    · intros
      trivial
    · rintro i y σ H' H'' hi ⟨v5, v6, v7, v8, v9, D', rfl, o', s'⟩ ⟨rfl, rfl⟩
      clear o3
      have sB := sA.trans s'
      walk_at "go"
      refine u_told o' hp (.lst (s' _ _ hh1) (hd.mono sB).fz) (fun x hx => (hg x hx).1) hl (fun hn H4 D4 x dx L4 vs4 o4 s4 r4 => ?_) (fun hn H4 D4 x dx o4 s4 => ?_)
      · have sC := sB.trans s4
        have hh1 : D4 h1 = some (.lst (ds.map V.ref)) := s4 _ _ (s' _ _ hh1)
        generalize hrs : (playF pe 0 [] dds).2.1 = rs at r4
        generalize hpl : (playF pe 0 [] dds).2.2 = pl at hn ⊢
        have q1 : decide (pl < 0) = true := decide_eq_true hn
        have q2 : decide (0 ≤ pl) = false := decide_eq_false (by omega)
        clear o'
        walk_at "go"
        refine isiO (o4.at1 (.head _)) T.cl_Done T.o_Done T.i_Done_Done ?_
        walk_at "go"
        refine isiO (o4.at1 (.head _)) T.cl_Done T.o_Done T.i_Done_Halt ?_
        walk_at "go"
        rename_i so H5 o5
        clear o4
        refine isiO (o5.at1 (.tail _ (.head _))) T.cl_Done T.o_Done T.i_Done_Answer ?_
        walk_at "go"
        rename_i sq H6 o6
        rw [q1, q2] at o6
        clear o5
        refine r_neD (d := .list [.bool true, .bool false]) (e := .list [.bool true, .bool false]) (.lst (SqL.of (o6.at1 (.tail _ (.head _)))) (.cons (.bl _) (.cons (.bl _) .nil))) (.lst (SqL.of (o6.at1 (.head _))) (.cons (.bl _) (.cons (.bl _) .nil))) rfl rfl ?_
        rw [show PyData.eqv (.list [.bool true, .bool false]) (.list [.bool true, .bool false]) = true by decide]
        walk_at "go"
        have sh := shaped_rowsK hg
        refine r_neD (dp_rows2 o6.sub (o6.dat hh1) (hd.mono sC)) (dp_rowsS o6.sub (o6.sqL (sC.seq hs)) (hd.mono sC)) sh sh ?_
        rw [refl_of sh]
        walk_at "go"
        refine isiO (o6.at1 (.tail _ (.tail _ (.head _)))) T.cl_Done T.o_Done T.i_Done_Same ?_
        walk_at "go"
        refine isiO (o6.at1 (.tail _ (.tail _ (.head _)))) T.cl_Done T.o_Done T.i_Done_Apart ?_
        walk_at "go"
        refine isiO (o6.at1 (.tail _ (.tail _ (.head _)))) T.cl_Done T.o_Done T.i_Done_Paid ?_
        walk_at "go"
        refine isiO (o6.at1 (.tail _ (.tail _ (.head _)))) T.cl_Done T.o_Done T.i_Done_Short ?_
        walk_at "go"
        have o7 : Ok H6 D4 ([(x, .ins a.c_Done dx [("results", .ref L4)])] :: [(L4, .lst vs4)] :: R) := o6.drop.drop
        clear o6
        have han : AnsAt K a D4 ([(x, .ins a.c_Done dx [("results", .ref L4)])] :: [(L4, .lst vs4)] :: R) x (.done rs) := ⟨dx, L4, fun H' D' o' s' => ⟨o'.at1 (.head _), .lst (SqL.of (o'.at1 (.tail _ (.head _)))) (dp_ress o'.sub (r4.mono s'))⟩⟩
        refine ⟨D4, _, ld, x, ds, dds, pe, .done rs, rfl, o7, hp, sC.seq hs, hd.mono sC, hg, by omega, han, fun H8 D8 o8 s8 => ?_⟩
        rw [hrs, hpl, due_self hn]
        clear o7
        walk_at "go"
        refine .inl ?_
        walk_at "go"
        refine u_Done_shows o8 (han.mono s8) hp ((sC.trans s8).seq hs) (hd.mono (sC.trans s8)) hg (by omega) fun H9 D9 o9 s9 => ?_
        rw [hrs, hpl, due_self hn]
        clear o8
        walk_at "go"
        refine notB ?_
        walk_at "go"
        have sD := (sC.trans s8).trans s9
        have han := han.mono (s8.trans s9)
        have s48 := s8.trans s9
        refine r_iseqL (o9.sqL (sD.seq ho)) ?_
        refine for_it (walk_list (xs := ts.map V.ref)) (fun i2 σ H' => ∃ v8 v9 D', σ = [some (.int pe), some (.ref ld), some (.ref lo), some (.ref h1), some (.int pl), some (.int (0 + (i : Int))), some (.ref x), some (.ref so), v8, v9] ∧ Ok H' D' ([(x, .ins a.c_Done dx [("results", .ref L4)])] :: [(L4, .lst vs4)] :: R) ∧ Same D9 D') ⟨_, _, D9, rfl, o9, Same.refl D9⟩ ?_ ?_ ?_
        · rintro i2 σ H' _ ⟨v8, v9, D', rfl, o', sE⟩
          exact o'.sqL ((sD.trans sE).seq ho)
        · rintro i2 y σ H' H'' hi2 ⟨v8, v9, D', rfl, o', sE⟩ ⟨rfl, ey⟩
          have ey2 : (ts.map V.ref)[i2]? = some y := ey
          rw [List.getElem?_map] at ey2
          obtain ⟨t, et, rfl⟩ := Option.map_eq_some_iff.mp ey2
          obtain ⟨m, l, es, des, ot, hm, hl1, hd1, hg1, hn1⟩ := (ht t (List.mem_of_getElem? et)).mono (sD.trans sE)
          clear o9
          refine r_gtup (SqT.of (o'.dat ot)) rfl ?_
          walk_at "go"
          refine .inl ?_
          walk_at "go"
          refine u_Done_shows o' (han.mono sE) hm (SqL.of hl1) hd1 hg1 hn1 fun H10 D10 o10 s10 => ?_
          clear o'
          walk_at "go"
          refine ⟨D10, _, l, x, es, des, m, .done rs, rfl, o10, hm, SqL.of (s10 _ _ hl1), hd1.mono s10, hg1, hn1, han.mono (sE.trans s10), fun H11 D11 o11 s11 => ?_⟩
          clear o10
          walk_at "go"
          refine u_says ?_
          rw [dec_self]
          walk_at "go"
          exact ⟨_, _, D11, rfl, o11, (sE.trans s10).trans s11⟩
        · rintro σ H' ⟨v8, v9, D', rfl, o', sE⟩
          clear o9
          have hvs : vs4.length < sizeLine := by
            have e1 := Paired.length r4
            have e2 := playF_len (pe := pe) (ds := dds) (i := 0) (ws := [])
            rw [hrs] at e2
            rw [sizeLine_eq]
            omega
          walk_at "go"
          rename_i H12 o12
          clear o'
          have han2 : AnsAt K a D' ([(L4, .lst (vs4 ++ [.int 0]))] :: [(x, .ins a.c_Done dx [("results", .ref L4)])] :: R) x (.done (rs ++ [.int 0])) := ⟨dx, L4, fun H' D1 o1 s1 => ⟨o1.at1 (.tail _ (.head _)), .lst (SqL.of (o1.at1 (.head _))) (dp_ress o1.sub (paired_app (r4.mono ((s48.trans sE).trans s1)) (.cons (show ResAt D1 (.int 0) (.int 0) from rfl) .nil)))⟩⟩
          refine .inl ?_
          walk_at "go"
          refine u_Done_shows o12 han2 hp ((sD.trans sE).seq hs) (hd.mono (sD.trans sE)) hg (by omega) fun H13 D13 o13 s13 => ?_
          rw [hrs, hpl, due_more]
          clear o12
          walk_at "go"
          refine notB ?_
          walk_at "go"
          exact ⟨_, _, _, _, _, D13, rfl, o13.drop.drop, ((s'.trans s4).trans s48).trans (sE.trans s13)⟩
      · have sC := sB.trans s4
        have hh1 : D4 h1 = some (.lst (ds.map V.ref)) := s4 _ _ (s' _ _ hh1)
        generalize hrs : (playF pe 0 [] dds).2.1 = rs
        generalize hpl : (playF pe 0 [] dds).2.2 = pl at hn o4 ⊢
        have q1 : decide (pl < 0) = false := decide_eq_false (by omega)
        have q2 : decide (0 ≤ pl) = true := decide_eq_true hn
        clear o'
        walk_at "go"
        refine isiO (o4.at1 (.head _)) T.cl_Halt T.o_Halt T.i_Halt_Done ?_
        walk_at "go"
        refine isiO (o4.at1 (.head _)) T.cl_Halt T.o_Halt T.i_Halt_Halt ?_
        walk_at "go"
        rename_i so H5 o5
        clear o4
        refine isiO (o5.at1 (.tail _ (.head _))) T.cl_Halt T.o_Halt T.i_Halt_Answer ?_
        walk_at "go"
        rename_i sq H6 o6
        rw [q1, q2] at o6
        clear o5
        refine r_neD (d := .list [.bool false, .bool true]) (e := .list [.bool false, .bool true]) (.lst (SqL.of (o6.at1 (.tail _ (.head _)))) (.cons (.bl _) (.cons (.bl _) .nil))) (.lst (SqL.of (o6.at1 (.head _))) (.cons (.bl _) (.cons (.bl _) .nil))) rfl rfl ?_
        rw [show PyData.eqv (.list [.bool false, .bool true]) (.list [.bool false, .bool true]) = true by decide]
        walk_at "go"
        have sh := shaped_rowsK hg
        refine r_neD (dp_rows2 o6.sub (o6.dat hh1) (hd.mono sC)) (dp_rowsS o6.sub (o6.sqL (sC.seq hs)) (hd.mono sC)) sh sh ?_
        rw [refl_of sh]
        walk_at "go"
        refine isiO (o6.at1 (.tail _ (.tail _ (.head _)))) T.cl_Halt T.o_Halt T.i_Halt_Same ?_
        walk_at "go"
        refine isiO (o6.at1 (.tail _ (.tail _ (.head _)))) T.cl_Halt T.o_Halt T.i_Halt_Apart ?_
        walk_at "go"
        refine isiO (o6.at1 (.tail _ (.tail _ (.head _)))) T.cl_Halt T.o_Halt T.i_Halt_Paid ?_
        walk_at "go"
        refine isiO (o6.at1 (.tail _ (.tail _ (.head _)))) T.cl_Halt T.o_Halt T.i_Halt_Short ?_
        walk_at "go"
        have o7 : Ok H6 D4 ([(x, .ins a.c_Halt dx [("place", .int pl)])] :: R) := o6.drop.drop
        clear o6
        have han : AnsAt K a D4 ([(x, .ins a.c_Halt dx [("place", .int pl)])] :: R) x (.halt pl) := ⟨dx, fun H' D' o' s' => o'.at1 (.head _)⟩
        refine ⟨D4, _, ld, x, ds, dds, pe, .halt pl, rfl, o7, hp, sC.seq hs, hd.mono sC, hg, by omega, han, fun H8 D8 o8 s8 => ?_⟩
        rw [hrs, hpl, due_selfH hn]
        clear o7
        walk_at "go"
        refine .inr ?_
        walk_at "go"
        refine u_Halt_shows o8 (han.mono s8) hp ((sC.trans s8).seq hs) (hd.mono (sC.trans s8)) hg (by omega) fun H9 D9 o9 s9 => ?_
        rw [hrs, hpl, due_selfH hn]
        clear o8
        walk_at "go"
        refine notB ?_
        walk_at "go"
        refine u_whole_int ?_
        walk_at "go"
        have sD := (sC.trans s8).trans s9
        have han := han.mono (s8.trans s9)
        have s48 := s8.trans s9
        refine r_iseqL (o9.sqL (sD.seq ho)) ?_
        refine for_it (walk_list (xs := ts.map V.ref)) (fun i2 σ H' => ∃ v8 v9 D', σ = [some (.int pe), some (.ref ld), some (.ref lo), some (.ref h1), some (.int pl), some (.int (0 + (i : Int))), some (.ref x), some (.ref so), v8, v9] ∧ Ok H' D' ([(x, .ins a.c_Halt dx [("place", .int pl)])] :: R) ∧ Same D9 D') ⟨_, _, D9, rfl, o9, Same.refl D9⟩ ?_ ?_ ?_
        · rintro i2 σ H' _ ⟨v8, v9, D', rfl, o', sE⟩
          exact o'.sqL ((sD.trans sE).seq ho)
        · rintro i2 y σ H' H'' hi2 ⟨v8, v9, D', rfl, o', sE⟩ ⟨rfl, ey⟩
          have ey2 : (ts.map V.ref)[i2]? = some y := ey
          rw [List.getElem?_map] at ey2
          obtain ⟨t, et, rfl⟩ := Option.map_eq_some_iff.mp ey2
          obtain ⟨m, l, es, des, ot, hm, hl1, hd1, hg1, hn1⟩ := (ht t (List.mem_of_getElem? et)).mono (sD.trans sE)
          clear o9
          refine r_gtup (SqT.of (o'.dat ot)) rfl ?_
          walk_at "go"
          refine .inr ?_
          walk_at "go"
          refine u_Halt_shows o' (han.mono sE) hm (SqL.of hl1) hd1 hg1 hn1 fun H10 D10 o10 s10 => ?_
          clear o'
          walk_at "go"
          refine ⟨D10, _, l, x, es, des, m, .halt pl, rfl, o10, hm, SqL.of (s10 _ _ hl1), hd1.mono s10, hg1, hn1, han.mono (sE.trans s10), fun H11 D11 o11 s11 => ?_⟩
          clear o10
          walk_at "go"
          refine u_says ?_
          rw [dec_self]
          walk_at "go"
          exact ⟨_, _, D11, rfl, o11, (sE.trans s10).trans s11⟩
        · rintro σ H' ⟨v8, v9, D', rfl, o', sE⟩
          clear o9
          walk_at "go"
          exact ⟨_, _, _, _, _, D', rfl, o'.drop, ((s'.trans s4).trans s48).trans sE⟩
    · rintro σ H' ⟨v5, v6, v7, v8, v9, D', rfl, o', s'⟩
      clear o3
      walk_at "go"
      exact k _ _ o' (sA.trans s')
end
end PP

namespace PP
open PySem PySem.Spec PyProof.Rows L2 G
/-! k03: the law -/
def RL (D : Hp) (L : Addr) (ds : List Addr) (dds : List Deed) : Prop := D L = some (.lst (ds.map V.ref)) ∧ RowsAt D ds dds
theorem RL.mono {D D' : Hp} {L : Addr} {ds : List Addr} {dds : List Deed} (s : Same D D') (h : RL D L ds dds) : RL D' L ds dds := ⟨s _ _ h.1, h.2.mono s⟩
theorem RL.len {D : Hp} {L : Addr} {ds : List Addr} {dds : List Deed} (h : RL D L ds dds) : ds.length = dds.length := Paired.length h.2
def OKs (dds : List Deed) : Prop := ∀ d ∈ dds, okRow d
theorem OKs.cut {dds : List Deed} {lo hi : Option Int} (h : OKs dds) : OKs (cutG dds lo hi) := fun d hd => h d (cutG_mem hd)
theorem OKs.app {a b : List Deed} (h : OKs a) (k : OKs b) : OKs (a ++ b) := fun d hd => (List.mem_append.mp hd).elim (h d) (k d)
theorem OKs.one {d : Deed} (h : okRow d) : OKs [d] := fun e he => by rw [List.mem_singleton.mp he]; exact h
theorem OKs.nil : OKs [] := fun _ h => nomatch h
theorem good_okRow {d : Deed} {pe : Int} (g : d.Good pe) : okRow d := by
  refine ⟨g.short, ?_⟩
  cases d <;> first | exact ⟨okWord_strOk g.2.1, fun _ _ => g.2.1⟩ | trivial
/-- a tale of at most n deeds -/
def TL (D : Hp) (n : Nat) (L : Addr) : Prop := ∃ ds dds, RL D L ds dds ∧ OKs dds ∧ dds.length ≤ n
theorem TL.mono {D D' : Hp} {n : Nat} {L : Addr} (s : Same D D') (h : TL D n L) : TL D' n L := by
  obtain ⟨ds, dds, h1, h2⟩ := h
  exact ⟨ds, dds, h1.mono s, h2⟩
theorem cut_hi {α : Type} {l : List α} {i : Int} (h : 0 ≤ i) : (cutG l none (some i)).length = min i.toNat l.length := by
  have e1 : HT.sIx l.length 0 none = 0 := rfl
  have e2 : HT.sIx l.length l.length (some i) = min i.toNat l.length := if_neg (by omega)
  unfold cutG
  rw [List.length_take, List.length_drop, e1, e2]
  omega
theorem cut_lo {α : Type} {l : List α} {i : Int} (h : 0 ≤ i) : (cutG l (some i) none).length = l.length - i.toNat := by
  have e1 : HT.sIx l.length 0 (some i) = min i.toNat l.length := if_neg (by omega)
  have e2 : HT.sIx l.length l.length none = l.length := rfl
  unfold cutG
  rw [List.length_take, List.length_drop, e1, e2]
  omega
theorem step_ok : ∀ l ∈ List.range 29, Builtin.Range.small 0 l (1 + l / 6) = true ∧ (Builtin.Range.rangeSize 0 l (1 + l / 6)).toNat ≤ 28 ∧ Builtin.Range.rangeSize 0 l (1 + l / 6) = ((Builtin.Range.rangeSize 0 l (1 + l / 6)).toNat : Int) ∧ ∀ k ∈ List.range (Builtin.Range.rangeSize 0 l (1 + l / 6)).toNat, (0 + (k : Int) * (1 + l / 6) < l) := by decide +kernel
theorem step_rg {l : Nat} (h : l ≤ 28) : ∃ n, n ≤ 28 ∧ RgC 0 l (1 + (l : Int) / 6) n ∧ ∀ k, k < n → 0 ≤ 0 + (k : Int) * (1 + (l : Int) / 6) ∧ 0 + (k : Int) * (1 + (l : Int) / 6) < l := by
  obtain ⟨h1, h2, h3, h4⟩ := step_ok l (List.mem_range.mpr (by omega))
  refine ⟨_, h2, ⟨by omega, by omega, h1, h3⟩, fun k hk => ⟨?_, h4 k (List.mem_range.mpr hk)⟩⟩
  have : 0 ≤ (k : Int) * (1 + (l : Int) / 6) := Int.mul_nonneg (by omega) (by omega)
  omega
theorem TL.of {D : Hp} {L : Addr} {ds : List Addr} {dds : List Deed} (h : RL D L ds dds) (k : OKs dds) (l : dds.length ≤ 30) : TL D 30 L := ⟨ds, dds, h, k, l⟩
def w4 : Deed := .wish 0 "abcd" 20 3
def nineS (j : Nat) : List Deed := if ((j : Int) % 3 = 0) then [w4, .drop 0 j] else [w4]
def nineF : Nat → List Deed
  | 0 => []
  | i + 1 => nineF i ++ nineS i
def fullF : Nat → List Deed
  | 0 => []
  | i + 1 => fullF i ++ [.alter 0 0 (1 + (i : Int) % 3)]
theorem nineF_len : ∀ i, (nineF i).length ≤ 2 * i
  | 0 => Nat.le_refl 0
  | i + 1 => by
    have := nineF_len i
    have e : nineF (i + 1) = nineF i ++ nineS i := rfl
    rw [e, List.length_append]
    unfold nineS
    split
    · show _ + 2 ≤ _
      omega
    · show _ + 1 ≤ _
      omega
theorem fullF_len : ∀ i, (fullF i).length = i
  | 0 => rfl
  | i + 1 => by
    have e : fullF (i + 1) = fullF i ++ [.alter 0 0 (1 + (i : Int) % 3)] := rfl
    rw [e, List.length_append, fullF_len i]
    rfl
theorem oks_of {pe : Int} {dds : List Deed} (h : dds.all (goodB pe) = true) : OKs dds := fun d hd => good_okRow (goods_ok h d hd)
def sp_law (K : PySem.W.Frag) : Sp := fun vs H Q _ => ∃ (D : Hp) (b : Nat) (a : Addr) (ns : List Int), vs = [.ref a] ∧ Ok H D [] ∧ SqL K D a (ns.map V.int) ∧ ns.length ≤ 1000 ∧ (100 ≤ b ∧ b ≤ 2000000) ∧ (∀ z ∈ ns, z.natAbs < 2 ^ b) ∧ ∀ H' : Hp, Q (.bl true) H'
section
variable {P : Program} {w : World} {K : PySem.W.Frag} {mg : Str → Option Value} {base : Heap} {a : A} {H D : Hp} {Q : VK} {E : XK} {Ms R : List (List G.Cell)}
theorem sqT' {D D' : Hp} (s : Same D D') {x : Addr} {xs : List V} (h : SqT K D x xs) : SqT K D' x xs := (Ok.mk (H := D') (D := D) (Ms := []) s (fun _ h => (nomatch h)) (fun _ h => (nomatch h)) List.nodup_nil).sqT h
theorem i_rng3 {ta : TA} {σ : L2.St} {P' : It → Hp → Prop} (q : ta σ H fun vs H1 => ∃ (i j c : Int) (n : Nat), vs = [.int i, .int j, .int c] ∧ RgC i j c n ∧ P' (Itc i c n) H1) : iRng3 ta σ H P' := q
theorem atI_ref {ds : List Addr} {i : Int} (h0 : 0 ≤ i) (h : i.toNat < ds.length) : atI (ds.map V.ref) i = some (.ref ds[i.toNat]) := by
  have e : atI (ds.map V.ref) ((i.toNat : Nat) : Int) = some (.ref ds[i.toNat]) := atI_nat (by rw [List.getElem?_map, List.getElem?_eq_getElem h]; rfl)
  rwa [Int.toNat_of_nonneg h0] at e
theorem r_ab {σ : L2.St} {tb : TS} {E : Ends} (I : Hp → Prop) (h : ∀ N : Ends, (∀ H', I H' → N.nx σ H') → tb N σ H) (q : ∀ H', I H' → E.nx σ H') : tb E σ H := h E q
theorem atI_last {ds : List Addr} (h : ds.length - 1 < ds.length) : atI (ds.map V.ref) (-1) = some (.ref (ds[ds.length - 1])) := by
  unfold atI ixN
  rw [if_neg (by decide), if_pos (by rw [List.length_map]; omega)]
  show (ds.map V.ref)[(-1 + ((ds.map V.ref).length : Int)).toNat]? = _
  rw [List.getElem?_map, List.length_map, show (-1 + (ds.length : Int)).toNat = ds.length - 1 by omega, List.getElem?_eq_getElem h]
  rfl
theorem r_ext {l b : Addr} {xs zs : List V} (o : Ok H D Ms) (k : Pk Ms [(l, .lst xs)] R) (hb : H b = some (.lst zs)) (hl : xs.length + zs.length ≤ sizeLine) (q : ∀ H', Ok H' D ([(l, .lst (xs ++ zs))] :: R) → Q .non H') : rExtend (.ref l) [.ref b] H Q := ⟨l, b, xs, zs, rfl, rfl, o.at1 k.mem, hb, hl, q _ (o.wrAt k)⟩
theorem RL.fz {L : Addr} {ds : List Addr} {dds : List Deed} (h : RL D L ds dds) : Fz D (.ref L) (.list (dds.map Deed.dat)) := .lst h.1 h.2.fz
theorem OKs.short {dds : List Deed} (h : OKs dds) : ∀ x ∈ dds, x.short := fun x hx => (h x hx).1
theorem rows_cut {ds : List Addr} {dds : List Deed} {lo hi : Option Int} (h : RowsAt D ds dds) : RowsAt D (cutG ds lo hi) (cutG dds lo hi) := by
  have e := Paired.length h
  unfold cutG
  rw [e]
  exact paired_take _ (paired_drop _ h)
theorem r_tsl {L : Addr} {ds : List Addr} {dds : List Deed} {lo hi : Option Int} (o : Ok H D Ms) (h : RL D L ds dds) (q : ∀ p H' D', Ok H' D' Ms → Same D D' → RL D' p (cutG ds lo hi) (cutG dds lo hi) → Q (.ref p) H') : rSlU K (.ref L) lo hi H Q := by
  refine r_slL o (SqL.of (o.dat h.1)) fun p H1 o1 => ?_
  rw [cutV_map] at o1
  obtain ⟨o2, s2, e2⟩ := o1.frz
  exact q p H1 _ o2 s2 ⟨e2 _ (.head _), rows_cut (h.2.mono s2)⟩
theorem r_tadd {L L' : Addr} {ds es : List Addr} {dds des : List Deed} (o : Ok H D Ms) (h : RL D L ds dds) (k : RL D L' es des) (l : dds.length + des.length ≤ 1000) (q : ∀ p H' D', Ok H' D' Ms → Same D D' → RL D' p (ds ++ es) (dds ++ des) → Q (.ref p) H') : rAddU K (.ref L) (.ref L') H Q := by
  have e1 := h.len
  have e2 := k.len
  refine r_addL o (o.dat h.1) (o.dat k.1) (by rw [sizeLine_eq, List.length_map, List.length_map]; omega) fun p H1 o1 => ?_
  rw [← List.map_append] at o1
  obtain ⟨o2, s2, e2⟩ := o1.frz
  exact q p H1 _ o2 s2 ⟨e2 _ (.head _), paired_app (h.2.mono s2) (k.2.mono s2)⟩
theorem r_tone {t : Addr} {d : Deed} {p : Addr} (o : Ok H D ([(p, .lst [.ref t])] :: Ms)) (h : D t = some (.tup d.row)) : ∃ D', Ok H D' Ms ∧ Same D D' ∧ RL D' p [t] [d] := by
  obtain ⟨o2, s2, e2⟩ := o.frz
  exact ⟨_, o2, s2, e2 _ (.head _), .cons (s2 _ _ h) .nil⟩
local macro_rules | `(tactic| walk_at "g3") => `(tactic| first
  | ((with_reducible refine' G.r_gtup ?h ?l ?_); (case h => walk_at "sqT"); (case l => rfl))
  | fail)
local macro_rules | `(tactic| walk_at "stp") => `(tactic| repeat (first
  | (with_reducible refine r_next ?_) | (with_reducible refine r_seq ?_) | (with_reducible refine r_name ?_)
  | (with_reducible refine r_ifS ?_) | (with_reducible refine r_not ?_) | (with_reducible refine r_B ?_) | (with_reducible refine r_test ?_)
  | (with_reducible refine r_asg ?_) | (with_reducible refine r_op ?_)
  | (with_reducible refine r_cb ?_) | (with_reducible refine r_cons ?_) | (with_reducible refine r_callS ?_) | (with_reducible refine r_c ?_) | (with_reducible refine r_nil ?_) | (with_reducible refine r_var rfl ?_) | (with_reducible refine G.r_bl ?_) | (with_reducible refine G.r_notV ?_) | (with_reducible refine G.r_iteT ?_) | (with_reducible refine G.r_iteF ?_) | (with_reducible refine G.r_iteKT rfl ?_) | (with_reducible refine G.r_iteKF rfl ?_)))
set_option maxHeartbeats 8000000 in
theorem ok_law (T : Txt w K mg a) : FnOk P w K mg base (L2.CX P w) 11 a.f_law a.d_law ["_law_script"] (sp_law K) := by
  refine T.law.F.okX sc_law (fun vs H Q E h => ?_) (fun cdv A outer s H vs Q E hr h => ?_)
  · obtain ⟨D, b, l, ns, rfl, _⟩ := h
    rfl
  · obtain ⟨D, b, l, ns, rfl, o, hs, hl, hb, hn, k⟩ := h
    have := T.cl_Done; have := T.na_Done_results; have := T.cl_Halt; have := T.na_Halt_place
    refine ⟨_, (pss_cons (ps_set (i := 0) sc_law.nd rfl (by first | exact Or.inl rfl | exact Or.inr rfl) (pe_slice (G.k_slU (K := K)) (pv 0) po_none (po_some pe_int)))
  (pss_cons (ps_par (i := 1) (j := 2) rfl sc_law.nd rfl rfl (by decide) rfl rfl (pa_cons (pe_callS (ok_law_people (K := K) T) (hr.mono (by decide)) rfl T.law_people.g T.law_people.k T.law_people.b (fun σ => passAt (takes_of rfl rfl rfl rfl) σ) (pa_cons (pv 0) pa_nil)) (pa_cons (pe_callS (ok_law_value (K := K) T) (hr.mono (by decide)) rfl T.law_value.g T.law_value.k T.law_value.b (fun σ => passAt (takes_of rfl rfl rfl rfl) σ) (pa_cons (pe_callS (ok_law_cell_at (K := K) T) (hr.mono (by decide)) rfl T.law_cell_at.g T.law_cell_at.k T.law_cell_at.b (fun σ => passAt (takes_of rfl rfl rfl rfl) σ) (pa_cons (pv 0) (pa_cons pe_int pa_nil))) (pa_cons pe_int pa_nil))) pa_nil)) rfl)
  (pss_cons (ps_par (i := 3) (j := 4) rfl sc_law.nd rfl rfl (by decide) rfl rfl (pa_cons (pe_callS (ok_law_good (K := K) T) (hr.mono (by decide)) rfl T.law_good.g T.law_good.k T.law_good.b (fun σ => passAt (takes_of rfl rfl rfl rfl) σ) (pa_cons (pv 0) (pa_cons pe_int (pa_cons pe_int (pa_cons (pv 1) pa_nil))))) (pa_cons (pe_callS (ok_law_drawn (K := K) T) (hr.mono (by decide)) rfl T.law_drawn.g T.law_drawn.k T.law_drawn.b (fun σ => passAt (takes_of rfl rfl rfl rfl) σ) (pa_cons (pv 0) (pa_cons pe_int (pa_cons pe_int (pa_cons (pv 1) pa_nil))))) pa_nil)) rfl)
  (pss_cons (ps_set (i := 5) sc_law.nd rfl (by first | exact Or.inl rfl | exact Or.inr rfl) (pe_op op_mod (pv 2) (pe_op (G.k_addU (K := K)) (pe_callB (G.k_lenU (K := K)) (by rfl) T.n_len (by decide +kernel) (pa_cons (pv 3) pa_nil)) pe_int)))
  (pss_cons (ps_set (i := 6) sc_law.nd rfl (by first | exact Or.inl rfl | exact Or.inr rfl) (pe_lst (pa_cons (pv 3) (pa_cons (pv 4) (pa_cons (pe_slice (G.k_slU (K := K)) (pv 3) (po_some pe_int) po_none) (pa_cons (pe_op (G.k_addU (K := K)) (pe_slice (G.k_slU (K := K)) (pv 3) po_none (po_some (pv 5))) (pe_slice (G.k_slU (K := K)) (pv 3) (po_some (pe_op (G.k_addU (K := K)) (pv 5) pe_int)) po_none)) (pa_cons (pe_op (G.k_addU (K := K)) (pe_op (G.k_addU (K := K)) (pe_slice (G.k_slU (K := K)) (pv 3) po_none (po_some (pv 5))) (pe_slice (G.k_slU (K := K)) (pv 3) (po_some (pv 5)) (po_some (pe_op (G.k_addU (K := K)) (pv 5) pe_int)))) (pe_slice (G.k_slU (K := K)) (pv 3) (po_some (pv 5)) po_none)) (pa_cons (pe_lst pa_nil) pa_nil))))))))
  (pss_cons (ps_for (passes_of rfl) rfl (pi_range3 rfl T.n_range (pa_cons pe_int (pa_cons (pe_callB (G.k_lenU (K := K)) (by rfl) T.n_len (by decide +kernel) (pa_cons (pv 3) pa_nil)) (pa_cons (pe_op (G.k_addU (K := K)) pe_int (pe_op op_fdivW (pe_callB (G.k_lenU (K := K)) (by rfl) T.n_len (by decide +kernel) (pa_cons (pv 3) pa_nil)) pe_int)) pa_nil)))) (pg_name (i := 7) sc_law.nd rfl (by first | exact Or.inl rfl | exact Or.inr rfl))
  (pss_one (ps_expr (G.k_bm (K := K) (pe_bm PySem.F.plainAttrs_list PySem.F.slot_list_append PySem.F.type_list_append mt_append (pv 6) (pa_cons (pe_op (G.k_addU (K := K)) (pe_op (G.k_addU (K := K)) (pe_slice (G.k_slU (K := K)) (pv 3) po_none (po_some (pv 7))) (pe_lst (pa_cons (pe_callS (ok_law_bent (K := K) T) (hr.mono (by decide)) rfl T.law_bent.g T.law_bent.k T.law_bent.b (fun σ => passAt (takes_of rfl rfl rfl rfl) σ) (pa_cons (pe_ix (G.k_ixU (K := K) (hu_of hr)) (pv 3) (pv 7) (fun _ _ => rfl)) (pa_cons (pe_op (G.k_addU (K := K)) (pe_op op_fdivW (pv 2) pe_int) (pv 7)) pa_nil))) pa_nil))) (pe_slice (G.k_slU (K := K)) (pv 3) (po_some (pe_op (G.k_addU (K := K)) (pv 7) pe_int)) po_none)) pa_nil))))))
  (pss_cons (ps_if (pt_cmpR (G.k_neU (K := K) hr) (pv 3) (pe_lst pa_nil) (nomark _)) (pss_one (ps_expr (G.k_bm (K := K) (pe_bm PySem.F.plainAttrs_list PySem.F.slot_list_append PySem.F.type_list_append mt_append (pv 6) (pa_cons (pe_op (G.k_addU (K := K)) (pe_slice (G.k_slU (K := K)) (pv 3) po_none (po_some (pe_un un_neg pe_int))) (pe_lst (pa_cons (pe_callS (ok_law_bent (K := K) T) (hr.mono (by decide)) rfl T.law_bent.g T.law_bent.k T.law_bent.b (fun σ => passAt (takes_of rfl rfl rfl rfl) σ) (pa_cons (pe_ix (G.k_ixU (K := K) (hu_of hr)) (pv 3) (pe_un un_neg pe_int) (fun _ _ => rfl)) (pa_cons (pe_op op_fdivW (pv 2) pe_int) pa_nil))) pa_nil))) pa_nil))))) pss_nil)
  (pss_cons (ps_for (passes_of rfl) rfl (G.k_seq (K := K) (pv 6)) (pg_name (i := 8) sc_law.nd rfl (by first | exact Or.inl rfl | exact Or.inr rfl))
  (pss_one (ps_if (pt_not (pt_val (pe_callS (ok_law_right (K := K) T) (hr.mono (by decide)) rfl T.law_right.g T.law_right.k T.law_right.b (fun σ => passAt (takes_of rfl rfl rfl rfl) σ) (pa_cons (pv 1) (pa_cons (pv 8) (pa_cons (pe_lst (pa_cons (pe_tup (pa_cons (pv 1) (pa_cons (pv 3) pa_nil))) (pa_cons (pe_tup (pa_cons (pe_op (G.k_addU (K := K)) pe_int (pe_op op_mod (pv 1) pe_int)) (pa_cons (pv 8) pa_nil))) pa_nil))) pa_nil)))))) (pss_one (ps_ret pe_bl)) pss_nil)))
  (pss_cons (ps_par (i := 9) (j := 10) rfl sc_law.nd rfl rfl (by decide) rfl rfl (pa_cons (pe_lst pa_nil) (pa_cons (pe_tup (pa_cons pe_str (pa_cons pe_int (pa_cons pe_str (pa_cons pe_int (pa_cons pe_int pa_nil)))))) pa_nil)) rfl)
  (pss_cons (ps_for (passes_of rfl) rfl (pi_range1 rfl T.n_range (pa_cons pe_int pa_nil)) (pg_name (i := 5) sc_law.nd rfl (by first | exact Or.inl rfl | exact Or.inr rfl))
  (pss_one (ps_expr (G.k_bm (K := K) (pe_bm PySem.F.plainAttrs_list PySem.F.slot_list_extend PySem.F.type_list_extend mt_extend (pv 9) (pa_cons (pe_ifExp (pt_cmpR (G.k_eqU (K := K) hr) (pe_op op_mod (pv 5) pe_int) pe_int (nomark _)) (pe_lst (pa_cons (pv 10) (pa_cons (pe_tup (pa_cons pe_str (pa_cons pe_int (pa_cons (pv 5) pa_nil)))) pa_nil))) (pe_lst (pa_cons (pv 10) pa_nil))) pa_nil))))))
  (pss_cons (ps_set (i := 11) sc_law.nd rfl (by first | exact Or.inl rfl | exact Or.inr rfl) (pe_op (G.k_addU (K := K)) (pe_lst (pa_cons (pv 10) pa_nil)) (pe_lc (own := [("_law_at", 5)]) (g := (gName 5)) (tt := tYes) rfl sc_law.nd (pi_range1 rfl T.n_range (pa_cons pe_int pa_nil)) (blkOk_by (own := [("_law_at", 5)]) (N := ["_law_script", "_law_people_here", "_law_value_here", "_law_deeds", "_law_drawn_here", "_law_at", "_law_tales", "_law_spot", "_law_some", "_law_nine", "_law_wish", "_law_full", "_law_found"]) (sc := defScope s_law) (by decide +kernel)) (fun _ _ _ _ _ => (pg_name (i := 5) sc_law.nd rfl (by first | exact Or.inl rfl | exact Or.inr rfl))) (fun _ _ _ _ _ => pts_nil) (fun _ _ _ _ _ => (pe_tup (pa_cons pe_str (pa_cons pe_int (pa_cons pe_int (pa_cons (pe_op (G.k_addU (K := K)) pe_int (pe_op op_mod (pv 5) pe_int)) pa_nil)))))))))
  (pss_cons (ps_for (passes_of rfl) rfl (G.k_tup (K := K) (pe_tup (pa_cons (pv 9) (pa_cons (pe_op (G.k_addU (K := K)) (pv 9) (pe_lst (pa_cons (pv 10) pa_nil))) (pa_cons (pe_op (G.k_addU (K := K)) (pv 11) (pe_lst (pa_cons (pe_tup (pa_cons pe_str (pa_cons pe_int (pa_cons pe_int pa_nil)))) pa_nil))) (pa_cons (pe_op (G.k_addU (K := K)) (pv 11) (pe_lst (pa_cons (pe_tup (pa_cons pe_str (pa_cons pe_int (pa_cons pe_int pa_nil)))) pa_nil))) (pa_cons (pe_op (G.k_addU (K := K)) (pv 11) (pe_lst (pa_cons (pe_tup (pa_cons pe_str (pa_cons pe_int (pa_cons pe_int (pa_cons pe_int pa_nil))))) pa_nil))) pa_nil))))))) (pg_name (i := 8) sc_law.nd rfl (by first | exact Or.inl rfl | exact Or.inr rfl))
  (pss_one (ps_if (pt_not (pt_val (pe_callS (ok_law_right (K := K) T) (hr.mono (by decide)) rfl T.law_right.g T.law_right.k T.law_right.b (fun σ => passAt (takes_of rfl rfl rfl rfl) σ) (pa_cons pe_int (pa_cons (pv 8) (pa_cons (pe_lst (pa_cons (pe_tup (pa_cons pe_int (pa_cons (pe_slice (G.k_slU (K := K)) (pv 8) (po_some pe_int) po_none) pa_nil))) pa_nil)) pa_nil)))))) (pss_one (ps_ret pe_bl)) pss_nil)))
  (pss_cons (ps_if (PW.pt (pw_or (pt_not (pt_val (pe_callB (G.k_isi (K := K)) (by rfl) T.n_isinstance (by decide +kernel) (pa_cons (pe_callS (ok_told (K := K) T) (hr.mono (by decide)) rfl T.told.g T.told.k T.told.b (fun σ => passAt (takes_of rfl rfl rfl rfl) σ) (pa_cons pe_int (pa_cons (pe_op (G.k_addU (K := K)) (pv 9) (pe_lst (pa_cons (pv 10) pa_nil))) pa_nil))) (pa_cons (pe_glob (v := .ref a.c_Halt) rfl T.c_Halt rfl) pa_nil))))) (pw_or1 (pt_cmpR (G.k_neU (K := K) hr) (G.k_fld (K := K) (pe_callS (ok_told (K := K) T) (hr.mono (by decide)) rfl T.told.g T.told.k T.told.b (fun σ => passAt (takes_of rfl rfl rfl rfl) σ) (pa_cons pe_int (pa_cons (pe_op (G.k_addU (K := K)) (pv 11) (pe_lst (pa_cons (pe_tup (pa_cons pe_str (pa_cons pe_int (pa_cons pe_int pa_nil)))) pa_nil))) pa_nil))) rfl) pe_int (nomark _))))) (pss_one (ps_ret pe_bl)) pss_nil)
  (pss_cons (ps_if (PW.pt (pw_or (pt_cmpR (G.k_neU (K := K) hr) (G.k_fld (K := K) (pe_callS (ok_told (K := K) T) (hr.mono (by decide)) rfl T.told.g T.told.k T.told.b (fun σ => passAt (takes_of rfl rfl rfl rfl) σ) (pa_cons pe_int (pa_cons (pe_lst (pa_cons (pe_tup (pa_cons pe_str (pa_cons pe_int (pa_cons pe_str (pa_cons pe_int (pa_cons pe_int pa_nil)))))) pa_nil)) pa_nil))) rfl) pe_int (nomark _)) (pw_or1 (pt_cmpR (G.k_neU (K := K) hr) (G.k_fld (K := K) (pe_callS (ok_told (K := K) T) (hr.mono (by decide)) rfl T.told.g T.told.k T.told.b (fun σ => passAt (takes_of rfl rfl rfl rfl) σ) (pa_cons pe_int (pa_cons (pe_lst (pa_cons (pv 10) (pa_cons (pe_tup (pa_cons pe_str (pa_cons pe_int (pa_cons pe_str (pa_cons pe_int (pa_cons pe_int pa_nil)))))) pa_nil))) pa_nil))) rfl) pe_int (nomark _))))) (pss_one (ps_ret pe_bl)) pss_nil)
  (pss_cons (ps_set (i := 12) sc_law.nd rfl (by first | exact Or.inl rfl | exact Or.inr rfl) (pe_callS (ok_told (K := K) T) (hr.mono (by decide)) rfl T.told.g T.told.k T.told.b (fun σ => passAt (takes_of rfl rfl rfl rfl) σ) (pa_cons pe_int (pa_cons (pe_lst (pa_cons (pe_tup (pa_cons pe_str (pa_cons pe_int (pa_cons pe_str (pa_cons pe_int (pa_cons pe_int pa_nil)))))) (pa_cons (pe_tup (pa_cons pe_str (pa_cons pe_int (pa_cons pe_int (pa_cons pe_int pa_nil))))) (pa_cons (pe_tup (pa_cons pe_str (pa_cons pe_int (pa_cons pe_int (pa_cons pe_int pa_nil))))) pa_nil)))) pa_nil))))
  (pss_cons (ps_if (PW.pt (pw_or (pt_not (pt_val (pe_callB (G.k_isi (K := K)) (by rfl) T.n_isinstance (by decide +kernel) (pa_cons (pv 12) (pa_cons (pe_glob (v := .ref a.c_Halt) rfl T.c_Halt rfl) pa_nil))))) (pw_or1 (pt_cmpR (G.k_neU (K := K) hr) (G.k_fld (K := K) (pv 12) rfl) pe_int (nomark _))))) (pss_one (ps_ret pe_bl)) pss_nil)
  (pss_cons (ps_set (i := 12) sc_law.nd rfl (by first | exact Or.inl rfl | exact Or.inr rfl) (pe_callS (ok_told (K := K) T) (hr.mono (by decide)) rfl T.told.g T.told.k T.told.b (fun σ => passAt (takes_of rfl rfl rfl rfl) σ) (pa_cons pe_int (pa_cons (pe_lst (pa_cons (pe_tup (pa_cons pe_str (pa_cons pe_int (pa_cons pe_str (pa_cons pe_int (pa_cons pe_int pa_nil)))))) (pa_cons (pe_tup (pa_cons pe_str (pa_cons pe_int (pa_cons pe_int (pa_cons pe_int pa_nil))))) (pa_cons (pe_tup (pa_cons pe_str (pa_cons pe_int (pa_cons pe_int pa_nil)))) (pa_cons (pe_tup (pa_cons pe_str (pa_cons pe_int (pa_cons pe_int pa_nil)))) pa_nil))))) pa_nil))))
  (pss_one (ps_ret (pe_and (pe_callB (G.k_isi (K := K)) (by rfl) T.n_isinstance (by decide +kernel) (pa_cons (pv 12) (pa_cons (pe_glob (v := .ref a.c_Done) rfl T.c_Done rfl) pa_nil))) (pe_one (pe_cmpR (G.k_eqU (K := K) hr) (G.k_fld (K := K) (pv 12) rfl) (pe_lst (pa_cons pe_int (pa_cons pe_int (pa_cons (pe_tup (pa_cons pe_int (pa_cons pe_int pa_nil))) (pa_cons pe_non pa_nil))))) (nomark _))))))))))))))))))))))), ?_⟩
    walk_at "go"
    refine r_slL o (o.sqL hs) fun S H1 o1 => ?_
    rw [cutV_map] at o1
    obtain ⟨D1, f1, s1, e1⟩ := o1.fz
    have hS := SqL.of (K := K) (e1 _ _ (.head _))
    have hn1 : ∀ z ∈ cutG ns none (some 63), z.natAbs < 2 ^ b := fun z hz => hn z (cutG_mem hz)
    have hl1 : (cutG ns none (some 63)).length ≤ 1000 := Nat.le_trans cutG_len hl
    clear o o1
    walk_at "go"
    refine ⟨D1, [], b, S, _, rfl, f1, hS, ⟨hb.1, by omega⟩, hn1, fun H2 pe f2 p1 p2 => ?_⟩
    clear f1
    walk_at "go"
    refine ⟨b, S, _, 1, rfl, by decide, f2.sqL hS, hn1, fun m hm => ?_⟩
    walk_at "go"
    refine ⟨D1, [], b, m, 8, rfl, f2, ⟨hb.1, by omega⟩, hm, by decide, fun H3 va f3 hva => ?_⟩
    clear f2
    walk_at "go"
    refine ⟨D1, [], b, S, _, 0, 28, pe, rfl, f3, hS, ⟨hb.1, by omega⟩, hn1, ⟨p1, p2⟩, hl1, fun H3 D3 L1 ds1 dds1 o3 s3 d3 l3 c3 => ?_⟩
    obtain ⟨D4, f4, s4, e4⟩ := o3.fz
    clear f3 o3
    have hlen : ∀ {ns : List Int}, (cutG ns (some 0) (some 28)).length ≤ 28 := fun {ns} => cutG_le (by decide) (by decide)
    have x1 : RL D4 L1 ds1 dds1 := ⟨e4 _ _ (.head _), (d3.mono s4).rows⟩
    have k1 : OKs dds1 := fun d hd => good_okRow (d3.good d hd)
    have l1 : dds1.length ≤ 28 := Nat.le_trans l3 hlen
    clear d3 l3 e4 c3
    walk_at "go"
    refine ⟨D4, [], b, S, _, 0, 28, pe, rfl, f4, (s3.trans s4).seq hS, ⟨hb.1, by omega⟩, hn1, ⟨p1, p2⟩, hl1, fun H5 D5 L2 ds2 dds2 o5 s5 d5 l5 => ?_⟩
    obtain ⟨D6, f6, s6, e6⟩ := o5.fz
    clear f4 o5
    have x2 : RL D6 L2 ds2 dds2 := ⟨e6 _ _ (.head _), (d5.mono s6).rows⟩
    have k2 : OKs dds2 := fun d hd => good_okRow (d5.good d hd)
    have l2 : dds2.length ≤ 28 := Nat.le_trans l5 hlen
    have x1 := x1.mono (s5.trans s6)
    clear d5 l5 e6 s1 e1 s3 s4 s5 s6 hS
    walk_at "go"
    have m1 : ((ds1.map V.ref).length : Int) = (dds1.length : Int) := by rw [List.length_map, x1.len]
    refine r_len (SqL.of (f6.dat x1.1)) ?_
    walk_at "go"
    rw [m1]
    refine r_I (show (0 : Int) < _ by omega) ?_
    have a0 : 0 ≤ va % ((dds1.length : Int) + 1) := Int.emod_nonneg _ (by omega)
    have a1 : va % ((dds1.length : Int) + 1) < (dds1.length : Int) + 1 := Int.emod_lt_of_pos _ (by omega)
    generalize va % ((dds1.length : Int) + 1) = at0 at a0 a1 ⊢
    walk_at "go"
    refine r_tsl f6 x1 fun q1 H7 D7 f7 s7 y1 => ?_
    clear f6
    have x1 := x1.mono s7
    have x2 := x2.mono s7
    walk_at "go"
    refine r_tsl f7 x1 fun q2 H8 D8 f8 s8 y2 => ?_
    clear f7
    have x1 := x1.mono s8
    walk_at "go"
    refine r_tsl f8 x1 fun q3 H9 D9 f9 s9 y3 => ?_
    clear f8
    have x1 := x1.mono s9
    walk_at "go"
    refine r_tadd f9 (y2.mono s9) y3 (by rw [cut_hi a0, cut_lo (by omega)]; omega) fun q4 H10 D10 f10 s10 y4 => ?_
    clear f9
    have x1 := x1.mono s10
    walk_at "go"
    refine r_tsl f10 x1 fun q5 H11 D11 f11 s11 y5 => ?_
    clear f10
    have x1 := x1.mono s11
    walk_at "go"
    refine r_tsl f11 x1 fun q6 H12 D12 f12 s12 y6 => ?_
    clear f11
    have x1 := x1.mono s12
    walk_at "go"
    have hm1 : (cutG dds1 (some at0) (some (at0 + 1))).length ≤ 1 := Nat.le_trans (cutG_le (by omega) (by omega)) (by omega)
    refine r_tadd f12 (y5.mono s12) y6 (by rw [cut_hi a0]; omega) fun q7 H13 D13 f13 s13 y7 => ?_
    clear f12
    have x1 := x1.mono s13
    walk_at "go"
    refine r_tsl f13 x1 fun q8 H14 D14 f14 s14 y8 => ?_
    clear f13
    walk_at "go"
    have l9 : (cutG dds1 none (some at0) ++ cutG dds1 (some at0) (some (at0 + 1)) ++ cutG dds1 (some at0) none).length ≤ 29 := by
      rw [List.length_append, List.length_append, cut_hi a0, cut_lo a0]
      omega
    refine r_tadd f14 (y7.mono s14) y8 (by rw [List.length_append] at l9; omega) fun q9 H15 D15 f15 s15 y9 => ?_
    clear f14
    have x1 := x1.mono (s14.trans s15)
    walk_at "go"
    rename_i q0 H16 o16 LT H17 o17
    obtain ⟨D17, f17, s17, e17⟩ := okFrzN [[(q0, .lst [])]] (R := [[(LT, .lst [.ref L1, .ref L2, .ref q1, .ref q4, .ref q9, .ref q0])]]) (o17.sel (by walk_at "sel"))
    clear f15 o16 o17
    have x1 := x1.mono s17
    have tls : ∀ x ∈ [L1, L2, q1, q4, q9, q0], TL D17 30 x := by
      have t1 : Same D7 D17 := ((((((((s8.trans s9).trans s10).trans s11).trans s12).trans s13).trans s14).trans s15).trans s17)
      have t2 : Same D10 D17 := ((((((s11.trans s12).trans s13).trans s14).trans s15).trans s17))
      intro x hx
      simp only [List.mem_cons, List.not_mem_nil, or_false] at hx
      rcases hx with rfl | rfl | rfl | rfl | rfl | rfl
      · exact .of x1 k1 (by omega)
      · exact .of (x2.mono t1) k2 (by omega)
      · exact .of (y1.mono t1) k1.cut (by have := cutG_len (ns := dds1) (lo := some 1) (hi := none); omega)
      · exact .of (y4.mono t2) (k1.cut.app k1.cut) (by rw [List.length_append, cut_hi a0, cut_lo (by omega)]; omega)
      · exact .of (y9.mono s17) ((k1.cut.app k1.cut).app k1.cut) (by omega)
      · exact .of (ds := []) ⟨e17 _ (.head _) _ (.head _), .nil⟩ .nil (by decide)
    clear e17 s7 s8 s9 s10 s11 s12 s13 s14 s15 s17 x2 y1 y2 y3 y4 y5 y6 y7 y8 y9 hm1 l9
    walk_at "go"
    refine i_rng3 ?_
    have hL := x1.1
    walk_at "go"
    rw [m1]
    refine r_I (wide_div (b := 30) (by decide) (by decide) (by decide) (by decide)) ?_
    walk_at "go"
    obtain ⟨n, hn28, hrg, hsp⟩ := step_rg (l := dds1.length) l1
    refine ⟨_, _, _, n, rfl, hrg, ?_⟩
    refine for_it walk_rangeC (fun i σ H' => ∃ v7 D' Ls, σ = [some (.ref S), some (.int pe), some (.int va), some (.ref L1), some (.ref L2), some (.int at0), some (.ref LT), v7, none, none, none, none, none] ∧ Ok H' D' [[(LT, .lst (Ls.map V.ref))]] ∧ Same D17 D' ∧ (∀ x ∈ Ls, TL D' 30 x) ∧ Ls.length ≤ 6 + i) ⟨_, _, [L1, L2, q1, q4, q9, q0], rfl, f17, Same.refl _, tls, Nat.le_refl 6⟩ ?_ ?_ ?_
    · intros
      trivial
    · rintro i y σ H' H'' hi ⟨v7, D', Ls, rfl, o', s', ht, hLs⟩ ⟨rfl, ey⟩
      obtain ⟨b1, b2⟩ := hsp i hi
      have ey : y = .int (0 + (i : Int) * (1 + (dds1.length : Int) / 6)) := ey
      generalize 0 + (i : Int) * (1 + (dds1.length : Int) / 6) = sp at b1 b2 ey
      subst ey
      have hsz : (Ls.map V.ref).length < sizeLine := by rw [List.length_map, sizeLine_eq]; omega
      have x1 := x1.mono s'
      clear f17
      refine r_name ?_
      refine r_drop (r_bm (r_var rfl (r_tyL (SqL.of (o'.at1 (.head _))) (r_cons ?_))))
      walk_at "go"
      refine r_tsl o' x1 fun p1 H9 D9 f9 s9 y1 => ?_
      clear o'
      have x1 := x1.mono s9
      walk_at "go"
      have hsl : sp.toNat < ds1.length := by rw [x1.len]; omega
      obtain ⟨dd, edd, hdd⟩ := paired_get x1.2 hsl
      refine r_ixL (SqL.of (f9.dat x1.1)) (atI_ref b1 hsl) ?_
      walk_at "go"
      refine r_I (wide_div (b := 30) (by decide) (by decide) (by decide) (by decide)) ?_
      walk_at "go"
      refine ⟨D9, _, _, dd, _, rfl, f9, hdd, k1 dd (List.mem_of_getElem? edd), fun H10 D10 t e f10 s10 ht10 he => ?_⟩
      clear f9
      have x1 := x1.mono s10
      walk_at "go"
      rename_i u1 H11 o11
      clear f10
      obtain ⟨D11, f11, s11, y11⟩ := r_tone o11 ht10
      clear o11
      have x1 := x1.mono s11
      refine r_tadd f11 (y1.mono (s10.trans s11)) y11 (by have := cutG_len (ns := dds1) (lo := none) (hi := some sp); show _ + 1 ≤ _; omega) fun p2 H12 D12 f12 s12 y12 => ?_
      clear f11
      have x1 := x1.mono s12
      walk_at "go"
      refine r_tsl f12 x1 fun p3 H13 D13 f13 s13 y13 => ?_
      clear f12
      walk_at "go"
      have l14 : (cutG dds1 none (some sp) ++ [e] ++ cutG dds1 (some (sp + 1)) none).length ≤ 30 := by
        rw [List.length_append, List.length_append, cut_hi b1, cut_lo (by omega)]
        show _ + 1 + _ ≤ _
        omega
      refine r_tadd f13 (y12.mono s13) y13 (by rw [List.length_append] at l14; omega) fun p4 H14 D14 f14 s14 y14 => ?_
      clear f13
      walk_at "go"
      rename_i H15 o15
      have sE := ((((s9.trans s10).trans s11).trans s12).trans s13).trans s14
      refine ⟨_, D14, Ls ++ [p4], rfl, by rw [List.map_append]; exact o15, s'.trans sE, fun x hx => ?_, by rw [List.length_append]; show _ + 1 ≤ _; omega⟩
      rcases List.mem_append.mp hx with hx | hx
      · exact (ht x hx).mono sE
      · rw [List.mem_singleton.mp hx]
        exact .of y14 ((k1.cut.app (.one he)).app k1.cut) l14
    · rintro σ H' ⟨v7, D', Ls, rfl, o', s', ht, hLs⟩
      have x1 := x1.mono s'
      clear f17
      repeat (first | (with_reducible refine r_next ?_) | (with_reducible refine r_seq ?_))
      refine r_ab (tb := tIfS _ _ _) (fun H' => ∃ (D' : Hp) (Ls : List Addr), Ok H' D' [[(LT, .lst (Ls.map V.ref))]] ∧ Same D17 D' ∧ (∀ x ∈ Ls, TL D' 30 x) ∧ Ls.length ≤ 40) (fun N hN => ?_) ?_
      · walk_at "go"
        rename_i w1 H18 o18
        clear o'
        have sh := shaped_rowsK k1
        refine r_neD (e := .list []) (dp_rows2 o18.sub (o18.dat x1.1) x1.2) (.lst (SqL.of (o18.at1 (.head _))) .nil) sh rfl ?_
        walk_at "go"
        have o18 := o18.drop
        refine r_ite (fun h => ?_) (fun h => ?_)
        · have hpos : 0 < dds1.length := by
            cases dds1 with
            | nil => exact absurd h (by decide)
            | cons => exact Nat.succ_pos _
          have hsz : (Ls.map V.ref).length < sizeLine := by rw [List.length_map, sizeLine_eq]; omega
          refine r_drop (r_bm (r_var rfl (r_tyL (SqL.of (o18.at1 (.head _))) (r_cons ?_))))
          walk_at "go"
          refine r_tsl o18 x1 fun p1 H9 D9 f9 s9 y1 => ?_
          clear o18
          have x1 := x1.mono s9
          walk_at "go"
          have hsl : ds1.length - 1 < ds1.length := by rw [x1.len]; omega
          obtain ⟨dd, edd, hdd⟩ := paired_get x1.2 hsl
          refine r_ixL (SqL.of (f9.dat x1.1)) (atI_last hsl) ?_
          walk_at "go"
          refine r_I (wide_div (b := 30) (by decide) (by decide) (by decide) (by decide)) ?_
          walk_at "go"
          refine ⟨D9, _, _, dd, _, rfl, f9, hdd, k1 dd (List.mem_of_getElem? edd), fun H10 D10 t e f10 s10 ht10 he => ?_⟩
          clear f9
          have x1 := x1.mono s10
          walk_at "go"
          rename_i u1 H11 o11
          clear f10
          obtain ⟨D11, f11, s11, y11⟩ := r_tone o11 ht10
          clear o11
          have hcl := cutG_len (ns := dds1) (lo := none) (hi := some (-1))
          refine r_tadd f11 (y1.mono (s10.trans s11)) y11 (by show _ + 1 ≤ _; omega) fun p2 H12 D12 f12 s12 y12 => ?_
          clear f11
          walk_at "go"
          rename_i H15 o15
          have sE := ((s9.trans s10).trans s11).trans s12
          refine hN _ ⟨D12, Ls ++ [p2], by rw [List.map_append]; exact o15, s'.trans sE, fun x hx => ?_, by rw [List.length_append]; show _ + 1 ≤ _; omega⟩
          rcases List.mem_append.mp hx with hx | hx
          · exact (ht x hx).mono sE
          · rw [List.mem_singleton.mp hx]
            exact .of y12 (k1.cut.app (.one he)) (by rw [List.length_append]; show _ + 1 ≤ _; omega)
        · walk_at "go"
          exact hN _ ⟨D', Ls, o18, s', ht, by omega⟩
      · clear o' ht hLs s' x1 D' Ls H'
        rintro H' ⟨D', Ls, o', s', ht, hLs⟩
        have x1 := x1.mono s'
        obtain ⟨D18, f18, s18, e18⟩ := o'.fz
        have hLT := e18 _ _ (.head _)
        have x1 := x1.mono s18
        have ht : ∀ x ∈ Ls, TL D18 30 x := fun x hx => (ht x hx).mono s18
        clear o' e18
        repeat (first | (with_reducible refine r_next ?_) | (with_reducible refine r_seq ?_))
        refine r_for (i_seq (r_var rfl (r_iseqL (SqL.of (f18.dat hLT)) ?_)))
        refine for_it (walk_list (xs := Ls.map V.ref)) (fun i σ H' => ∃ v8 D', σ = [some (.ref S), some (.int pe), some (.int va), some (.ref L1), some (.ref L2), some (.int at0), some (.ref LT), v7, v8, none, none, none, none] ∧ Ok H' D' [] ∧ Same D18 D') ⟨_, D18, rfl, f18, Same.refl _⟩ ?_ ?_ ?_
        · rintro i σ H' _ ⟨v8, D', rfl, o', sE⟩
          exact SqL.of (o'.dat (sE _ _ hLT))
        · rintro i y σ H' H'' hi ⟨v8, D', rfl, o', sE⟩ ⟨rfl, ey⟩
          have ey2 : (Ls.map V.ref)[i]? = some y := ey
          rw [List.getElem?_map] at ey2
          obtain ⟨t, et, rfl⟩ := Option.map_eq_some_iff.mp ey2
          obtain ⟨es, des, hes, kes, les⟩ := ht t (List.mem_of_getElem? et)
          clear f18
          walk_at "go"
          refine r_I (show (0 : Int) < 5 by decide) ?_
          walk_at "go"
          rename_i t1 Ha oa t2 Hb ob t3 Hc oc
          obtain ⟨D19, f19, s19, e19⟩ := okFrzN [[(t3, .lst [.ref t1, .ref t2])], [(t2, .tup [.int (1 + pe % 5), .ref t])], [(t1, .tup [.int pe, .ref L1])]] (R := []) oc
          clear o' oa ob oc
          have sF := sE.trans s19
          refine ⟨D19, [], t, t3, es, [t1, t2], des, pe, rfl, f19, ⟨p1, p2⟩, SqL.of (hes.1 |> sF _ _), hes.2.mono sF, kes, les, SqL.of (e19 _ (.head _) _ (.head _)), fun u hu => ?_, fun H20 D20 o20 s20 => ?_⟩
          · simp only [List.mem_cons, List.not_mem_nil, or_false] at hu
            rcases hu with rfl | rfl
            · exact ⟨pe, L1, ds1, dds1, e19 _ (.tail _ (.tail _ (.head _))) _ (.head _), ⟨p1, p2⟩, (x1.mono sF).1, (x1.mono sF).2, k1, by have := x1.len; omega⟩
            · exact ⟨1 + pe % 5, t, es, des, e19 _ (.tail _ (.head _)) _ (.head _), ⟨by omega, by omega⟩, (hes.mono sF).1, (hes.mono sF).2, kes, by have := hes.len; omega⟩
          · walk_at "go"
            exact ⟨_, D20, rfl, o20, sF.trans s20⟩
        · rintro σ H' ⟨v8, D', rfl, o', sE⟩
          clear f18
          walk_at "go"
          rename_i LN Ha oa tw Hb ob
          obtain ⟨D21, o21, s21, e21⟩ := okFrzN [[(tw, .tup w4.row)]] (R := [[(LN, .lst (([] : List Addr).map V.ref))]]) (ob.sel (by walk_at "sel"))
          have hw := e21 _ (.head _) _ (.head _)
          have hw : D21 tw = some (.tup w4.row) := hw
          clear o' oa ob e21
          walk_at "go"
          clear tls hL hrg hsp ht hLs x1 x2 s' s18 hLT sE
          refine r_irng1 (by omega) ?_
          refine for_it walk_range (fun i σ H' => ∃ v5 D' es, σ = [some (.ref S), some (.int pe), some (.int va), some (.ref L1), some (.ref L2), v5, some (.ref LT), v7, v8, some (.ref LN), some (.ref tw), none, none] ∧ Ok H' D' [[(LN, .lst (es.map V.ref))]] ∧ Same D21 D' ∧ RowsAt D' es (nineF i)) ⟨_, D21, [], rfl, o21, Same.refl _, .nil⟩ ?_ ?_ ?_
          · intros
            trivial
          · rintro i y σ H' H'' hi ⟨v5, D', es, rfl, o', sE, hes⟩ ⟨rfl, rfl⟩
            clear o21
            have hi8 : i < 8 := hi
            have hel : es.length ≤ 16 := by
              have e1 := Paired.length hes
              have e2 := nineF_len i
              omega
            refine r_name ?_
            refine r_drop (r_bm (r_var rfl (r_tyL (SqL.of (o'.at1 (.head _))) (r_cons ?_))))
            walk_at "go"
            refine r_I (show (0 : Int) < 3 by decide) ?_
            walk_at "go"
            refine r_ite (fun h => ?_) (fun h => ?_)
            · have h3 : (i : Int) % 3 = 0 := by
                have := of_decide_eq_true h
                have := V.int.inj this
                omega
              walk_at "go"
              rename_i t1 Ha oa t2 Hb ob
              obtain ⟨D22, o22, s22, e22⟩ := okFrzN [[(t2, .lst [.ref tw, .ref t1])], [(t1, .tup [.str "drop", .int 0, .int (0 + (i : Int))])]] (R := [[(LN, .lst (es.map V.ref))]]) ob
              clear o' oa ob
              refine r_ext o22 .here (o22.dat (e22 _ (.head _) _ (.head _))) (by rw [sizeLine_eq, List.length_map]; show _ + 2 ≤ _; omega) fun H23 o23 => ?_
              refine ⟨_, D22, es ++ [tw, t1], rfl, by rw [List.map_append]; exact o23, sE.trans s22, ?_⟩
              have e : nineF (i + 1) = nineF i ++ nineS i := rfl
              rw [e]
              refine paired_app (hes.mono s22) ?_
              unfold nineS
              rw [if_pos h3]
              refine .cons (s22 _ _ (sE _ _ hw)) (.cons ?_ .nil)
              have e2 := e22 _ (.tail _ (.head _)) _ (.head _)
              rw [Int.zero_add] at e2
              exact e2
            · have h3 : ¬ (i : Int) % 3 = 0 := fun z => by
                have := of_decide_eq_false h
                exact this (by rw [show (0 + (i : Int)) % 3 = 0 by omega])
              walk_at "go"
              rename_i t2 Hb ob
              obtain ⟨D22, o22, s22, e22⟩ := okFrzN [[(t2, .lst [.ref tw])]] (R := [[(LN, .lst (es.map V.ref))]]) ob
              clear o' ob
              refine r_ext o22 .here (o22.dat (e22 _ (.head _) _ (.head _))) (by rw [sizeLine_eq, List.length_map]; show _ + 1 ≤ _; omega) fun H23 o23 => ?_
              refine ⟨_, D22, es ++ [tw], rfl, by rw [List.map_append]; exact o23, sE.trans s22, ?_⟩
              have e : nineF (i + 1) = nineF i ++ nineS i := rfl
              rw [e]
              refine paired_app (hes.mono s22) ?_
              unfold nineS
              rw [if_neg h3]
              exact .cons (s22 _ _ (sE _ _ hw)) .nil
          · rintro σ H' ⟨v5, D', es, rfl, o', sE, hes⟩
            obtain ⟨D22, f22, s22, e22⟩ := o'.fz
            have n1 : RL D22 LN es (nineF 8) := ⟨e22 _ _ (.head _), hes.mono s22⟩
            have hw := (sE.trans s22) _ _ hw
            clear o21 o' e22
            walk_at "go"
            rename_i w1 Ha oa
            clear f22
            obtain ⟨D23, f23, s23, y23⟩ := r_tone oa hw
            clear oa
            have n1 := n1.mono s23
            have hw := s23 _ _ hw
            refine r_irng1 (by omega) ?_
            refine lcG walk_range f23 (fun i acc D' => ∃ fs : List Addr, acc = fs.map V.ref ∧ RowsAt D' fs (fullF i)) (by decide) ⟨[], rfl, .nil⟩ ?_ ?_ ?_ ?_
            · rintro i acc D' ⟨fs, rfl, hf⟩
              rw [List.length_map, Paired.length hf, fullF_len]
              exact Nat.le_refl i
            · intros
              trivial
            · rintro i x LL acc H' H'' D' Ny Nn hi o' s' ⟨fs, rfl, hf⟩ ⟨rfl, rfl⟩ kk _
              walk_at "g1"
              refine ⟨rfl, ?_⟩
              walk_at "go"
              refine r_I (show (0 : Int) < 3 by decide) ?_
              walk_at "go"
              rename_i t1 Ha oa
              obtain ⟨D24, o24, s24, e24⟩ := okFrzN [[(t1, .tup [.str "alter", .int 0, .int 0, .int (1 + (0 + (i : Int)) % 3)])]] (R := [[(LL, .lst (fs.map V.ref))]]) oa
              refine kk _ _ _ o24 s24 ⟨fs ++ [t1], by rw [List.map_append]; rfl, ?_⟩
              refine paired_app (hf.mono s24) (.cons ?_ .nil)
              have e2 := e24 _ (.head _) _ (.head _)
              rw [Int.zero_add] at e2
              exact e2
            · rintro LL acc H' D' o' s' ⟨fs, rfl, hf⟩
              obtain ⟨D24, f24, s24, e24⟩ := o'.fz
              have y24 : RL D24 LL fs (fullF 28) := ⟨e24 _ _ (.head _), hf.mono s24⟩
              have n1 := n1.mono (s'.trans s24)
              have hw := (s'.trans s24) _ _ hw
              clear f23 o' e24
              refine r_tadd f24 (y23.mono (s'.trans s24)) y24 (by rw [fullF_len]; decide) fun L11 H25 D25 f25 s25 z1 => ?_
              clear f24
              have n1 := n1.mono s25
              have hw := s25 _ _ hw
              walk_at "go"
              rename_i w2 Ha oa
              clear f25
              obtain ⟨D26, f26, s26, y26⟩ := r_tone oa hw
              clear oa
              refine r_tadd f26 (n1.mono s26) y26 (by have := nineF_len 8; show _ + 1 ≤ _; omega) fun M2 H27 D27 f27 s27 z2 => ?_
              clear f26
              have n1 := n1.mono (s26.trans s27)
              have z1 := z1.mono (s26.trans s27)
              have hw := (s26.trans s27) _ _ hw
              walk_at "go"
              rename_i t1 Ha oa w3 Hb ob
              clear f27 oa
              obtain ⟨D28, f28, s28, e28⟩ := okFrzN [[(w3, .lst [.ref t1])], [(t1, .tup [.str "drop", .int 0, .int 0])]] (R := []) ob
              clear ob
              have y28 : RL D28 w3 [t1] [.drop 0 0] := ⟨e28 _ (.head _) _ (.head _), .cons (e28 _ (.tail _ (.head _)) _ (.head _)) .nil⟩
              refine r_tadd f28 (z1.mono s28) y28 (by show _ + 1 ≤ _; rw [List.length_append, fullF_len]; decide) fun M3 H29 D29 f29 s29 z3 => ?_
              clear f28 e28
              have n1 := n1.mono (s28.trans s29)
              have z1 := z1.mono (s28.trans s29)
              have z2 := z2.mono (s28.trans s29)
              have hw := (s28.trans s29) _ _ hw
              walk_at "go"
              rename_i t2 Ha oa w4 Hb ob
              clear f29 oa
              obtain ⟨D30, f30, s30, e30⟩ := okFrzN [[(w4, .lst [.ref t2])], [(t2, .tup [.str "drop", .int 0, .int 1])]] (R := []) ob
              clear ob
              have y30 : RL D30 w4 [t2] [.drop 0 1] := ⟨e30 _ (.head _) _ (.head _), .cons (e30 _ (.tail _ (.head _)) _ (.head _)) .nil⟩
              refine r_tadd f30 (z1.mono s30) y30 (by show _ + 1 ≤ _; rw [List.length_append, fullF_len]; decide) fun M4 H31 D31 f31 s31 z4 => ?_
              clear f30 e30
              have n1 := n1.mono (s30.trans s31)
              have z1 := z1.mono (s30.trans s31)
              have z2 := z2.mono (s30.trans s31)
              have z3 := z3.mono (s30.trans s31)
              have hw := (s30.trans s31) _ _ hw
              walk_at "go"
              rename_i t3 Ha oa w5 Hb ob
              clear f31 oa
              obtain ⟨D32, f32, s32, e32⟩ := okFrzN [[(w5, .lst [.ref t3])], [(t3, .tup [.str "take", .int 0, .int 0, .int 1])]] (R := []) ob
              clear ob
              have y32 : RL D32 w5 [t3] [.take 0 0 1] := ⟨e32 _ (.head _) _ (.head _), .cons (e32 _ (.tail _ (.head _)) _ (.head _)) .nil⟩
              refine r_tadd f32 (z1.mono s32) y32 (by show _ + 1 ≤ _; rw [List.length_append, fullF_len]; decide) fun M5 H33 D33 f33 s33 z5 => ?_
              clear f32 e32
              have n1 := n1.mono (s32.trans s33)
              have z1 := z1.mono (s32.trans s33)
              have z2 := z2.mono (s32.trans s33)
              have z3 := z3.mono (s32.trans s33)
              have z4 := z4.mono (s32.trans s33)
              have hw := (s32.trans s33) _ _ hw
              walk_at "go"
              rename_i TT Ha oa
              clear f33
              obtain ⟨D34, f34, s34, e34⟩ := okFrzN [[(TT, .tup [.ref LN, .ref M2, .ref M3, .ref M4, .ref M5])]] (R := []) oa
              clear oa
              have hTT := e34 _ (.head _) _ (.head _)
              have hTT : D34 TT = some (.tup [.ref LN, .ref M2, .ref M3, .ref M4, .ref M5]) := hTT
              have n1 := n1.mono s34
              have z1 := z1.mono s34
              have hw := s34 _ _ hw
              have tt : ∀ x ∈ [LN, M2, M3, M4, M5], TL D34 30 x := by
                intro x hx
                simp only [List.mem_cons, List.not_mem_nil, or_false] at hx
                rcases hx with rfl | rfl | rfl | rfl | rfl
                · exact .of n1 (oks_of (pe := 2) (by decide +kernel)) (by decide +kernel)
                · exact .of (z2.mono s34) (oks_of (pe := 2) (by decide +kernel)) (by decide +kernel)
                · exact .of (z3.mono s34) (oks_of (pe := 2) (by decide +kernel)) (by decide +kernel)
                · exact .of (z4.mono s34) (oks_of (pe := 2) (by decide +kernel)) (by decide +kernel)
                · exact .of (z5.mono s34) (oks_of (pe := 2) (by decide +kernel)) (by decide +kernel)
              clear e34 y23 y24 y26 y28 y30 y32 z2 z3 z4 z5
              refine r_itupE (SqT.of (f34.dat hTT)) ?_
              refine for_it (walk_tup (xs := [LN, M2, M3, M4, M5].map V.ref)) (fun i σ H' => ∃ v8 D', σ = [some (.ref S), some (.int pe), some (.int va), some (.ref L1), some (.ref L2), v5, some (.ref LT), v7, v8, some (.ref LN), some (.ref tw), some (.ref L11), none] ∧ Ok H' D' [] ∧ Same D34 D') ⟨_, D34, rfl, f34, Same.refl _⟩ ?_ ?_ ?_
              · rintro i σ H' _ ⟨v8, D', rfl, o', sE⟩
                exact SqT.of (o'.dat (sE _ _ hTT))
              · rintro i y σ H' H'' hi ⟨v8, D', rfl, o', sE⟩ ⟨rfl, ey⟩
                have ey2 : ([LN, M2, M3, M4, M5].map V.ref)[i]? = some y := ey
                rw [List.getElem?_map] at ey2
                obtain ⟨t, et, rfl⟩ := Option.map_eq_some_iff.mp ey2
                obtain ⟨es2, des, hes2, kes, les⟩ := (tt t (List.mem_of_getElem? et)).mono sE
                clear f34
                walk_at "go"
                refine r_tsl o' hes2 fun q1 Ha Da fa sa ya => ?_
                clear o'
                walk_at "go"
                rename_i t1 Hb ob t2 Hc oc
                obtain ⟨Dd, fd, sd, ed⟩ := okFrzN [[(t2, .lst [.ref t1])], [(t1, .tup [.int 2, .ref q1])]] (R := []) oc
                clear fa ob oc
                have hes2 := hes2.mono (sa.trans sd)
                refine ⟨Dd, [], t, t2, es2, [t1], des, 1, rfl, fd, by decide, SqL.of hes2.1, hes2.2, kes, les, SqL.of (ed _ (.head _) _ (.head _)), fun u hu => ?_, fun H20 D20 o20 s20 => ?_⟩
                · rw [List.mem_singleton.mp hu]
                  exact ⟨2, q1, _, _, ed _ (.tail _ (.head _)) _ (.head _), by decide, (ya.mono sd).1, (ya.mono sd).2, kes.cut, by have := ya.len; have := cutG_len (ns := des) (lo := some 1) (hi := none); omega⟩
                · walk_at "go"
                  exact ⟨_, D20, rfl, o20, ((sE.trans sa).trans sd).trans s20⟩
              · rintro σ H' ⟨v8, D', rfl, o', sE⟩
                clear f34
                have n1 := n1.mono sE
                have z1 := z1.mono sE
                have hw := sE _ _ hw
                walk_at "go"
                rename_i w2 Ha oa
                clear o'
                obtain ⟨D35, f35, s35, y35⟩ := r_tone oa hw
                clear oa
                refine r_tadd f35 (n1.mono s35) y35 (by have := nineF_len 8; show _ + 1 ≤ _; omega) fun M6 H36 D36 f36 s36 z6 => ?_
                clear f35
                have z1 := z1.mono (s35.trans s36)
                have hw := (s35.trans s36) _ _ hw
                walk_at "go"
                refine u_told f36 (by decide) z6.fz (oks_of (pe := 2) (by decide +kernel)).short (by decide +kernel) (fun h => absurd h (by decide +kernel)) fun h H37 D37 x1 dx1 o37 s37 => ?_
                clear f36
                walk_at "go"
                refine isiO (o37.at1 (.head _)) T.cl_Halt T.o_Halt T.i_Halt_Halt ?_
                have o37 := o37.drop
                have z1 := z1.mono s37
                have hw := s37 _ _ hw
                walk_at "go"
                rename_i t1 Ha oa w3 Hb ob
                clear o37 oa
                obtain ⟨D38, f38, s38, e38⟩ := okFrzN [[(w3, .lst [.ref t1])], [(t1, .tup [.str "drop", .int 0, .int 1])]] (R := []) ob
                clear ob
                have y38 : RL D38 w3 [t1] [.drop 0 1] := ⟨e38 _ (.head _) _ (.head _), .cons (e38 _ (.tail _ (.head _)) _ (.head _)) .nil⟩
                refine r_tadd f38 (z1.mono s38) y38 (by show _ + 1 ≤ _; rw [List.length_append, fullF_len]; decide) fun M7 H39 D39 f39 s39 z7 => ?_
                clear f38
                have hw := (s38.trans s39) _ _ hw
                walk_at "go"
                have hU : (playF 1 0 [] ([PP.w4] ++ fullF 28 ++ [Deed.drop 0 1])).2.2 = 29 := by decide +kernel
                refine u_told f39 (by decide) z7.fz (oks_of (pe := 2) (by decide +kernel)).short (by decide +kernel) (fun h => absurd h (by decide +kernel)) fun h H40 D40 x2 dx2 o40 s40 => ?_
                rw [hU] at o40
                clear f39
                have hw := s40 _ _ hw
                walk_at "go"
                rename_i t2 Ha oa w4 Hb ob
                clear o40 oa
                obtain ⟨D41, f41, s41, e41⟩ := okFrzN [[(w4, .lst [.ref t2])], [(t2, .tup [.str "wish", .int 9, .str "abcde", .int 99, .int 0])]] (R := []) (ob.sel (by walk_at "sel"))
                clear ob
                have y41 : RL D41 w4 [t2] [.wish 9 "abcde" 99 0] := ⟨e41 _ (.head _) _ (.head _), .cons (e41 _ (.tail _ (.head _)) _ (.head _)) .nil⟩
                have hw := s41 _ _ hw
                have hU2 : (playF 1 0 [] [Deed.wish 9 "abcde" 99 0]).2.2 = 0 := by decide +kernel
                refine u_told f41 (by decide) y41.fz (fun x hx => by rw [List.mem_singleton.mp hx]; show (5 : Nat) ≤ 1000; decide) (by decide +kernel) (fun h => absurd h (by decide +kernel)) fun h H42 D42 x3 dx3 o42 s42 => ?_
                rw [hU2] at o42
                clear f41 e41
                have hw := s42 _ _ hw
                walk_at "go"
                rename_i t3 Ha oa w5 Hb ob
                clear o42 oa
                obtain ⟨D43, f43, s43, e43⟩ := okFrzN [[(w5, .lst [.ref tw, .ref t3])], [(t3, .tup [.str "wish", .int 4, .str "", .int 1, .int 1])]] (R := []) (ob.sel (by walk_at "sel"))
                clear ob
                have y43 : RL D43 w5 [tw, t3] [PP.w4, .wish 4 "" 1 1] := ⟨e43 _ (.head _) _ (.head _), .cons (s43 _ _ hw) (.cons (e43 _ (.tail _ (.head _)) _ (.head _)) .nil)⟩
                have hU3 : (playF 5 0 [] [PP.w4, Deed.wish 4 "" 1 1]).2.2 = 1 := by decide +kernel
                refine u_told f43 (by decide) y43.fz (fun x hx => ?_) (by decide +kernel) (fun h => absurd h (by decide +kernel)) fun h H44 D44 x4 dx4 o44 s44 => ?_
                · simp only [List.mem_cons, List.not_mem_nil, or_false] at hx
                  rcases hx with rfl | rfl
                  · show (4 : Nat) ≤ 1000
                    decide
                  · show (0 : Nat) ≤ 1000
                    decide
                rw [hU3] at o44
                clear f43 e43
                walk_at "go"
                rename_i t4 Ha oa t5 Hb ob t6 Hc oc w6 Hd od
                clear o44 oa ob oc
                obtain ⟨D45, f45, s45, e45⟩ := okFrzN [[(w6, .lst [.ref t4, .ref t5, .ref t6])], [(t6, .tup [.str "take", .int 1, .int 0, .int 1])], [(t5, .tup [.str "take", .int 1, .int 0, .int 1])], [(t4, .tup [.str "wish", .int 0, .str "a", .int 1, .int 1])]] (R := []) (od.sel (by walk_at "sel"))
                clear od
                have y45 : RL D45 w6 [t4, t5, t6] [.wish 0 "a" 1 1, .take 1 0 1, .take 1 0 1] := ⟨e45 _ (.head _) _ (.head _), .cons (e45 _ (.tail _ (.tail _ (.tail _ (.head _)))) _ (.head _)) (.cons (e45 _ (.tail _ (.tail _ (.head _))) _ (.head _)) (.cons (e45 _ (.tail _ (.head _)) _ (.head _)) .nil))⟩
                have hU4 : (playF 2 0 [] [Deed.wish 0 "a" 1 1, .take 1 0 1, .take 1 0 1]).2.2 = 2 := by decide +kernel
                refine u_told f45 (by decide) y45.fz (oks_of (pe := 2) (by decide +kernel)).short (by decide +kernel) (fun h => absurd h (by decide +kernel)) fun h H46 D46 x5 dx5 o46 s46 => ?_
                rw [hU4] at o46
                clear f45 e45
                walk_at "go"
                refine isiO (o46.at1 (.head _)) T.cl_Halt T.o_Halt T.i_Halt_Halt ?_
                walk_at "go"
                rename_i t7 Ha oa t8 Hb ob t9 Hc oc ta Hd od w7 He oe
                clear o46 oa ob oc od
                obtain ⟨D47, f47, s47, e47⟩ := okFrzN [[(w7, .lst [.ref t7, .ref t8, .ref t9, .ref ta])], [(ta, .tup [.str "drop", .int 0, .int 0])], [(t9, .tup [.str "back", .int 1, .int 0])], [(t8, .tup [.str "pledge", .int 1, .int 0, .int 1])], [(t7, .tup [.str "wish", .int 0, .str "a", .int 1, .int 1])]] (R := []) (oe.sel (by walk_at "sel"))
                clear oe
                have y47 : RL D47 w7 [t7, t8, t9, ta] [.wish 0 "a" 1 1, .pledge 1 0 1, .back 1 0, .drop 0 0] := ⟨e47 _ (.head _) _ (.head _), .cons (e47 _ (.tail _ (.tail _ (.tail _ (.tail _ (.head _))))) _ (.head _)) (.cons (e47 _ (.tail _ (.tail _ (.tail _ (.head _)))) _ (.head _)) (.cons (e47 _ (.tail _ (.tail _ (.head _))) _ (.head _)) (.cons (e47 _ (.tail _ (.head _)) _ (.head _)) .nil)))⟩
                have hU5 : (playF 2 0 [] [Deed.wish 0 "a" 1 1, .pledge 1 0 1, .back 1 0, .drop 0 0]).2.1 = [.int 0, .int 0, .two 0 1, .non] := by decide +kernel
                refine u_told f47 (by decide) y47.fz (oks_of (pe := 2) (by decide +kernel)).short (by decide +kernel) (fun h H48 D48 x6 dx6 L6 vs6 o48 s48 r48 => ?_) fun h => absurd h (by decide +kernel)
                rw [hU5] at r48
                clear f47 e47
                walk_at "go"
                refine isiO (o48.at1 (.head _)) T.cl_Done T.o_Done T.i_Done_Done ?_
                walk_at "go"
                rename_i tb Ha oa w8 Hb ob
                clear o48 oa
                have r48 := dp_ress (K := K) ob.sub r48
                refine r_eqD (d := ressD [.int 0, .int 0, .two 0 1, .non]) (e := ressD [.int 0, .int 0, .two 0 1, .non]) (.lst (SqL.of (ob.at1 (.tail _ (.tail _ (.tail _ (.head _)))))) r48) (.lst (SqL.of (ob.at1 (.head _))) (.cons (.int 0) (.cons (.int 0) (.cons (.tup (SqT.of (ob.at1 (.tail _ (.head _)))) (.cons (.int 0) (.cons (.int 1) .nil))) (.cons .non .nil))))) (shaped_ress _) (shaped_ress _) ?_
                rw [eqv_ress, decide_eq_true rfl]
                exact k _
end
end PP

namespace PP
open PySem PySem.Spec PyProof.Rows L2 G
theorem all_mk {P : Program} {w : World} {K : PySem.W.Frag} {h : Heap} {mg : Str → Option Value} {fa : Addr} (X : K.In h) (G : h.Ns mainGlobals mg) (hfa : mg "law" = some (.ref fa))
    {c_GiftError c_BadPeople c_BadPerson c_BadWord c_BadPrice c_BadMany c_BadWish c_BadAmount c_BadDeeds c_NoneFree c_TooMuch c_TooMany c_Wish c_Gifts c_Answer c_Done c_Halt c_Same c_Apart c_Paid c_Short f_is_whole f_is_count f_is_word f_is_deed f_are_deeds f_Wish_init f_Wish_free f_Wish_lacking f_Wish_done f_Gifts_init f_Gifts_look_at f_Gifts_own_wish f_Gifts_other_wish f_Gifts_wish f_Gifts_alter f_Gifts_drop f_Gifts_take f_Gifts_pledge f_Gifts_back f_Gifts_seen f_done f_played f_first_unlike f_Done_init f_Done_shows f_Halt_init f_Halt_shows f_Same_shows f_Apart_init f_Apart_shows f_Paid_init f_Paid_shows f_Short_init f_Short_shows f_check_people f_check_deeds f_told f_law_cell_at f_law_draw f_law_value f_law_whole f_law_says f_law_people f_law_word f_law_deed f_law_refused f_law_free f_law_done f_law_drawn f_law_good f_law_played f_law_numbers_good f_law_due f_law_right f_law_bent f_law g_SIZES : Addr}
    {t_LETTERS t_MOST_PEOPLE t_MOST_WORD t_MOST_PRICE t_MOST_PIECES t_MOST_WISHES t_MOST_DEEDS t_SIZES_wish t_SIZES_alter t_SIZES_drop t_SIZES_take t_SIZES_pledge t_SIZES_back : Tok}
    {ois_whole vis_whole dis_whole pis_whole qis_whole ris_whole ois_count vis_count dis_count pis_count qis_count ris_count ois_word vis_word dis_word pis_word qis_word ris_word ois_deed vis_deed dis_deed pis_deed qis_deed ris_deed oare_deeds vare_deeds dare_deeds pare_deeds qare_deeds rare_deeds oWish_init vWish_init dWish_init pWish_init qWish_init rWish_init oWish_free vWish_free dWish_free pWish_free qWish_free rWish_free oWish_lacking vWish_lacking dWish_lacking pWish_lacking qWish_lacking rWish_lacking oWish_done vWish_done dWish_done pWish_done qWish_done rWish_done oGifts_init vGifts_init dGifts_init pGifts_init qGifts_init rGifts_init oGifts_look_at vGifts_look_at dGifts_look_at pGifts_look_at qGifts_look_at rGifts_look_at oGifts_own_wish vGifts_own_wish dGifts_own_wish pGifts_own_wish qGifts_own_wish rGifts_own_wish oGifts_other_wish vGifts_other_wish dGifts_other_wish pGifts_other_wish qGifts_other_wish rGifts_other_wish oGifts_wish vGifts_wish dGifts_wish pGifts_wish qGifts_wish rGifts_wish oGifts_alter vGifts_alter dGifts_alter pGifts_alter qGifts_alter rGifts_alter oGifts_drop vGifts_drop dGifts_drop pGifts_drop qGifts_drop rGifts_drop oGifts_take vGifts_take dGifts_take pGifts_take qGifts_take rGifts_take oGifts_pledge vGifts_pledge dGifts_pledge pGifts_pledge qGifts_pledge rGifts_pledge oGifts_back vGifts_back dGifts_back pGifts_back qGifts_back rGifts_back oGifts_seen vGifts_seen dGifts_seen pGifts_seen qGifts_seen rGifts_seen odone vdone ddone pdone qdone rdone oplayed vplayed dplayed pplayed qplayed rplayed ofirst_unlike vfirst_unlike dfirst_unlike pfirst_unlike qfirst_unlike rfirst_unlike oDone_init vDone_init dDone_init pDone_init qDone_init rDone_init oDone_shows vDone_shows dDone_shows pDone_shows qDone_shows rDone_shows oHalt_init vHalt_init dHalt_init pHalt_init qHalt_init rHalt_init oHalt_shows vHalt_shows dHalt_shows pHalt_shows qHalt_shows rHalt_shows oSame_shows vSame_shows dSame_shows pSame_shows qSame_shows rSame_shows oApart_init vApart_init dApart_init pApart_init qApart_init rApart_init oApart_shows vApart_shows dApart_shows pApart_shows qApart_shows rApart_shows oPaid_init vPaid_init dPaid_init pPaid_init qPaid_init rPaid_init oPaid_shows vPaid_shows dPaid_shows pPaid_shows qPaid_shows rPaid_shows oShort_init vShort_init dShort_init pShort_init qShort_init rShort_init oShort_shows vShort_shows dShort_shows pShort_shows qShort_shows rShort_shows ocheck_people vcheck_people dcheck_people pcheck_people qcheck_people rcheck_people ocheck_deeds vcheck_deeds dcheck_deeds pcheck_deeds qcheck_deeds rcheck_deeds otold vtold dtold ptold qtold rtold olaw_cell_at vlaw_cell_at dlaw_cell_at plaw_cell_at qlaw_cell_at rlaw_cell_at olaw_draw vlaw_draw dlaw_draw plaw_draw qlaw_draw rlaw_draw olaw_value vlaw_value dlaw_value plaw_value qlaw_value rlaw_value olaw_whole vlaw_whole dlaw_whole plaw_whole qlaw_whole rlaw_whole olaw_says vlaw_says dlaw_says plaw_says qlaw_says rlaw_says olaw_people vlaw_people dlaw_people plaw_people qlaw_people rlaw_people olaw_word vlaw_word dlaw_word plaw_word qlaw_word rlaw_word olaw_deed vlaw_deed dlaw_deed plaw_deed qlaw_deed rlaw_deed olaw_refused vlaw_refused dlaw_refused plaw_refused qlaw_refused rlaw_refused olaw_free vlaw_free dlaw_free plaw_free qlaw_free rlaw_free olaw_done vlaw_done dlaw_done plaw_done qlaw_done rlaw_done olaw_drawn vlaw_drawn dlaw_drawn plaw_drawn qlaw_drawn rlaw_drawn olaw_good vlaw_good dlaw_good plaw_good qlaw_good rlaw_good olaw_played vlaw_played dlaw_played plaw_played qlaw_played rlaw_played olaw_numbers_good vlaw_numbers_good dlaw_numbers_good plaw_numbers_good qlaw_numbers_good rlaw_numbers_good olaw_due vlaw_due dlaw_due plaw_due qlaw_due rlaw_due olaw_right vlaw_right dlaw_right plaw_right qlaw_right rlaw_right olaw_bent vlaw_bent dlaw_bent plaw_bent qlaw_bent rlaw_bent olaw vlaw dlaw plaw qlaw rlaw : Value} {eis_whole nis_whole eis_count nis_count eis_word nis_word eis_deed nis_deed eare_deeds nare_deeds eWish_init nWish_init eWish_free nWish_free eWish_lacking nWish_lacking eWish_done nWish_done eGifts_init nGifts_init eGifts_look_at nGifts_look_at eGifts_own_wish nGifts_own_wish eGifts_other_wish nGifts_other_wish eGifts_wish nGifts_wish eGifts_alter nGifts_alter eGifts_drop nGifts_drop eGifts_take nGifts_take eGifts_pledge nGifts_pledge eGifts_back nGifts_back eGifts_seen nGifts_seen edone ndone eplayed nplayed efirst_unlike nfirst_unlike eDone_init nDone_init eDone_shows nDone_shows eHalt_init nHalt_init eHalt_shows nHalt_shows eSame_shows nSame_shows eApart_init nApart_init eApart_shows nApart_shows ePaid_init nPaid_init ePaid_shows nPaid_shows eShort_init nShort_init eShort_shows nShort_shows echeck_people ncheck_people echeck_deeds ncheck_deeds etold ntold elaw_cell_at nlaw_cell_at elaw_draw nlaw_draw elaw_value nlaw_value elaw_whole nlaw_whole elaw_says nlaw_says elaw_people nlaw_people elaw_word nlaw_word elaw_deed nlaw_deed elaw_refused nlaw_refused elaw_free nlaw_free elaw_done nlaw_done elaw_drawn nlaw_drawn elaw_good nlaw_good elaw_played nlaw_played elaw_numbers_good nlaw_numbers_good elaw_due nlaw_due elaw_right nlaw_right elaw_bent nlaw_bent elaw nlaw : Option Addr} {wis_whole wis_count wis_word wis_deed ware_deeds wWish_init wWish_free wWish_lacking wWish_done wGifts_init wGifts_look_at wGifts_own_wish wGifts_other_wish wGifts_wish wGifts_alter wGifts_drop wGifts_take wGifts_pledge wGifts_back wGifts_seen wdone wplayed wfirst_unlike wDone_init wDone_shows wHalt_init wHalt_shows wSame_shows wApart_init wApart_shows wPaid_init wPaid_shows wShort_init wShort_shows wcheck_people wcheck_deeds wtold wlaw_cell_at wlaw_draw wlaw_value wlaw_whole wlaw_says wlaw_people wlaw_word wlaw_deed wlaw_refused wlaw_free wlaw_done wlaw_drawn wlaw_good wlaw_played wlaw_numbers_good wlaw_due wlaw_right wlaw_bent wlaw : Array (Option Value)}
    {e_SIZES : Array DictEntry} {n_SIZES : Nat}
    (aC_GiftError : PySem.W.nsIn K mainGlobals "GiftError" = some (some (.ref c_GiftError)))
    (kC_GiftError : PySem.W.keepIn K (.ref c_GiftError) = true)
    (aC_BadPeople : PySem.W.nsIn K mainGlobals "BadPeople" = some (some (.ref c_BadPeople)))
    (kC_BadPeople : PySem.W.keepIn K (.ref c_BadPeople) = true)
    (aC_BadPerson : PySem.W.nsIn K mainGlobals "BadPerson" = some (some (.ref c_BadPerson)))
    (kC_BadPerson : PySem.W.keepIn K (.ref c_BadPerson) = true)
    (aC_BadWord : PySem.W.nsIn K mainGlobals "BadWord" = some (some (.ref c_BadWord)))
    (kC_BadWord : PySem.W.keepIn K (.ref c_BadWord) = true)
    (aC_BadPrice : PySem.W.nsIn K mainGlobals "BadPrice" = some (some (.ref c_BadPrice)))
    (kC_BadPrice : PySem.W.keepIn K (.ref c_BadPrice) = true)
    (aC_BadMany : PySem.W.nsIn K mainGlobals "BadMany" = some (some (.ref c_BadMany)))
    (kC_BadMany : PySem.W.keepIn K (.ref c_BadMany) = true)
    (aC_BadWish : PySem.W.nsIn K mainGlobals "BadWish" = some (some (.ref c_BadWish)))
    (kC_BadWish : PySem.W.keepIn K (.ref c_BadWish) = true)
    (aC_BadAmount : PySem.W.nsIn K mainGlobals "BadAmount" = some (some (.ref c_BadAmount)))
    (kC_BadAmount : PySem.W.keepIn K (.ref c_BadAmount) = true)
    (aC_BadDeeds : PySem.W.nsIn K mainGlobals "BadDeeds" = some (some (.ref c_BadDeeds)))
    (kC_BadDeeds : PySem.W.keepIn K (.ref c_BadDeeds) = true)
    (aC_NoneFree : PySem.W.nsIn K mainGlobals "NoneFree" = some (some (.ref c_NoneFree)))
    (kC_NoneFree : PySem.W.keepIn K (.ref c_NoneFree) = true)
    (aC_TooMuch : PySem.W.nsIn K mainGlobals "TooMuch" = some (some (.ref c_TooMuch)))
    (kC_TooMuch : PySem.W.keepIn K (.ref c_TooMuch) = true)
    (aC_TooMany : PySem.W.nsIn K mainGlobals "TooMany" = some (some (.ref c_TooMany)))
    (kC_TooMany : PySem.W.keepIn K (.ref c_TooMany) = true)
    (aC_Wish : PySem.W.nsIn K mainGlobals "Wish" = some (some (.ref c_Wish)))
    (kC_Wish : PySem.W.keepIn K (.ref c_Wish) = true)
    (aC_Gifts : PySem.W.nsIn K mainGlobals "Gifts" = some (some (.ref c_Gifts)))
    (kC_Gifts : PySem.W.keepIn K (.ref c_Gifts) = true)
    (aC_Answer : PySem.W.nsIn K mainGlobals "Answer" = some (some (.ref c_Answer)))
    (kC_Answer : PySem.W.keepIn K (.ref c_Answer) = true)
    (aC_Done : PySem.W.nsIn K mainGlobals "Done" = some (some (.ref c_Done)))
    (kC_Done : PySem.W.keepIn K (.ref c_Done) = true)
    (aC_Halt : PySem.W.nsIn K mainGlobals "Halt" = some (some (.ref c_Halt)))
    (kC_Halt : PySem.W.keepIn K (.ref c_Halt) = true)
    (aC_Same : PySem.W.nsIn K mainGlobals "Same" = some (some (.ref c_Same)))
    (kC_Same : PySem.W.keepIn K (.ref c_Same) = true)
    (aC_Apart : PySem.W.nsIn K mainGlobals "Apart" = some (some (.ref c_Apart)))
    (kC_Apart : PySem.W.keepIn K (.ref c_Apart) = true)
    (aC_Paid : PySem.W.nsIn K mainGlobals "Paid" = some (some (.ref c_Paid)))
    (kC_Paid : PySem.W.keepIn K (.ref c_Paid) = true)
    (aC_Short : PySem.W.nsIn K mainGlobals "Short" = some (some (.ref c_Short)))
    (kC_Short : PySem.W.keepIn K (.ref c_Short) = true)
    (a_is_whole : PySem.W.nsIn K mainGlobals "is_whole" = some (some (.ref f_is_whole)))
    (l_is_whole : K.lookup f_is_whole = some ⟨ois_whole, eis_whole, .func (PySem.W.fnOf "is_whole" "is_whole" (defArgs s_is_whole) (defBody s_is_whole) (defScope s_is_whole) .none vis_whole dis_whole pis_whole nis_whole qis_whole ris_whole), wis_whole⟩)
    (b_is_whole : PySem.W.codeIn K qis_whole "is_whole" = true)
    (k_is_whole : PySem.W.keepIn K (.ref f_is_whole) = true)
    (a_is_count : PySem.W.nsIn K mainGlobals "is_count" = some (some (.ref f_is_count)))
    (l_is_count : K.lookup f_is_count = some ⟨ois_count, eis_count, .func (PySem.W.fnOf "is_count" "is_count" (defArgs s_is_count) (defBody s_is_count) (defScope s_is_count) .none vis_count dis_count pis_count nis_count qis_count ris_count), wis_count⟩)
    (b_is_count : PySem.W.codeIn K qis_count "is_count" = true)
    (k_is_count : PySem.W.keepIn K (.ref f_is_count) = true)
    (a_is_word : PySem.W.nsIn K mainGlobals "is_word" = some (some (.ref f_is_word)))
    (l_is_word : K.lookup f_is_word = some ⟨ois_word, eis_word, .func (PySem.W.fnOf "is_word" "is_word" (defArgs s_is_word) (defBody s_is_word) (defScope s_is_word) .none vis_word dis_word pis_word nis_word qis_word ris_word), wis_word⟩)
    (b_is_word : PySem.W.codeIn K qis_word "is_word" = true)
    (k_is_word : PySem.W.keepIn K (.ref f_is_word) = true)
    (a_is_deed : PySem.W.nsIn K mainGlobals "is_deed" = some (some (.ref f_is_deed)))
    (l_is_deed : K.lookup f_is_deed = some ⟨ois_deed, eis_deed, .func (PySem.W.fnOf "is_deed" "is_deed" (defArgs s_is_deed) (defBody s_is_deed) (defScope s_is_deed) .none vis_deed dis_deed pis_deed nis_deed qis_deed ris_deed), wis_deed⟩)
    (b_is_deed : PySem.W.codeIn K qis_deed "is_deed" = true)
    (k_is_deed : PySem.W.keepIn K (.ref f_is_deed) = true)
    (a_are_deeds : PySem.W.nsIn K mainGlobals "are_deeds" = some (some (.ref f_are_deeds)))
    (l_are_deeds : K.lookup f_are_deeds = some ⟨oare_deeds, eare_deeds, .func (PySem.W.fnOf "are_deeds" "are_deeds" (defArgs s_are_deeds) (defBody s_are_deeds) (defScope s_are_deeds) .none vare_deeds dare_deeds pare_deeds nare_deeds qare_deeds rare_deeds), ware_deeds⟩)
    (b_are_deeds : PySem.W.codeIn K qare_deeds "are_deeds" = true)
    (k_are_deeds : PySem.W.keepIn K (.ref f_are_deeds) = true)
    (a_Wish_init : PySem.W.findIn K (.ref c_Wish) "__init__" = some (some (.ref f_Wish_init)))
    (i_Wish_init : PySem.W.isFn K (.ref f_Wish_init) = true)
    (l_Wish_init : K.lookup f_Wish_init = some ⟨oWish_init, eWish_init, .func (PySem.W.fnOf "__init__" "Wish.__init__" (defArgs s_Wish_init) (defBody s_Wish_init) (defScope s_Wish_init) .none vWish_init dWish_init pWish_init nWish_init qWish_init rWish_init), wWish_init⟩)
    (b_Wish_init : PySem.W.codeIn K qWish_init "Wish.__init__" = true)
    (k_Wish_init : PySem.W.keepIn K (.ref f_Wish_init) = true)
    (a_Wish_free : PySem.W.findIn K (.ref c_Wish) "free" = some (some (.ref f_Wish_free)))
    (i_Wish_free : PySem.W.isFn K (.ref f_Wish_free) = true)
    (l_Wish_free : K.lookup f_Wish_free = some ⟨oWish_free, eWish_free, .func (PySem.W.fnOf "free" "Wish.free" (defArgs s_Wish_free) (defBody s_Wish_free) (defScope s_Wish_free) .none vWish_free dWish_free pWish_free nWish_free qWish_free rWish_free), wWish_free⟩)
    (b_Wish_free : PySem.W.codeIn K qWish_free "Wish.free" = true)
    (k_Wish_free : PySem.W.keepIn K (.ref f_Wish_free) = true)
    (a_Wish_lacking : PySem.W.findIn K (.ref c_Wish) "lacking" = some (some (.ref f_Wish_lacking)))
    (i_Wish_lacking : PySem.W.isFn K (.ref f_Wish_lacking) = true)
    (l_Wish_lacking : K.lookup f_Wish_lacking = some ⟨oWish_lacking, eWish_lacking, .func (PySem.W.fnOf "lacking" "Wish.lacking" (defArgs s_Wish_lacking) (defBody s_Wish_lacking) (defScope s_Wish_lacking) .none vWish_lacking dWish_lacking pWish_lacking nWish_lacking qWish_lacking rWish_lacking), wWish_lacking⟩)
    (b_Wish_lacking : PySem.W.codeIn K qWish_lacking "Wish.lacking" = true)
    (k_Wish_lacking : PySem.W.keepIn K (.ref f_Wish_lacking) = true)
    (a_Wish_done : PySem.W.findIn K (.ref c_Wish) "done" = some (some (.ref f_Wish_done)))
    (i_Wish_done : PySem.W.isFn K (.ref f_Wish_done) = true)
    (l_Wish_done : K.lookup f_Wish_done = some ⟨oWish_done, eWish_done, .func (PySem.W.fnOf "done" "Wish.done" (defArgs s_Wish_done) (defBody s_Wish_done) (defScope s_Wish_done) .none vWish_done dWish_done pWish_done nWish_done qWish_done rWish_done), wWish_done⟩)
    (b_Wish_done : PySem.W.codeIn K qWish_done "Wish.done" = true)
    (k_Wish_done : PySem.W.keepIn K (.ref f_Wish_done) = true)
    (a_Gifts_init : PySem.W.findIn K (.ref c_Gifts) "__init__" = some (some (.ref f_Gifts_init)))
    (i_Gifts_init : PySem.W.isFn K (.ref f_Gifts_init) = true)
    (l_Gifts_init : K.lookup f_Gifts_init = some ⟨oGifts_init, eGifts_init, .func (PySem.W.fnOf "__init__" "Gifts.__init__" (defArgs s_Gifts_init) (defBody s_Gifts_init) (defScope s_Gifts_init) .none vGifts_init dGifts_init pGifts_init nGifts_init qGifts_init rGifts_init), wGifts_init⟩)
    (b_Gifts_init : PySem.W.codeIn K qGifts_init "Gifts.__init__" = true)
    (k_Gifts_init : PySem.W.keepIn K (.ref f_Gifts_init) = true)
    (a_Gifts_look_at : PySem.W.findIn K (.ref c_Gifts) "look_at" = some (some (.ref f_Gifts_look_at)))
    (i_Gifts_look_at : PySem.W.isFn K (.ref f_Gifts_look_at) = true)
    (l_Gifts_look_at : K.lookup f_Gifts_look_at = some ⟨oGifts_look_at, eGifts_look_at, .func (PySem.W.fnOf "look_at" "Gifts.look_at" (defArgs s_Gifts_look_at) (defBody s_Gifts_look_at) (defScope s_Gifts_look_at) .none vGifts_look_at dGifts_look_at pGifts_look_at nGifts_look_at qGifts_look_at rGifts_look_at), wGifts_look_at⟩)
    (b_Gifts_look_at : PySem.W.codeIn K qGifts_look_at "Gifts.look_at" = true)
    (k_Gifts_look_at : PySem.W.keepIn K (.ref f_Gifts_look_at) = true)
    (a_Gifts_own_wish : PySem.W.findIn K (.ref c_Gifts) "own_wish" = some (some (.ref f_Gifts_own_wish)))
    (i_Gifts_own_wish : PySem.W.isFn K (.ref f_Gifts_own_wish) = true)
    (l_Gifts_own_wish : K.lookup f_Gifts_own_wish = some ⟨oGifts_own_wish, eGifts_own_wish, .func (PySem.W.fnOf "own_wish" "Gifts.own_wish" (defArgs s_Gifts_own_wish) (defBody s_Gifts_own_wish) (defScope s_Gifts_own_wish) .none vGifts_own_wish dGifts_own_wish pGifts_own_wish nGifts_own_wish qGifts_own_wish rGifts_own_wish), wGifts_own_wish⟩)
    (b_Gifts_own_wish : PySem.W.codeIn K qGifts_own_wish "Gifts.own_wish" = true)
    (k_Gifts_own_wish : PySem.W.keepIn K (.ref f_Gifts_own_wish) = true)
    (a_Gifts_other_wish : PySem.W.findIn K (.ref c_Gifts) "other_wish" = some (some (.ref f_Gifts_other_wish)))
    (i_Gifts_other_wish : PySem.W.isFn K (.ref f_Gifts_other_wish) = true)
    (l_Gifts_other_wish : K.lookup f_Gifts_other_wish = some ⟨oGifts_other_wish, eGifts_other_wish, .func (PySem.W.fnOf "other_wish" "Gifts.other_wish" (defArgs s_Gifts_other_wish) (defBody s_Gifts_other_wish) (defScope s_Gifts_other_wish) .none vGifts_other_wish dGifts_other_wish pGifts_other_wish nGifts_other_wish qGifts_other_wish rGifts_other_wish), wGifts_other_wish⟩)
    (b_Gifts_other_wish : PySem.W.codeIn K qGifts_other_wish "Gifts.other_wish" = true)
    (k_Gifts_other_wish : PySem.W.keepIn K (.ref f_Gifts_other_wish) = true)
    (a_Gifts_wish : PySem.W.findIn K (.ref c_Gifts) "wish" = some (some (.ref f_Gifts_wish)))
    (i_Gifts_wish : PySem.W.isFn K (.ref f_Gifts_wish) = true)
    (l_Gifts_wish : K.lookup f_Gifts_wish = some ⟨oGifts_wish, eGifts_wish, .func (PySem.W.fnOf "wish" "Gifts.wish" (defArgs s_Gifts_wish) (defBody s_Gifts_wish) (defScope s_Gifts_wish) .none vGifts_wish dGifts_wish pGifts_wish nGifts_wish qGifts_wish rGifts_wish), wGifts_wish⟩)
    (b_Gifts_wish : PySem.W.codeIn K qGifts_wish "Gifts.wish" = true)
    (k_Gifts_wish : PySem.W.keepIn K (.ref f_Gifts_wish) = true)
    (a_Gifts_alter : PySem.W.findIn K (.ref c_Gifts) "alter" = some (some (.ref f_Gifts_alter)))
    (i_Gifts_alter : PySem.W.isFn K (.ref f_Gifts_alter) = true)
    (l_Gifts_alter : K.lookup f_Gifts_alter = some ⟨oGifts_alter, eGifts_alter, .func (PySem.W.fnOf "alter" "Gifts.alter" (defArgs s_Gifts_alter) (defBody s_Gifts_alter) (defScope s_Gifts_alter) .none vGifts_alter dGifts_alter pGifts_alter nGifts_alter qGifts_alter rGifts_alter), wGifts_alter⟩)
    (b_Gifts_alter : PySem.W.codeIn K qGifts_alter "Gifts.alter" = true)
    (k_Gifts_alter : PySem.W.keepIn K (.ref f_Gifts_alter) = true)
    (a_Gifts_drop : PySem.W.findIn K (.ref c_Gifts) "drop" = some (some (.ref f_Gifts_drop)))
    (i_Gifts_drop : PySem.W.isFn K (.ref f_Gifts_drop) = true)
    (l_Gifts_drop : K.lookup f_Gifts_drop = some ⟨oGifts_drop, eGifts_drop, .func (PySem.W.fnOf "drop" "Gifts.drop" (defArgs s_Gifts_drop) (defBody s_Gifts_drop) (defScope s_Gifts_drop) .none vGifts_drop dGifts_drop pGifts_drop nGifts_drop qGifts_drop rGifts_drop), wGifts_drop⟩)
    (b_Gifts_drop : PySem.W.codeIn K qGifts_drop "Gifts.drop" = true)
    (k_Gifts_drop : PySem.W.keepIn K (.ref f_Gifts_drop) = true)
    (a_Gifts_take : PySem.W.findIn K (.ref c_Gifts) "take" = some (some (.ref f_Gifts_take)))
    (i_Gifts_take : PySem.W.isFn K (.ref f_Gifts_take) = true)
    (l_Gifts_take : K.lookup f_Gifts_take = some ⟨oGifts_take, eGifts_take, .func (PySem.W.fnOf "take" "Gifts.take" (defArgs s_Gifts_take) (defBody s_Gifts_take) (defScope s_Gifts_take) .none vGifts_take dGifts_take pGifts_take nGifts_take qGifts_take rGifts_take), wGifts_take⟩)
    (b_Gifts_take : PySem.W.codeIn K qGifts_take "Gifts.take" = true)
    (k_Gifts_take : PySem.W.keepIn K (.ref f_Gifts_take) = true)
    (a_Gifts_pledge : PySem.W.findIn K (.ref c_Gifts) "pledge" = some (some (.ref f_Gifts_pledge)))
    (i_Gifts_pledge : PySem.W.isFn K (.ref f_Gifts_pledge) = true)
    (l_Gifts_pledge : K.lookup f_Gifts_pledge = some ⟨oGifts_pledge, eGifts_pledge, .func (PySem.W.fnOf "pledge" "Gifts.pledge" (defArgs s_Gifts_pledge) (defBody s_Gifts_pledge) (defScope s_Gifts_pledge) .none vGifts_pledge dGifts_pledge pGifts_pledge nGifts_pledge qGifts_pledge rGifts_pledge), wGifts_pledge⟩)
    (b_Gifts_pledge : PySem.W.codeIn K qGifts_pledge "Gifts.pledge" = true)
    (k_Gifts_pledge : PySem.W.keepIn K (.ref f_Gifts_pledge) = true)
    (a_Gifts_back : PySem.W.findIn K (.ref c_Gifts) "back" = some (some (.ref f_Gifts_back)))
    (i_Gifts_back : PySem.W.isFn K (.ref f_Gifts_back) = true)
    (l_Gifts_back : K.lookup f_Gifts_back = some ⟨oGifts_back, eGifts_back, .func (PySem.W.fnOf "back" "Gifts.back" (defArgs s_Gifts_back) (defBody s_Gifts_back) (defScope s_Gifts_back) .none vGifts_back dGifts_back pGifts_back nGifts_back qGifts_back rGifts_back), wGifts_back⟩)
    (b_Gifts_back : PySem.W.codeIn K qGifts_back "Gifts.back" = true)
    (k_Gifts_back : PySem.W.keepIn K (.ref f_Gifts_back) = true)
    (a_Gifts_seen : PySem.W.findIn K (.ref c_Gifts) "seen" = some (some (.ref f_Gifts_seen)))
    (i_Gifts_seen : PySem.W.isFn K (.ref f_Gifts_seen) = true)
    (l_Gifts_seen : K.lookup f_Gifts_seen = some ⟨oGifts_seen, eGifts_seen, .func (PySem.W.fnOf "seen" "Gifts.seen" (defArgs s_Gifts_seen) (defBody s_Gifts_seen) (defScope s_Gifts_seen) .none vGifts_seen dGifts_seen pGifts_seen nGifts_seen qGifts_seen rGifts_seen), wGifts_seen⟩)
    (b_Gifts_seen : PySem.W.codeIn K qGifts_seen "Gifts.seen" = true)
    (k_Gifts_seen : PySem.W.keepIn K (.ref f_Gifts_seen) = true)
    (a_done : PySem.W.nsIn K mainGlobals "done" = some (some (.ref f_done)))
    (l_done : K.lookup f_done = some ⟨odone, edone, .func (PySem.W.fnOf "done" "done" (defArgs s_done) (defBody s_done) (defScope s_done) .none vdone ddone pdone ndone qdone rdone), wdone⟩)
    (b_done : PySem.W.codeIn K qdone "done" = true)
    (k_done : PySem.W.keepIn K (.ref f_done) = true)
    (a_played : PySem.W.nsIn K mainGlobals "played" = some (some (.ref f_played)))
    (l_played : K.lookup f_played = some ⟨oplayed, eplayed, .func (PySem.W.fnOf "played" "played" (defArgs s_played) (defBody s_played) (defScope s_played) .none vplayed dplayed pplayed nplayed qplayed rplayed), wplayed⟩)
    (b_played : PySem.W.codeIn K qplayed "played" = true)
    (k_played : PySem.W.keepIn K (.ref f_played) = true)
    (a_first_unlike : PySem.W.nsIn K mainGlobals "first_unlike" = some (some (.ref f_first_unlike)))
    (l_first_unlike : K.lookup f_first_unlike = some ⟨ofirst_unlike, efirst_unlike, .func (PySem.W.fnOf "first_unlike" "first_unlike" (defArgs s_first_unlike) (defBody s_first_unlike) (defScope s_first_unlike) .none vfirst_unlike dfirst_unlike pfirst_unlike nfirst_unlike qfirst_unlike rfirst_unlike), wfirst_unlike⟩)
    (b_first_unlike : PySem.W.codeIn K qfirst_unlike "first_unlike" = true)
    (k_first_unlike : PySem.W.keepIn K (.ref f_first_unlike) = true)
    (a_Done_init : PySem.W.findIn K (.ref c_Done) "__init__" = some (some (.ref f_Done_init)))
    (i_Done_init : PySem.W.isFn K (.ref f_Done_init) = true)
    (l_Done_init : K.lookup f_Done_init = some ⟨oDone_init, eDone_init, .func (PySem.W.fnOf "__init__" "Done.__init__" (defArgs s_Done_init) (defBody s_Done_init) (defScope s_Done_init) .none vDone_init dDone_init pDone_init nDone_init qDone_init rDone_init), wDone_init⟩)
    (b_Done_init : PySem.W.codeIn K qDone_init "Done.__init__" = true)
    (k_Done_init : PySem.W.keepIn K (.ref f_Done_init) = true)
    (a_Done_shows : PySem.W.findIn K (.ref c_Done) "shows" = some (some (.ref f_Done_shows)))
    (i_Done_shows : PySem.W.isFn K (.ref f_Done_shows) = true)
    (l_Done_shows : K.lookup f_Done_shows = some ⟨oDone_shows, eDone_shows, .func (PySem.W.fnOf "shows" "Done.shows" (defArgs s_Done_shows) (defBody s_Done_shows) (defScope s_Done_shows) .none vDone_shows dDone_shows pDone_shows nDone_shows qDone_shows rDone_shows), wDone_shows⟩)
    (b_Done_shows : PySem.W.codeIn K qDone_shows "Done.shows" = true)
    (k_Done_shows : PySem.W.keepIn K (.ref f_Done_shows) = true)
    (a_Halt_init : PySem.W.findIn K (.ref c_Halt) "__init__" = some (some (.ref f_Halt_init)))
    (i_Halt_init : PySem.W.isFn K (.ref f_Halt_init) = true)
    (l_Halt_init : K.lookup f_Halt_init = some ⟨oHalt_init, eHalt_init, .func (PySem.W.fnOf "__init__" "Halt.__init__" (defArgs s_Halt_init) (defBody s_Halt_init) (defScope s_Halt_init) .none vHalt_init dHalt_init pHalt_init nHalt_init qHalt_init rHalt_init), wHalt_init⟩)
    (b_Halt_init : PySem.W.codeIn K qHalt_init "Halt.__init__" = true)
    (k_Halt_init : PySem.W.keepIn K (.ref f_Halt_init) = true)
    (a_Halt_shows : PySem.W.findIn K (.ref c_Halt) "shows" = some (some (.ref f_Halt_shows)))
    (i_Halt_shows : PySem.W.isFn K (.ref f_Halt_shows) = true)
    (l_Halt_shows : K.lookup f_Halt_shows = some ⟨oHalt_shows, eHalt_shows, .func (PySem.W.fnOf "shows" "Halt.shows" (defArgs s_Halt_shows) (defBody s_Halt_shows) (defScope s_Halt_shows) .none vHalt_shows dHalt_shows pHalt_shows nHalt_shows qHalt_shows rHalt_shows), wHalt_shows⟩)
    (b_Halt_shows : PySem.W.codeIn K qHalt_shows "Halt.shows" = true)
    (k_Halt_shows : PySem.W.keepIn K (.ref f_Halt_shows) = true)
    (a_Same_shows : PySem.W.findIn K (.ref c_Same) "shows" = some (some (.ref f_Same_shows)))
    (i_Same_shows : PySem.W.isFn K (.ref f_Same_shows) = true)
    (l_Same_shows : K.lookup f_Same_shows = some ⟨oSame_shows, eSame_shows, .func (PySem.W.fnOf "shows" "Same.shows" (defArgs s_Same_shows) (defBody s_Same_shows) (defScope s_Same_shows) .none vSame_shows dSame_shows pSame_shows nSame_shows qSame_shows rSame_shows), wSame_shows⟩)
    (b_Same_shows : PySem.W.codeIn K qSame_shows "Same.shows" = true)
    (k_Same_shows : PySem.W.keepIn K (.ref f_Same_shows) = true)
    (a_Apart_init : PySem.W.findIn K (.ref c_Apart) "__init__" = some (some (.ref f_Apart_init)))
    (i_Apart_init : PySem.W.isFn K (.ref f_Apart_init) = true)
    (l_Apart_init : K.lookup f_Apart_init = some ⟨oApart_init, eApart_init, .func (PySem.W.fnOf "__init__" "Apart.__init__" (defArgs s_Apart_init) (defBody s_Apart_init) (defScope s_Apart_init) .none vApart_init dApart_init pApart_init nApart_init qApart_init rApart_init), wApart_init⟩)
    (b_Apart_init : PySem.W.codeIn K qApart_init "Apart.__init__" = true)
    (k_Apart_init : PySem.W.keepIn K (.ref f_Apart_init) = true)
    (a_Apart_shows : PySem.W.findIn K (.ref c_Apart) "shows" = some (some (.ref f_Apart_shows)))
    (i_Apart_shows : PySem.W.isFn K (.ref f_Apart_shows) = true)
    (l_Apart_shows : K.lookup f_Apart_shows = some ⟨oApart_shows, eApart_shows, .func (PySem.W.fnOf "shows" "Apart.shows" (defArgs s_Apart_shows) (defBody s_Apart_shows) (defScope s_Apart_shows) .none vApart_shows dApart_shows pApart_shows nApart_shows qApart_shows rApart_shows), wApart_shows⟩)
    (b_Apart_shows : PySem.W.codeIn K qApart_shows "Apart.shows" = true)
    (k_Apart_shows : PySem.W.keepIn K (.ref f_Apart_shows) = true)
    (a_Paid_init : PySem.W.findIn K (.ref c_Paid) "__init__" = some (some (.ref f_Paid_init)))
    (i_Paid_init : PySem.W.isFn K (.ref f_Paid_init) = true)
    (l_Paid_init : K.lookup f_Paid_init = some ⟨oPaid_init, ePaid_init, .func (PySem.W.fnOf "__init__" "Paid.__init__" (defArgs s_Paid_init) (defBody s_Paid_init) (defScope s_Paid_init) .none vPaid_init dPaid_init pPaid_init nPaid_init qPaid_init rPaid_init), wPaid_init⟩)
    (b_Paid_init : PySem.W.codeIn K qPaid_init "Paid.__init__" = true)
    (k_Paid_init : PySem.W.keepIn K (.ref f_Paid_init) = true)
    (a_Paid_shows : PySem.W.findIn K (.ref c_Paid) "shows" = some (some (.ref f_Paid_shows)))
    (i_Paid_shows : PySem.W.isFn K (.ref f_Paid_shows) = true)
    (l_Paid_shows : K.lookup f_Paid_shows = some ⟨oPaid_shows, ePaid_shows, .func (PySem.W.fnOf "shows" "Paid.shows" (defArgs s_Paid_shows) (defBody s_Paid_shows) (defScope s_Paid_shows) .none vPaid_shows dPaid_shows pPaid_shows nPaid_shows qPaid_shows rPaid_shows), wPaid_shows⟩)
    (b_Paid_shows : PySem.W.codeIn K qPaid_shows "Paid.shows" = true)
    (k_Paid_shows : PySem.W.keepIn K (.ref f_Paid_shows) = true)
    (a_Short_init : PySem.W.findIn K (.ref c_Short) "__init__" = some (some (.ref f_Short_init)))
    (i_Short_init : PySem.W.isFn K (.ref f_Short_init) = true)
    (l_Short_init : K.lookup f_Short_init = some ⟨oShort_init, eShort_init, .func (PySem.W.fnOf "__init__" "Short.__init__" (defArgs s_Short_init) (defBody s_Short_init) (defScope s_Short_init) .none vShort_init dShort_init pShort_init nShort_init qShort_init rShort_init), wShort_init⟩)
    (b_Short_init : PySem.W.codeIn K qShort_init "Short.__init__" = true)
    (k_Short_init : PySem.W.keepIn K (.ref f_Short_init) = true)
    (a_Short_shows : PySem.W.findIn K (.ref c_Short) "shows" = some (some (.ref f_Short_shows)))
    (i_Short_shows : PySem.W.isFn K (.ref f_Short_shows) = true)
    (l_Short_shows : K.lookup f_Short_shows = some ⟨oShort_shows, eShort_shows, .func (PySem.W.fnOf "shows" "Short.shows" (defArgs s_Short_shows) (defBody s_Short_shows) (defScope s_Short_shows) .none vShort_shows dShort_shows pShort_shows nShort_shows qShort_shows rShort_shows), wShort_shows⟩)
    (b_Short_shows : PySem.W.codeIn K qShort_shows "Short.shows" = true)
    (k_Short_shows : PySem.W.keepIn K (.ref f_Short_shows) = true)
    (a_check_people : PySem.W.nsIn K mainGlobals "check_people" = some (some (.ref f_check_people)))
    (l_check_people : K.lookup f_check_people = some ⟨ocheck_people, echeck_people, .func (PySem.W.fnOf "check_people" "check_people" (defArgs s_check_people) (defBody s_check_people) (defScope s_check_people) .none vcheck_people dcheck_people pcheck_people ncheck_people qcheck_people rcheck_people), wcheck_people⟩)
    (b_check_people : PySem.W.codeIn K qcheck_people "check_people" = true)
    (k_check_people : PySem.W.keepIn K (.ref f_check_people) = true)
    (a_check_deeds : PySem.W.nsIn K mainGlobals "check_deeds" = some (some (.ref f_check_deeds)))
    (l_check_deeds : K.lookup f_check_deeds = some ⟨ocheck_deeds, echeck_deeds, .func (PySem.W.fnOf "check_deeds" "check_deeds" (defArgs s_check_deeds) (defBody s_check_deeds) (defScope s_check_deeds) .none vcheck_deeds dcheck_deeds pcheck_deeds ncheck_deeds qcheck_deeds rcheck_deeds), wcheck_deeds⟩)
    (b_check_deeds : PySem.W.codeIn K qcheck_deeds "check_deeds" = true)
    (k_check_deeds : PySem.W.keepIn K (.ref f_check_deeds) = true)
    (a_told : PySem.W.nsIn K mainGlobals "told" = some (some (.ref f_told)))
    (l_told : K.lookup f_told = some ⟨otold, etold, .func (PySem.W.fnOf "told" "told" (defArgs s_told) (defBody s_told) (defScope s_told) .none vtold dtold ptold ntold qtold rtold), wtold⟩)
    (b_told : PySem.W.codeIn K qtold "told" = true)
    (k_told : PySem.W.keepIn K (.ref f_told) = true)
    (a_law_cell_at : PySem.W.nsIn K mainGlobals "_law_cell_at" = some (some (.ref f_law_cell_at)))
    (l_law_cell_at : K.lookup f_law_cell_at = some ⟨olaw_cell_at, elaw_cell_at, .func (PySem.W.fnOf "_law_cell_at" "_law_cell_at" (defArgs s_law_cell_at) (defBody s_law_cell_at) (defScope s_law_cell_at) .none vlaw_cell_at dlaw_cell_at plaw_cell_at nlaw_cell_at qlaw_cell_at rlaw_cell_at), wlaw_cell_at⟩)
    (b_law_cell_at : PySem.W.codeIn K qlaw_cell_at "_law_cell_at" = true)
    (k_law_cell_at : PySem.W.keepIn K (.ref f_law_cell_at) = true)
    (a_law_draw : PySem.W.nsIn K mainGlobals "_law_draw" = some (some (.ref f_law_draw)))
    (l_law_draw : K.lookup f_law_draw = some ⟨olaw_draw, elaw_draw, .func (PySem.W.fnOf "_law_draw" "_law_draw" (defArgs s_law_draw) (defBody s_law_draw) (defScope s_law_draw) .none vlaw_draw dlaw_draw plaw_draw nlaw_draw qlaw_draw rlaw_draw), wlaw_draw⟩)
    (b_law_draw : PySem.W.codeIn K qlaw_draw "_law_draw" = true)
    (k_law_draw : PySem.W.keepIn K (.ref f_law_draw) = true)
    (a_law_value : PySem.W.nsIn K mainGlobals "_law_value" = some (some (.ref f_law_value)))
    (l_law_value : K.lookup f_law_value = some ⟨olaw_value, elaw_value, .func (PySem.W.fnOf "_law_value" "_law_value" (defArgs s_law_value) (defBody s_law_value) (defScope s_law_value) .none vlaw_value dlaw_value plaw_value nlaw_value qlaw_value rlaw_value), wlaw_value⟩)
    (b_law_value : PySem.W.codeIn K qlaw_value "_law_value" = true)
    (k_law_value : PySem.W.keepIn K (.ref f_law_value) = true)
    (a_law_whole : PySem.W.nsIn K mainGlobals "_law_whole" = some (some (.ref f_law_whole)))
    (l_law_whole : K.lookup f_law_whole = some ⟨olaw_whole, elaw_whole, .func (PySem.W.fnOf "_law_whole" "_law_whole" (defArgs s_law_whole) (defBody s_law_whole) (defScope s_law_whole) .none vlaw_whole dlaw_whole plaw_whole nlaw_whole qlaw_whole rlaw_whole), wlaw_whole⟩)
    (b_law_whole : PySem.W.codeIn K qlaw_whole "_law_whole" = true)
    (k_law_whole : PySem.W.keepIn K (.ref f_law_whole) = true)
    (a_law_says : PySem.W.nsIn K mainGlobals "_law_says" = some (some (.ref f_law_says)))
    (l_law_says : K.lookup f_law_says = some ⟨olaw_says, elaw_says, .func (PySem.W.fnOf "_law_says" "_law_says" (defArgs s_law_says) (defBody s_law_says) (defScope s_law_says) .none vlaw_says dlaw_says plaw_says nlaw_says qlaw_says rlaw_says), wlaw_says⟩)
    (b_law_says : PySem.W.codeIn K qlaw_says "_law_says" = true)
    (k_law_says : PySem.W.keepIn K (.ref f_law_says) = true)
    (a_law_people : PySem.W.nsIn K mainGlobals "_law_people" = some (some (.ref f_law_people)))
    (l_law_people : K.lookup f_law_people = some ⟨olaw_people, elaw_people, .func (PySem.W.fnOf "_law_people" "_law_people" (defArgs s_law_people) (defBody s_law_people) (defScope s_law_people) .none vlaw_people dlaw_people plaw_people nlaw_people qlaw_people rlaw_people), wlaw_people⟩)
    (b_law_people : PySem.W.codeIn K qlaw_people "_law_people" = true)
    (k_law_people : PySem.W.keepIn K (.ref f_law_people) = true)
    (a_law_word : PySem.W.nsIn K mainGlobals "_law_word" = some (some (.ref f_law_word)))
    (l_law_word : K.lookup f_law_word = some ⟨olaw_word, elaw_word, .func (PySem.W.fnOf "_law_word" "_law_word" (defArgs s_law_word) (defBody s_law_word) (defScope s_law_word) .none vlaw_word dlaw_word plaw_word nlaw_word qlaw_word rlaw_word), wlaw_word⟩)
    (b_law_word : PySem.W.codeIn K qlaw_word "_law_word" = true)
    (k_law_word : PySem.W.keepIn K (.ref f_law_word) = true)
    (a_law_deed : PySem.W.nsIn K mainGlobals "_law_deed" = some (some (.ref f_law_deed)))
    (l_law_deed : K.lookup f_law_deed = some ⟨olaw_deed, elaw_deed, .func (PySem.W.fnOf "_law_deed" "_law_deed" (defArgs s_law_deed) (defBody s_law_deed) (defScope s_law_deed) .none vlaw_deed dlaw_deed plaw_deed nlaw_deed qlaw_deed rlaw_deed), wlaw_deed⟩)
    (b_law_deed : PySem.W.codeIn K qlaw_deed "_law_deed" = true)
    (k_law_deed : PySem.W.keepIn K (.ref f_law_deed) = true)
    (a_law_refused : PySem.W.nsIn K mainGlobals "_law_refused" = some (some (.ref f_law_refused)))
    (l_law_refused : K.lookup f_law_refused = some ⟨olaw_refused, elaw_refused, .func (PySem.W.fnOf "_law_refused" "_law_refused" (defArgs s_law_refused) (defBody s_law_refused) (defScope s_law_refused) .none vlaw_refused dlaw_refused plaw_refused nlaw_refused qlaw_refused rlaw_refused), wlaw_refused⟩)
    (b_law_refused : PySem.W.codeIn K qlaw_refused "_law_refused" = true)
    (k_law_refused : PySem.W.keepIn K (.ref f_law_refused) = true)
    (a_law_free : PySem.W.nsIn K mainGlobals "_law_free" = some (some (.ref f_law_free)))
    (l_law_free : K.lookup f_law_free = some ⟨olaw_free, elaw_free, .func (PySem.W.fnOf "_law_free" "_law_free" (defArgs s_law_free) (defBody s_law_free) (defScope s_law_free) .none vlaw_free dlaw_free plaw_free nlaw_free qlaw_free rlaw_free), wlaw_free⟩)
    (b_law_free : PySem.W.codeIn K qlaw_free "_law_free" = true)
    (k_law_free : PySem.W.keepIn K (.ref f_law_free) = true)
    (a_law_done : PySem.W.nsIn K mainGlobals "_law_done" = some (some (.ref f_law_done)))
    (l_law_done : K.lookup f_law_done = some ⟨olaw_done, elaw_done, .func (PySem.W.fnOf "_law_done" "_law_done" (defArgs s_law_done) (defBody s_law_done) (defScope s_law_done) .none vlaw_done dlaw_done plaw_done nlaw_done qlaw_done rlaw_done), wlaw_done⟩)
    (b_law_done : PySem.W.codeIn K qlaw_done "_law_done" = true)
    (k_law_done : PySem.W.keepIn K (.ref f_law_done) = true)
    (a_law_drawn : PySem.W.nsIn K mainGlobals "_law_drawn" = some (some (.ref f_law_drawn)))
    (l_law_drawn : K.lookup f_law_drawn = some ⟨olaw_drawn, elaw_drawn, .func (PySem.W.fnOf "_law_drawn" "_law_drawn" (defArgs s_law_drawn) (defBody s_law_drawn) (defScope s_law_drawn) .none vlaw_drawn dlaw_drawn plaw_drawn nlaw_drawn qlaw_drawn rlaw_drawn), wlaw_drawn⟩)
    (b_law_drawn : PySem.W.codeIn K qlaw_drawn "_law_drawn" = true)
    (k_law_drawn : PySem.W.keepIn K (.ref f_law_drawn) = true)
    (a_law_good : PySem.W.nsIn K mainGlobals "_law_good" = some (some (.ref f_law_good)))
    (l_law_good : K.lookup f_law_good = some ⟨olaw_good, elaw_good, .func (PySem.W.fnOf "_law_good" "_law_good" (defArgs s_law_good) (defBody s_law_good) (defScope s_law_good) .none vlaw_good dlaw_good plaw_good nlaw_good qlaw_good rlaw_good), wlaw_good⟩)
    (b_law_good : PySem.W.codeIn K qlaw_good "_law_good" = true)
    (k_law_good : PySem.W.keepIn K (.ref f_law_good) = true)
    (a_law_played : PySem.W.nsIn K mainGlobals "_law_played" = some (some (.ref f_law_played)))
    (l_law_played : K.lookup f_law_played = some ⟨olaw_played, elaw_played, .func (PySem.W.fnOf "_law_played" "_law_played" (defArgs s_law_played) (defBody s_law_played) (defScope s_law_played) .none vlaw_played dlaw_played plaw_played nlaw_played qlaw_played rlaw_played), wlaw_played⟩)
    (b_law_played : PySem.W.codeIn K qlaw_played "_law_played" = true)
    (k_law_played : PySem.W.keepIn K (.ref f_law_played) = true)
    (a_law_numbers_good : PySem.W.nsIn K mainGlobals "_law_numbers_good" = some (some (.ref f_law_numbers_good)))
    (l_law_numbers_good : K.lookup f_law_numbers_good = some ⟨olaw_numbers_good, elaw_numbers_good, .func (PySem.W.fnOf "_law_numbers_good" "_law_numbers_good" (defArgs s_law_numbers_good) (defBody s_law_numbers_good) (defScope s_law_numbers_good) .none vlaw_numbers_good dlaw_numbers_good plaw_numbers_good nlaw_numbers_good qlaw_numbers_good rlaw_numbers_good), wlaw_numbers_good⟩)
    (b_law_numbers_good : PySem.W.codeIn K qlaw_numbers_good "_law_numbers_good" = true)
    (k_law_numbers_good : PySem.W.keepIn K (.ref f_law_numbers_good) = true)
    (a_law_due : PySem.W.nsIn K mainGlobals "_law_due" = some (some (.ref f_law_due)))
    (l_law_due : K.lookup f_law_due = some ⟨olaw_due, elaw_due, .func (PySem.W.fnOf "_law_due" "_law_due" (defArgs s_law_due) (defBody s_law_due) (defScope s_law_due) .none vlaw_due dlaw_due plaw_due nlaw_due qlaw_due rlaw_due), wlaw_due⟩)
    (b_law_due : PySem.W.codeIn K qlaw_due "_law_due" = true)
    (k_law_due : PySem.W.keepIn K (.ref f_law_due) = true)
    (a_law_right : PySem.W.nsIn K mainGlobals "_law_right" = some (some (.ref f_law_right)))
    (l_law_right : K.lookup f_law_right = some ⟨olaw_right, elaw_right, .func (PySem.W.fnOf "_law_right" "_law_right" (defArgs s_law_right) (defBody s_law_right) (defScope s_law_right) .none vlaw_right dlaw_right plaw_right nlaw_right qlaw_right rlaw_right), wlaw_right⟩)
    (b_law_right : PySem.W.codeIn K qlaw_right "_law_right" = true)
    (k_law_right : PySem.W.keepIn K (.ref f_law_right) = true)
    (a_law_bent : PySem.W.nsIn K mainGlobals "_law_bent" = some (some (.ref f_law_bent)))
    (l_law_bent : K.lookup f_law_bent = some ⟨olaw_bent, elaw_bent, .func (PySem.W.fnOf "_law_bent" "_law_bent" (defArgs s_law_bent) (defBody s_law_bent) (defScope s_law_bent) .none vlaw_bent dlaw_bent plaw_bent nlaw_bent qlaw_bent rlaw_bent), wlaw_bent⟩)
    (b_law_bent : PySem.W.codeIn K qlaw_bent "_law_bent" = true)
    (k_law_bent : PySem.W.keepIn K (.ref f_law_bent) = true)
    (a_law : PySem.W.nsIn K mainGlobals "law" = some (some (.ref f_law)))
    (l_law : K.lookup f_law = some ⟨olaw, elaw, .func (PySem.W.fnOf "law" "law" (defArgs s_law) (defBody s_law) (defScope s_law) .none vlaw dlaw plaw nlaw qlaw rlaw), wlaw⟩)
    (b_law : PySem.W.codeIn K qlaw "law" = true)
    (k_law : PySem.W.keepIn K (.ref f_law) = true)
    (x1_GiftError : PySem.W.excIn K c_GiftError [.type "ValueError", .type "Exception", .type "BaseException", .type "object"] "ValueError.__new__" = true)
    (x2_GiftError : PySem.W.subIn K (.ref c_GiftError) (.type "BaseException") = some true)
    (x3_GiftError : PySem.W.typeIn K (.ref c_GiftError) = some (.type "type"))
    (x4_GiftError : PySem.W.isClsIn K c_GiftError = true)
    (x5_GiftError : PySem.W.subIn K (.ref c_GiftError) (.ref c_GiftError) = some true)
    (x6_GiftError : PySem.W.hasDictIn K c_GiftError = true)
    (x1_BadPeople : PySem.W.excIn K c_BadPeople [.type "ValueError", .type "Exception", .type "BaseException", .type "object"] "ValueError.__new__" = true)
    (x2_BadPeople : PySem.W.subIn K (.ref c_BadPeople) (.type "BaseException") = some true)
    (x3_BadPeople : PySem.W.typeIn K (.ref c_BadPeople) = some (.type "type"))
    (x4_BadPeople : PySem.W.isClsIn K c_BadPeople = true)
    (x5_BadPeople : PySem.W.subIn K (.ref c_BadPeople) (.ref c_GiftError) = some true)
    (x1_BadPerson : PySem.W.excIn K c_BadPerson [.type "ValueError", .type "Exception", .type "BaseException", .type "object"] "ValueError.__new__" = true)
    (x2_BadPerson : PySem.W.subIn K (.ref c_BadPerson) (.type "BaseException") = some true)
    (x3_BadPerson : PySem.W.typeIn K (.ref c_BadPerson) = some (.type "type"))
    (x4_BadPerson : PySem.W.isClsIn K c_BadPerson = true)
    (x5_BadPerson : PySem.W.subIn K (.ref c_BadPerson) (.ref c_GiftError) = some true)
    (x1_BadWord : PySem.W.excIn K c_BadWord [.type "ValueError", .type "Exception", .type "BaseException", .type "object"] "ValueError.__new__" = true)
    (x2_BadWord : PySem.W.subIn K (.ref c_BadWord) (.type "BaseException") = some true)
    (x3_BadWord : PySem.W.typeIn K (.ref c_BadWord) = some (.type "type"))
    (x4_BadWord : PySem.W.isClsIn K c_BadWord = true)
    (x5_BadWord : PySem.W.subIn K (.ref c_BadWord) (.ref c_GiftError) = some true)
    (x1_BadPrice : PySem.W.excIn K c_BadPrice [.type "ValueError", .type "Exception", .type "BaseException", .type "object"] "ValueError.__new__" = true)
    (x2_BadPrice : PySem.W.subIn K (.ref c_BadPrice) (.type "BaseException") = some true)
    (x3_BadPrice : PySem.W.typeIn K (.ref c_BadPrice) = some (.type "type"))
    (x4_BadPrice : PySem.W.isClsIn K c_BadPrice = true)
    (x5_BadPrice : PySem.W.subIn K (.ref c_BadPrice) (.ref c_GiftError) = some true)
    (x1_BadMany : PySem.W.excIn K c_BadMany [.type "ValueError", .type "Exception", .type "BaseException", .type "object"] "ValueError.__new__" = true)
    (x2_BadMany : PySem.W.subIn K (.ref c_BadMany) (.type "BaseException") = some true)
    (x3_BadMany : PySem.W.typeIn K (.ref c_BadMany) = some (.type "type"))
    (x4_BadMany : PySem.W.isClsIn K c_BadMany = true)
    (x5_BadMany : PySem.W.subIn K (.ref c_BadMany) (.ref c_GiftError) = some true)
    (x1_BadWish : PySem.W.excIn K c_BadWish [.type "ValueError", .type "Exception", .type "BaseException", .type "object"] "ValueError.__new__" = true)
    (x2_BadWish : PySem.W.subIn K (.ref c_BadWish) (.type "BaseException") = some true)
    (x3_BadWish : PySem.W.typeIn K (.ref c_BadWish) = some (.type "type"))
    (x4_BadWish : PySem.W.isClsIn K c_BadWish = true)
    (x5_BadWish : PySem.W.subIn K (.ref c_BadWish) (.ref c_GiftError) = some true)
    (x1_BadAmount : PySem.W.excIn K c_BadAmount [.type "ValueError", .type "Exception", .type "BaseException", .type "object"] "ValueError.__new__" = true)
    (x2_BadAmount : PySem.W.subIn K (.ref c_BadAmount) (.type "BaseException") = some true)
    (x3_BadAmount : PySem.W.typeIn K (.ref c_BadAmount) = some (.type "type"))
    (x4_BadAmount : PySem.W.isClsIn K c_BadAmount = true)
    (x5_BadAmount : PySem.W.subIn K (.ref c_BadAmount) (.ref c_GiftError) = some true)
    (x1_BadDeeds : PySem.W.excIn K c_BadDeeds [.type "ValueError", .type "Exception", .type "BaseException", .type "object"] "ValueError.__new__" = true)
    (x2_BadDeeds : PySem.W.subIn K (.ref c_BadDeeds) (.type "BaseException") = some true)
    (x3_BadDeeds : PySem.W.typeIn K (.ref c_BadDeeds) = some (.type "type"))
    (x4_BadDeeds : PySem.W.isClsIn K c_BadDeeds = true)
    (x5_BadDeeds : PySem.W.subIn K (.ref c_BadDeeds) (.ref c_GiftError) = some true)
    (x1_NoneFree : PySem.W.excIn K c_NoneFree [.type "ValueError", .type "Exception", .type "BaseException", .type "object"] "ValueError.__new__" = true)
    (x2_NoneFree : PySem.W.subIn K (.ref c_NoneFree) (.type "BaseException") = some true)
    (x3_NoneFree : PySem.W.typeIn K (.ref c_NoneFree) = some (.type "type"))
    (x4_NoneFree : PySem.W.isClsIn K c_NoneFree = true)
    (x5_NoneFree : PySem.W.subIn K (.ref c_NoneFree) (.ref c_GiftError) = some true)
    (x1_TooMuch : PySem.W.excIn K c_TooMuch [.type "ValueError", .type "Exception", .type "BaseException", .type "object"] "ValueError.__new__" = true)
    (x2_TooMuch : PySem.W.subIn K (.ref c_TooMuch) (.type "BaseException") = some true)
    (x3_TooMuch : PySem.W.typeIn K (.ref c_TooMuch) = some (.type "type"))
    (x4_TooMuch : PySem.W.isClsIn K c_TooMuch = true)
    (x5_TooMuch : PySem.W.subIn K (.ref c_TooMuch) (.ref c_GiftError) = some true)
    (x1_TooMany : PySem.W.excIn K c_TooMany [.type "ValueError", .type "Exception", .type "BaseException", .type "object"] "ValueError.__new__" = true)
    (x2_TooMany : PySem.W.subIn K (.ref c_TooMany) (.type "BaseException") = some true)
    (x3_TooMany : PySem.W.typeIn K (.ref c_TooMany) = some (.type "type"))
    (x4_TooMany : PySem.W.isClsIn K c_TooMany = true)
    (x5_TooMany : PySem.W.subIn K (.ref c_TooMany) (.ref c_GiftError) = some true)
    (c1_Wish : PySem.W.plainGet K c_Wish Str.empty = true)
    (c2_Wish : PySem.W.hasDictIn K c_Wish = true)
    (c3_Wish : PySem.W.plainOver K c_Wish = true)
    (c4_Wish : PySem.W.findIn K (.ref c_Wish) "__setattr__" = some (some (.builtin "object.__setattr__")))
    (c5_Wish : PySem.W.makesIn K c_Wish = true)
    (y_Wish_owner : PySem.W.findIn K (.ref c_Wish) "owner" = some none)
    (y_Wish_word : PySem.W.findIn K (.ref c_Wish) "word" = some none)
    (y_Wish_price : PySem.W.findIn K (.ref c_Wish) "price" = some none)
    (y_Wish_many : PySem.W.findIn K (.ref c_Wish) "many" = some none)
    (y_Wish_stands : PySem.W.findIn K (.ref c_Wish) "stands" = some none)
    (y_Wish_takings : PySem.W.findIn K (.ref c_Wish) "takings" = some none)
    (y_Wish_pledges : PySem.W.findIn K (.ref c_Wish) "pledges" = some none)
    (c1_Gifts : PySem.W.plainGet K c_Gifts Str.empty = true)
    (c2_Gifts : PySem.W.hasDictIn K c_Gifts = true)
    (c3_Gifts : PySem.W.plainOver K c_Gifts = true)
    (c4_Gifts : PySem.W.findIn K (.ref c_Gifts) "__setattr__" = some (some (.builtin "object.__setattr__")))
    (c5_Gifts : PySem.W.makesIn K c_Gifts = true)
    (y_Gifts_people : PySem.W.findIn K (.ref c_Gifts) "people" = some none)
    (y_Gifts_wishes : PySem.W.findIn K (.ref c_Gifts) "wishes" = some none)
    (c1_Answer : PySem.W.plainGet K c_Answer Str.empty = true)
    (c2_Answer : PySem.W.hasDictIn K c_Answer = true)
    (c3_Answer : PySem.W.plainOver K c_Answer = true)
    (c4_Answer : PySem.W.findIn K (.ref c_Answer) "__setattr__" = some (some (.builtin "object.__setattr__")))
    (c1_Done : PySem.W.plainGet K c_Done Str.empty = true)
    (c2_Done : PySem.W.hasDictIn K c_Done = true)
    (c3_Done : PySem.W.plainOver K c_Done = true)
    (c4_Done : PySem.W.findIn K (.ref c_Done) "__setattr__" = some (some (.builtin "object.__setattr__")))
    (c5_Done : PySem.W.makesIn K c_Done = true)
    (y_Done_results : PySem.W.findIn K (.ref c_Done) "results" = some none)
    (o1_Done : PySem.W.findIn K (.ref c_Done) "__class__" = some (some (.builtin "object.__class__")))
    (o2_Done : PySem.W.specialIn K (.builtin "object.__class__") "__get__" = some (some (.builtin "getset_descriptor.__get__")))
    (o3_Done : PySem.W.takesIn K (.builtin "object.__class__") = some true)
    (o4_Done : PySem.W.mroIn K c_Done (.type "object") = some true)
    (j_Done_Done : PySem.W.kitOne K (.ref c_Done) (.ref c_Done) = some true)
    (j_Done_Halt : PySem.W.kitOne K (.ref c_Done) (.ref c_Halt) = some false)
    (j_Done_Same : PySem.W.kitOne K (.ref c_Done) (.ref c_Same) = some false)
    (j_Done_Apart : PySem.W.kitOne K (.ref c_Done) (.ref c_Apart) = some false)
    (j_Done_Paid : PySem.W.kitOne K (.ref c_Done) (.ref c_Paid) = some false)
    (j_Done_Short : PySem.W.kitOne K (.ref c_Done) (.ref c_Short) = some false)
    (j_Done_Answer : PySem.W.kitOne K (.ref c_Done) (.ref c_Answer) = some true)
    (c1_Halt : PySem.W.plainGet K c_Halt Str.empty = true)
    (c2_Halt : PySem.W.hasDictIn K c_Halt = true)
    (c3_Halt : PySem.W.plainOver K c_Halt = true)
    (c4_Halt : PySem.W.findIn K (.ref c_Halt) "__setattr__" = some (some (.builtin "object.__setattr__")))
    (c5_Halt : PySem.W.makesIn K c_Halt = true)
    (y_Halt_place : PySem.W.findIn K (.ref c_Halt) "place" = some none)
    (o1_Halt : PySem.W.findIn K (.ref c_Halt) "__class__" = some (some (.builtin "object.__class__")))
    (o2_Halt : PySem.W.specialIn K (.builtin "object.__class__") "__get__" = some (some (.builtin "getset_descriptor.__get__")))
    (o3_Halt : PySem.W.takesIn K (.builtin "object.__class__") = some true)
    (o4_Halt : PySem.W.mroIn K c_Halt (.type "object") = some true)
    (j_Halt_Done : PySem.W.kitOne K (.ref c_Halt) (.ref c_Done) = some false)
    (j_Halt_Halt : PySem.W.kitOne K (.ref c_Halt) (.ref c_Halt) = some true)
    (j_Halt_Same : PySem.W.kitOne K (.ref c_Halt) (.ref c_Same) = some false)
    (j_Halt_Apart : PySem.W.kitOne K (.ref c_Halt) (.ref c_Apart) = some false)
    (j_Halt_Paid : PySem.W.kitOne K (.ref c_Halt) (.ref c_Paid) = some false)
    (j_Halt_Short : PySem.W.kitOne K (.ref c_Halt) (.ref c_Short) = some false)
    (j_Halt_Answer : PySem.W.kitOne K (.ref c_Halt) (.ref c_Answer) = some true)
    (c1_Same : PySem.W.plainGet K c_Same Str.empty = true)
    (c2_Same : PySem.W.hasDictIn K c_Same = true)
    (c3_Same : PySem.W.plainOver K c_Same = true)
    (c4_Same : PySem.W.findIn K (.ref c_Same) "__setattr__" = some (some (.builtin "object.__setattr__")))
    (o1_Same : PySem.W.findIn K (.ref c_Same) "__class__" = some (some (.builtin "object.__class__")))
    (o2_Same : PySem.W.specialIn K (.builtin "object.__class__") "__get__" = some (some (.builtin "getset_descriptor.__get__")))
    (o3_Same : PySem.W.takesIn K (.builtin "object.__class__") = some true)
    (o4_Same : PySem.W.mroIn K c_Same (.type "object") = some true)
    (j_Same_Done : PySem.W.kitOne K (.ref c_Same) (.ref c_Done) = some false)
    (j_Same_Halt : PySem.W.kitOne K (.ref c_Same) (.ref c_Halt) = some false)
    (j_Same_Same : PySem.W.kitOne K (.ref c_Same) (.ref c_Same) = some true)
    (j_Same_Apart : PySem.W.kitOne K (.ref c_Same) (.ref c_Apart) = some false)
    (j_Same_Paid : PySem.W.kitOne K (.ref c_Same) (.ref c_Paid) = some false)
    (j_Same_Short : PySem.W.kitOne K (.ref c_Same) (.ref c_Short) = some false)
    (j_Same_Answer : PySem.W.kitOne K (.ref c_Same) (.ref c_Answer) = some true)
    (c1_Apart : PySem.W.plainGet K c_Apart Str.empty = true)
    (c2_Apart : PySem.W.hasDictIn K c_Apart = true)
    (c3_Apart : PySem.W.plainOver K c_Apart = true)
    (c4_Apart : PySem.W.findIn K (.ref c_Apart) "__setattr__" = some (some (.builtin "object.__setattr__")))
    (c5_Apart : PySem.W.makesIn K c_Apart = true)
    (y_Apart_number : PySem.W.findIn K (.ref c_Apart) "number" = some none)
    (o1_Apart : PySem.W.findIn K (.ref c_Apart) "__class__" = some (some (.builtin "object.__class__")))
    (o2_Apart : PySem.W.specialIn K (.builtin "object.__class__") "__get__" = some (some (.builtin "getset_descriptor.__get__")))
    (o3_Apart : PySem.W.takesIn K (.builtin "object.__class__") = some true)
    (o4_Apart : PySem.W.mroIn K c_Apart (.type "object") = some true)
    (j_Apart_Done : PySem.W.kitOne K (.ref c_Apart) (.ref c_Done) = some false)
    (j_Apart_Halt : PySem.W.kitOne K (.ref c_Apart) (.ref c_Halt) = some false)
    (j_Apart_Same : PySem.W.kitOne K (.ref c_Apart) (.ref c_Same) = some false)
    (j_Apart_Apart : PySem.W.kitOne K (.ref c_Apart) (.ref c_Apart) = some true)
    (j_Apart_Paid : PySem.W.kitOne K (.ref c_Apart) (.ref c_Paid) = some false)
    (j_Apart_Short : PySem.W.kitOne K (.ref c_Apart) (.ref c_Short) = some false)
    (j_Apart_Answer : PySem.W.kitOne K (.ref c_Apart) (.ref c_Answer) = some true)
    (c1_Paid : PySem.W.plainGet K c_Paid Str.empty = true)
    (c2_Paid : PySem.W.hasDictIn K c_Paid = true)
    (c3_Paid : PySem.W.plainOver K c_Paid = true)
    (c4_Paid : PySem.W.findIn K (.ref c_Paid) "__setattr__" = some (some (.builtin "object.__setattr__")))
    (c5_Paid : PySem.W.makesIn K c_Paid = true)
    (y_Paid_rows : PySem.W.findIn K (.ref c_Paid) "rows" = some none)
    (o1_Paid : PySem.W.findIn K (.ref c_Paid) "__class__" = some (some (.builtin "object.__class__")))
    (o2_Paid : PySem.W.specialIn K (.builtin "object.__class__") "__get__" = some (some (.builtin "getset_descriptor.__get__")))
    (o3_Paid : PySem.W.takesIn K (.builtin "object.__class__") = some true)
    (o4_Paid : PySem.W.mroIn K c_Paid (.type "object") = some true)
    (j_Paid_Done : PySem.W.kitOne K (.ref c_Paid) (.ref c_Done) = some false)
    (j_Paid_Halt : PySem.W.kitOne K (.ref c_Paid) (.ref c_Halt) = some false)
    (j_Paid_Same : PySem.W.kitOne K (.ref c_Paid) (.ref c_Same) = some false)
    (j_Paid_Apart : PySem.W.kitOne K (.ref c_Paid) (.ref c_Apart) = some false)
    (j_Paid_Paid : PySem.W.kitOne K (.ref c_Paid) (.ref c_Paid) = some true)
    (j_Paid_Short : PySem.W.kitOne K (.ref c_Paid) (.ref c_Short) = some false)
    (j_Paid_Answer : PySem.W.kitOne K (.ref c_Paid) (.ref c_Answer) = some true)
    (c1_Short : PySem.W.plainGet K c_Short Str.empty = true)
    (c2_Short : PySem.W.hasDictIn K c_Short = true)
    (c3_Short : PySem.W.plainOver K c_Short = true)
    (c4_Short : PySem.W.findIn K (.ref c_Short) "__setattr__" = some (some (.builtin "object.__setattr__")))
    (c5_Short : PySem.W.makesIn K c_Short = true)
    (y_Short_owners : PySem.W.findIn K (.ref c_Short) "owners" = some none)
    (o1_Short : PySem.W.findIn K (.ref c_Short) "__class__" = some (some (.builtin "object.__class__")))
    (o2_Short : PySem.W.specialIn K (.builtin "object.__class__") "__get__" = some (some (.builtin "getset_descriptor.__get__")))
    (o3_Short : PySem.W.takesIn K (.builtin "object.__class__") = some true)
    (o4_Short : PySem.W.mroIn K c_Short (.type "object") = some true)
    (j_Short_Done : PySem.W.kitOne K (.ref c_Short) (.ref c_Done) = some false)
    (j_Short_Halt : PySem.W.kitOne K (.ref c_Short) (.ref c_Halt) = some false)
    (j_Short_Same : PySem.W.kitOne K (.ref c_Short) (.ref c_Same) = some false)
    (j_Short_Apart : PySem.W.kitOne K (.ref c_Short) (.ref c_Apart) = some false)
    (j_Short_Paid : PySem.W.kitOne K (.ref c_Short) (.ref c_Paid) = some false)
    (j_Short_Short : PySem.W.kitOne K (.ref c_Short) (.ref c_Short) = some true)
    (j_Short_Answer : PySem.W.kitOne K (.ref c_Short) (.ref c_Answer) = some true)
    (u_LETTERS : PySem.W.nsIn K mainGlobals "LETTERS" = some (some (.str "abcdefghijklmnopqrstuvwxyz" t_LETTERS)))
    (u_MOST_PEOPLE : PySem.W.nsIn K mainGlobals "MOST_PEOPLE" = some (some (.int 5 t_MOST_PEOPLE)))
    (u_MOST_WORD : PySem.W.nsIn K mainGlobals "MOST_WORD" = some (some (.int 4 t_MOST_WORD)))
    (u_MOST_PRICE : PySem.W.nsIn K mainGlobals "MOST_PRICE" = some (some (.int 20 t_MOST_PRICE)))
    (u_MOST_PIECES : PySem.W.nsIn K mainGlobals "MOST_PIECES" = some (some (.int 3 t_MOST_PIECES)))
    (u_MOST_WISHES : PySem.W.nsIn K mainGlobals "MOST_WISHES" = some (some (.int 8 t_MOST_WISHES)))
    (u_MOST_DEEDS : PySem.W.nsIn K mainGlobals "MOST_DEEDS" = some (some (.int 30 t_MOST_DEEDS)))
    (u_SIZES : PySem.W.nsIn K mainGlobals "SIZES" = some (some (.ref g_SIZES)))
    (d1_SIZES : K.lookup g_SIZES = some ⟨.type "dict", none, .dict e_SIZES n_SIZES, #[]⟩)
    (d2_SIZES : PySem.W.KeysLit w.params e_SIZES.toList)
    (d3_SIZES : (g_SIZES == sysModules) = false)
    (d4_SIZES_wish : PySem.W.nsIn K g_SIZES "wish" = some (some (.int 5 t_SIZES_wish)))
    (d4_SIZES_alter : PySem.W.nsIn K g_SIZES "alter" = some (some (.int 4 t_SIZES_alter)))
    (d4_SIZES_drop : PySem.W.nsIn K g_SIZES "drop" = some (some (.int 3 t_SIZES_drop)))
    (d4_SIZES_take : PySem.W.nsIn K g_SIZES "take" = some (some (.int 4 t_SIZES_take)))
    (d4_SIZES_pledge : PySem.W.nsIn K g_SIZES "pledge" = some (some (.int 4 t_SIZES_pledge)))
    (d4_SIZES_back : PySem.W.nsIn K g_SIZES "back" = some (some (.int 3 t_SIZES_back)))
    (d5_SIZES : PySem.W.nsIn K g_SIZES "give" = some none)
    (z_all : PySem.W.nsIn K mainGlobals "all" = some none)
    (z_any : PySem.W.nsIn K mainGlobals "any" = some none)
    (z_bool : PySem.W.nsIn K mainGlobals "bool" = some none)
    (z_enumerate : PySem.W.nsIn K mainGlobals "enumerate" = some none)
    (z_int : PySem.W.nsIn K mainGlobals "int" = some none)
    (z_isinstance : PySem.W.nsIn K mainGlobals "isinstance" = some none)
    (z_len : PySem.W.nsIn K mainGlobals "len" = some none)
    (z_list : PySem.W.nsIn K mainGlobals "list" = some none)
    (z_max : PySem.W.nsIn K mainGlobals "max" = some none)
    (z_min : PySem.W.nsIn K mainGlobals "min" = some none)
    (z_range : PySem.W.nsIn K mainGlobals "range" = some none)
    (z_sorted : PySem.W.nsIn K mainGlobals "sorted" = some none)
    (z_str : PySem.W.nsIn K mainGlobals "str" = some none)
    (z_sum : PySem.W.nsIn K mainGlobals "sum" = some none)
    (z_tuple : PySem.W.nsIn K mainGlobals "tuple" = some none)
    (z_zip : PySem.W.nsIn K mainGlobals "zip" = some none)
    : ∃ fd : FuncData, (∀ (s : Shared) (v : Value), BindsTo s fd ⟨[v], []⟩ [("_law_script", v)]) ∧ ∀ base : Heap, K.In base → base.Ns mainGlobals mg → FnOk P w K mg base (L2.CX P w) 11 fa fd ["_law_script"] (sp_law K) := by
  have e := Value.ref.inj (Option.some.inj (hfa.symm.trans (PySem.W.mg_of X G a_law)).symm)
  subst e
  have F_is_whole := fun_mk (st := s_is_whole) l_is_whole b_is_whole k_is_whole
  have B_is_whole := F_is_whole.binds (ps := ["thing"]) fun _ _ _ _ _ _ us hl => match us, hl with | [_], _ => rfl
  have F_is_count := fun_mk (st := s_is_count) l_is_count b_is_count k_is_count
  have B_is_count := F_is_count.binds (ps := ["thing", "least", "most"]) fun _ _ _ _ _ _ us hl => match us, hl with | [_, _, _], _ => rfl
  have F_is_word := fun_mk (st := s_is_word) l_is_word b_is_word k_is_word
  have B_is_word := F_is_word.binds (ps := ["thing"]) fun _ _ _ _ _ _ us hl => match us, hl with | [_], _ => rfl
  have F_is_deed := fun_mk (st := s_is_deed) l_is_deed b_is_deed k_is_deed
  have B_is_deed := F_is_deed.binds (ps := ["thing"]) fun _ _ _ _ _ _ us hl => match us, hl with | [_], _ => rfl
  have F_are_deeds := fun_mk (st := s_are_deeds) l_are_deeds b_are_deeds k_are_deeds
  have B_are_deeds := F_are_deeds.binds (ps := ["thing"]) fun _ _ _ _ _ _ us hl => match us, hl with | [_], _ => rfl
  have F_Wish_init := fun_mk (st := s_Wish_init) l_Wish_init b_Wish_init k_Wish_init
  have B_Wish_init := F_Wish_init.binds (ps := ["self", "owner", "word", "price", "many"]) fun _ _ _ _ _ _ us hl => match us, hl with | [_, _, _, _, _], _ => rfl
  have F_Wish_free := fun_mk (st := s_Wish_free) l_Wish_free b_Wish_free k_Wish_free
  have B_Wish_free := F_Wish_free.binds (ps := ["self"]) fun _ _ _ _ _ _ us hl => match us, hl with | [_], _ => rfl
  have F_Wish_lacking := fun_mk (st := s_Wish_lacking) l_Wish_lacking b_Wish_lacking k_Wish_lacking
  have B_Wish_lacking := F_Wish_lacking.binds (ps := ["self"]) fun _ _ _ _ _ _ us hl => match us, hl with | [_], _ => rfl
  have F_Wish_done := fun_mk (st := s_Wish_done) l_Wish_done b_Wish_done k_Wish_done
  have B_Wish_done := F_Wish_done.binds (ps := ["self"]) fun _ _ _ _ _ _ us hl => match us, hl with | [_], _ => rfl
  have F_Gifts_init := fun_mk (st := s_Gifts_init) l_Gifts_init b_Gifts_init k_Gifts_init
  have B_Gifts_init := F_Gifts_init.binds (ps := ["self", "people"]) fun _ _ _ _ _ _ us hl => match us, hl with | [_, _], _ => rfl
  have F_Gifts_look_at := fun_mk (st := s_Gifts_look_at) l_Gifts_look_at b_Gifts_look_at k_Gifts_look_at
  have B_Gifts_look_at := F_Gifts_look_at.binds (ps := ["self", "person"]) fun _ _ _ _ _ _ us hl => match us, hl with | [_, _], _ => rfl
  have F_Gifts_own_wish := fun_mk (st := s_Gifts_own_wish) l_Gifts_own_wish b_Gifts_own_wish k_Gifts_own_wish
  have B_Gifts_own_wish := F_Gifts_own_wish.binds (ps := ["self", "owner", "wish"]) fun _ _ _ _ _ _ us hl => match us, hl with | [_, _, _], _ => rfl
  have F_Gifts_other_wish := fun_mk (st := s_Gifts_other_wish) l_Gifts_other_wish b_Gifts_other_wish k_Gifts_other_wish
  have B_Gifts_other_wish := F_Gifts_other_wish.binds (ps := ["self", "person", "wish"]) fun _ _ _ _ _ _ us hl => match us, hl with | [_, _, _], _ => rfl
  have F_Gifts_wish := fun_mk (st := s_Gifts_wish) l_Gifts_wish b_Gifts_wish k_Gifts_wish
  have B_Gifts_wish := F_Gifts_wish.binds (ps := ["self", "owner", "word", "price", "many"]) fun _ _ _ _ _ _ us hl => match us, hl with | [_, _, _, _, _], _ => rfl
  have F_Gifts_alter := fun_mk (st := s_Gifts_alter) l_Gifts_alter b_Gifts_alter k_Gifts_alter
  have B_Gifts_alter := F_Gifts_alter.binds (ps := ["self", "owner", "wish", "many"]) fun _ _ _ _ _ _ us hl => match us, hl with | [_, _, _, _], _ => rfl
  have F_Gifts_drop := fun_mk (st := s_Gifts_drop) l_Gifts_drop b_Gifts_drop k_Gifts_drop
  have B_Gifts_drop := F_Gifts_drop.binds (ps := ["self", "owner", "wish"]) fun _ _ _ _ _ _ us hl => match us, hl with | [_, _, _], _ => rfl
  have F_Gifts_take := fun_mk (st := s_Gifts_take) l_Gifts_take b_Gifts_take k_Gifts_take
  have B_Gifts_take := F_Gifts_take.binds (ps := ["self", "person", "wish", "count"]) fun _ _ _ _ _ _ us hl => match us, hl with | [_, _, _, _], _ => rfl
  have F_Gifts_pledge := fun_mk (st := s_Gifts_pledge) l_Gifts_pledge b_Gifts_pledge k_Gifts_pledge
  have B_Gifts_pledge := F_Gifts_pledge.binds (ps := ["self", "person", "wish", "amount"]) fun _ _ _ _ _ _ us hl => match us, hl with | [_, _, _, _], _ => rfl
  have F_Gifts_back := fun_mk (st := s_Gifts_back) l_Gifts_back b_Gifts_back k_Gifts_back
  have B_Gifts_back := F_Gifts_back.binds (ps := ["self", "person", "wish"]) fun _ _ _ _ _ _ us hl => match us, hl with | [_, _, _], _ => rfl
  have F_Gifts_seen := fun_mk (st := s_Gifts_seen) l_Gifts_seen b_Gifts_seen k_Gifts_seen
  have B_Gifts_seen := F_Gifts_seen.binds (ps := ["self", "person"]) fun _ _ _ _ _ _ us hl => match us, hl with | [_, _], _ => rfl
  have F_done := fun_mk (st := s_done) l_done b_done k_done
  have B_done := F_done.binds (ps := ["gifts", "deed"]) fun _ _ _ _ _ _ us hl => match us, hl with | [_, _], _ => rfl
  have F_played := fun_mk (st := s_played) l_played b_played k_played
  have B_played := F_played.binds (ps := ["people", "deeds"]) fun _ _ _ _ _ _ us hl => match us, hl with | [_, _], _ => rfl
  have F_first_unlike := fun_mk (st := s_first_unlike) l_first_unlike b_first_unlike k_first_unlike
  have B_first_unlike := F_first_unlike.binds (ps := ["people", "one", "other", "person"]) fun _ _ _ _ _ _ us hl => match us, hl with | [_, _, _, _], _ => rfl
  have F_Done_init := fun_mk (st := s_Done_init) l_Done_init b_Done_init k_Done_init
  have B_Done_init := F_Done_init.binds (ps := ["self", "results"]) fun _ _ _ _ _ _ us hl => match us, hl with | [_, _], _ => rfl
  have F_Done_shows := fun_mk (st := s_Done_shows) l_Done_shows b_Done_shows k_Done_shows
  have B_Done_shows := F_Done_shows.binds (ps := ["self", "people", "deeds"]) fun _ _ _ _ _ _ us hl => match us, hl with | [_, _, _], _ => rfl
  have F_Halt_init := fun_mk (st := s_Halt_init) l_Halt_init b_Halt_init k_Halt_init
  have B_Halt_init := F_Halt_init.binds (ps := ["self", "place"]) fun _ _ _ _ _ _ us hl => match us, hl with | [_, _], _ => rfl
  have F_Halt_shows := fun_mk (st := s_Halt_shows) l_Halt_shows b_Halt_shows k_Halt_shows
  have B_Halt_shows := F_Halt_shows.binds (ps := ["self", "people", "deeds"]) fun _ _ _ _ _ _ us hl => match us, hl with | [_, _, _], _ => rfl
  have F_Same_shows := fun_mk (st := s_Same_shows) l_Same_shows b_Same_shows k_Same_shows
  have B_Same_shows := F_Same_shows.binds (ps := ["self", "people", "one", "other", "person"]) fun _ _ _ _ _ _ us hl => match us, hl with | [_, _, _, _, _], _ => rfl
  have F_Apart_init := fun_mk (st := s_Apart_init) l_Apart_init b_Apart_init k_Apart_init
  have B_Apart_init := F_Apart_init.binds (ps := ["self", "number"]) fun _ _ _ _ _ _ us hl => match us, hl with | [_, _], _ => rfl
  have F_Apart_shows := fun_mk (st := s_Apart_shows) l_Apart_shows b_Apart_shows k_Apart_shows
  have B_Apart_shows := F_Apart_shows.binds (ps := ["self", "people", "one", "other", "person"]) fun _ _ _ _ _ _ us hl => match us, hl with | [_, _, _, _, _], _ => rfl
  have F_Paid_init := fun_mk (st := s_Paid_init) l_Paid_init b_Paid_init k_Paid_init
  have B_Paid_init := F_Paid_init.binds (ps := ["self", "rows"]) fun _ _ _ _ _ _ us hl => match us, hl with | [_, _], _ => rfl
  have F_Paid_shows := fun_mk (st := s_Paid_shows) l_Paid_shows b_Paid_shows k_Paid_shows
  have B_Paid_shows := F_Paid_shows.binds (ps := ["self", "purses", "wants"]) fun _ _ _ _ _ _ us hl => match us, hl with | [_, _, _], _ => rfl
  have F_Short_init := fun_mk (st := s_Short_init) l_Short_init b_Short_init k_Short_init
  have B_Short_init := F_Short_init.binds (ps := ["self", "owners"]) fun _ _ _ _ _ _ us hl => match us, hl with | [_, _], _ => rfl
  have F_Short_shows := fun_mk (st := s_Short_shows) l_Short_shows b_Short_shows k_Short_shows
  have B_Short_shows := F_Short_shows.binds (ps := ["self", "purses", "wants"]) fun _ _ _ _ _ _ us hl => match us, hl with | [_, _, _], _ => rfl
  have F_check_people := fun_mk (st := s_check_people) l_check_people b_check_people k_check_people
  have B_check_people := F_check_people.binds (ps := ["people"]) fun _ _ _ _ _ _ us hl => match us, hl with | [_], _ => rfl
  have F_check_deeds := fun_mk (st := s_check_deeds) l_check_deeds b_check_deeds k_check_deeds
  have B_check_deeds := F_check_deeds.binds (ps := ["deeds"]) fun _ _ _ _ _ _ us hl => match us, hl with | [_], _ => rfl
  have F_told := fun_mk (st := s_told) l_told b_told k_told
  have B_told := F_told.binds (ps := ["people", "deeds"]) fun _ _ _ _ _ _ us hl => match us, hl with | [_, _], _ => rfl
  have F_law_cell_at := fun_mk (st := s_law_cell_at) l_law_cell_at b_law_cell_at k_law_cell_at
  have B_law_cell_at := F_law_cell_at.binds (ps := ["_law_script", "_law_k"]) fun _ _ _ _ _ _ us hl => match us, hl with | [_, _], _ => rfl
  have F_law_draw := fun_mk (st := s_law_draw) l_law_draw b_law_draw k_law_draw
  have B_law_draw := F_law_draw.binds (ps := ["_law_cell", "_law_k", "_law_many"]) fun _ _ _ _ _ _ us hl => match us, hl with | [_, _, _], _ => rfl
  have F_law_value := fun_mk (st := s_law_value) l_law_value b_law_value k_law_value
  have B_law_value := F_law_value.binds (ps := ["_law_cell", "_law_turn"]) fun _ _ _ _ _ _ us hl => match us, hl with | [_, _], _ => rfl
  have F_law_whole := fun_mk (st := s_law_whole) l_law_whole b_law_whole k_law_whole
  have B_law_whole := F_law_whole.binds (ps := ["_law_number"]) fun _ _ _ _ _ _ us hl => match us, hl with | [_], _ => rfl
  have F_law_says := fun_mk (st := s_law_says) l_law_says b_law_says k_law_says
  have B_law_says := F_law_says.binds (ps := ["_law_said", "_law_due_here"]) fun _ _ _ _ _ _ us hl => match us, hl with | [_, _], _ => rfl
  have F_law_people := fun_mk (st := s_law_people) l_law_people b_law_people k_law_people
  have B_law_people := F_law_people.binds (ps := ["_law_script"]) fun _ _ _ _ _ _ us hl => match us, hl with | [_], _ => rfl
  have F_law_word := fun_mk (st := s_law_word) l_law_word b_law_word k_law_word
  have B_law_word := F_law_word.binds (ps := ["_law_number"]) fun _ _ _ _ _ _ us hl => match us, hl with | [_], _ => rfl
  have F_law_deed := fun_mk (st := s_law_deed) l_law_deed b_law_deed k_law_deed
  have B_law_deed := F_law_deed.binds (ps := ["_law_cell", "_law_at", "_law_people_here", "_law_wishes"]) fun _ _ _ _ _ _ us hl => match us, hl with | [_, _, _, _], _ => rfl
  have F_law_refused := fun_mk (st := s_law_refused) l_law_refused b_law_refused k_law_refused
  have B_law_refused := F_law_refused.binds (ps := ["_law_wishes", "_law_deed_here"]) fun _ _ _ _ _ _ us hl => match us, hl with | [_, _], _ => rfl
  have F_law_free := fun_mk (st := s_law_free) l_law_free b_law_free k_law_free
  have B_law_free := F_law_free.binds (ps := ["_law_wish"]) fun _ _ _ _ _ _ us hl => match us, hl with | [_], _ => rfl
  have F_law_done := fun_mk (st := s_law_done) l_law_done b_law_done k_law_done
  have B_law_done := F_law_done.binds (ps := ["_law_wishes", "_law_deed_here"]) fun _ _ _ _ _ _ us hl => match us, hl with | [_, _], _ => rfl
  have F_law_drawn := fun_mk (st := s_law_drawn) l_law_drawn b_law_drawn k_law_drawn
  have B_law_drawn := F_law_drawn.binds (ps := ["_law_script", "_law_begin", "_law_end", "_law_people_here"]) fun _ _ _ _ _ _ us hl => match us, hl with | [_, _, _, _], _ => rfl
  have F_law_good := fun_mk (st := s_law_good) l_law_good b_law_good k_law_good
  have B_law_good := F_law_good.binds (ps := ["_law_script", "_law_begin", "_law_end", "_law_people_here"]) fun _ _ _ _ _ _ us hl => match us, hl with | [_, _, _, _], _ => rfl
  have F_law_played := fun_mk (st := s_law_played) l_law_played b_law_played k_law_played
  have B_law_played := F_law_played.binds (ps := ["_law_people_here", "_law_deeds"]) fun _ _ _ _ _ _ us hl => match us, hl with | [_, _], _ => rfl
  have F_law_numbers_good := fun_mk (st := s_law_numbers_good) l_law_numbers_good b_law_numbers_good k_law_numbers_good
  have B_law_numbers_good := F_law_numbers_good.binds (ps := ["_law_deed_here"]) fun _ _ _ _ _ _ us hl => match us, hl with | [_], _ => rfl
  have F_law_due := fun_mk (st := s_law_due) l_law_due b_law_due k_law_due
  have B_law_due := F_law_due.binds (ps := ["_law_people_here", "_law_deeds", "_law_found"]) fun _ _ _ _ _ _ us hl => match us, hl with | [_, _, _], _ => rfl
  have F_law_right := fun_mk (st := s_law_right) l_law_right b_law_right k_law_right
  have B_law_right := F_law_right.binds (ps := ["_law_people_here", "_law_deeds", "_law_others"]) fun _ _ _ _ _ _ us hl => match us, hl with | [_, _, _], _ => rfl
  have F_law_bent := fun_mk (st := s_law_bent) l_law_bent b_law_bent k_law_bent
  have B_law_bent := F_law_bent.binds (ps := ["_law_deed_here", "_law_number"]) fun _ _ _ _ _ _ us hl => match us, hl with | [_, _], _ => rfl
  have F_law := fun_mk (st := s_law) l_law b_law k_law
  have B_law := F_law.binds (ps := ["_law_script"]) fun _ _ _ _ _ _ us hl => match us, hl with | [_], _ => rfl
  let a : A := { c_GiftError := c_GiftError, c_BadPeople := c_BadPeople, c_BadPerson := c_BadPerson, c_BadWord := c_BadWord, c_BadPrice := c_BadPrice, c_BadMany := c_BadMany, c_BadWish := c_BadWish, c_BadAmount := c_BadAmount, c_BadDeeds := c_BadDeeds, c_NoneFree := c_NoneFree, c_TooMuch := c_TooMuch, c_TooMany := c_TooMany, c_Wish := c_Wish, c_Gifts := c_Gifts, c_Answer := c_Answer, c_Done := c_Done, c_Halt := c_Halt, c_Same := c_Same, c_Apart := c_Apart, c_Paid := c_Paid, c_Short := c_Short, f_is_whole := f_is_whole, d_is_whole := PySem.W.fnOf "is_whole" "is_whole" (defArgs s_is_whole) (defBody s_is_whole) (defScope s_is_whole) .none vis_whole dis_whole pis_whole nis_whole qis_whole ris_whole, f_is_count := f_is_count, d_is_count := PySem.W.fnOf "is_count" "is_count" (defArgs s_is_count) (defBody s_is_count) (defScope s_is_count) .none vis_count dis_count pis_count nis_count qis_count ris_count, f_is_word := f_is_word, d_is_word := PySem.W.fnOf "is_word" "is_word" (defArgs s_is_word) (defBody s_is_word) (defScope s_is_word) .none vis_word dis_word pis_word nis_word qis_word ris_word, f_is_deed := f_is_deed, d_is_deed := PySem.W.fnOf "is_deed" "is_deed" (defArgs s_is_deed) (defBody s_is_deed) (defScope s_is_deed) .none vis_deed dis_deed pis_deed nis_deed qis_deed ris_deed, f_are_deeds := f_are_deeds, d_are_deeds := PySem.W.fnOf "are_deeds" "are_deeds" (defArgs s_are_deeds) (defBody s_are_deeds) (defScope s_are_deeds) .none vare_deeds dare_deeds pare_deeds nare_deeds qare_deeds rare_deeds, f_Wish_init := f_Wish_init, d_Wish_init := PySem.W.fnOf "__init__" "Wish.__init__" (defArgs s_Wish_init) (defBody s_Wish_init) (defScope s_Wish_init) .none vWish_init dWish_init pWish_init nWish_init qWish_init rWish_init, f_Wish_free := f_Wish_free, d_Wish_free := PySem.W.fnOf "free" "Wish.free" (defArgs s_Wish_free) (defBody s_Wish_free) (defScope s_Wish_free) .none vWish_free dWish_free pWish_free nWish_free qWish_free rWish_free, f_Wish_lacking := f_Wish_lacking, d_Wish_lacking := PySem.W.fnOf "lacking" "Wish.lacking" (defArgs s_Wish_lacking) (defBody s_Wish_lacking) (defScope s_Wish_lacking) .none vWish_lacking dWish_lacking pWish_lacking nWish_lacking qWish_lacking rWish_lacking, f_Wish_done := f_Wish_done, d_Wish_done := PySem.W.fnOf "done" "Wish.done" (defArgs s_Wish_done) (defBody s_Wish_done) (defScope s_Wish_done) .none vWish_done dWish_done pWish_done nWish_done qWish_done rWish_done, f_Gifts_init := f_Gifts_init, d_Gifts_init := PySem.W.fnOf "__init__" "Gifts.__init__" (defArgs s_Gifts_init) (defBody s_Gifts_init) (defScope s_Gifts_init) .none vGifts_init dGifts_init pGifts_init nGifts_init qGifts_init rGifts_init, f_Gifts_look_at := f_Gifts_look_at, d_Gifts_look_at := PySem.W.fnOf "look_at" "Gifts.look_at" (defArgs s_Gifts_look_at) (defBody s_Gifts_look_at) (defScope s_Gifts_look_at) .none vGifts_look_at dGifts_look_at pGifts_look_at nGifts_look_at qGifts_look_at rGifts_look_at, f_Gifts_own_wish := f_Gifts_own_wish, d_Gifts_own_wish := PySem.W.fnOf "own_wish" "Gifts.own_wish" (defArgs s_Gifts_own_wish) (defBody s_Gifts_own_wish) (defScope s_Gifts_own_wish) .none vGifts_own_wish dGifts_own_wish pGifts_own_wish nGifts_own_wish qGifts_own_wish rGifts_own_wish, f_Gifts_other_wish := f_Gifts_other_wish, d_Gifts_other_wish := PySem.W.fnOf "other_wish" "Gifts.other_wish" (defArgs s_Gifts_other_wish) (defBody s_Gifts_other_wish) (defScope s_Gifts_other_wish) .none vGifts_other_wish dGifts_other_wish pGifts_other_wish nGifts_other_wish qGifts_other_wish rGifts_other_wish, f_Gifts_wish := f_Gifts_wish, d_Gifts_wish := PySem.W.fnOf "wish" "Gifts.wish" (defArgs s_Gifts_wish) (defBody s_Gifts_wish) (defScope s_Gifts_wish) .none vGifts_wish dGifts_wish pGifts_wish nGifts_wish qGifts_wish rGifts_wish, f_Gifts_alter := f_Gifts_alter, d_Gifts_alter := PySem.W.fnOf "alter" "Gifts.alter" (defArgs s_Gifts_alter) (defBody s_Gifts_alter) (defScope s_Gifts_alter) .none vGifts_alter dGifts_alter pGifts_alter nGifts_alter qGifts_alter rGifts_alter, f_Gifts_drop := f_Gifts_drop, d_Gifts_drop := PySem.W.fnOf "drop" "Gifts.drop" (defArgs s_Gifts_drop) (defBody s_Gifts_drop) (defScope s_Gifts_drop) .none vGifts_drop dGifts_drop pGifts_drop nGifts_drop qGifts_drop rGifts_drop, f_Gifts_take := f_Gifts_take, d_Gifts_take := PySem.W.fnOf "take" "Gifts.take" (defArgs s_Gifts_take) (defBody s_Gifts_take) (defScope s_Gifts_take) .none vGifts_take dGifts_take pGifts_take nGifts_take qGifts_take rGifts_take, f_Gifts_pledge := f_Gifts_pledge, d_Gifts_pledge := PySem.W.fnOf "pledge" "Gifts.pledge" (defArgs s_Gifts_pledge) (defBody s_Gifts_pledge) (defScope s_Gifts_pledge) .none vGifts_pledge dGifts_pledge pGifts_pledge nGifts_pledge qGifts_pledge rGifts_pledge, f_Gifts_back := f_Gifts_back, d_Gifts_back := PySem.W.fnOf "back" "Gifts.back" (defArgs s_Gifts_back) (defBody s_Gifts_back) (defScope s_Gifts_back) .none vGifts_back dGifts_back pGifts_back nGifts_back qGifts_back rGifts_back, f_Gifts_seen := f_Gifts_seen, d_Gifts_seen := PySem.W.fnOf "seen" "Gifts.seen" (defArgs s_Gifts_seen) (defBody s_Gifts_seen) (defScope s_Gifts_seen) .none vGifts_seen dGifts_seen pGifts_seen nGifts_seen qGifts_seen rGifts_seen, f_done := f_done, d_done := PySem.W.fnOf "done" "done" (defArgs s_done) (defBody s_done) (defScope s_done) .none vdone ddone pdone ndone qdone rdone, f_played := f_played, d_played := PySem.W.fnOf "played" "played" (defArgs s_played) (defBody s_played) (defScope s_played) .none vplayed dplayed pplayed nplayed qplayed rplayed, f_first_unlike := f_first_unlike, d_first_unlike := PySem.W.fnOf "first_unlike" "first_unlike" (defArgs s_first_unlike) (defBody s_first_unlike) (defScope s_first_unlike) .none vfirst_unlike dfirst_unlike pfirst_unlike nfirst_unlike qfirst_unlike rfirst_unlike, f_Done_init := f_Done_init, d_Done_init := PySem.W.fnOf "__init__" "Done.__init__" (defArgs s_Done_init) (defBody s_Done_init) (defScope s_Done_init) .none vDone_init dDone_init pDone_init nDone_init qDone_init rDone_init, f_Done_shows := f_Done_shows, d_Done_shows := PySem.W.fnOf "shows" "Done.shows" (defArgs s_Done_shows) (defBody s_Done_shows) (defScope s_Done_shows) .none vDone_shows dDone_shows pDone_shows nDone_shows qDone_shows rDone_shows, f_Halt_init := f_Halt_init, d_Halt_init := PySem.W.fnOf "__init__" "Halt.__init__" (defArgs s_Halt_init) (defBody s_Halt_init) (defScope s_Halt_init) .none vHalt_init dHalt_init pHalt_init nHalt_init qHalt_init rHalt_init, f_Halt_shows := f_Halt_shows, d_Halt_shows := PySem.W.fnOf "shows" "Halt.shows" (defArgs s_Halt_shows) (defBody s_Halt_shows) (defScope s_Halt_shows) .none vHalt_shows dHalt_shows pHalt_shows nHalt_shows qHalt_shows rHalt_shows, f_Same_shows := f_Same_shows, d_Same_shows := PySem.W.fnOf "shows" "Same.shows" (defArgs s_Same_shows) (defBody s_Same_shows) (defScope s_Same_shows) .none vSame_shows dSame_shows pSame_shows nSame_shows qSame_shows rSame_shows, f_Apart_init := f_Apart_init, d_Apart_init := PySem.W.fnOf "__init__" "Apart.__init__" (defArgs s_Apart_init) (defBody s_Apart_init) (defScope s_Apart_init) .none vApart_init dApart_init pApart_init nApart_init qApart_init rApart_init, f_Apart_shows := f_Apart_shows, d_Apart_shows := PySem.W.fnOf "shows" "Apart.shows" (defArgs s_Apart_shows) (defBody s_Apart_shows) (defScope s_Apart_shows) .none vApart_shows dApart_shows pApart_shows nApart_shows qApart_shows rApart_shows, f_Paid_init := f_Paid_init, d_Paid_init := PySem.W.fnOf "__init__" "Paid.__init__" (defArgs s_Paid_init) (defBody s_Paid_init) (defScope s_Paid_init) .none vPaid_init dPaid_init pPaid_init nPaid_init qPaid_init rPaid_init, f_Paid_shows := f_Paid_shows, d_Paid_shows := PySem.W.fnOf "shows" "Paid.shows" (defArgs s_Paid_shows) (defBody s_Paid_shows) (defScope s_Paid_shows) .none vPaid_shows dPaid_shows pPaid_shows nPaid_shows qPaid_shows rPaid_shows, f_Short_init := f_Short_init, d_Short_init := PySem.W.fnOf "__init__" "Short.__init__" (defArgs s_Short_init) (defBody s_Short_init) (defScope s_Short_init) .none vShort_init dShort_init pShort_init nShort_init qShort_init rShort_init, f_Short_shows := f_Short_shows, d_Short_shows := PySem.W.fnOf "shows" "Short.shows" (defArgs s_Short_shows) (defBody s_Short_shows) (defScope s_Short_shows) .none vShort_shows dShort_shows pShort_shows nShort_shows qShort_shows rShort_shows, f_check_people := f_check_people, d_check_people := PySem.W.fnOf "check_people" "check_people" (defArgs s_check_people) (defBody s_check_people) (defScope s_check_people) .none vcheck_people dcheck_people pcheck_people ncheck_people qcheck_people rcheck_people, f_check_deeds := f_check_deeds, d_check_deeds := PySem.W.fnOf "check_deeds" "check_deeds" (defArgs s_check_deeds) (defBody s_check_deeds) (defScope s_check_deeds) .none vcheck_deeds dcheck_deeds pcheck_deeds ncheck_deeds qcheck_deeds rcheck_deeds, f_told := f_told, d_told := PySem.W.fnOf "told" "told" (defArgs s_told) (defBody s_told) (defScope s_told) .none vtold dtold ptold ntold qtold rtold, f_law_cell_at := f_law_cell_at, d_law_cell_at := PySem.W.fnOf "_law_cell_at" "_law_cell_at" (defArgs s_law_cell_at) (defBody s_law_cell_at) (defScope s_law_cell_at) .none vlaw_cell_at dlaw_cell_at plaw_cell_at nlaw_cell_at qlaw_cell_at rlaw_cell_at, f_law_draw := f_law_draw, d_law_draw := PySem.W.fnOf "_law_draw" "_law_draw" (defArgs s_law_draw) (defBody s_law_draw) (defScope s_law_draw) .none vlaw_draw dlaw_draw plaw_draw nlaw_draw qlaw_draw rlaw_draw, f_law_value := f_law_value, d_law_value := PySem.W.fnOf "_law_value" "_law_value" (defArgs s_law_value) (defBody s_law_value) (defScope s_law_value) .none vlaw_value dlaw_value plaw_value nlaw_value qlaw_value rlaw_value, f_law_whole := f_law_whole, d_law_whole := PySem.W.fnOf "_law_whole" "_law_whole" (defArgs s_law_whole) (defBody s_law_whole) (defScope s_law_whole) .none vlaw_whole dlaw_whole plaw_whole nlaw_whole qlaw_whole rlaw_whole, f_law_says := f_law_says, d_law_says := PySem.W.fnOf "_law_says" "_law_says" (defArgs s_law_says) (defBody s_law_says) (defScope s_law_says) .none vlaw_says dlaw_says plaw_says nlaw_says qlaw_says rlaw_says, f_law_people := f_law_people, d_law_people := PySem.W.fnOf "_law_people" "_law_people" (defArgs s_law_people) (defBody s_law_people) (defScope s_law_people) .none vlaw_people dlaw_people plaw_people nlaw_people qlaw_people rlaw_people, f_law_word := f_law_word, d_law_word := PySem.W.fnOf "_law_word" "_law_word" (defArgs s_law_word) (defBody s_law_word) (defScope s_law_word) .none vlaw_word dlaw_word plaw_word nlaw_word qlaw_word rlaw_word, f_law_deed := f_law_deed, d_law_deed := PySem.W.fnOf "_law_deed" "_law_deed" (defArgs s_law_deed) (defBody s_law_deed) (defScope s_law_deed) .none vlaw_deed dlaw_deed plaw_deed nlaw_deed qlaw_deed rlaw_deed, f_law_refused := f_law_refused, d_law_refused := PySem.W.fnOf "_law_refused" "_law_refused" (defArgs s_law_refused) (defBody s_law_refused) (defScope s_law_refused) .none vlaw_refused dlaw_refused plaw_refused nlaw_refused qlaw_refused rlaw_refused, f_law_free := f_law_free, d_law_free := PySem.W.fnOf "_law_free" "_law_free" (defArgs s_law_free) (defBody s_law_free) (defScope s_law_free) .none vlaw_free dlaw_free plaw_free nlaw_free qlaw_free rlaw_free, f_law_done := f_law_done, d_law_done := PySem.W.fnOf "_law_done" "_law_done" (defArgs s_law_done) (defBody s_law_done) (defScope s_law_done) .none vlaw_done dlaw_done plaw_done nlaw_done qlaw_done rlaw_done, f_law_drawn := f_law_drawn, d_law_drawn := PySem.W.fnOf "_law_drawn" "_law_drawn" (defArgs s_law_drawn) (defBody s_law_drawn) (defScope s_law_drawn) .none vlaw_drawn dlaw_drawn plaw_drawn nlaw_drawn qlaw_drawn rlaw_drawn, f_law_good := f_law_good, d_law_good := PySem.W.fnOf "_law_good" "_law_good" (defArgs s_law_good) (defBody s_law_good) (defScope s_law_good) .none vlaw_good dlaw_good plaw_good nlaw_good qlaw_good rlaw_good, f_law_played := f_law_played, d_law_played := PySem.W.fnOf "_law_played" "_law_played" (defArgs s_law_played) (defBody s_law_played) (defScope s_law_played) .none vlaw_played dlaw_played plaw_played nlaw_played qlaw_played rlaw_played, f_law_numbers_good := f_law_numbers_good, d_law_numbers_good := PySem.W.fnOf "_law_numbers_good" "_law_numbers_good" (defArgs s_law_numbers_good) (defBody s_law_numbers_good) (defScope s_law_numbers_good) .none vlaw_numbers_good dlaw_numbers_good plaw_numbers_good nlaw_numbers_good qlaw_numbers_good rlaw_numbers_good, f_law_due := f_law_due, d_law_due := PySem.W.fnOf "_law_due" "_law_due" (defArgs s_law_due) (defBody s_law_due) (defScope s_law_due) .none vlaw_due dlaw_due plaw_due nlaw_due qlaw_due rlaw_due, f_law_right := f_law_right, d_law_right := PySem.W.fnOf "_law_right" "_law_right" (defArgs s_law_right) (defBody s_law_right) (defScope s_law_right) .none vlaw_right dlaw_right plaw_right nlaw_right qlaw_right rlaw_right, f_law_bent := f_law_bent, d_law_bent := PySem.W.fnOf "_law_bent" "_law_bent" (defArgs s_law_bent) (defBody s_law_bent) (defScope s_law_bent) .none vlaw_bent dlaw_bent plaw_bent nlaw_bent qlaw_bent rlaw_bent, f_law := f_law, d_law := PySem.W.fnOf "law" "law" (defArgs s_law) (defBody s_law) (defScope s_law) .none vlaw dlaw plaw nlaw qlaw rlaw, t_LETTERS := t_LETTERS, t_MOST_PEOPLE := t_MOST_PEOPLE, t_MOST_WORD := t_MOST_WORD, t_MOST_PRICE := t_MOST_PRICE, t_MOST_PIECES := t_MOST_PIECES, t_MOST_WISHES := t_MOST_WISHES, t_MOST_DEEDS := t_MOST_DEEDS, g_SIZES := g_SIZES, e_SIZES := e_SIZES, n_SIZES := n_SIZES, t_SIZES_wish := t_SIZES_wish, t_SIZES_alter := t_SIZES_alter, t_SIZES_drop := t_SIZES_drop, t_SIZES_take := t_SIZES_take, t_SIZES_pledge := t_SIZES_pledge, t_SIZES_back := t_SIZES_back }
  have T : Txt w K mg a := { is_whole := ⟨F_is_whole, B_is_whole, PySem.W.mg_of X G a_is_whole, k_is_whole⟩, is_count := ⟨F_is_count, B_is_count, PySem.W.mg_of X G a_is_count, k_is_count⟩, is_word := ⟨F_is_word, B_is_word, PySem.W.mg_of X G a_is_word, k_is_word⟩, is_deed := ⟨F_is_deed, B_is_deed, PySem.W.mg_of X G a_is_deed, k_is_deed⟩, are_deeds := ⟨F_are_deeds, B_are_deeds, PySem.W.mg_of X G a_are_deeds, k_are_deeds⟩, Wish_init := ⟨F_Wish_init, B_Wish_init, ⟨a_Wish_init, i_Wish_init, k_Wish_init⟩⟩, Wish_free := ⟨F_Wish_free, B_Wish_free, ⟨a_Wish_free, i_Wish_free, k_Wish_free⟩⟩, Wish_lacking := ⟨F_Wish_lacking, B_Wish_lacking, ⟨a_Wish_lacking, i_Wish_lacking, k_Wish_lacking⟩⟩, Wish_done := ⟨F_Wish_done, B_Wish_done, ⟨a_Wish_done, i_Wish_done, k_Wish_done⟩⟩, Gifts_init := ⟨F_Gifts_init, B_Gifts_init, ⟨a_Gifts_init, i_Gifts_init, k_Gifts_init⟩⟩, Gifts_look_at := ⟨F_Gifts_look_at, B_Gifts_look_at, ⟨a_Gifts_look_at, i_Gifts_look_at, k_Gifts_look_at⟩⟩, Gifts_own_wish := ⟨F_Gifts_own_wish, B_Gifts_own_wish, ⟨a_Gifts_own_wish, i_Gifts_own_wish, k_Gifts_own_wish⟩⟩, Gifts_other_wish := ⟨F_Gifts_other_wish, B_Gifts_other_wish, ⟨a_Gifts_other_wish, i_Gifts_other_wish, k_Gifts_other_wish⟩⟩, Gifts_wish := ⟨F_Gifts_wish, B_Gifts_wish, ⟨a_Gifts_wish, i_Gifts_wish, k_Gifts_wish⟩⟩, Gifts_alter := ⟨F_Gifts_alter, B_Gifts_alter, ⟨a_Gifts_alter, i_Gifts_alter, k_Gifts_alter⟩⟩, Gifts_drop := ⟨F_Gifts_drop, B_Gifts_drop, ⟨a_Gifts_drop, i_Gifts_drop, k_Gifts_drop⟩⟩, Gifts_take := ⟨F_Gifts_take, B_Gifts_take, ⟨a_Gifts_take, i_Gifts_take, k_Gifts_take⟩⟩, Gifts_pledge := ⟨F_Gifts_pledge, B_Gifts_pledge, ⟨a_Gifts_pledge, i_Gifts_pledge, k_Gifts_pledge⟩⟩, Gifts_back := ⟨F_Gifts_back, B_Gifts_back, ⟨a_Gifts_back, i_Gifts_back, k_Gifts_back⟩⟩, Gifts_seen := ⟨F_Gifts_seen, B_Gifts_seen, ⟨a_Gifts_seen, i_Gifts_seen, k_Gifts_seen⟩⟩, done := ⟨F_done, B_done, PySem.W.mg_of X G a_done, k_done⟩, played := ⟨F_played, B_played, PySem.W.mg_of X G a_played, k_played⟩, first_unlike := ⟨F_first_unlike, B_first_unlike, PySem.W.mg_of X G a_first_unlike, k_first_unlike⟩, Done_init := ⟨F_Done_init, B_Done_init, ⟨a_Done_init, i_Done_init, k_Done_init⟩⟩, Done_shows := ⟨F_Done_shows, B_Done_shows, ⟨a_Done_shows, i_Done_shows, k_Done_shows⟩⟩, Halt_init := ⟨F_Halt_init, B_Halt_init, ⟨a_Halt_init, i_Halt_init, k_Halt_init⟩⟩, Halt_shows := ⟨F_Halt_shows, B_Halt_shows, ⟨a_Halt_shows, i_Halt_shows, k_Halt_shows⟩⟩, Same_shows := ⟨F_Same_shows, B_Same_shows, ⟨a_Same_shows, i_Same_shows, k_Same_shows⟩⟩, Apart_init := ⟨F_Apart_init, B_Apart_init, ⟨a_Apart_init, i_Apart_init, k_Apart_init⟩⟩, Apart_shows := ⟨F_Apart_shows, B_Apart_shows, ⟨a_Apart_shows, i_Apart_shows, k_Apart_shows⟩⟩, Paid_init := ⟨F_Paid_init, B_Paid_init, ⟨a_Paid_init, i_Paid_init, k_Paid_init⟩⟩, Paid_shows := ⟨F_Paid_shows, B_Paid_shows, ⟨a_Paid_shows, i_Paid_shows, k_Paid_shows⟩⟩, Short_init := ⟨F_Short_init, B_Short_init, ⟨a_Short_init, i_Short_init, k_Short_init⟩⟩, Short_shows := ⟨F_Short_shows, B_Short_shows, ⟨a_Short_shows, i_Short_shows, k_Short_shows⟩⟩, check_people := ⟨F_check_people, B_check_people, PySem.W.mg_of X G a_check_people, k_check_people⟩, check_deeds := ⟨F_check_deeds, B_check_deeds, PySem.W.mg_of X G a_check_deeds, k_check_deeds⟩, told := ⟨F_told, B_told, PySem.W.mg_of X G a_told, k_told⟩, law_cell_at := ⟨F_law_cell_at, B_law_cell_at, PySem.W.mg_of X G a_law_cell_at, k_law_cell_at⟩, law_draw := ⟨F_law_draw, B_law_draw, PySem.W.mg_of X G a_law_draw, k_law_draw⟩, law_value := ⟨F_law_value, B_law_value, PySem.W.mg_of X G a_law_value, k_law_value⟩, law_whole := ⟨F_law_whole, B_law_whole, PySem.W.mg_of X G a_law_whole, k_law_whole⟩, law_says := ⟨F_law_says, B_law_says, PySem.W.mg_of X G a_law_says, k_law_says⟩, law_people := ⟨F_law_people, B_law_people, PySem.W.mg_of X G a_law_people, k_law_people⟩, law_word := ⟨F_law_word, B_law_word, PySem.W.mg_of X G a_law_word, k_law_word⟩, law_deed := ⟨F_law_deed, B_law_deed, PySem.W.mg_of X G a_law_deed, k_law_deed⟩, law_refused := ⟨F_law_refused, B_law_refused, PySem.W.mg_of X G a_law_refused, k_law_refused⟩, law_free := ⟨F_law_free, B_law_free, PySem.W.mg_of X G a_law_free, k_law_free⟩, law_done := ⟨F_law_done, B_law_done, PySem.W.mg_of X G a_law_done, k_law_done⟩, law_drawn := ⟨F_law_drawn, B_law_drawn, PySem.W.mg_of X G a_law_drawn, k_law_drawn⟩, law_good := ⟨F_law_good, B_law_good, PySem.W.mg_of X G a_law_good, k_law_good⟩, law_played := ⟨F_law_played, B_law_played, PySem.W.mg_of X G a_law_played, k_law_played⟩, law_numbers_good := ⟨F_law_numbers_good, B_law_numbers_good, PySem.W.mg_of X G a_law_numbers_good, k_law_numbers_good⟩, law_due := ⟨F_law_due, B_law_due, PySem.W.mg_of X G a_law_due, k_law_due⟩, law_right := ⟨F_law_right, B_law_right, PySem.W.mg_of X G a_law_right, k_law_right⟩, law_bent := ⟨F_law_bent, B_law_bent, PySem.W.mg_of X G a_law_bent, k_law_bent⟩, law := ⟨F_law, B_law, PySem.W.mg_of X G a_law, k_law⟩, x_GiftError := ⟨PySem.W.mg_of X G aC_GiftError, kC_GiftError, x1_GiftError, x2_GiftError, x3_GiftError, x4_GiftError⟩, m_GiftError := PySem.W.exm_ref x2_GiftError x6_GiftError x3_GiftError x5_GiftError, x_BadPeople := ⟨PySem.W.mg_of X G aC_BadPeople, kC_BadPeople, x1_BadPeople, x2_BadPeople, x3_BadPeople, x4_BadPeople⟩, m_BadPeople := PySem.W.exm_ref x2_GiftError x6_GiftError x3_GiftError x5_BadPeople, x_BadPerson := ⟨PySem.W.mg_of X G aC_BadPerson, kC_BadPerson, x1_BadPerson, x2_BadPerson, x3_BadPerson, x4_BadPerson⟩, m_BadPerson := PySem.W.exm_ref x2_GiftError x6_GiftError x3_GiftError x5_BadPerson, x_BadWord := ⟨PySem.W.mg_of X G aC_BadWord, kC_BadWord, x1_BadWord, x2_BadWord, x3_BadWord, x4_BadWord⟩, m_BadWord := PySem.W.exm_ref x2_GiftError x6_GiftError x3_GiftError x5_BadWord, x_BadPrice := ⟨PySem.W.mg_of X G aC_BadPrice, kC_BadPrice, x1_BadPrice, x2_BadPrice, x3_BadPrice, x4_BadPrice⟩, m_BadPrice := PySem.W.exm_ref x2_GiftError x6_GiftError x3_GiftError x5_BadPrice, x_BadMany := ⟨PySem.W.mg_of X G aC_BadMany, kC_BadMany, x1_BadMany, x2_BadMany, x3_BadMany, x4_BadMany⟩, m_BadMany := PySem.W.exm_ref x2_GiftError x6_GiftError x3_GiftError x5_BadMany, x_BadWish := ⟨PySem.W.mg_of X G aC_BadWish, kC_BadWish, x1_BadWish, x2_BadWish, x3_BadWish, x4_BadWish⟩, m_BadWish := PySem.W.exm_ref x2_GiftError x6_GiftError x3_GiftError x5_BadWish, x_BadAmount := ⟨PySem.W.mg_of X G aC_BadAmount, kC_BadAmount, x1_BadAmount, x2_BadAmount, x3_BadAmount, x4_BadAmount⟩, m_BadAmount := PySem.W.exm_ref x2_GiftError x6_GiftError x3_GiftError x5_BadAmount, x_BadDeeds := ⟨PySem.W.mg_of X G aC_BadDeeds, kC_BadDeeds, x1_BadDeeds, x2_BadDeeds, x3_BadDeeds, x4_BadDeeds⟩, m_BadDeeds := PySem.W.exm_ref x2_GiftError x6_GiftError x3_GiftError x5_BadDeeds, x_NoneFree := ⟨PySem.W.mg_of X G aC_NoneFree, kC_NoneFree, x1_NoneFree, x2_NoneFree, x3_NoneFree, x4_NoneFree⟩, m_NoneFree := PySem.W.exm_ref x2_GiftError x6_GiftError x3_GiftError x5_NoneFree, x_TooMuch := ⟨PySem.W.mg_of X G aC_TooMuch, kC_TooMuch, x1_TooMuch, x2_TooMuch, x3_TooMuch, x4_TooMuch⟩, m_TooMuch := PySem.W.exm_ref x2_GiftError x6_GiftError x3_GiftError x5_TooMuch, x_TooMany := ⟨PySem.W.mg_of X G aC_TooMany, kC_TooMany, x1_TooMany, x2_TooMany, x3_TooMany, x4_TooMany⟩, m_TooMany := PySem.W.exm_ref x2_GiftError x6_GiftError x3_GiftError x5_TooMany, c_Wish := PySem.W.mg_of X G aC_Wish, cl_Wish := ⟨c1_Wish, c2_Wish, c3_Wish, c4_Wish⟩, mk_Wish := ⟨c5_Wish, a_Wish_init, i_Wish_init, kC_Wish⟩, na_Wish_owner := y_Wish_owner, na_Wish_word := y_Wish_word, na_Wish_price := y_Wish_price, na_Wish_many := y_Wish_many, na_Wish_stands := y_Wish_stands, na_Wish_takings := y_Wish_takings, na_Wish_pledges := y_Wish_pledges, c_Gifts := PySem.W.mg_of X G aC_Gifts, cl_Gifts := ⟨c1_Gifts, c2_Gifts, c3_Gifts, c4_Gifts⟩, mk_Gifts := ⟨c5_Gifts, a_Gifts_init, i_Gifts_init, kC_Gifts⟩, na_Gifts_people := y_Gifts_people, na_Gifts_wishes := y_Gifts_wishes, c_Answer := PySem.W.mg_of X G aC_Answer, cl_Answer := ⟨c1_Answer, c2_Answer, c3_Answer, c4_Answer⟩, c_Done := PySem.W.mg_of X G aC_Done, cl_Done := ⟨c1_Done, c2_Done, c3_Done, c4_Done⟩, mk_Done := ⟨c5_Done, a_Done_init, i_Done_init, kC_Done⟩, na_Done_results := y_Done_results, o_Done := ⟨o1_Done, o2_Done, o3_Done, o4_Done⟩, i_Done_Done := j_Done_Done, i_Done_Halt := j_Done_Halt, i_Done_Same := j_Done_Same, i_Done_Apart := j_Done_Apart, i_Done_Paid := j_Done_Paid, i_Done_Short := j_Done_Short, i_Done_Answer := j_Done_Answer, c_Halt := PySem.W.mg_of X G aC_Halt, cl_Halt := ⟨c1_Halt, c2_Halt, c3_Halt, c4_Halt⟩, mk_Halt := ⟨c5_Halt, a_Halt_init, i_Halt_init, kC_Halt⟩, na_Halt_place := y_Halt_place, o_Halt := ⟨o1_Halt, o2_Halt, o3_Halt, o4_Halt⟩, i_Halt_Done := j_Halt_Done, i_Halt_Halt := j_Halt_Halt, i_Halt_Same := j_Halt_Same, i_Halt_Apart := j_Halt_Apart, i_Halt_Paid := j_Halt_Paid, i_Halt_Short := j_Halt_Short, i_Halt_Answer := j_Halt_Answer, c_Same := PySem.W.mg_of X G aC_Same, cl_Same := ⟨c1_Same, c2_Same, c3_Same, c4_Same⟩, o_Same := ⟨o1_Same, o2_Same, o3_Same, o4_Same⟩, i_Same_Done := j_Same_Done, i_Same_Halt := j_Same_Halt, i_Same_Same := j_Same_Same, i_Same_Apart := j_Same_Apart, i_Same_Paid := j_Same_Paid, i_Same_Short := j_Same_Short, i_Same_Answer := j_Same_Answer, c_Apart := PySem.W.mg_of X G aC_Apart, cl_Apart := ⟨c1_Apart, c2_Apart, c3_Apart, c4_Apart⟩, mk_Apart := ⟨c5_Apart, a_Apart_init, i_Apart_init, kC_Apart⟩, na_Apart_number := y_Apart_number, o_Apart := ⟨o1_Apart, o2_Apart, o3_Apart, o4_Apart⟩, i_Apart_Done := j_Apart_Done, i_Apart_Halt := j_Apart_Halt, i_Apart_Same := j_Apart_Same, i_Apart_Apart := j_Apart_Apart, i_Apart_Paid := j_Apart_Paid, i_Apart_Short := j_Apart_Short, i_Apart_Answer := j_Apart_Answer, c_Paid := PySem.W.mg_of X G aC_Paid, cl_Paid := ⟨c1_Paid, c2_Paid, c3_Paid, c4_Paid⟩, mk_Paid := ⟨c5_Paid, a_Paid_init, i_Paid_init, kC_Paid⟩, na_Paid_rows := y_Paid_rows, o_Paid := ⟨o1_Paid, o2_Paid, o3_Paid, o4_Paid⟩, i_Paid_Done := j_Paid_Done, i_Paid_Halt := j_Paid_Halt, i_Paid_Same := j_Paid_Same, i_Paid_Apart := j_Paid_Apart, i_Paid_Paid := j_Paid_Paid, i_Paid_Short := j_Paid_Short, i_Paid_Answer := j_Paid_Answer, c_Short := PySem.W.mg_of X G aC_Short, cl_Short := ⟨c1_Short, c2_Short, c3_Short, c4_Short⟩, mk_Short := ⟨c5_Short, a_Short_init, i_Short_init, kC_Short⟩, na_Short_owners := y_Short_owners, o_Short := ⟨o1_Short, o2_Short, o3_Short, o4_Short⟩, i_Short_Done := j_Short_Done, i_Short_Halt := j_Short_Halt, i_Short_Same := j_Short_Same, i_Short_Apart := j_Short_Apart, i_Short_Paid := j_Short_Paid, i_Short_Short := j_Short_Short, i_Short_Answer := j_Short_Answer, g_LETTERS := PySem.W.mg_of X G u_LETTERS, g_MOST_PEOPLE := PySem.W.mg_of X G u_MOST_PEOPLE, g_MOST_WORD := PySem.W.mg_of X G u_MOST_WORD, g_MOST_PRICE := PySem.W.mg_of X G u_MOST_PRICE, g_MOST_PIECES := PySem.W.mg_of X G u_MOST_PIECES, g_MOST_WISHES := PySem.W.mg_of X G u_MOST_WISHES, g_MOST_DEEDS := PySem.W.mg_of X G u_MOST_DEEDS, g_SIZES := PySem.W.mg_of X G u_SIZES, d_SIZES := ⟨d1_SIZES, d2_SIZES, d3_SIZES⟩, v_SIZES_wish := d4_SIZES_wish, v_SIZES_alter := d4_SIZES_alter, v_SIZES_drop := d4_SIZES_drop, v_SIZES_take := d4_SIZES_take, v_SIZES_pledge := d4_SIZES_pledge, v_SIZES_back := d4_SIZES_back, v_SIZES_give := d5_SIZES, n_all := PySem.W.mg_none_of X G z_all, n_any := PySem.W.mg_none_of X G z_any, n_bool := PySem.W.mg_none_of X G z_bool, n_enumerate := PySem.W.mg_none_of X G z_enumerate, n_int := PySem.W.mg_none_of X G z_int, n_isinstance := PySem.W.mg_none_of X G z_isinstance, n_len := PySem.W.mg_none_of X G z_len, n_list := PySem.W.mg_none_of X G z_list, n_max := PySem.W.mg_none_of X G z_max, n_min := PySem.W.mg_none_of X G z_min, n_range := PySem.W.mg_none_of X G z_range, n_sorted := PySem.W.mg_none_of X G z_sorted, n_str := PySem.W.mg_none_of X G z_str, n_sum := PySem.W.mg_none_of X G z_sum, n_tuple := PySem.W.mg_none_of X G z_tuple, n_zip := PySem.W.mg_none_of X G z_zip }
  exact ⟨a.d_law, fun s v => .of_eq rfl, fun base _ _ => ok_law (a := a) T⟩
theorem bits_big {z : Int} {n : Nat} (h : Builtin.Int.intBits z ≤ n) : z.natAbs < 2 ^ n := by
  unfold Builtin.Int.intBits at h
  split at h
  · rename_i e
    have : z.natAbs = 0 := by simp_all
    rw [this]
    exact Nat.two_pow_pos n
  · exact Nat.lt_of_lt_of_le Nat.lt_log2_self (Nat.pow_le_pow_right (by decide) h)
theorem law_in {K : PySem.W.Frag} {H : Hp} {a : Addr} {ns : List Int} (hl : ns.length ≤ 63) (hb : ∀ z ∈ ns, Builtin.Int.intBits z ≤ 1048576) (hS : SqL K H a (ns.map V.int)) : sp_law K [.ref a] H (fun v _ => v = .bl true) fun _ _ _ => False :=
  ⟨H, 1048576, a, ns, rfl, Ok.of H, hS, by omega, by decide, fun z hz => bits_big (hb z hz), fun _ => rfl⟩
theorem law_out {P : Program} {w : World} {H : Hp} {s : Shared} {e : Value} {s' : Shared} : L2.CX P w [] H s (fun _ _ _ => False) e s' → False
  | ⟨_, _, _, _, _, _, _, _, _, _, _, _, h⟩ => h
end PP
open PySem PySem.W PyProof.Rows in
set_option maxRecDepth 100000 in
set_option maxHeartbeats 0 in
theorem PySem.Challenge.cw_giftlist_k03_whole_told_holds : PySem.Challenge.rw_giftlist_k03_whole_told.Holds := by
  w_on; o_law; k_head; (case hw => w_witness2)
  k_fill
  refine L2.walk_ofB (l := PySem.Challenge.rw_giftlist_k03_whole_told) (n := 63) (k := 11) (x := "_law_script") (CX := fun w => L2.CX (PySem.Challenge.rw_giftlist_k03_whole_told).prog w) (sp := fun w => PP.sp_law _) rfl (by decide) rfl ⟨rfl, by decide, by decide⟩ (fun w h Y => PySem.W.kIn_of Y) ?F (fun w H a ns hl hb _ hS => PP.law_in hl hb hS) (fun w H s e s2 => PP.law_out)
  case F =>
    intro w mg fa h KX G hmg
    refine' PP.all_mk KX G hmg ?aC_GiftError ?kC_GiftError ?aC_BadPeople ?kC_BadPeople ?aC_BadPerson ?kC_BadPerson ?aC_BadWord ?kC_BadWord ?aC_BadPrice ?kC_BadPrice ?aC_BadMany ?kC_BadMany ?aC_BadWish ?kC_BadWish ?aC_BadAmount ?kC_BadAmount ?aC_BadDeeds ?kC_BadDeeds ?aC_NoneFree ?kC_NoneFree ?aC_TooMuch ?kC_TooMuch ?aC_TooMany ?kC_TooMany ?aC_Wish ?kC_Wish ?aC_Gifts ?kC_Gifts ?aC_Answer ?kC_Answer ?aC_Done ?kC_Done ?aC_Halt ?kC_Halt ?aC_Same ?kC_Same ?aC_Apart ?kC_Apart ?aC_Paid ?kC_Paid ?aC_Short ?kC_Short ?a_is_whole ?l_is_whole ?b_is_whole ?k_is_whole ?a_is_count ?l_is_count ?b_is_count ?k_is_count ?a_is_word ?l_is_word ?b_is_word ?k_is_word ?a_is_deed ?l_is_deed ?b_is_deed ?k_is_deed ?a_are_deeds ?l_are_deeds ?b_are_deeds ?k_are_deeds ?a_Wish_init ?i_Wish_init ?l_Wish_init ?b_Wish_init ?k_Wish_init ?a_Wish_free ?i_Wish_free ?l_Wish_free ?b_Wish_free ?k_Wish_free ?a_Wish_lacking ?i_Wish_lacking ?l_Wish_lacking ?b_Wish_lacking ?k_Wish_lacking ?a_Wish_done ?i_Wish_done ?l_Wish_done ?b_Wish_done ?k_Wish_done ?a_Gifts_init ?i_Gifts_init ?l_Gifts_init ?b_Gifts_init ?k_Gifts_init ?a_Gifts_look_at ?i_Gifts_look_at ?l_Gifts_look_at ?b_Gifts_look_at ?k_Gifts_look_at ?a_Gifts_own_wish ?i_Gifts_own_wish ?l_Gifts_own_wish ?b_Gifts_own_wish ?k_Gifts_own_wish ?a_Gifts_other_wish ?i_Gifts_other_wish ?l_Gifts_other_wish ?b_Gifts_other_wish ?k_Gifts_other_wish ?a_Gifts_wish ?i_Gifts_wish ?l_Gifts_wish ?b_Gifts_wish ?k_Gifts_wish ?a_Gifts_alter ?i_Gifts_alter ?l_Gifts_alter ?b_Gifts_alter ?k_Gifts_alter ?a_Gifts_drop ?i_Gifts_drop ?l_Gifts_drop ?b_Gifts_drop ?k_Gifts_drop ?a_Gifts_take ?i_Gifts_take ?l_Gifts_take ?b_Gifts_take ?k_Gifts_take ?a_Gifts_pledge ?i_Gifts_pledge ?l_Gifts_pledge ?b_Gifts_pledge ?k_Gifts_pledge ?a_Gifts_back ?i_Gifts_back ?l_Gifts_back ?b_Gifts_back ?k_Gifts_back ?a_Gifts_seen ?i_Gifts_seen ?l_Gifts_seen ?b_Gifts_seen ?k_Gifts_seen ?a_done ?l_done ?b_done ?k_done ?a_played ?l_played ?b_played ?k_played ?a_first_unlike ?l_first_unlike ?b_first_unlike ?k_first_unlike ?a_Done_init ?i_Done_init ?l_Done_init ?b_Done_init ?k_Done_init ?a_Done_shows ?i_Done_shows ?l_Done_shows ?b_Done_shows ?k_Done_shows ?a_Halt_init ?i_Halt_init ?l_Halt_init ?b_Halt_init ?k_Halt_init ?a_Halt_shows ?i_Halt_shows ?l_Halt_shows ?b_Halt_shows ?k_Halt_shows ?a_Same_shows ?i_Same_shows ?l_Same_shows ?b_Same_shows ?k_Same_shows ?a_Apart_init ?i_Apart_init ?l_Apart_init ?b_Apart_init ?k_Apart_init ?a_Apart_shows ?i_Apart_shows ?l_Apart_shows ?b_Apart_shows ?k_Apart_shows ?a_Paid_init ?i_Paid_init ?l_Paid_init ?b_Paid_init ?k_Paid_init ?a_Paid_shows ?i_Paid_shows ?l_Paid_shows ?b_Paid_shows ?k_Paid_shows ?a_Short_init ?i_Short_init ?l_Short_init ?b_Short_init ?k_Short_init ?a_Short_shows ?i_Short_shows ?l_Short_shows ?b_Short_shows ?k_Short_shows ?a_check_people ?l_check_people ?b_check_people ?k_check_people ?a_check_deeds ?l_check_deeds ?b_check_deeds ?k_check_deeds ?a_told ?l_told ?b_told ?k_told ?a_law_cell_at ?l_law_cell_at ?b_law_cell_at ?k_law_cell_at ?a_law_draw ?l_law_draw ?b_law_draw ?k_law_draw ?a_law_value ?l_law_value ?b_law_value ?k_law_value ?a_law_whole ?l_law_whole ?b_law_whole ?k_law_whole ?a_law_says ?l_law_says ?b_law_says ?k_law_says ?a_law_people ?l_law_people ?b_law_people ?k_law_people ?a_law_word ?l_law_word ?b_law_word ?k_law_word ?a_law_deed ?l_law_deed ?b_law_deed ?k_law_deed ?a_law_refused ?l_law_refused ?b_law_refused ?k_law_refused ?a_law_free ?l_law_free ?b_law_free ?k_law_free ?a_law_done ?l_law_done ?b_law_done ?k_law_done ?a_law_drawn ?l_law_drawn ?b_law_drawn ?k_law_drawn ?a_law_good ?l_law_good ?b_law_good ?k_law_good ?a_law_played ?l_law_played ?b_law_played ?k_law_played ?a_law_numbers_good ?l_law_numbers_good ?b_law_numbers_good ?k_law_numbers_good ?a_law_due ?l_law_due ?b_law_due ?k_law_due ?a_law_right ?l_law_right ?b_law_right ?k_law_right ?a_law_bent ?l_law_bent ?b_law_bent ?k_law_bent ?a_law ?l_law ?b_law ?k_law ?x1_GiftError ?x2_GiftError ?x3_GiftError ?x4_GiftError ?x5_GiftError ?x6_GiftError ?x1_BadPeople ?x2_BadPeople ?x3_BadPeople ?x4_BadPeople ?x5_BadPeople ?x1_BadPerson ?x2_BadPerson ?x3_BadPerson ?x4_BadPerson ?x5_BadPerson ?x1_BadWord ?x2_BadWord ?x3_BadWord ?x4_BadWord ?x5_BadWord ?x1_BadPrice ?x2_BadPrice ?x3_BadPrice ?x4_BadPrice ?x5_BadPrice ?x1_BadMany ?x2_BadMany ?x3_BadMany ?x4_BadMany ?x5_BadMany ?x1_BadWish ?x2_BadWish ?x3_BadWish ?x4_BadWish ?x5_BadWish ?x1_BadAmount ?x2_BadAmount ?x3_BadAmount ?x4_BadAmount ?x5_BadAmount ?x1_BadDeeds ?x2_BadDeeds ?x3_BadDeeds ?x4_BadDeeds ?x5_BadDeeds ?x1_NoneFree ?x2_NoneFree ?x3_NoneFree ?x4_NoneFree ?x5_NoneFree ?x1_TooMuch ?x2_TooMuch ?x3_TooMuch ?x4_TooMuch ?x5_TooMuch ?x1_TooMany ?x2_TooMany ?x3_TooMany ?x4_TooMany ?x5_TooMany ?c1_Wish ?c2_Wish ?c3_Wish ?c4_Wish ?c5_Wish ?y_Wish_owner ?y_Wish_word ?y_Wish_price ?y_Wish_many ?y_Wish_stands ?y_Wish_takings ?y_Wish_pledges ?c1_Gifts ?c2_Gifts ?c3_Gifts ?c4_Gifts ?c5_Gifts ?y_Gifts_people ?y_Gifts_wishes ?c1_Answer ?c2_Answer ?c3_Answer ?c4_Answer ?c1_Done ?c2_Done ?c3_Done ?c4_Done ?c5_Done ?y_Done_results ?o1_Done ?o2_Done ?o3_Done ?o4_Done ?j_Done_Done ?j_Done_Halt ?j_Done_Same ?j_Done_Apart ?j_Done_Paid ?j_Done_Short ?j_Done_Answer ?c1_Halt ?c2_Halt ?c3_Halt ?c4_Halt ?c5_Halt ?y_Halt_place ?o1_Halt ?o2_Halt ?o3_Halt ?o4_Halt ?j_Halt_Done ?j_Halt_Halt ?j_Halt_Same ?j_Halt_Apart ?j_Halt_Paid ?j_Halt_Short ?j_Halt_Answer ?c1_Same ?c2_Same ?c3_Same ?c4_Same ?o1_Same ?o2_Same ?o3_Same ?o4_Same ?j_Same_Done ?j_Same_Halt ?j_Same_Same ?j_Same_Apart ?j_Same_Paid ?j_Same_Short ?j_Same_Answer ?c1_Apart ?c2_Apart ?c3_Apart ?c4_Apart ?c5_Apart ?y_Apart_number ?o1_Apart ?o2_Apart ?o3_Apart ?o4_Apart ?j_Apart_Done ?j_Apart_Halt ?j_Apart_Same ?j_Apart_Apart ?j_Apart_Paid ?j_Apart_Short ?j_Apart_Answer ?c1_Paid ?c2_Paid ?c3_Paid ?c4_Paid ?c5_Paid ?y_Paid_rows ?o1_Paid ?o2_Paid ?o3_Paid ?o4_Paid ?j_Paid_Done ?j_Paid_Halt ?j_Paid_Same ?j_Paid_Apart ?j_Paid_Paid ?j_Paid_Short ?j_Paid_Answer ?c1_Short ?c2_Short ?c3_Short ?c4_Short ?c5_Short ?y_Short_owners ?o1_Short ?o2_Short ?o3_Short ?o4_Short ?j_Short_Done ?j_Short_Halt ?j_Short_Same ?j_Short_Apart ?j_Short_Paid ?j_Short_Short ?j_Short_Answer ?u_LETTERS ?u_MOST_PEOPLE ?u_MOST_WORD ?u_MOST_PRICE ?u_MOST_PIECES ?u_MOST_WISHES ?u_MOST_DEEDS ?u_SIZES ?d1_SIZES ?d2_SIZES ?d3_SIZES ?d4_SIZES_wish ?d4_SIZES_alter ?d4_SIZES_drop ?d4_SIZES_take ?d4_SIZES_pledge ?d4_SIZES_back ?d5_SIZES ?z_all ?z_any ?z_bool ?z_enumerate ?z_int ?z_isinstance ?z_len ?z_list ?z_max ?z_min ?z_range ?z_sorted ?z_str ?z_sum ?z_tuple ?z_zip
    (case aC_GiftError => k_is)
    (case kC_GiftError => k_is)
    (case aC_BadPeople => k_is)
    (case kC_BadPeople => k_is)
    (case aC_BadPerson => k_is)
    (case kC_BadPerson => k_is)
    (case aC_BadWord => k_is)
    (case kC_BadWord => k_is)
    (case aC_BadPrice => k_is)
    (case kC_BadPrice => k_is)
    (case aC_BadMany => k_is)
    (case kC_BadMany => k_is)
    (case aC_BadWish => k_is)
    (case kC_BadWish => k_is)
    (case aC_BadAmount => k_is)
    (case kC_BadAmount => k_is)
    (case aC_BadDeeds => k_is)
    (case kC_BadDeeds => k_is)
    (case aC_NoneFree => k_is)
    (case kC_NoneFree => k_is)
    (case aC_TooMuch => k_is)
    (case kC_TooMuch => k_is)
    (case aC_TooMany => k_is)
    (case kC_TooMany => k_is)
    (case aC_Wish => k_is)
    (case kC_Wish => k_is)
    (case aC_Gifts => k_is)
    (case kC_Gifts => k_is)
    (case aC_Answer => k_is)
    (case kC_Answer => k_is)
    (case aC_Done => k_is)
    (case kC_Done => k_is)
    (case aC_Halt => k_is)
    (case kC_Halt => k_is)
    (case aC_Same => k_is)
    (case kC_Same => k_is)
    (case aC_Apart => k_is)
    (case kC_Apart => k_is)
    (case aC_Paid => k_is)
    (case kC_Paid => k_is)
    (case aC_Short => k_is)
    (case kC_Short => k_is)
    (case a_is_whole => k_is)
    (case l_is_whole => k_is)
    (case b_is_whole => k_is)
    (case k_is_whole => k_is)
    (case a_is_count => k_is)
    (case l_is_count => k_is)
    (case b_is_count => k_is)
    (case k_is_count => k_is)
    (case a_is_word => k_is)
    (case l_is_word => k_is)
    (case b_is_word => k_is)
    (case k_is_word => k_is)
    (case a_is_deed => k_is)
    (case l_is_deed => k_is)
    (case b_is_deed => k_is)
    (case k_is_deed => k_is)
    (case a_are_deeds => k_is)
    (case l_are_deeds => k_is)
    (case b_are_deeds => k_is)
    (case k_are_deeds => k_is)
    (case a_Wish_init => k_is)
    (case i_Wish_init => k_is)
    (case l_Wish_init => k_is)
    (case b_Wish_init => k_is)
    (case k_Wish_init => k_is)
    (case a_Wish_free => k_is)
    (case i_Wish_free => k_is)
    (case l_Wish_free => k_is)
    (case b_Wish_free => k_is)
    (case k_Wish_free => k_is)
    (case a_Wish_lacking => k_is)
    (case i_Wish_lacking => k_is)
    (case l_Wish_lacking => k_is)
    (case b_Wish_lacking => k_is)
    (case k_Wish_lacking => k_is)
    (case a_Wish_done => k_is)
    (case i_Wish_done => k_is)
    (case l_Wish_done => k_is)
    (case b_Wish_done => k_is)
    (case k_Wish_done => k_is)
    (case a_Gifts_init => k_is)
    (case i_Gifts_init => k_is)
    (case l_Gifts_init => k_is)
    (case b_Gifts_init => k_is)
    (case k_Gifts_init => k_is)
    (case a_Gifts_look_at => k_is)
    (case i_Gifts_look_at => k_is)
    (case l_Gifts_look_at => k_is)
    (case b_Gifts_look_at => k_is)
    (case k_Gifts_look_at => k_is)
    (case a_Gifts_own_wish => k_is)
    (case i_Gifts_own_wish => k_is)
    (case l_Gifts_own_wish => k_is)
    (case b_Gifts_own_wish => k_is)
    (case k_Gifts_own_wish => k_is)
    (case a_Gifts_other_wish => k_is)
    (case i_Gifts_other_wish => k_is)
    (case l_Gifts_other_wish => k_is)
    (case b_Gifts_other_wish => k_is)
    (case k_Gifts_other_wish => k_is)
    (case a_Gifts_wish => k_is)
    (case i_Gifts_wish => k_is)
    (case l_Gifts_wish => k_is)
    (case b_Gifts_wish => k_is)
    (case k_Gifts_wish => k_is)
    (case a_Gifts_alter => k_is)
    (case i_Gifts_alter => k_is)
    (case l_Gifts_alter => k_is)
    (case b_Gifts_alter => k_is)
    (case k_Gifts_alter => k_is)
    (case a_Gifts_drop => k_is)
    (case i_Gifts_drop => k_is)
    (case l_Gifts_drop => k_is)
    (case b_Gifts_drop => k_is)
    (case k_Gifts_drop => k_is)
    (case a_Gifts_take => k_is)
    (case i_Gifts_take => k_is)
    (case l_Gifts_take => k_is)
    (case b_Gifts_take => k_is)
    (case k_Gifts_take => k_is)
    (case a_Gifts_pledge => k_is)
    (case i_Gifts_pledge => k_is)
    (case l_Gifts_pledge => k_is)
    (case b_Gifts_pledge => k_is)
    (case k_Gifts_pledge => k_is)
    (case a_Gifts_back => k_is)
    (case i_Gifts_back => k_is)
    (case l_Gifts_back => k_is)
    (case b_Gifts_back => k_is)
    (case k_Gifts_back => k_is)
    (case a_Gifts_seen => k_is)
    (case i_Gifts_seen => k_is)
    (case l_Gifts_seen => k_is)
    (case b_Gifts_seen => k_is)
    (case k_Gifts_seen => k_is)
    (case a_done => k_is)
    (case l_done => k_is)
    (case b_done => k_is)
    (case k_done => k_is)
    (case a_played => k_is)
    (case l_played => k_is)
    (case b_played => k_is)
    (case k_played => k_is)
    (case a_first_unlike => k_is)
    (case l_first_unlike => k_is)
    (case b_first_unlike => k_is)
    (case k_first_unlike => k_is)
    (case a_Done_init => k_is)
    (case i_Done_init => k_is)
    (case l_Done_init => k_is)
    (case b_Done_init => k_is)
    (case k_Done_init => k_is)
    (case a_Done_shows => k_is)
    (case i_Done_shows => k_is)
    (case l_Done_shows => k_is)
    (case b_Done_shows => k_is)
    (case k_Done_shows => k_is)
    (case a_Halt_init => k_is)
    (case i_Halt_init => k_is)
    (case l_Halt_init => k_is)
    (case b_Halt_init => k_is)
    (case k_Halt_init => k_is)
    (case a_Halt_shows => k_is)
    (case i_Halt_shows => k_is)
    (case l_Halt_shows => k_is)
    (case b_Halt_shows => k_is)
    (case k_Halt_shows => k_is)
    (case a_Same_shows => k_is)
    (case i_Same_shows => k_is)
    (case l_Same_shows => k_is)
    (case b_Same_shows => k_is)
    (case k_Same_shows => k_is)
    (case a_Apart_init => k_is)
    (case i_Apart_init => k_is)
    (case l_Apart_init => k_is)
    (case b_Apart_init => k_is)
    (case k_Apart_init => k_is)
    (case a_Apart_shows => k_is)
    (case i_Apart_shows => k_is)
    (case l_Apart_shows => k_is)
    (case b_Apart_shows => k_is)
    (case k_Apart_shows => k_is)
    (case a_Paid_init => k_is)
    (case i_Paid_init => k_is)
    (case l_Paid_init => k_is)
    (case b_Paid_init => k_is)
    (case k_Paid_init => k_is)
    (case a_Paid_shows => k_is)
    (case i_Paid_shows => k_is)
    (case l_Paid_shows => k_is)
    (case b_Paid_shows => k_is)
    (case k_Paid_shows => k_is)
    (case a_Short_init => k_is)
    (case i_Short_init => k_is)
    (case l_Short_init => k_is)
    (case b_Short_init => k_is)
    (case k_Short_init => k_is)
    (case a_Short_shows => k_is)
    (case i_Short_shows => k_is)
    (case l_Short_shows => k_is)
    (case b_Short_shows => k_is)
    (case k_Short_shows => k_is)
    (case a_check_people => k_is)
    (case l_check_people => k_is)
    (case b_check_people => k_is)
    (case k_check_people => k_is)
    (case a_check_deeds => k_is)
    (case l_check_deeds => k_is)
    (case b_check_deeds => k_is)
    (case k_check_deeds => k_is)
    (case a_told => k_is)
    (case l_told => k_is)
    (case b_told => k_is)
    (case k_told => k_is)
    (case a_law_cell_at => k_is)
    (case l_law_cell_at => k_is)
    (case b_law_cell_at => k_is)
    (case k_law_cell_at => k_is)
    (case a_law_draw => k_is)
    (case l_law_draw => k_is)
    (case b_law_draw => k_is)
    (case k_law_draw => k_is)
    (case a_law_value => k_is)
    (case l_law_value => k_is)
    (case b_law_value => k_is)
    (case k_law_value => k_is)
    (case a_law_whole => k_is)
    (case l_law_whole => k_is)
    (case b_law_whole => k_is)
    (case k_law_whole => k_is)
    (case a_law_says => k_is)
    (case l_law_says => k_is)
    (case b_law_says => k_is)
    (case k_law_says => k_is)
    (case a_law_people => k_is)
    (case l_law_people => k_is)
    (case b_law_people => k_is)
    (case k_law_people => k_is)
    (case a_law_word => k_is)
    (case l_law_word => k_is)
    (case b_law_word => k_is)
    (case k_law_word => k_is)
    (case a_law_deed => k_is)
    (case l_law_deed => k_is)
    (case b_law_deed => k_is)
    (case k_law_deed => k_is)
    (case a_law_refused => k_is)
    (case l_law_refused => k_is)
    (case b_law_refused => k_is)
    (case k_law_refused => k_is)
    (case a_law_free => k_is)
    (case l_law_free => k_is)
    (case b_law_free => k_is)
    (case k_law_free => k_is)
    (case a_law_done => k_is)
    (case l_law_done => k_is)
    (case b_law_done => k_is)
    (case k_law_done => k_is)
    (case a_law_drawn => k_is)
    (case l_law_drawn => k_is)
    (case b_law_drawn => k_is)
    (case k_law_drawn => k_is)
    (case a_law_good => k_is)
    (case l_law_good => k_is)
    (case b_law_good => k_is)
    (case k_law_good => k_is)
    (case a_law_played => k_is)
    (case l_law_played => k_is)
    (case b_law_played => k_is)
    (case k_law_played => k_is)
    (case a_law_numbers_good => k_is)
    (case l_law_numbers_good => k_is)
    (case b_law_numbers_good => k_is)
    (case k_law_numbers_good => k_is)
    (case a_law_due => k_is)
    (case l_law_due => k_is)
    (case b_law_due => k_is)
    (case k_law_due => k_is)
    (case a_law_right => k_is)
    (case l_law_right => k_is)
    (case b_law_right => k_is)
    (case k_law_right => k_is)
    (case a_law_bent => k_is)
    (case l_law_bent => k_is)
    (case b_law_bent => k_is)
    (case k_law_bent => k_is)
    (case a_law => k_is)
    (case l_law => k_is)
    (case b_law => k_is)
    (case k_law => k_is)
    (case x1_GiftError => k_exc)
    (case x2_GiftError => k_is)
    (case x3_GiftError => k_is)
    (case x4_GiftError => k_is)
    (case x5_GiftError => first | rfl | k_is)
    (case x6_GiftError => k_is)
    (case x1_BadPeople => k_exc)
    (case x2_BadPeople => k_is)
    (case x3_BadPeople => k_is)
    (case x4_BadPeople => k_is)
    (case x5_BadPeople => first | rfl | k_is)
    (case x1_BadPerson => k_exc)
    (case x2_BadPerson => k_is)
    (case x3_BadPerson => k_is)
    (case x4_BadPerson => k_is)
    (case x5_BadPerson => first | rfl | k_is)
    (case x1_BadWord => k_exc)
    (case x2_BadWord => k_is)
    (case x3_BadWord => k_is)
    (case x4_BadWord => k_is)
    (case x5_BadWord => first | rfl | k_is)
    (case x1_BadPrice => k_exc)
    (case x2_BadPrice => k_is)
    (case x3_BadPrice => k_is)
    (case x4_BadPrice => k_is)
    (case x5_BadPrice => first | rfl | k_is)
    (case x1_BadMany => k_exc)
    (case x2_BadMany => k_is)
    (case x3_BadMany => k_is)
    (case x4_BadMany => k_is)
    (case x5_BadMany => first | rfl | k_is)
    (case x1_BadWish => k_exc)
    (case x2_BadWish => k_is)
    (case x3_BadWish => k_is)
    (case x4_BadWish => k_is)
    (case x5_BadWish => first | rfl | k_is)
    (case x1_BadAmount => k_exc)
    (case x2_BadAmount => k_is)
    (case x3_BadAmount => k_is)
    (case x4_BadAmount => k_is)
    (case x5_BadAmount => first | rfl | k_is)
    (case x1_BadDeeds => k_exc)
    (case x2_BadDeeds => k_is)
    (case x3_BadDeeds => k_is)
    (case x4_BadDeeds => k_is)
    (case x5_BadDeeds => first | rfl | k_is)
    (case x1_NoneFree => k_exc)
    (case x2_NoneFree => k_is)
    (case x3_NoneFree => k_is)
    (case x4_NoneFree => k_is)
    (case x5_NoneFree => first | rfl | k_is)
    (case x1_TooMuch => k_exc)
    (case x2_TooMuch => k_is)
    (case x3_TooMuch => k_is)
    (case x4_TooMuch => k_is)
    (case x5_TooMuch => first | rfl | k_is)
    (case x1_TooMany => k_exc)
    (case x2_TooMany => k_is)
    (case x3_TooMany => k_is)
    (case x4_TooMany => k_is)
    (case x5_TooMany => first | rfl | k_is)
    (case c1_Wish => k_is)
    (case c2_Wish => k_is)
    (case c3_Wish => k_is)
    (case c4_Wish => k_is)
    (case c5_Wish => k_is)
    (case y_Wish_owner => k_is)
    (case y_Wish_word => k_is)
    (case y_Wish_price => k_is)
    (case y_Wish_many => k_is)
    (case y_Wish_stands => k_is)
    (case y_Wish_takings => k_is)
    (case y_Wish_pledges => k_is)
    (case c1_Gifts => k_is)
    (case c2_Gifts => k_is)
    (case c3_Gifts => k_is)
    (case c4_Gifts => k_is)
    (case c5_Gifts => k_is)
    (case y_Gifts_people => k_is)
    (case y_Gifts_wishes => k_is)
    (case c1_Answer => k_is)
    (case c2_Answer => k_is)
    (case c3_Answer => k_is)
    (case c4_Answer => k_is)
    (case c1_Done => k_is)
    (case c2_Done => k_is)
    (case c3_Done => k_is)
    (case c4_Done => k_is)
    (case c5_Done => k_is)
    (case y_Done_results => k_is)
    (case o1_Done => k_is)
    (case o2_Done => k_is)
    (case o3_Done => k_is)
    (case o4_Done => k_is)
    (case j_Done_Done => first | rfl | k_is)
    (case j_Done_Halt => first | rfl | k_is)
    (case j_Done_Same => first | rfl | k_is)
    (case j_Done_Apart => first | rfl | k_is)
    (case j_Done_Paid => first | rfl | k_is)
    (case j_Done_Short => first | rfl | k_is)
    (case j_Done_Answer => first | rfl | k_is)
    (case c1_Halt => k_is)
    (case c2_Halt => k_is)
    (case c3_Halt => k_is)
    (case c4_Halt => k_is)
    (case c5_Halt => k_is)
    (case y_Halt_place => k_is)
    (case o1_Halt => k_is)
    (case o2_Halt => k_is)
    (case o3_Halt => k_is)
    (case o4_Halt => k_is)
    (case j_Halt_Done => first | rfl | k_is)
    (case j_Halt_Halt => first | rfl | k_is)
    (case j_Halt_Same => first | rfl | k_is)
    (case j_Halt_Apart => first | rfl | k_is)
    (case j_Halt_Paid => first | rfl | k_is)
    (case j_Halt_Short => first | rfl | k_is)
    (case j_Halt_Answer => first | rfl | k_is)
    (case c1_Same => k_is)
    (case c2_Same => k_is)
    (case c3_Same => k_is)
    (case c4_Same => k_is)
    (case o1_Same => k_is)
    (case o2_Same => k_is)
    (case o3_Same => k_is)
    (case o4_Same => k_is)
    (case j_Same_Done => first | rfl | k_is)
    (case j_Same_Halt => first | rfl | k_is)
    (case j_Same_Same => first | rfl | k_is)
    (case j_Same_Apart => first | rfl | k_is)
    (case j_Same_Paid => first | rfl | k_is)
    (case j_Same_Short => first | rfl | k_is)
    (case j_Same_Answer => first | rfl | k_is)
    (case c1_Apart => k_is)
    (case c2_Apart => k_is)
    (case c3_Apart => k_is)
    (case c4_Apart => k_is)
    (case c5_Apart => k_is)
    (case y_Apart_number => k_is)
    (case o1_Apart => k_is)
    (case o2_Apart => k_is)
    (case o3_Apart => k_is)
    (case o4_Apart => k_is)
    (case j_Apart_Done => first | rfl | k_is)
    (case j_Apart_Halt => first | rfl | k_is)
    (case j_Apart_Same => first | rfl | k_is)
    (case j_Apart_Apart => first | rfl | k_is)
    (case j_Apart_Paid => first | rfl | k_is)
    (case j_Apart_Short => first | rfl | k_is)
    (case j_Apart_Answer => first | rfl | k_is)
    (case c1_Paid => k_is)
    (case c2_Paid => k_is)
    (case c3_Paid => k_is)
    (case c4_Paid => k_is)
    (case c5_Paid => k_is)
    (case y_Paid_rows => k_is)
    (case o1_Paid => k_is)
    (case o2_Paid => k_is)
    (case o3_Paid => k_is)
    (case o4_Paid => k_is)
    (case j_Paid_Done => first | rfl | k_is)
    (case j_Paid_Halt => first | rfl | k_is)
    (case j_Paid_Same => first | rfl | k_is)
    (case j_Paid_Apart => first | rfl | k_is)
    (case j_Paid_Paid => first | rfl | k_is)
    (case j_Paid_Short => first | rfl | k_is)
    (case j_Paid_Answer => first | rfl | k_is)
    (case c1_Short => k_is)
    (case c2_Short => k_is)
    (case c3_Short => k_is)
    (case c4_Short => k_is)
    (case c5_Short => k_is)
    (case y_Short_owners => k_is)
    (case o1_Short => k_is)
    (case o2_Short => k_is)
    (case o3_Short => k_is)
    (case o4_Short => k_is)
    (case j_Short_Done => first | rfl | k_is)
    (case j_Short_Halt => first | rfl | k_is)
    (case j_Short_Same => first | rfl | k_is)
    (case j_Short_Apart => first | rfl | k_is)
    (case j_Short_Paid => first | rfl | k_is)
    (case j_Short_Short => first | rfl | k_is)
    (case j_Short_Answer => first | rfl | k_is)
    (case u_LETTERS => k_is)
    (case u_MOST_PEOPLE => k_is)
    (case u_MOST_WORD => k_is)
    (case u_MOST_PRICE => k_is)
    (case u_MOST_PIECES => k_is)
    (case u_MOST_WISHES => k_is)
    (case u_MOST_DEEDS => k_is)
    (case u_SIZES => k_is)
    (case d1_SIZES => k_is)
    (case d2_SIZES => exact ⟨⟨_, _, rfl, rfl⟩, ⟨_, _, rfl, rfl⟩, ⟨_, _, rfl, rfl⟩, ⟨_, _, rfl, rfl⟩, ⟨_, _, rfl, rfl⟩, ⟨_, _, rfl, rfl⟩, trivial⟩)
    (case d3_SIZES => decide)
    (case d4_SIZES_wish => k_is)
    (case d4_SIZES_alter => k_is)
    (case d4_SIZES_drop => k_is)
    (case d4_SIZES_take => k_is)
    (case d4_SIZES_pledge => k_is)
    (case d4_SIZES_back => k_is)
    (case d5_SIZES => k_is)
    (case z_all => k_is)
    (case z_any => k_is)
    (case z_bool => k_is)
    (case z_enumerate => k_is)
    (case z_int => k_is)
    (case z_isinstance => k_is)
    (case z_len => k_is)
    (case z_list => k_is)
    (case z_max => k_is)
    (case z_min => k_is)
    (case z_range => k_is)
    (case z_sorted => k_is)
    (case z_str => k_is)
    (case z_sum => k_is)
    (case z_tuple => k_is)
    (case z_zip => k_is)
#print axioms PySem.Challenge.cw_giftlist_k03_whole_told_holds

