import PyProof.Rows.All
import HandS.TupMul
import HandS.TupLen
import HandS.Finally
import HandS.Style
import HandS.Replace
import HandS.SortInts
import HandS.Deep
import HandS.ExcInit
import HandS.ExcField
import HandS.Nested
import KE.KExcSuper
import KE.KSuper
import KE.KExcLine
import Wide.All
import OpenK.AllK
import Wide.FinOn
import HandS.ForMost
import HandS.ForExc
import HandS.Wide
import HandS.TryMany
import HandS.IsInst
import HandS.TupAny
import HandS.Walk
import HandS.Conv
import HandS.Small
import HandS.CallSlots
import HandS.FStr
import HandS.Zip
import HandS.DictComp
import KE.GoesEnum
import KE.KStrOpen
import PyProof.Rows.SortShellAny
import KE.GoesZip
import HandS.ExcIs
import HandS.Exc
import PySem.Challenge.RW_stretchprices_k00_machines_judged
set_option Elab.async false
set_option linter.all false
set_option maxRecDepth 100000
set_option maxHeartbeats 4000000


/-! ## G1: operators that look at their values, data, heaps that grow -/
namespace L2
open PySem PySem.Spec PyProof.Rows
section
variable {X : Cx}
theorem PSet.or {t t' : TSet} (h : PSet X t) (h' : PSet X t') : PSet X (fun o i v H Q => t o i v H Q ∨ t' o i v H Q) := by
  intro pins s σ H o i v ov iv u Q I r1 r2 r3 q
  rcases q with q | q
  · exact h pins s σ H o i v ov iv u Q I r1 r2 r3 q
  · exact h' pins s σ H o i v ov iv u Q I r1 r2 r3 q
theorem PIp.or {op : Operator} {t t' : TIp} (h : PIp X op t) (h' : PIp X op t') : PIp X op (fun x y H Q => t x y H Q ∨ t' x y H Q) := by
  intro pins s σ H x y v u Q I r1 r2 q
  rcases q with q | q
  · exact h pins s σ H x y v u Q I r1 r2 q
  · exact h' pins s σ H x y v u Q I r1 r2 q

/-! ### subscripts -/
def rIxdU : R2 := fun x y H Q => ∃ a w, x = .ref a ∧ DGet H a y (some w) ∧ Q w H
theorem ix_dictU (hu : X.A.units + 1 < cLine) : IxR X rIxdU := by
  intro value slice pins s σ H x y v u Q I rx ry h hs
  obtain ⟨a, w, rfl, g, q⟩ := h
  cases rx
  exact tail_any (dict_typeIs I g) PySem.F.slot_dict_getitem.lookup (d_getItem hu I g ry fun w' s' I' rw' => ⟨w, H, I', rw', q⟩) hs
def rIxU (K : PySem.W.Frag) : R2 := fun x y H Q => rIx K x y H Q ∨ rIxdU x y H Q
theorem ix_U {K : PySem.W.Frag} (hu : X.A.units + 1 < cLine) (hK : X.K = K := by rfl) : IxR X (rIxU K) := hK ▸ ix_seq.or (ix_dictU hu)
def rSetU : TSet := fun o i v H Q => rSetL o i v H Q ∨ rSetD o i v H Q
theorem set_U (hu : X.A.units + 1 < cLine) : PSet X rSetU := set_list.or (set_dict hu)
def rSlU (K : PySem.W.Frag) : V → Option Int → Option Int → Hp → VK → Prop := fun x lo hi H Q => rSlL K x lo hi H Q ∨ (rSlA K x lo hi H Q ∨ rSlS x lo hi H Q)
theorem sl_U {K : PySem.W.Frag} (hK : X.K = K := by rfl) : SlR X (rSlU K) := hK ▸ sl_list.or (sl_tupA.or sl_str)

/-- a display, indexed: opened as one -/
def tOpP (r : R2) (ta tb : TE) : TE := tOp r ta tb
theorem pe_P {e : Expr} {r : R2} {ta tb : TE} (h : PE X e (tOp r ta tb)) : PE X e (tOpP r ta tb) := h
/-- the class C, or one above -/
theorem exm_of {K : PySem.W.Frag} {C D : Addr} {b : Bool} (h1 : PySem.W.subIn K (.ref D) (.type "BaseException") = some true) (h2 : PySem.W.isClsIn K D = true) (h3 : PySem.W.typeIn K (.ref D) = some (.type "type")) (h4 : PySem.W.subIn K (.ref C) (.ref D) = some b) :
    PySem.W.exmOne K (.ref C) (.ref D) = some b := by
  have e1 : (PySem.W.subIn K (.ref D) (.type "BaseException") == some true) = true := by rw [h1] <;> rfl
  have e2 : ((PySem.W.clsIn K D).isSome && PySem.W.typeIn K (.ref D) == some (.type "type")) = true := by
    have h2' : (PySem.W.clsIn K D).isSome = true := h2
    rw [h2', h3] <;> rfl
  show (if (PySem.W.subIn K (.ref D) (.type "BaseException") == some true) = true then (if ((PySem.W.clsIn K D).isSome && PySem.W.typeIn K (.ref D) == some (.type "type")) = true then PySem.W.subIn K (.ref C) (.ref D) else none) else none) = some b
  rw [if_pos e1, if_pos e2]
  exact h4
/-! ### operators -/
def rAddS : R2 := fun x y H Q => ∃ i j, x = .str i ∧ y = .str j ∧ i.length + j.length ≤ sizeLine ∧ Q (.str (i ++ j)) H
def rAddU (K : PySem.W.Frag) : R2 := fun x y H Q => rI0 (fun i j => .int (i + j)) x y H Q ∨ (rAddS x y H Q ∨ (rCat x y H Q ∨ rCatA K x y H Q))
theorem op_addU {K : PySem.W.Frag} (hK : X.K = K := by rfl) : OpR X (binaryOp .Add) (rAddU K) := hK ▸ op_add.or (OpR.or (r := rAddS) op_add_str (op_cat.or op_catA))
def rMulU : R2 := fun x y H Q => rI CMul (fun i j => .int (i * j)) x y H Q ∨ (rI CMulW (fun i j => .int (i * j)) x y H Q ∨ rRep x y H Q)
theorem op_mulU : OpR X (binaryOp .Mult) rMulU := op_mul.or (op_mulW.or op_rep)
def rModU : R2 := fun x y H Q => rI (fun _ j => 0 < j) (fun i j => .int (i % j)) x y H Q ∨ rI (fun _ j => j ≠ 0) (fun i j => .int (i.fmod j)) x y H Q
theorem op_modU : OpR X (binaryOp .Mod) rModU := op_mod.or op_modN
def rFdivU : R2 := fun x y H Q => rI CDiv (fun i j => .int (i / j)) x y H Q ∨ (rI CDivN (fun i j => .int (i.fdiv j)) x y H Q ∨ rI CDivW (fun i j => .int (i / j)) x y H Q)
theorem op_fdivU : OpR X (binaryOp .FloorDiv) rFdivU := op_fdiv.or (op_fdivN.or op_fdivW)
def rEqU (K : PySem.W.Frag) : R2 := fun x y H Q => rEq x y H Q ∨ rEqD K x y H Q
def rNeU (K : PySem.W.Frag) : R2 := fun x y H Q => rNe x y H Q ∨ rNeD K x y H Q
theorem op_eqU {K : PySem.W.Frag} (_ : X.A.units + 1 < cLine) (hu : X.A.units + 64 < cLine) (hK : X.K = K := by rfl) : OpR X (compareOp .Eq) (rEqU K) := hK ▸ op_eq.or (op_eqD hu)
theorem op_neU {K : PySem.W.Frag} (_ : X.A.units + 1 < cLine) (hu : X.A.units + 64 < cLine) (hK : X.K = K := by rfl) : OpR X (compareOp .NotEq) (rNeU K) := hK ▸ op_ne.or (op_neD hu)
def rCmpS (f : Str → Str → Bool) : R2 := fun x y H Q => ∃ i j, x = .str i ∧ y = .str j ∧ Q (.bl (f i j)) H
def rLtU : R2 := fun x y H Q => rI0 (fun i j => .bl (decide (i < j))) x y H Q ∨ rCmpS (fun i j => decide (i.cps.toList < j.cps.toList)) x y H Q
def rLeU : R2 := fun x y H Q => rI0 (fun i j => .bl (decide (i ≤ j))) x y H Q ∨ rCmpS (fun i j => !decide (j.cps.toList < i.cps.toList)) x y H Q
def rGtU : R2 := fun x y H Q => rI0 (fun i j => .bl (decide (j < i))) x y H Q ∨ rCmpS (fun i j => decide (j.cps.toList < i.cps.toList)) x y H Q
def rGeU : R2 := fun x y H Q => rI0 (fun i j => .bl (decide (j ≤ i))) x y H Q ∨ rCmpS (fun i j => !decide (i.cps.toList < j.cps.toList)) x y H Q
theorem op_ltU : OpR X (compareOp .Lt) rLtU := op_lt.or op_lt_str
theorem op_leU : OpR X (compareOp .LtE) rLeU := op_le.or op_le_str
theorem op_gtU : OpR X (compareOp .Gt) rGtU := op_gt.or op_gt_str
theorem op_geU : OpR X (compareOp .GtE) rGeU := op_ge.or op_ge_str
def rDInU (neg : Bool) : R2 := fun y x H Q => ∃ a o, x = .ref a ∧ DGet H a y o ∧ Q (.bl (if neg then !o.isSome else o.isSome)) H
theorem op_inDictU (hu : X.A.units + 1 < cLine) : OpR X (compareOp .In) (rDInU false) := by
  intro pins s σ H x y v u Q I rx ry h
  obtain ⟨a, o, rfl, g, q⟩ := h
  cases ry
  exact d_in hu I g rx fun s' I' => ⟨.bl o.isSome, H, I', rfl, q⟩
theorem op_notInDictU (hu : X.A.units + 1 < cLine) : OpR X (compareOp .NotIn) (rDInU true) := by
  intro pins s σ H x y v u Q I rx ry h
  obtain ⟨a, o, rfl, g, q⟩ := h
  cases ry
  exact d_notIn hu I g rx fun s' I' => ⟨.bl (!o.isSome), H, I', rfl, q⟩
def rSignIn (neg : Bool) : R2 := fun x y H Q => ∃ (c : Nat) (z : Str), x = .str ⟨#[c]⟩ ∧ y = .str z ∧ Q (.bl (if neg then !decide (c ∈ z.cps.toList) else decide (c ∈ z.cps.toList))) H
theorem op_inSign : OpR X (compareOp .In) (rSignIn false) := op_in_sign
theorem op_notInSign : OpR X (compareOp .NotIn) (rSignIn true) := op_notIn_sign
def rInU (K : PySem.W.Frag) (neg : Bool) : R2 := fun x y H Q => rSignIn neg x y H Q ∨ (rIn K neg x y H Q ∨ rDInU neg x y H Q)
theorem op_inU {K : PySem.W.Frag} (hu : X.A.units + 1 < cLine) (_ : X.A.units + 64 < cLine) (hK : X.K = K := by rfl) : OpR X (compareOp .In) (rInU K false) := hK ▸ op_inSign.or (op_in_seq.or (op_inDictU hu))
theorem op_notInU {K : PySem.W.Frag} (hu : X.A.units + 1 < cLine) (_ : X.A.units + 64 < cLine) (hK : X.K = K := by rfl) : OpR X (compareOp .NotIn) (rInU K true) := hK ▸ op_notInSign.or (op_notIn_seq.or (op_notInDictU hu))
def ipAddU : R2 := fun x y H Q => ipI (fun i j => i + j) x y H Q ∨ rAddS x y H Q
theorem ip_addU : PIp X .Add ipAddU := ip_add.or fun pins s σ H x y v u Q I rx ry h => iop_add_str pins s σ H x y v u Q I rx ry h
theorem ip_subU : PIp X .Sub (ipI fun i j => i - j) := ip_sub

/-! ### fields, pairs -/
theorem pe_fldU {K : PySem.W.Frag} {e : Expr} {f : Str} {pos : Pos} {ta : TE} (he : PE X e ta) (hb : attributeBase e f X.env (eval e X.env) = eval e X.env) (hK : X.K = K := by rfl) : PE X (.Attribute e f pos) (tFld K ta f) := hK ▸ pe_fld he hb
theorem ps_fldU {K : PySem.W.Frag} {o value : Expr} {f : Str} {pos pos' : Pos} {ta tv : TE} (ha : PE X o ta) (hv : PE X value tv) (hs : swapsWith value (some (.Attribute o f pos')) pos.line X.env = pure false) (hK : X.K = K := by rfl) : PS X (.Assign [.Attribute o f pos'] value pos) (sFld K ta tv f) := hK ▸ ps_fld ha hv hs
theorem pg_tupU {K : PySem.W.Frag} {es : List Expr} {k : Nat} {pos : Pos} {t : TGs} {n : Nat} (hc : X.calm = true) (h : PGs X es t) (hn : (assignEach es X.env).length = n := by rfl) (hst : (assignEach es X.env).findIdx? (·.1) = none := by rfl) (hK : X.K = K := by rfl) : PG X (.Tuple es k pos) (gTup K n t) := hK ▸ pg_tup hc h hn hst
/-! ### calls of built-ins -/
def rLenU (K : PySem.W.Frag) : List V → Hp → VK → Prop := fun xs H Q => (∃ x n, xs = [x] ∧ LenV K x H n ∧ Q (.int n) H) ∨ ∃ a kvs, xs = [V.ref a] ∧ H a = some (.dK kvs) ∧ Q (.int kvs.length) H
theorem call_lenU {K : PySem.W.Frag} (hK : X.K = K := by rfl) : CallR X (.builtin "len") (rLenU K) := hK ▸ call_len.or call_lenD
def rIsiU (K : PySem.W.Frag) : List V → Hp → VK → Prop := fun xs H Q => rIsi K xs H Q ∨ rIsiT K xs H Q
theorem call_isiU {K : PySem.W.Frag} (hK : X.K = K := by rfl) : CallR X (.builtin "isinstance") (rIsiU K) := hK ▸ call_isi.or call_isiT
def rIntU : List V → Hp → VK → Prop := fun xs H Q => (∃ i, xs = [.int i] ∧ Q (.int i) H) ∨ ∃ k, xs = [.bl k] ∧ Q (.int (if k then 1 else 0)) H
theorem call_intU : CallR X (.type "int") rIntU := call_int1
def rBoolU : List V → Hp → VK → Prop := fun xs H Q => (∃ i, xs = [.int i] ∧ Q (.bl (i != 0)) H) ∨ ∃ k, xs = [.bl k] ∧ Q (.bl k) H
theorem call_boolU : CallR X (.type "bool") rBoolU := call_bool1
def rStrU : List V → Hp → VK → Prop := fun xs H Q => ∃ i, xs = [.int i] ∧ i.natAbs.log2 < 1920 ∧ Q (.str (toString i)) H
theorem call_strU : CallR X (.type "str") rStrU := call_str_int
def rTupleU (K : PySem.W.Frag) : List V → Hp → VK → Prop := fun xs H Q => ∃ p ys, xs = [.ref p] ∧ ((SqL K H p ys ∧ ∀ l, H l = none → Q (.ref l) (upd H l (.tup ys))) ∨ (SqT K H p ys ∧ Q (.ref p) H))
theorem call_tupleU {K : PySem.W.Frag} (hK : X.K = K := by rfl) : CallR X (.type "tuple") (rTupleU K) := hK ▸ call_tuple_of
def rAbsU : List V → Hp → VK → Prop := fun xs H Q => ∃ i, xs = [.int i] ∧ Q (.int (if i < 0 then -i else i)) H
theorem call_absU : CallR X (.builtin "abs") rAbsU := call_abs
def rUpperU : V → List V → Hp → VK → Prop := fun x xs H Q => ∃ a, x = .str a ∧ xs = [] ∧ a.length ≤ 5592405 ∧ Q (.str (Txt.upper a)) H
theorem mt_upperU : MtR X "str.upper" rUpperU := mt_upper
def rStartU : V → List V → Hp → VK → Prop := fun x xs H Q => ∃ a b, x = .str a ∧ xs = [.str b] ∧ Q (.bl (Txt.startswith a b)) H
theorem mt_startswithU : MtR X "str.startswith" rStartU := mt_startswith
def rFindU : V → List V → Hp → VK → Prop := fun x xs H Q => ∃ a b, x = .str a ∧ xs = [.str b] ∧ Q (.int (Txt.find a b)) H
theorem mt_findU : MtR X "str.find" rFindU := mt_find
def rCountU : V → List V → Hp → VK → Prop := fun x xs H Q => ∃ a b, x = .str a ∧ xs = [.str b] ∧ Q (.int (Txt.count a b)) H
theorem mt_countU : MtR X "str.count" rCountU := mt_count
def rJoinU (K : PySem.W.Frag) : V → List V → Hp → VK → Prop := fun x xs H Q => ∃ a p, ∃ ys : List Str, x = .str a ∧ xs = [.ref p] ∧ (SqL K H p (ys.map V.str) ∨ SqT K H p (ys.map V.str)) ∧
  (ys.map (·.length)).sum + ys.length * a.length ≤ 16777216 ∧ Q (.str (Txt.join a ys)) H
theorem pe_joinU {K : PySem.W.Frag} {o e : Expr} {to te : TE} {apos pos : Pos} (ho : PE X o to) (he : PE X e te) (hK : X.K = K := by rfl) (hs : starEach [e] X.env = [(false, eval e X.env)] := by rfl) (hbase : attributeBase o "join" X.env (eval o X.env) = eval o X.env := by rfl) (hline : (apos.endLine == pos.line) = true := by rfl) :
    PE X (.Call (.Attribute o "join" apos) [e] [] pos) (tM1 (rJoinU K) to te) := hK ▸ pe_join ho he hs hbase hline
theorem pe_bmU {K : PySem.W.Frag} {T : String} {name : Str} {id : String} {r : V → List V → Hp → VK → Prop} {o e : Expr} {es : List Expr} {to : TE} {t : TA} {apos cpos : Pos} (pa : PlainAttrs T) (slot : Slot T name id) (hty : typeOf (.builtin id) = pure (.type "method_descriptor")) (hm : MtR X id r) (ho : PE X o to) (ha : PA X (e :: es) t) (hK : X.K = K := by rfl)
    (hbase : attributeBase o name X.env (eval o X.env) = eval o X.env := by rfl)
    (hfew : ((backTo cpos (starEach (e :: es) X.env)).all (fun x => !x.1) && (backToKw cpos (keywordEach [] X.env)).all (fun x => x.1.isSome)
      && decide ((e :: es).length + ([] : List Keyword).length + (if ([] : List Keyword).isEmpty then 0 else 1) < 30)) = true := by rfl)
    (hline : (apos.endLine == cpos.line) = true := by rfl) (hs : starEach (e :: es) X.env = (false, eval e X.env) :: starEach es X.env := by rfl) (hplain : (backTo cpos (starEach es X.env)).any (·.1) = false := by rfl) :
    PE X (.Call (.Attribute o name apos) (e :: es) [] cpos) (tBM K T r to t) := hK ▸ pe_bm pa slot hty hm ho ha hbase hfew hline hs hplain
theorem pe_bm0U {K : PySem.W.Frag} {T : String} {name : Str} {id : String} {r : V → List V → Hp → VK → Prop} {o : Expr} {to : TE} {apos cpos : Pos} (pa : PlainAttrs T) (slot : Slot T name id) (hty : typeOf (.builtin id) = pure (.type "method_descriptor")) (hm : MtR X id r) (ho : PE X o to) (hK : X.K = K := by rfl)
    (hbase : attributeBase o name X.env (eval o X.env) = eval o X.env := by rfl) (hline : (apos.endLine == cpos.line) = true := by rfl) : PE X (.Call (.Attribute o name apos) [] [] cpos) (tBM0 K T r to) := hK ▸ pe_bm0 pa slot hty hm ho hbase hline
theorem paired_of {α β : Type} {R : α → β → Prop} : ∀ {l : List α} {m : List β}, l.length = m.length → (∀ (j : Nat) x u, l[j]? = some x → m[j]? = some u → R x u) → Paired R l m
  | [], [], _, _ => .nil
  | x :: l, u :: m, h, q => .cons (q 0 x u rfl rfl) (paired_of (by simpa using h) fun j x u h1 h2 => q (j + 1) x u (by simpa using h1) (by simpa using h2))
  | [], _ :: _, h, _ => by simp at h
  | _ :: _, [], h, _ => by simp at h
/-- list(text) -/
def rListS : List V → Hp → VK → Prop := fun xs H Q => ∃ z : Str, xs = [.str z] ∧ z.length ≤ sizeLine ∧ ∀ p, H p = none → Q (.ref p) (upd H p (.lst (z.cps.toList.map fun c => V.str ⟨#[c]⟩)))
theorem call_listS (hc : X.calm = true := by rfl) : CallR X (.type "list") rListS := by
  intro pins s σ H xs us Q I r h
  obtain ⟨z, rfl, hz, q⟩ := h
  obtain ⟨u, rfl, rx⟩ := vals1 r
  obtain ⟨t, rfl⟩ := rx
  refine call_list_str (I.ok.hd hc) z t (hn := hz) fun h' tk acc' c' hk hS' hacc => ?_
  have hv : Vals (z.cps.toList.map fun c => V.str ⟨#[c]⟩) acc'.toList := by
    refine paired_of (by simp [hacc.1]) fun j x u hx hu => ?_
    rw [List.getElem?_map] at hx
    obtain ⟨c, u2, hc2, rfl⟩ := hacc.2 j u (by simpa using hu)
    have hc3 : z.cps.toList[j]? = some c := by simpa using hc2
    rw [hc3] at hx
    cases hx
    exact ⟨u2, rfl⟩
  exact ⟨.ref s.heap.objs.size, _, I.laid (t' := tk) hk (Nat.le_refl _) (show ObjOk X.prog X.w _ h' _ (.lst _) from ⟨by rw [List.length_map]; exact hz, acc'.toList, c', hv, hS'⟩), rfl, q _ (I.hok.fresh (Nat.le_refl _))⟩
def rListU (K : PySem.W.Frag) : List V → Hp → VK → Prop := fun xs H Q => (∃ p ys, xs = [.ref p] ∧ (SqL K H p ys ∨ SqT K H p ys) ∧ ∀ l, H l = none → Q (.ref l) (upd H l (.lst ys))) ∨ (rListD xs H Q ∨ rListS xs H Q)
theorem call_listU {K : PySem.W.Frag} (hK : X.K = K := by rfl) (hc : X.calm = true := by rfl) : CallR X (.type "list") (rListU K) := hK ▸ call_list_of.or ((call_list_dK hc).or (call_listS hc))
/-- sorted of texts, of any number -/
def rSortedSA (K : PySem.W.Frag) : List V → Hp → VK → Prop := fun vs H Q => ∃ (a : Addr) (xs : List Str), vs = [V.ref a] ∧ SqL K H a (xs.map V.str) ∧
  ∀ (p : Addr) (ys : List Str), H p = none → ys.Perm xs → PyProof.Rows.sortedS ys = true → Q (.ref p) (upd H p (.lst (ys.map V.str)))
theorem cr_sortedSA : CallR X (.builtin "sorted") (rSortedSA X.K) := by
  intro pins s σ H vs us Q I r h
  obtain ⟨a, xs, rfl, hs, q⟩ := h
  obtain ⟨its, rv, hl, hz⟩ := I.list hs
  rw [Vals.ref1 r]
  refine PyProof.Rows.sorted_strsAny hl.isList rv.strs (by rw [← rv.length]; exact hz) fun out ys h1 h2 h3 => ?_
  obtain ⟨ep, he'⟩ := PyProof.Rows.sortedAll_at s.heap its out
  have hlen : (ys.map V.str).length ≤ sizeLine := by
    rw [List.length_map, h2.length_eq]
    rw [List.length_map] at hz
    exact hz
  exact ⟨.ref _, upd H (s.heap.objs.size + 1) (.lst (ys.map V.str)), I.laid (t' := s.toks) (fun _ _ => PyProof.Rows.sortedAll_old) (Nat.le_succ _) ⟨hlen, out.toList, ep, vals_of_strs h1, he'⟩, rfl, q _ ys (I.hok.fresh (Nat.le_succ _)) h2 h3⟩
def rSortedU (K : PySem.W.Frag) : List V → Hp → VK → Prop := fun vs H Q => rSortedSA K vs H Q
theorem cr_sortedU {K : PySem.W.Frag} (hK : X.K = K := by rfl) : CallR X (.builtin "sorted") (rSortedU K) := hK ▸ cr_sortedSA
theorem cr_allU {K : PySem.W.Frag} (hK : X.K = K := by rfl) (hc : X.calm = true := by rfl) : CallR X (.builtin "all") (rAll K) := hK ▸ cr_all hc
theorem cr_anyU {K : PySem.W.Frag} (hK : X.K = K := by rfl) (hc : X.calm = true := by rfl) : CallR X (.builtin "any") (rAny K) := hK ▸ cr_any hc
theorem cr_sumU {K : PySem.W.Frag} (hK : X.K = K := by rfl) (hc : X.calm = true := by rfl) : CallR X (.builtin "sum") (rSum K) := hK ▸ cr_sum hc

/-! ### what is walked: a list, a tuple, a text -/
def iU (K : PySem.W.Frag) (te : TE) : TI := fun σ H R => te σ H fun v H1 => (∃ a, v = .ref a ∧ (∃ xs, SqL K H1 a xs) ∧ R (Itl K a) H1) ∨ ((∃ a, v = .ref a ∧ (∃ xs, SqT K H1 a xs) ∧ R (Itt K a) H1) ∨ ∃ x, v = .str x ∧ R (Its x) H1)
theorem pi_U {K : PySem.W.Frag} {tg l : Expr} {tl : TE} (hl : PE X l tl) (hK : X.K = K := by rfl) : PI X tg l (iU K tl) := by
  subst hK
  refine ⟨fun pins s σ H R I h => ?_⟩
  refine thn (hl.run pins s σ H _ I h) fun v s1 ⟨x, H1, I1, r1, q1⟩ => ?_
  rcases q1 with ⟨a, e, ⟨xs, hq⟩, q⟩ | ⟨a, e, ⟨xs, hq⟩, q⟩ | ⟨z, e, q⟩
  · subst e
    cases r1
    obtain ⟨its, rv, p, hz⟩ := I1.list hq
    refine wpAny_pyIter_list p.isList ?_
    refine ⟨s1.heap.objs.size, [s1.heap.objs.size], _, _, H1, rfl, I1.kept (t' := s1.toks) fun b o e => Heap.get?_push_of_some _ e, turn_list a _, ⟨_, Heap.get?_push_size _ rfl, rfl, rfl⟩, fun b hb => ?_, q⟩
    have e : b = s1.heap.objs.size := by simpa using hb
    subst e
    exact I1.fpOk (Nat.le_refl _) (I1.hok.fresh (Nat.le_refl _))
  · subst e
    cases r1
    obtain ⟨its, rv, p, hz⟩ := I1.tuple hq
    refine wpAny_pyIter_tuple (show s1.heap.IsTuple a its.toArray from p) ?_
    refine ⟨s1.heap.objs.size, [s1.heap.objs.size], _, _, H1, rfl, I1.kept (t' := s1.toks) fun b o e => Heap.get?_push_of_some _ e, turn_tuple a _, ⟨_, Heap.get?_push_size _ rfl, rfl, rfl⟩, fun b hb => ?_, q⟩
    have e : b = s1.heap.objs.size := by simpa using hb
    subst e
    exact I1.fpOk (Nat.le_refl _) (I1.hok.fresh (Nat.le_refl _))
  · subst e
    obtain ⟨t, rfl⟩ := r1
    cases ha : z.cps.all (· < 128)
    · exact wpAny_pyIter_wide ha (pi_one (tk := s1.toks) I1 _ (turn_str _ z t "str_iterator" (.inr rfl)) ⟨_, Heap.get?_push_size _ rfl, rfl, rfl⟩ q)
    · exact wpAny_pyIter_ascii ha (pi_one (tk := s1.toks) I1 _ (turn_str _ z t "str_ascii_iterator" (.inl rfl)) ⟨_, Heap.get?_push_size _ rfl, rfl, rfl⟩ q)
/-- an own exception's class, of those below ValueError, without own __init__ -/
structure ExcAt (K : PySem.W.Frag) (mg : Str → Option Value) (x : Str) where
  C : Addr
  gC : mg x = some (.ref C)
  ex : PySem.W.excIn K C [.type "ValueError", .type "Exception", .type "BaseException", .type "object"] "ValueError.__new__" = true
  kC : PySem.W.keepIn K (.ref C) = true
  sb : PySem.W.subIn K (.ref C) (.type "BaseException") = some true
  ty : PySem.W.typeIn K (.ref C) = some (.type "type")
/-- X() -/
theorem pmk_own0 {x : Str} {p pos : Pos} (T : ExcAt X.K X.mg x) (hg : Gl X x) (hdb : (x == ("__debug__" : Str)) = false := by decide) : PMk X (.Call (.Name x p) [] [] pos) (fun _ H Q => Q (.ref T.C) none H) := by
  intro pins s σ H Q I h
  refine wpAny_Call_Name_kw (ld_glob I hg T.gC ?_ hdb)
  refine PySem.W.callWith_K0 I.kIn T.kC ?_
  show wpAny _ _ (call (.ref T.C) []) _ _ _
  obtain ⟨bm, N, nm, qn, bs, hdct, sn, sub, ab, col, dd, k0, k1, k2, k3, k5, mN, hC, hN, hni, T'⟩ := exc_obj I.kIn T.ex
  refine wpAny_call_exc_subT PySem.F.excBase_ValueError T' hC hN hni (fun h' e hm => ?_) (Nat.zero_le _)
  exact mk_of I hm (raises_own T.sb T.ty) h (I.hok.gone hm.new)
/-- a def of the text, where the top has left it -/
structure DefAt (K : PySem.W.Frag) (mg : Str → Option Value) (x qual : Str) (st : Stmt) (ps : List Str) where
  f : Addr
  fd : FuncData
  F : Fun K x qual st f fd
  mg : mg x = some (.ref f)
  bd : Binds K fd ps []
/-- a method, where its class has left it -/
structure MDefAt (K : PySem.W.Frag) (x qual : Str) (st : Stmt) (ps : List Str) where
  f : Addr
  fd : FuncData
  F : Fun K x qual st f fd
  bd : Binds K fd ps []
theorem DefAt.kp {K : PySem.W.Frag} {mg : Str → Option Value} {x qual : Str} {st : Stmt} {ps : List Str} (D : DefAt K mg x qual st ps) : PySem.W.keepIn K (.ref D.f) = true := D.F.kp
end
end L2

/-! ## GZ: enumerate and zip of lists, tuples, texts in any mix -/
namespace PySem
open Sem (wp)
theorem meets_enumerate_newB1 {v : Value} {o : Obj} {H : Heap → Prop} (B : Begins v o H) :
    Meets (Builtin.«enumerate.__new__» ⟨[.type "enumerate", v], []⟩) (fun _ R s => H s.heap ∧
      R (.ok (.ret (.ref (s.heap.push o).objs.size))) { s with heap := (s.heap.push o).push { cls := .type "enumerate", data := .fields #[.none, .bool false, .ref s.heap.objs.size, rawInt 0, .none, .none] } }) :=
  .of_wp fun prog w A R s h => by
    obtain ⟨hp, g, d, tk, os⟩ := s; obtain ⟨h1, h⟩ := h
    have hsub := sub_enumerate
    have q1 : ∀ {A' : Around} {E : Value → Shared → Prop} {Q : Value → Shared → Prop}, Q (.ref hp.objs.size) ⟨hp.push o, g, d, tk, os⟩ → wpAny (model prog w) A' (pyIter v) Q E ⟨hp, g, d, tk, os⟩ :=
      fun q => B.iter prog w _ _ ⟨hp, g, d, tk, os⟩ _ h1 q
    wp_walk using q1
    refine wpAny_stack_any fun st => wpAny_pure ?_
    split
    · rename_i c _ _ _ _ _
      cases (c == Value.type "enumerate")
      · wp_walk using q1
        exact ⟨_, rfl, h⟩
      · wp_walk using q1
        exact ⟨_, rfl, h⟩
    · wp_walk using q1
      exact ⟨_, rfl, h⟩
section
variable {prog : Program} {w : World} {A : Around} {E : Value → Shared → Prop} {s : Shared}
/-- enumerate(v): its two new cells -/
theorem enum_begins1 {v : Value} {o : Obj} {H : Heap → Prop} {Q : Value → Shared → Prop} (B : Begins v o H) (h1 : H s.heap)
    (h : ∀ h', IsEnum h' (s.heap.objs.size + 1) s.heap.objs.size 0 .none → h'.get? s.heap.objs.size = some o → h'.objs.size = s.heap.objs.size + 2 →
      (∀ b o, s.heap.get? b = some o → h'.get? b = some o) → Q (.ref (s.heap.objs.size + 1)) { s with heap := h' }) :
    wpAny (model prog w) A (call (.type "enumerate") [v]) Q E s := by
  refine callType_new F.called_enumerate (by decide) (F.typeCall_enumerate_1 _) (F.newCall_enumerate_1 _) (fun obj => F.args_object_init_2 obj _) F.entry_enumerate_new
    (meets_enumerate_newB1 B) ⟨h1, ?_⟩
  have hz : (s.heap.push o).objs.size = s.heap.objs.size + 1 := Heap.size_push ..
  show _ ∧ _
  rw [hz]
  have he : IsEnum ((s.heap.push o).push { cls := .type "enumerate", data := .fields #[.none, .bool false, .ref s.heap.objs.size, rawInt 0, .none, .none] }) (s.heap.objs.size + 1) s.heap.objs.size 0 .none := by
    have := Heap.get?_push_size (s.heap.push o) (o := { cls := .type "enumerate", data := .fields #[.none, .bool false, .ref s.heap.objs.size, rawInt 0, .none, .none] }) rfl
    rw [hz] at this; exact this
  refine ⟨⟨_, he, rfl⟩, h _ he (Heap.get?_push_of_some _ (Heap.get?_push_size _ B.free)) (by rw [Heap.size_push, hz]) fun b o x => Heap.get?_push_of_some _ (Heap.get?_push_of_some _ x)⟩
end
end PySem

namespace L2
open PySem PySem.Spec PyProof.Rows
/-- a list, a tuple, a text -/
inductive Sk where
  | l
  | t
  | s
/-- x holds xs, one after the other -/
def SrcAt (k : Sk) (K : PySem.W.Frag) (H : Hp) (x : V) (xs : List V) : Prop := match k with
  | .l => ∃ a, x = .ref a ∧ SqL K H a xs
  | .t => ∃ a, x = .ref a ∧ SqT K H a xs
  | .s => ∃ z : Str, x = .str z ∧ xs = z.cps.toList.map fun c => V.str ⟨#[c]⟩
/-- the iterator at it over u, i gone -/
def IterAt (k : Sk) (u : Value) (it : Addr) (i : Nat) (h : Heap) : Prop := match k with
  | .l => ∃ a, u = .ref a ∧ a ≠ it ∧ h.IsListIter it a i
  | .t => ∃ a, u = .ref a ∧ a ≠ it ∧ h.IsTupleIter it a i
  | .s => ∃ z t, u = .str z t ∧ h.IsStrIter it (strIterType z) z t i
section
variable {X : Cx} {pins : List (Addr × Obj)} {σ : St} {H : Hp} {s : Shared} {k : Sk} {x : V} {xs ys : List V} {u : Value} {it : Addr} {i : Nat} {h h' : Heap} {A : Around}
theorem Vals.get' : ∀ {xs : List V} {us : List Value} {i : Nat} {u : Value}, Vals xs us → us[i]? = some u → ∃ x, xs[i]? = some x ∧ RelV x u
  | _, _, _, _, .nil, e => by simp at e
  | _, _, 0, _, .cons r _, e => by simp at e; subst e; exact ⟨_, rfl, r⟩
  | _, _, i + 1, u, .cons _ t, e => by
    obtain ⟨x, h1, h2⟩ := Vals.get' (i := i) (u := u) t (by simpa using e)
    exact ⟨x, by simpa using h1, h2⟩
theorem SrcAt.inj (I : Inv X pins σ H s) (h1 : SrcAt k X.K H x xs) (h2 : SrcAt k X.K H x ys) : xs = ys := by
  cases k with
  | l =>
    obtain ⟨a, e, q⟩ := h1
    obtain ⟨b, e', q'⟩ := h2
    have : a = b := V.ref.inj (e.symm.trans e')
    subst this
    exact I.list_inj q q'
  | t =>
    obtain ⟨a, e, q⟩ := h1
    obtain ⟨b, e', q'⟩ := h2
    have : a = b := V.ref.inj (e.symm.trans e')
    subst this
    exact I.tuple_inj q q'
  | s =>
    obtain ⟨a, e, q⟩ := h1
    obtain ⟨b, e', q'⟩ := h2
    have : a = b := V.str.inj (e.symm.trans e')
    subst this
    rw [q, q']
theorem IterAt.live (st : IterAt k u it i h) : ∃ o, h.get? it = some o ∧ ∀ v, o.data ≠ .cell v := by
  cases k with
  | l => obtain ⟨a, _, _, o, ho, _, d⟩ := st; exact ⟨o, ho, fun v q => by rw [d] at q; cases q⟩
  | t => obtain ⟨a, _, _, o, ho, _, d⟩ := st; exact ⟨o, ho, fun v q => by rw [d] at q; cases q⟩
  | s => obtain ⟨a, _, _, o, ho, _, d⟩ := st; exact ⟨o, ho, fun v q => by rw [d] at q; cases q⟩
theorem IterAt.at (st : IterAt k u it i h) (q : ∀ o, h.get? it = some o → h'.get? it = some o) : IterAt k u it i h' := by
  cases k with
  | l => obtain ⟨a, e, n, o, ho, r⟩ := st; exact ⟨a, e, n, o, q o ho, r⟩
  | t => obtain ⟨a, e, n, o, ho, r⟩ := st; exact ⟨a, e, n, o, q o ho, r⟩
  | s => obtain ⟨a, t, e, o, ho, r⟩ := st; exact ⟨a, t, e, o, q o ho, r⟩
theorem src_draw (I : Inv X pins σ H s) (hs : SrcAt k X.K H x xs) (r : RelV x u) (st : IterAt k u it i s.heap) (hh : A.handled = none) :
    ∃ (fp : List Addr) (P : Nat → Value → Prop) (St : Nat → Heap → Prop), Draws X.prog X.w A it fp xs.length P St ∧ St i s.heap ∧ (∀ j v, P j v → ∃ y, xs[j]? = some y ∧ RelV y v) ∧ (∀ h j, St j h → IterAt k u it j h) ∧ it ∈ fp ∧ ∀ b ∈ fp, b = it ∨ u = .ref b := by
  cases k with
  | l =>
    obtain ⟨a, rfl, hq⟩ := hs
    obtain ⟨b, e, n, hit⟩ := st
    cases (show u = Value.ref a from r)
    cases e
    obtain ⟨its, rv, p, hz⟩ := I.list hq
    have hl : its.toArray.size = xs.length := by rw [List.size_toArray, ← rv.length]
    refine ⟨_, _, _, hl ▸ Draws.list hh it a n its.toArray, ⟨hit, p.isList⟩, fun j v hp => ?_, fun h j q => ⟨a, rfl, n, q.1⟩, by simp, fun c hc => ?_⟩
    · have hp' : its[j]? = some v := by simpa using hp
      obtain ⟨y, hy, ry⟩ := Vals.get' rv hp'
      exact ⟨y, hy, ry⟩
    · have : c = it ∨ c = a := by simpa using hc
      exact this.imp id fun e => by rw [e]
  | t =>
    obtain ⟨a, rfl, hq⟩ := hs
    obtain ⟨b, e, n, hit⟩ := st
    cases (show u = Value.ref a from r)
    cases e
    obtain ⟨its, rv, p, hz⟩ := I.tuple hq
    have hl : its.toArray.size = xs.length := by rw [List.size_toArray, ← rv.length]
    refine ⟨_, _, _, hl ▸ Draws.tuple hh it a n its.toArray, ⟨hit, p⟩, fun j v hp => ?_, fun h j q => ⟨a, rfl, n, q.1⟩, by simp, fun c hc => ?_⟩
    · have hp' : its[j]? = some v := by simpa using hp
      obtain ⟨y, hy, ry⟩ := Vals.get' rv hp'
      exact ⟨y, hy, ry⟩
    · have : c = it ∨ c = a := by simpa using hc
      exact this.imp id fun e => by rw [e]
  | s =>
    obtain ⟨z, rfl, rfl⟩ := hs
    obtain ⟨z', t, e, hit⟩ := st
    obtain ⟨t', e'⟩ := (show ∃ t, u = Value.str z t from r)
    rw [e] at e'
    cases e'
    have hl : z.cps.size = (z.cps.toList.map fun c => V.str ⟨#[c]⟩).length := by simp
    refine ⟨_, _, _, hl ▸ Draws.text hh it z t, hit, fun j v hp => ?_, fun h j q => ⟨z, t, e, q⟩, by simp, fun c hc => .inl (by simpa using hc)⟩
    obtain ⟨c, t2, hc, ev⟩ := hp
    have hc' : z.cps.toList[j]? = some c := by simpa using hc
    exact ⟨.str ⟨#[c]⟩, by rw [List.getElem?_map, hc']; rfl, t2, ev⟩
end

theorem nq {a b : Nat} (h : a < b ∨ b < a) : a ≠ b := by omega
/-! ### enumerate -/
def ItE (k : Sk) (K : PySem.W.Frag) (x : V) : It :=
  ⟨fun i H => ∃ (xs : List V) (y : V), SrcAt k K H x xs ∧ xs[i]? = some y, fun i H v H' => ∃ T y, v = .ref T ∧ H T = none ∧ H' = upd H T (.tup [.int (i : Nat), y]) ∧ ∀ xs, SrcAt k K H x xs → xs[i]? = some y, fun i H => ∃ xs : List V, SrcAt k K H x xs ∧ xs.length = i⟩
theorem turn_enumU {P : Program} {w : World} {K : PySem.W.Frag} {elts : List Expr} {kk : Nat} {tpos : Pos} {k : Sk} {x : V} {u : Value} {e it : Addr} (r : RelV x u) (ne : e ≠ it) (nu : u ≠ .ref e) :
    Turn P w K (.Tuple elts kk tpos) (ItE k K x) [e, it] e (fun i h => (∃ old, IsEnum h e it ((i : Nat) : Int) old) ∧ IterAt k u it i h) where
  mem := by simp
  obj := fun i h st b hb => by
    obtain ⟨⟨old, he⟩, hi⟩ := st
    have e' : b = e ∨ b = it := by simpa using hb
    rcases e' with z | z
    · rw [z]; exact ⟨_, he, fun v q => nomatch q⟩
    · rw [z]; exact hi.live
  keep := fun i h h' st kp => let ⟨⟨old, he⟩, hi⟩ := st; ⟨⟨old, kp e (by simp) _ he⟩, hi.at fun o q => kp it (by simp) o q⟩
  item := by
    intro X hP hw hK hc i pins s σ H E I hf st hg
    subst hP hw hK
    obtain ⟨⟨old, he⟩, hit⟩ := st
    obtain ⟨xs, y, hq, hy⟩ := hg
    obtain ⟨fp, Pd, Sd, D, d0, dv, di, dm, df⟩ := src_draw (A := X.A.in1) I hq r hit (I.ok.hd hc)
    have hlt : i < xs.length := (List.getElem?_eq_some_iff.mp hy).1
    have hel : e < s.heap.objs.size := Heap.lt_size he
    have hil : it < s.heap.objs.size := by obtain ⟨_, q, _⟩ := hit.live; exact Heap.lt_size q
    refine wpAny_pyNext_enum_itemD D he d0 hlt ne (fun q => (df e q).elim ne fun q => nu q) fun v h' tk hv ho hd' hT hsz hk => ?_
    obtain ⟨y', hy', ry⟩ := dv i v hv
    obtain rfl : y = y' := Option.some.inj (hy.symm.trans hy')
    refine ⟨_, rfl, wpAny_letOwnedTupleGo_enum (s := { s with heap := h', toks := tk + 1 }) ho fun h'' he' sb => ?_⟩
    have hT2 : h''.get? s.heap.objs.size = some { cls := .type "tuple", data := .seq #[.int i tk, v] } := (sb.2 _ (Nat.ne_of_gt hel)).trans hT
    have new : ObjOk X.prog X.w (upd H s.heap.objs.size (.tup [.int (i : Nat), y])) h'' s.heap.objs.size (.tup [.int (i : Nat), y]) :=
      ⟨by show 2 ≤ sizeLine; decide, [.int i tk, v], .cons ⟨_, rfl⟩ (.cons ry .nil), ⟨_, hT2, rfl, _, rfl⟩⟩
    have I1 : Inv X pins σ (upd H s.heap.objs.size (.tup [.int (i : Nat), y])) { s with heap := h'', toks := tk + 1 } :=
      I.turnedNew (ch := [e, it]) (fun b ob hb q => (sb.2 b (fun z => hb (by simp [z]))).trans (hk b ob (fun z => hb (by simp [z])) (fun z => hb (by simp [z])) q)) hf (Nat.le_refl _) new
    refine ⟨.ref s.heap.objs.size, _, I1, rfl, ⟨_, y, rfl, I.hok.fresh (Nat.le_refl _), rfl, fun ys hys => by rw [SrcAt.inj I hys hq]; exact hy⟩, ⟨⟨v, ?_⟩, (di _ _ hd').at fun o q => (sb.2 it (Ne.symm ne)).trans q⟩, fun b hb => ?_⟩
    · have e1 : ((i + 1 : Nat) : Int) = (i : Int) + 1 := by omega
      rw [e1]; exact he'
    · have hb' : b < s.heap.objs.size := by
        have e' : b = e ∨ b = it := by simpa using hb
        rcases e' with z | z
        · rw [z]; exact hel
        · rw [z]; exact hil
      rw [upd_ne (Nat.ne_of_lt hb')]
      exact (hf b hb).1
  done := by
    intro X hP hw hK hc i pins s σ H E I hf st hg
    subst hP hw hK
    obtain ⟨⟨old, he⟩, hit⟩ := st
    obtain ⟨xs, hq, rfl⟩ := hg
    obtain ⟨fp, Pd, Sd, D, d0, dv, di, dm, df⟩ := src_draw (A := X.A.in1) I hq r hit (I.ok.hd hc)
    obtain ⟨f0, f1, f2, f3, f4, f5⟩ := hf it (by simp)
    exact wpAny_pyNext_enum_endD D he d0 fun h' eb => ⟨rfl, I.turned (t' := s.toks) (fun b o hb q => eb b o hb q) f0 f1 f3 f4 f5⟩
  self := fun A i s Q E st h => let ⟨⟨_, he⟩, _⟩ := st; wpAny_pyIter_enum he h
def iEnumU (K : PySem.W.Frag) (ta : TA) : TI := fun σ H R => ta σ H fun vs H1 => ∃ x k xs, vs = [x] ∧ SrcAt k K H1 x xs ∧ R (ItE k K x) H1
/-- what iter(v) makes -/
theorem src_begins {X : Cx} {pins : List (Addr × Obj)} {σ : St} {H : Hp} {s : Shared} {k : Sk} {x : V} {xs : List V} {u : Value} (I : Inv X pins σ H s) (hs : SrcAt k X.K H x xs) (r : RelV x u) :
    ∃ (o : Obj) (Hb : Heap → Prop), Begins u o Hb ∧ Hb s.heap ∧ (∀ h it, (∀ b, u = .ref b → b ≠ it) → h.get? it = some o → IterAt k u it 0 h) ∧ ∀ b : Nat, u = .ref b → b < s.heap.objs.size := by
  cases k with
  | l =>
    obtain ⟨a, rfl, hq⟩ := hs
    cases (show u = Value.ref a from r)
    obtain ⟨its, rv, p, hz⟩ := I.list hq
    exact ⟨_, _, begins_list a its.toArray, p.isList, fun h it n e => ⟨a, rfl, n a rfl, _, e, rfl, rfl⟩, fun b e => by cases e; exact p.lt⟩
  | t =>
    obtain ⟨a, rfl, hq⟩ := hs
    cases (show u = Value.ref a from r)
    obtain ⟨its, rv, p, hz⟩ := I.tuple hq
    exact ⟨_, _, begins_tuple a its.toArray, p, fun h it n e => ⟨a, rfl, n a rfl, _, e, rfl, rfl⟩, fun b e => by
      cases e
      obtain ⟨o, ho, _⟩ := id p
      exact Heap.lt_size ho⟩
  | s =>
    obtain ⟨z, rfl, rfl⟩ := hs
    obtain ⟨t, rfl⟩ := (show ∃ t, u = Value.str z t from r)
    exact ⟨_, _, begins_text z t, trivial, fun h it n e => ⟨z, t, rfl, _, e, rfl, rfl⟩, fun b e => nomatch e⟩
theorem pi_enumU {K : PySem.W.Frag} {X : Cx} {e : Expr} {ta : TA} {p pos tpos : Pos} {elts : List Expr} {kk : Nat} (hg : Gl X "enumerate") (hm : X.mg "enumerate" = none) (ha : PA X [e] ta) (hK : X.K = K := by rfl) (hs : starEach [e] X.env = [(false, eval e X.env)] := by rfl) :
    PI X (.Tuple elts kk tpos) (.Call (.Name "enumerate" p) [e] [] pos) (iEnumU K ta) := by
  subst hK
  refine ⟨fun pins s σ H R I h => ?_⟩
  refine Call_ (ld_blt I hg hm boot_enumerate (PyProof.Rows.callWith_type1 (thn (ha.run pos pins s σ H _ I h) fun us s1 ⟨vs, H1, I1, r1, q1⟩ => ?_) hs rfl))
  obtain ⟨x, k, xs, ex, hq, q⟩ := q1
  subst ex
  cases r1 with
  | @cons _ u _ _ r rr =>
    cases rr
    obtain ⟨o, Hb, B, hb, mk, lt⟩ := src_begins I1 hq r
    refine enum_begins1 B hb fun h' he hit hsz hk => wpAny_pyIter_enum he ?_
    have I2 : Inv X pins σ H1 { s1 with heap := h' } := I1.kept (t' := s1.toks) hk
    refine ⟨s1.heap.objs.size + 1, [s1.heap.objs.size + 1, s1.heap.objs.size], _, _, H1, rfl, I2, turn_enumU (k := k) r (Nat.succ_ne_self _) (fun q => absurd (lt _ q) (Nat.not_lt.mpr (Nat.le_succ _))), ⟨⟨.none, he⟩, mk _ _ (fun b e => nq (.inl (Nat.lt_of_lt_of_le (lt b e) (by omega)))) hit⟩, fun b hb => ?_, q⟩
    have e' : b = s1.heap.objs.size + 1 ∨ b = s1.heap.objs.size := by simpa using hb
    have hle : s1.heap.objs.size ≤ b := by
      rcases e' with z | z
      · rw [z]; exact Nat.le_add_right _ _
      · rw [z]; exact Nat.le_refl _
    exact I1.fpOk hle (I1.hok.fresh hle)

/-! ### zip of two -/
def ItZ (k1 k2 : Sk) (K : PySem.W.Frag) (x1 x2 : V) : It :=
  ⟨fun i H => ∃ (xs ys : List V) (y z : V), SrcAt k1 K H x1 xs ∧ SrcAt k2 K H x2 ys ∧ xs[i]? = some y ∧ ys[i]? = some z,
    fun i H v H' => ∃ T y z, v = .ref T ∧ H T = none ∧ H' = upd H T (.tup [y, z]) ∧ (∀ xs, SrcAt k1 K H x1 xs → xs[i]? = some y) ∧ ∀ ys, SrcAt k2 K H x2 ys → ys[i]? = some z,
    fun i H => ∃ xs ys : List V, SrcAt k1 K H x1 xs ∧ SrcAt k2 K H x2 ys ∧ i ≤ xs.length ∧ i ≤ ys.length ∧ (i = xs.length ∨ i = ys.length)⟩
structure Apart (z TI TO i1 i2 : Addr) (u1 u2 : Value) : Prop where
  TIz : TI ≠ z
  TOz : TO ≠ z
  TITO : TI ≠ TO
  TIi1 : TI ≠ i1
  TIi2 : TI ≠ i2
  zi1 : z ≠ i1
  zi2 : z ≠ i2
  Ti1 : TO ≠ i1
  Ti2 : TO ≠ i2
  i12 : i1 ≠ i2
  u1 : ∀ b, u1 = .ref b → b ≠ z ∧ b ≠ TI ∧ b ≠ TO ∧ b ≠ i1 ∧ b ≠ i2
  u2 : ∀ b, u2 = .ref b → b ≠ z ∧ b ≠ TI ∧ b ≠ TO ∧ b ≠ i1 ∧ b ≠ i2
theorem Apart.sep {z TI TO i1 i2 : Addr} {u1 u2 : Value} (D : Apart z TI TO i1 i2 u1 u2) {fp1 fp2 : List Addr} (m1 : i1 ∈ fp1) (m2 : i2 ∈ fp2) (f1 : ∀ b ∈ fp1, b = i1 ∨ u1 = .ref b) (f2 : ∀ b ∈ fp2, b = i2 ∨ u2 = .ref b) : ZipSep2 z TI TO i1 i2 fp1 fp2 :=
  ⟨D.TIz, D.TOz, D.TITO, D.TIi1, m1, fun q => (f1 _ q).elim D.zi1 fun e => (D.u1 _ e).1 rfl, fun q => (f1 _ q).elim D.Ti1 fun e => (D.u1 _ e).2.2.1 rfl,
    D.TIi2, m2, fun q => (f2 _ q).elim D.zi2 fun e => (D.u2 _ e).1 rfl, fun q => (f2 _ q).elim D.Ti2 fun e => (D.u2 _ e).2.2.1 rfl,
    fun q => (f2 _ q).elim D.i12 fun e => (D.u2 _ e).2.2.2.1 rfl, fun q => (f1 _ q).elim D.i12.symm fun e => (D.u1 _ e).2.2.2.2 rfl⟩
theorem turn_zipU {P : Program} {w : World} {K : PySem.W.Frag} {elts : List Expr} {kk : Nat} {tpos : Pos} {k1 k2 : Sk} {x1 x2 : V} {u1 u2 : Value} {z TI TO i1 i2 : Addr} (r1 : RelV x1 u1) (r2 : RelV x2 u2) (D : Apart z TI TO i1 i2 u1 u2) :
    Turn P w K (.Tuple elts kk tpos) (ItZ k1 k2 K x1 x2) [z, TI, TO, i1, i2] z (fun i h => IsZip h z TI TO .none ∧ IsTupOf2 h TI (.ref i1) (.ref i2) ∧ (∃ x y, IsTupOf2 h TO x y) ∧ IterAt k1 u1 i1 i h ∧ IterAt k2 u2 i2 i h) where
  mem := by simp
  obj := fun i h st c hc => by
    obtain ⟨hz, hTI, ⟨x, y, hTO⟩, h1, h2⟩ := st
    have e' : c = z ∨ c = TI ∨ c = TO ∨ c = i1 ∨ c = i2 := by simpa using hc
    rcases e' with q | q | q | q | q
    · rw [q]; exact ⟨_, hz, fun v q => nomatch q⟩
    · rw [q]; exact ⟨_, hTI, fun v q => nomatch q⟩
    · rw [q]; exact ⟨_, hTO, fun v q => nomatch q⟩
    · rw [q]; exact h1.live
    · rw [q]; exact h2.live
  keep := fun i h h' st k => by
    obtain ⟨hz, hTI, ⟨x, y, hTO⟩, h1, h2⟩ := st
    exact ⟨k z (by simp) _ hz, k TI (by simp) _ hTI, ⟨x, y, k TO (by simp) _ hTO⟩, h1.at fun o q => k i1 (by simp) o q, h2.at fun o q => k i2 (by simp) o q⟩
  item := by
    intro X hP hw hK hc i pins s σ H E I hf st hg
    subst hP hw hK
    obtain ⟨hz, hTI, ⟨x0, y0, hTO⟩, h1, h2⟩ := st
    obtain ⟨xs, ys, y, zz, hq1, hq2, hy, hzz⟩ := hg
    obtain ⟨fp1, P1, S1, D1, d1, dv1, di1, dm1, df1⟩ := src_draw (A := X.A.in1) I hq1 r1 h1 (I.ok.hd hc)
    obtain ⟨fp2, P2, S2, D2, d2, dv2, di2, dm2, df2⟩ := src_draw (A := X.A.in1) I hq2 r2 h2 (I.ok.hd hc)
    have hzl : z < s.heap.objs.size := Heap.lt_size hz
    refine wpAny_pyNext_zipD2_item (D.sep dm1 dm2 df1 df2) D1 D2 hz hTI hTO d1 d2 (List.getElem?_eq_some_iff.mp hy).1 (List.getElem?_eq_some_iff.mp hzz).1 fun v1 v2 h' tk hv1 hv2 z' TO' d1' d2' hT hsz hk => ?_
    obtain ⟨y', hy', ry⟩ := dv1 i v1 hv1
    obtain rfl : y = y' := Option.some.inj (hy.symm.trans hy')
    obtain ⟨z2, hz2, rz⟩ := dv2 i v2 hv2
    obtain rfl : zz = z2 := Option.some.inj (hzz.symm.trans hz2)
    refine ⟨_, rfl, wpAny_letOwnedTupleGo_zip (s := { s with heap := h', toks := tk }) z' fun h'' z'' sb => ?_⟩
    have hT2 : h''.get? s.heap.objs.size = some { cls := .type "tuple", data := .seq #[v1, v2] } := (sb.2 _ (Nat.ne_of_gt hzl)).trans hT
    have new : ObjOk X.prog X.w (upd H s.heap.objs.size (.tup [y, zz])) h'' s.heap.objs.size (.tup [y, zz]) :=
      ⟨by show 2 ≤ sizeLine; decide, [v1, v2], .cons ry (.cons rz .nil), ⟨_, hT2, rfl, _, rfl⟩⟩
    have I1 : Inv X pins σ (upd H s.heap.objs.size (.tup [y, zz])) { s with heap := h'', toks := tk } :=
      I.turnedNew (ch := [z, TI, TO, i1, i2]) (fun c o hb q => (sb.2 c (fun q' => hb (by simp [q']))).trans (hk c o (fun q' => hb (by simp [q'])) (fun q' => hb (by simp [q'])) (fun q' => hb (by simp [q'])) (fun q' => hb (by simp [q'])) q)) hf (Nat.le_refl _) new
    refine ⟨.ref s.heap.objs.size, _, I1, rfl, ⟨_, y, zz, rfl, I.hok.fresh (Nat.le_refl _), rfl, fun l hl => by rw [SrcAt.inj I hl hq1]; exact hy, fun l hl => by rw [SrcAt.inj I hl hq2]; exact hzz⟩, ⟨z'', ?_, ⟨v1, v2, ?_⟩, ?_, ?_⟩, fun c hcm => ?_⟩
    · exact (sb.2 _ D.TIz).trans (hk _ _ D.TIz D.TITO D.TIi1 D.TIi2 hTI)
    · exact (sb.2 _ D.TOz).trans TO'
    · exact (di1 _ _ d1').at fun o q => (sb.2 _ D.zi1.symm).trans q
    · exact (di2 _ _ d2').at fun o q => (sb.2 _ D.zi2.symm).trans q
    · have hlt : c < s.heap.objs.size := by
        have e' : c = z ∨ c = TI ∨ c = TO ∨ c = i1 ∨ c = i2 := by simpa using hcm
        rcases e' with q | q | q | q | q
        · rw [q]; exact hzl
        · rw [q]; exact Heap.lt_size hTI
        · rw [q]; exact Heap.lt_size hTO
        · rw [q]; obtain ⟨_, e1, _⟩ := h1.live; exact Heap.lt_size e1
        · rw [q]; obtain ⟨_, e2, _⟩ := h2.live; exact Heap.lt_size e2
      rw [upd_ne (Nat.ne_of_lt hlt)]
      exact (hf c hcm).1
  done := by
    intro X hP hw hK hc i pins s σ H E I hf st hg
    subst hP hw hK
    obtain ⟨hz, hTI, ⟨x0, y0, hTO⟩, h1, h2⟩ := st
    obtain ⟨xs, ys, hq1, hq2, l1, l2, hend⟩ := hg
    obtain ⟨fp1, P1, S1, D1, d1, dv1, di1, dm1, df1⟩ := src_draw (A := X.A.in1) I hq1 r1 h1 (I.ok.hd hc)
    obtain ⟨fp2, P2, S2, D2, d2, dv2, di2, dm2, df2⟩ := src_draw (A := X.A.in1) I hq2 r2 h2 (I.ok.hd hc)
    exact wpAny_pyNext_zipD2_end (D.sep dm1 dm2 df1 df2) D1 D2 hz hTI hTO d1 d2 l1 l2 hend fun h' tk hk => ⟨rfl, I.turnedL (ch := [z, TI, TO, i1, i2]) (fun c o hb q =>
      hk c o (fun q' => hb (by simp [q'])) (fun q' => hb (by simp [q'])) (fun q' => hb (by simp [q'])) (fun q' => hb (by simp [q'])) q) hf⟩
  self := fun A i s Q E st h => wpAny_pyIter_zip st.1 h
def iZipU (K : PySem.W.Frag) (ta : TA) : TI := fun σ H R => ta σ H fun vs H1 => ∃ x y k1 k2 xs ys, vs = [x, y] ∧ SrcAt k1 K H1 x xs ∧ SrcAt k2 K H1 y ys ∧ R (ItZ k1 k2 K x y) H1
theorem pi_zipU {K : PySem.W.Frag} {X : Cx} {e e2 : Expr} {ta : TA} {p pos tpos : Pos} {elts : List Expr} {kk : Nat} (hg : Gl X "zip") (hm : X.mg "zip" = none) (ha : PA X [e, e2] ta) (hK : X.K = K := by rfl)
    (hs : starEach [e, e2] X.env = (false, eval e X.env) :: starEach [e2] X.env := by rfl) (hpl : (backTo pos (starEach [e2] X.env)).any (·.1) = false := by rfl) :
    PI X (.Tuple elts kk tpos) (.Call (.Name "zip" p) [e, e2] [] pos) (iZipU K ta) := by
  subst hK
  refine ⟨fun pins s σ H R I h => ?_⟩
  refine Call_ (ld_blt I hg hm PyProof.Rows.boot_zip (PyProof.Rows.callWith_type1 (thn (ha.run pos pins s σ H _ I h) fun us s1 ⟨vs, H1, I1, r1, q1⟩ => ?_) hs hpl))
  obtain ⟨x, y, k1, k2, xs, ys, ex, hq1, hq2, q⟩ := q1
  subst ex
  cases r1 with
  | @cons _ u _ _ r rr =>
    cases rr with
    | @cons _ u' _ _ r' rr =>
      cases rr
      obtain ⟨o1, Hb1, B1, hb1, mk1, lt1⟩ := src_begins I1 hq1 r
      obtain ⟨o2, Hb2, B2, hb2, mk2, lt2⟩ := src_begins I1 hq2 r'
      have fresh5 : ∀ c, c ∈ [s1.heap.objs.size + 4, s1.heap.objs.size + 2, s1.heap.objs.size + 3, s1.heap.objs.size, s1.heap.objs.size + 1] → FpOk X pins H1 c := fun c hcm => by
        have e' : c = s1.heap.objs.size + 4 ∨ c = s1.heap.objs.size + 2 ∨ c = s1.heap.objs.size + 3 ∨ c = s1.heap.objs.size ∨ c = s1.heap.objs.size + 1 := by simpa using hcm
        have hle : s1.heap.objs.size ≤ c := by omega
        exact I1.fpOk hle (I1.hok.fresh hle)
      refine zip_begins2 B1 B2 hb1 hb2 fun h' hz hTI hTO h1 h2 hsz hk => wpAny_pyIter_zip hz ?_
      have I2 : Inv X pins σ H1 { s1 with heap := h' } := I1.kept (t' := s1.toks) hk
      refine ⟨s1.heap.objs.size + 4, [s1.heap.objs.size + 4, s1.heap.objs.size + 2, s1.heap.objs.size + 3, s1.heap.objs.size, s1.heap.objs.size + 1], _, _, H1, rfl, I2, turn_zipU (k1 := k1) (k2 := k2) r r' ?_, ⟨hz, hTI, ⟨_, _, hTO⟩, mk1 _ _ (fun b e => nq (.inl (Nat.lt_of_lt_of_le (lt1 b e) (by omega)))) h1, mk2 _ _ (fun b e => nq (.inl (Nat.lt_of_lt_of_le (lt2 b e) (by omega)))) h2⟩, fresh5, q⟩
      exact ⟨nq (by omega), nq (by omega), nq (by omega), nq (by omega), nq (by omega), nq (by omega), nq (by omega), nq (by omega), nq (by omega), nq (by omega), fun b e => ⟨nq (.inl (Nat.lt_of_lt_of_le (lt1 b e) (by omega))), nq (.inl (Nat.lt_of_lt_of_le (lt1 b e) (by omega))), nq (.inl (Nat.lt_of_lt_of_le (lt1 b e) (by omega))), nq (.inl (Nat.lt_of_lt_of_le (lt1 b e) (by omega))), nq (.inl (Nat.lt_of_lt_of_le (lt1 b e) (by omega)))⟩, fun b e => ⟨nq (.inl (Nat.lt_of_lt_of_le (lt2 b e) (by omega))), nq (.inl (Nat.lt_of_lt_of_le (lt2 b e) (by omega))), nq (.inl (Nat.lt_of_lt_of_le (lt2 b e) (by omega))), nq (.inl (Nat.lt_of_lt_of_le (lt2 b e) (by omega))), nq (.inl (Nat.lt_of_lt_of_le (lt2 b e) (by omega)))⟩⟩
/-! ### their walks -/
section
variable {K : PySem.W.Frag} {k k1 k2 : Sk} {x x1 x2 : V} {xs ys : List V}
theorem walk_enumU : Walk (ItE k K x) xs.length (fun H => SrcAt k K H x xs) (fun i H v H' => ∃ T y, v = .ref T ∧ H T = none ∧ H' = upd H T (.tup [.int (i : Nat), y]) ∧ xs[i]? = some y) :=
  ⟨fun i _ hi q => ⟨xs, xs[i], q, by simp [hi]⟩, fun _ q => ⟨xs, q, rfl⟩, fun _ _ _ _ _ q ⟨T, y, e, n, u, f⟩ => ⟨T, y, e, n, u, f xs q⟩⟩
theorem walk_zipU : Walk (ItZ k1 k2 K x1 x2) (min xs.length ys.length) (fun H => SrcAt k1 K H x1 xs ∧ SrcAt k2 K H x2 ys) (fun i H v H' => ∃ T y z, v = .ref T ∧ H T = none ∧ H' = upd H T (.tup [y, z]) ∧ xs[i]? = some y ∧ ys[i]? = some z) :=
  ⟨fun i _ hi q => ⟨xs, ys, xs[i]'(by omega), ys[i]'(by omega), q.1, q.2, by rw [List.getElem?_eq_getElem], by rw [List.getElem?_eq_getElem]⟩, fun _ q => ⟨xs, ys, q.1, q.2, by omega, by omega, by omega⟩, fun _ _ _ _ _ q ⟨T, y, z, e, n, u, f, f2⟩ => ⟨T, y, z, e, n, u, f xs q.1, f2 ys q.2⟩⟩
end
end L2

/-! ## GT: several except clauses, with a name or without -/
namespace L2
open PySem PySem.Spec PyProof.Rows
/-- what a clause is: its class, the slot of its name, its suite -/
abbrev Cl := Value × Option Nat × (Addr → Value → Option Addr → TS)
/-- the ends of a suite whose name stands in slot i -/
def endsU (o : Option Nat) (D : Ends) : Ends := match o with
  | none => D
  | some i => { nx := fun σ' H' => D.nx (σ'.set i none) H', rt := D.rt, bk := fun σ' H' => D.bk (σ'.set i none) H', ct := fun σ' H' => D.ct (σ'.set i none) H' }
def slotU (o : Option Nat) (σ : St) (a : Addr) : St := match o with
  | none => σ
  | some i => σ.set i (some (.ref a))
def wU (K : PySem.W.Frag) (Wout : WX) (D : Ends) : List Cl → WX
  | [] => Wout
  | (c, o, ts) :: r => fun cls d σ H => ∃ b, PySem.W.exmOne K cls c = some b ∧ (b = true → ∀ a, H a = none → ts a cls d (endsU o D) (slotU o σ a) H) ∧ (b = false → wU K Wout D r cls d σ H)
inductive HdsU (X : Cx) : List ExceptHandler → List Cl → Prop
  | nil : HdsU X [] []
  | cons {x : Str} {c : Value} {ts : Addr → Value → Option Addr → TS} {b₀ : Stmt} {suite : List Stmt} {np pos' : Pos} {hds : List ExceptHandler} {l : List Cl} (hc : Names X x c)
      (hsu : ∀ (a : Addr) (oe : Obj) (cls : Value) (d : Option Addr) (pn : List (Addr × Obj)), Zc cls d oe → (∃ vs, oe.data = .fields vs) → PSs (X.suite a ((a, oe) :: pn)) (b₀ :: suite) (ts a cls d)) (r : HdsU X hds l) :
      HdsU X (.ExceptHandler (some (.Name x np)) none (b₀ :: suite) pos' :: hds) ((c, none, ts) :: l)
  | named {x n : Str} {i : Nat} {c : Value} {ts : Addr → Value → Option Addr → TS} {b₀ : Stmt} {suite : List Stmt} {np pos' : Pos} {hds : List ExceptHandler} {l : List Cl} (hN : X.N.Nodup) (hi : X.N[i]? = some n) (hln : X.env.kindOf n = some .local) (hc : Names X x c)
      (hsu : ∀ (a : Addr) (oe : Obj) (cls : Value) (d : Option Addr) (pn : List (Addr × Obj)), Zc cls d oe → (∃ vs, oe.data = .fields vs) → PSs (X.suite a ((a, oe) :: pn)) (b₀ :: suite) (ts a cls d)) (r : HdsU X hds l) :
      HdsU X (.ExceptHandler (some (.Name x np)) (some n) (b₀ :: suite) pos' :: hds) ((c, some i, ts) :: l)
section
variable {X : Cx} {body : List Stmt} {h₀ : ExceptHandler} {hds : List ExceptHandler} {l : List Cl} {pos : Pos} {tb : WX → TS} {Wout : WX}
theorem ps_tryU (hs : X.stack = X.env :: X.outer) (hf : X.env.frame = some X.env.locals) (tk : Takes X Wout)
    (hb : ∀ (W : WX) (pn : List (Addr × Obj)) (xe : Value → Shared → Prop), Takes (X.tr pn xe) W → PassesOwn (model X.prog X.w) X.A X.env xe → PSs (X.tr pn xe) body (tb W))
    (hh : HdsU X (h₀ :: hds) l) : PS X (.Try body (h₀ :: hds) [] [] pos) (fun D σ H => tb (wU X.K Wout D l) D σ H) := by
  refine ⟨fun pins s σ H D I h => ?_⟩
  have ok := I.ok
  have hfr : X.A.frames = some (X.env :: X.outer) := by rw [ok.frames, hs]
  refine wpAny_Try_except ?_
  refine wpAny_mono ((hb (wU X.K Wout D l) (X.pn ++ pins) (fun e s₁ => wpAny (model X.prog X.w) X.A (noteFrame e X.env) (fun _ s₂ => wpAny (model X.prog X.w) X.A (setFlight e none) (fun _ s₃ =>
    wpAny (model X.prog X.w) X.A (handleBy e X.env (h₀ :: hds)) (SP X pins D) X.xe s₃) X.xe s₂) X.xe s₁) (fun u s' xx => ?_) PassesOwn.looking).run [] s σ H D (I.toTry _) h) (fun f s1 hsp => ?_) (fun e s1 he => he)
  · obtain ⟨a, B, sI, pins', σ', H', cls, d, rfl, J', nb, up, sky, na, os, ag, w⟩ := xx
    have J : Inv X pins σ' H' sI := J'.ofTry ok
    have sky' : Sky B (X.env :: X.outer) a (Zc cls d) X.env.locals s'.heap := by rw [← hs]; exact sky
    show wpAny (model X.prog X.w) X.A (noteFrame (.ref a) X.env) _ _ _
    refine Sky.land Zc.steady hfr hf sky' fun h3 fl3 up3 => ?_
    have J3 : Inv X pins σ' H' { s' with heap := h3 } := J.landed nb fl3.1 (up.trans up3) os ag
    obtain ⟨oe3, vs3, he3, hz3, hd3⟩ := fl3.there
    have notFr : ∀ {h : Heap} {o : Obj} {vs : Array Value}, h.FunFrames B (X.env :: X.outer) → h.get? a = some o → o.data = .fields vs → a ∉ frs (X.env :: X.outer) := fun {h o vs} ff e dd hm => by
      obtain ⟨_, o', e', hnf⟩ := ff.mem hm
      rw [e] at e'; cases e'
      exact hnf _ dd
    have nfr := notFr fl3.2.2.1 he3 hd3
    have nL : a ≠ X.env.locals := fun z => nfr (List.mem_filterMap.mpr ⟨X.env, List.mem_cons_self, by rw [hf, z]⟩)
    have nF : a ∉ X.fs := fun hm => by
      obtain ⟨e, he, q⟩ := List.mem_filterMap.mp hm
      exact nfr (List.mem_filterMap.mpr ⟨e, List.mem_cons_of_mem _ he, q⟩)
    have S3 := J3.suite he3 hd3 na nL nF
    have test : ∀ {x : Str} {c : Value} {np : Pos} {Q : Value → Shared → Prop} {E : Value → Shared → Prop}, Names X x c → Q c { s' with heap := h3 } → wpAny (model X.prog X.w) (X.A.mark (some (.ref a))) (eval (.Name x np) X.env) Q E { s' with heap := h3 } := fun {x c np Q E} hc q => by
      obtain ⟨hg, hdbg, hm | ⟨hm, hv, hnn⟩⟩ := hc
      · exact ld_glob (X := X.suite a ((a, oe3) :: (X.pn ++ pins))) S3 hg hm q hdbg
      · exact ld_blt (X := X.suite a ((a, oe3) :: (X.pn ++ pins))) S3 hg hm hv q hnn hdbg
    have go : ∀ {hds' : List ExceptHandler} {l' : List Cl}, HdsU X hds' l' → wU X.K Wout D l' cls d σ' H' →
        wpAny (model X.prog X.w) X.A (handleBy (.ref a) X.env hds') (SP X pins D) X.xe { s' with heap := h3 } := by
      intro hds' l' hk
      induction hk with
      | nil =>
        intro w
        refine wpAny_handleBy_nil ?_
        obtain ⟨k1, k2, k3, oe, vs, T, oT, ts', he, hz, hd, h1, hr⟩ := id fl3
        unfold PySem.passOn
        refine wpAny_bind (wpAny_field he hd h1 ?_)
        rw [if_neg (show ¬ ((Value.ref T == Value.none) = true) from by simp)]
        have fin : wpAny (model X.prog X.w) X.A (setFlight (.ref a) X.env.frame) (fun _ s4 => wpAny (model X.prog X.w) X.A (throw (.ref a) : Sem Flow) (SP X pins D) X.xe s4) X.xe { s' with heap := h3 } := by
          rw [hf]
          refine HandSPX.setFlight_upZ fl3 fun h4 hh4 up4 => wpAny_throw (tk _ _ ?_)
          exact ⟨a, B, sI, pins, σ', H', cls, d, rfl, J, nb, (up.trans up3).trans up4, .inr (.inr (by rw [hs]; exact hh4)), na, os, ag, w⟩
        first
          | exact wpAny_bind (wpAny_pure (wpAny_bind fin))
          | exact wpAny_bind fin
      | @cons x c ts b₀ suite np pos' hds2 l2 hc hsu r ih =>
        intro w
        obtain ⟨b, hb1, hyes, hno⟩ := w
        refine wpAny_handleBy_cons (codeAny_handlers_test ?_) (by intro q; cases q)
        have LT : PySem.W.Looks (model X.prog X.w) h3 (typeOf (.ref a)) cls := fun A Q E s k q => wpAny_typeOf_ref (k _ _ he3) (by rw [hz3.1]; exact q)
        have LM := PySem.W.exm_one (M := model X.prog X.w) (J3.kIn) LT hb1
        refine test hc (LM.here ?_)
        cases b with
        | true =>
          refine codeAny_handlers_suite ?_
          refine HandSPX.lands_againZ fl3 fun h4 fl4 up4 => ?_
          have J4 : Inv X pins σ' H' { s' with heap := h4 } := J.landed nb fl4.1 ((up.trans up3).trans up4) os ag
          obtain ⟨oe4, vs4, he4, hz4, hd4⟩ := fl4.there
          have S4 := J4.suite he4 hd4 na nL nF
          refine wpAny_mono ((hsu a oe4 cls d (X.pn ++ pins) hz4 ⟨_, hd4⟩).run [] _ _ H' _ S4 (hyes rfl a na)) (fun f s6 hsp => ?_) (fun _ _ z => False.elim z)
          cases f with
          | next =>
            obtain ⟨σ6, H6, S6, q6⟩ := hsp
            exact ⟨_, _, S6.unsuite ok, q6⟩
          | brk =>
            obtain ⟨σ6, H6, S6, q6⟩ := hsp
            exact ⟨_, _, S6.unsuite ok, q6⟩
          | cont =>
            obtain ⟨σ6, H6, S6, q6⟩ := hsp
            exact ⟨_, _, S6.unsuite ok, q6⟩
          | ret u =>
            obtain ⟨v6, σ6, H6, S6, r6, q6⟩ := hsp
            exact ⟨_, _, _, S6.unsuite ok, r6, q6⟩
        | false =>
          show wpAny _ X.A (handleBy (.ref a) X.env hds2) _ _ _
          exact ih (hno rfl)
      | @named x n i c ts b₀ suite np pos' hds2 l2 hN hi hln hc hsu r ih =>
        intro w
        obtain ⟨b, hb1, hyes, hno⟩ := w
        refine wpAny_handleBy_cons (codeAny_handlers_test ?_) (by intro q; cases q)
        have LT : PySem.W.Looks (model X.prog X.w) h3 (typeOf (.ref a)) cls := fun A Q E s k q => wpAny_typeOf_ref (k _ _ he3) (by rw [hz3.1]; exact q)
        have LM := PySem.W.exm_one (M := model X.prog X.w) (J3.kIn) LT hb1
        refine test hc (LM.here ?_)
        cases b with
        | true =>
          refine codeAny_handlers_suite_as ?_
          refine HandSPX.lands_againZ fl3 fun h4 fl4 up4 => ?_
          have J4 : Inv X pins σ' H' { s' with heap := h4 } := J.landed nb fl4.1 ((up.trans up3).trans up4) os ag
          obtain ⟨oe4, vs4, he4, hz4, hd4⟩ := fl4.there
          have S4 := J4.suite he4 hd4 na nL nF
          refine store_ok (X := X.suite a ((a, oe4) :: (X.pn ++ pins))) (v := .ref a) S4 hN hi (.inl hln) rfl (fun s5 S5 => ?_) (.inr hln)
          refine wpAny_mono ((hsu a oe4 cls d (X.pn ++ pins) hz4 ⟨_, hd4⟩).run [] s5 _ H' _ S5 (hyes rfl a na)) (fun f s6 hsp => ?_) (fun _ _ z => False.elim z)
          have end_ : ∀ {σ6 : St} {H6 : Hp} {Q : Shared → Prop}, Inv (X.suite a ((a, oe4) :: (X.pn ++ pins))) [] σ6 H6 s6 → (∀ s7, Inv X pins (σ6.set i none) H6 s7 → Q s7) →
              wpAny (model X.prog X.w) X.A (do bindName X.env n .none; unbindBehindTheSuite X.env n pos') (fun _ s7 => Q s7) X.xe s6 := fun {σ6 H6 Q} S6 hq => gone_ok (S6.unsuite ok) hN hi hln hq
          cases f with
          | next =>
            obtain ⟨σ6, H6, S6, q6⟩ := hsp
            exact end_ S6 fun s7 J7 => ⟨_, _, J7, q6⟩
          | brk =>
            obtain ⟨σ6, H6, S6, q6⟩ := hsp
            exact end_ S6 fun s7 J7 => ⟨_, _, J7, q6⟩
          | cont =>
            obtain ⟨σ6, H6, S6, q6⟩ := hsp
            exact end_ S6 fun s7 J7 => ⟨_, _, J7, q6⟩
          | ret u =>
            obtain ⟨v6, σ6, H6, S6, r6, q6⟩ := hsp
            exact end_ S6 fun s7 J7 => ⟨_, _, _, J7, r6, q6⟩
        | false =>
          show wpAny _ X.A (handleBy (.ref a) X.env hds2) _ _ _
          exact ih (hno rfl)
    exact go hh w
  · cases f with
    | next =>
      obtain ⟨σ', H', J', q⟩ := hsp
      exact wpAny_execs_nil ⟨σ', H', J'.ofTry ok, q⟩
    | brk =>
      obtain ⟨σ', H', J', q⟩ := hsp
      exact ⟨σ', H', J'.ofTry ok, q⟩
    | cont =>
      obtain ⟨σ', H', J', q⟩ := hsp
      exact ⟨σ', H', J'.ofTry ok, q⟩
    | ret u =>
      obtain ⟨v, σ', H', J', r, q⟩ := hsp
      exact ⟨v, σ', H', J'.ofTry ok, r, q⟩
end
/-- isinstance(e, c) in the suite that holds e -/
def rIsEU (K : PySem.W.Frag) (cls : Value) (d : Option Addr) (a : Addr) : List V → Hp → VK → Prop := fun xs H Q => ∃ D, cls = .ref D ∧ d = none ∧ ExcC K D ∧ rIsE K D a xs H Q
theorem call_isEU {K : PySem.W.Frag} {X : Cx} {a : Addr} {cls : Value} {d : Option Addr} {oe : Obj} {pn : List (Addr × Obj)} (hz : Zc cls d oe) (hf : ∃ vs, oe.data = .fields vs) (hK : X.K = K := by rfl) : CallR (X.suite a ((a, oe) :: pn)) (.builtin "isinstance") (rIsEU K cls d a) := by
  subst hK
  intro pins s σ H xs us Q I r h
  obtain ⟨D, rfl, rfl, C, h⟩ := h
  exact call_isE C hz hf pins s σ H xs us Q I r h
end L2

/-! ## G2: data, heaps that grow, steps -/
namespace L2
open PySem PySem.Spec PyProof.Rows

/-! ### heaps -/
def kindO : HO → Nat
  | .lst _ => 0
  | .tup _ => 1
  | .dK _ => 2
  | .dT _ => 3
  | .set _ _ => 4
  | .ins _ _ _ => 5
  | .own _ => 6
  | .xd _ => 7
  | .met _ _ => 8
  | .rng _ _ => 9
  | .frz _ _ => 10
  | .tbl _ => 11
  | .ext _ => 12
/-- H has become H'; at most the objects of S have changed, each of its kind -/
structure Ev (S : List Addr) (H H' : Hp) : Prop where
  keep : ∀ b o, H b = some o → b ∉ S → H' b = some o
  tups : ∀ b xs, H b = some (.tup xs) → H' b = some (.tup xs)
  frzs : ∀ b o u, H b = some (.frz o u) → H' b = some (.frz o u)
  kind : ∀ b o, H b = some o → ∃ o', H' b = some o' ∧ kindO o' = kindO o
section
variable {S S' : List Addr} {H H1 H2 : Hp} {p b : Addr} {o o' : HO}
theorem Ev.refl : Ev S H H := ⟨fun _ _ h _ => h, fun _ _ h => h, fun _ _ _ h => h, fun _ o h => ⟨o, h, rfl⟩⟩
theorem Ev.trans (a : Ev S H H1) (b : Ev S H1 H2) : Ev S H H2 :=
  ⟨fun c o h n => b.keep c o (a.keep c o h n) n, fun c xs h => b.tups c xs (a.tups c xs h), fun c o u h => b.frzs c o u (a.frzs c o u h), fun c o h => by
    obtain ⟨o1, h1, e1⟩ := a.kind c o h
    obtain ⟨o2, h2, e2⟩ := b.kind c o1 h1
    exact ⟨o2, h2, e2.trans e1⟩⟩
theorem Ev.mono (a : Ev S H H1) (h : ∀ x ∈ S, x ∈ S') : Ev S' H H1 := ⟨fun c o e n => a.keep c o e fun m => n (h c m), a.tups, a.frzs, a.kind⟩
theorem Ev.nil (a : Ev [] H H1) : Ev S H H1 := a.mono fun _ h => nomatch h
theorem Ev.new (h : H p = none) : Ev S H (upd H p o) :=
  ⟨fun c o e _ => by rw [upd_ne (ne_of_none e h)]; exact e, fun c xs e => by rw [upd_ne (ne_of_none e h)]; exact e, fun c _ _ e => by rw [upd_ne (ne_of_none e h)]; exact e, fun c o e => ⟨o, by rw [upd_ne (ne_of_none e h)]; exact e, rfl⟩⟩
theorem Ev.put (h : H p = some o) (k : kindO o' = kindO o) (n1 : kindO o ≠ 1) (n2 : kindO o ≠ 10) : Ev [p] H (upd H p o') where
  keep := fun c u e n => by rw [upd_ne (by simpa using n)]; exact e
  tups := fun c xs e => by
    have : c ≠ p := by
      rintro rfl
      rw [h] at e; cases e; exact n1 rfl
    rw [upd_ne this]; exact e
  frzs := fun c w u e => by
    have : c ≠ p := by
      rintro rfl
      rw [h] at e; cases e; exact n2 rfl
    rw [upd_ne this]; exact e
  kind := fun c u e => by
    by_cases q : c = p
    · subst q
      rw [h] at e; cases e
      exact ⟨_, upd_same, k⟩
    · exact ⟨u, by rw [upd_ne q]; exact e, rfl⟩
/-- what was not there at the beginning may change -/
theorem Ev.fresh (a : Ev S H H1) (n : H p = none) (b : Ev (p :: S) H1 H2) : Ev S H H2 :=
  ⟨fun c o e m => b.keep c o (a.keep c o e m) (by
    intro q
    rcases List.mem_cons.mp q with q | q
    · subst q; rw [n] at e; cases e
    · exact m q), fun c xs e => b.tups c xs (a.tups c xs e), fun c o u e => b.frzs c o u (a.frzs c o u e), fun c o h => by
    obtain ⟨o1, h1, e1⟩ := a.kind c o h
    obtain ⟨o2, h2, e2⟩ := b.kind c o1 h1
    exact ⟨o2, h2, e2.trans e1⟩⟩
theorem Ev.none (a : Ev S H H1) (h : H1 b = none) : H b = none := by
  cases q : H b with
  | none => rfl
  | some o =>
    obtain ⟨_, e, _⟩ := a.kind b o q
    rw [h] at e; cases e
theorem Ev.sqT {K : PySem.W.Frag} {a : Addr} {xs : List V} (e : Ev S H H1) (h : SqT K H a xs) : SqT K H1 a xs := by
  rcases h with (h | ⟨o, h⟩) | h
  · exact .inl (.inl (e.tups _ _ h))
  · exact .inl (.inr ⟨o, e.frzs _ _ _ h⟩)
  · exact .inr h
theorem Ev.sqL {K : PySem.W.Frag} {a : Addr} {xs : List V} (e : Ev S H H1) (h : SqL K H a xs) (n : a ∉ S) : SqL K H1 a xs := by
  rcases h with (h | ⟨o, h⟩) | h
  · exact .inl (.inl (e.keep _ _ h n))
  · exact .inl (.inr ⟨o, e.frzs _ _ _ h⟩)
  · exact .inr h
/-- a locked list -/
theorem Ev.sqLf {K : PySem.W.Frag} {a : Addr} {o : Obj} {xs : List V} (e : Ev S H H1) (h : H a = some (.frz o (.lst xs))) : SqL K H1 a xs := .inl (.inr ⟨o, e.frzs _ _ _ h⟩)
end

/-! ### data without lists and dicts; these are leaves -/
inductive Da where
  | non | bl (b : Bool) | int (i : Int) | str (s : Str) | tup (l : List Da) | lst | dct
def IsDct (H : Hp) (a : Addr) : Prop := ∃ o, H a = some o ∧ (kindO o = 2 ∨ kindO o = 3)
mutual
inductive Th (K : PySem.W.Frag) (H : Hp) : V → Da → Prop
  | non : Th K H .non .non
  | bl (b : Bool) : Th K H (.bl b) (.bl b)
  | int (i : Int) : Th K H (.int i) (.int i)
  | str (x : Str) : Th K H (.str x) (.str x)
  | tup {a : Addr} {xs : List V} {ds : List Da} : SqT K H a xs → ThAll K H xs ds → Th K H (.ref a) (.tup ds)
  | lst {a : Addr} {o : HO} : H a = some o → kindO o = 0 → Th K H (.ref a) .lst
  | dct {a : Addr} {o : HO} : H a = some o → (kindO o = 2 ∨ kindO o = 3) → Th K H (.ref a) .dct
inductive ThAll (K : PySem.W.Frag) (H : Hp) : List V → List Da → Prop
  | nil : ThAll K H [] []
  | cons {v : V} {vs : List V} {d : Da} {ds : List Da} : Th K H v d → ThAll K H vs ds → ThAll K H (v :: vs) (d :: ds)
end
section
variable {K : PySem.W.Frag} {S : List Addr} {H H1 : Hp} {v : V} {vs : List V} {d : Da} {ds : List Da}
mutual
theorem Th.ev (e : Ev S H H1) : ∀ (d : Da) (v : V), Th K H v d → Th K H1 v d
  | .non, _, h => by cases h; exact .non
  | .bl b, _, h => by cases h; exact .bl b
  | .int i, _, h => by cases h; exact .int i
  | .str x, _, h => by cases h; exact .str x
  | .tup ds, _, h => by
    cases h with
    | tup q r => exact .tup (e.sqT q) (ThAll.ev e ds _ r)
  | .lst, _, h => by
    cases h with
    | lst q r =>
      obtain ⟨o', q', k⟩ := e.kind _ _ q
      exact .lst q' (k.trans r)
  | .dct, _, h => by
    cases h with
    | dct q r =>
      obtain ⟨o', q', k⟩ := e.kind _ _ q
      exact .dct q' (by rw [k]; exact r)
theorem ThAll.ev (e : Ev S H H1) : ∀ (ds : List Da) (vs : List V), ThAll K H vs ds → ThAll K H1 vs ds
  | [], _, h => by cases h; exact .nil
  | d :: ds, _, h => by
    cases h with
    | cons p q => exact .cons (Th.ev e d _ p) (ThAll.ev e ds _ q)
end
theorem Ev.th (e : Ev S H H1) (h : Th K H v d) : Th K H1 v d := Th.ev e d v h
theorem Ev.thAll (e : Ev S H H1) (h : ThAll K H vs ds) : ThAll K H1 vs ds := ThAll.ev e ds vs h
theorem ThAll.length : ∀ {vs : List V} {ds : List Da}, ThAll K H vs ds → vs.length = ds.length
  | _, _, .nil => rfl
  | _, _, .cons _ q => congrArg (· + 1) q.length
theorem ThAll.get : ∀ {vs : List V} {ds : List Da} {i : Nat} {d : Da}, ThAll K H vs ds → ds[i]? = some d → ∃ v, vs[i]? = some v ∧ Th K H v d
  | _, _, i, d, .nil, e => by simp at e
  | _, _, 0, d, .cons p q, e => by simp at e; subst e; exact ⟨_, rfl, p⟩
  | _, _, i + 1, d, .cons p q, e => by
    obtain ⟨v, h1, h2⟩ := ThAll.get (i := i) q (by simpa using e)
    exact ⟨v, by simpa using h1, h2⟩
theorem ThAll.getV : ∀ {vs : List V} {ds : List Da} {i : Nat} {v : V}, ThAll K H vs ds → vs[i]? = some v → ∃ d, ds[i]? = some d ∧ Th K H v d
  | _, _, i, d, .nil, e => by simp at e
  | _, _, 0, d, .cons p q, e => by simp at e; subst e; exact ⟨_, rfl, p⟩
  | _, _, i + 1, d, .cons p q, e => by
    obtain ⟨v, h1, h2⟩ := ThAll.getV (i := i) q (by simpa using e)
    exact ⟨v, by simpa using h1, h2⟩
theorem ThAll.app : ∀ {vs ws : List V} {ds es : List Da}, ThAll K H vs ds → ThAll K H ws es → ThAll K H (vs ++ ws) (ds ++ es)
  | _, _, _, _, .nil, q => q
  | _, _, _, _, .cons p r, q => .cons p (r.app q)
theorem ThAll.ints : ∀ l : List Int, ThAll K H (l.map V.int) (l.map Da.int)
  | [] => .nil
  | i :: l => .cons (.int i) (ThAll.ints l)
theorem ThAll.strs : ∀ l : List Str, ThAll K H (l.map V.str) (l.map Da.str)
  | [] => .nil
  | i :: l => .cons (.str i) (ThAll.strs l)
/-- the type of a thing -/
def tyD : Da → String
  | .non => "NoneType"
  | .bl _ => "bool"
  | .int _ => "int"
  | .str _ => "str"
  | .tup _ => "tuple"
  | .lst => "list"
  | .dct => "dict"
theorem SqT.ty {a : Addr} {xs : List V} (h : SqT K H a xs) : TyX K H (.ref a) (.type "tuple") := by
  rcases h with (h | ⟨o, h⟩) | ⟨o, its, n, h, c, _⟩
  · exact .base (.tup h)
  · exact .fTuple h
  · exact .kTuple h c
theorem Th.ty (h : Th K H v d) : TyX K H v (.type (tyD d)) := by
  cases h with
  | non => exact .base .non
  | bl b => exact .base (.bl b)
  | int i => exact .base (.int i)
  | str x => exact .base (.str x)
  | tup q r => exact q.ty
  | @lst a o q r =>
    cases o <;> simp [kindO] at r
    exact .base (.lst q)
  | @dct a o q r =>
    cases o <;> simp [kindO] at r
    · exact .base (.dK q)
    · exact .base (.dT q)
end

/-! ### steps -/
section
variable {K : PySem.W.Frag} {σ : St} {H : Hp} {Q : VK} {ta tb tc te : TE} {t : TA} {r r' : R2} {n : St → Hp → Prop} {rt : VK} {bk ct : St → Hp → Prop} {i j : Int} {x y v : V} {s z : Str} {b : Bool} {D : Ends} {t1 t2 : TS} {c c2 : TT} {QB : Bool → Hp → Prop} {QA : List V → Hp → Prop} {g : TG}
theorem y_var {i : Nat} (h : σ[i]? = some (some v)) (q : Q v H) : tVar i σ H Q := ⟨v, h, q⟩
theorem y_c (q : Q v H) : tC v σ H Q := q
theorem y_op (q : ta σ H fun x H1 => tb σ H1 fun y H2 => r x y H2 Q) : tOp r ta tb σ H Q := q
theorem y_un {ru : V → Hp → VK → Prop} (q : ta σ H fun x H1 => ru x H1 Q) : tUn ru ta σ H Q := q
theorem y_neg (q : Q (.int (-i)) H) : rU (fun i => .int (-i)) (.int i) H Q := ⟨i, rfl, q⟩
theorem y_nil (q : QA [] H) : tNil σ H QA := q
theorem y_cons (q : ta σ H fun x H1 => t σ H1 fun xs H2 => QA (x :: xs) H2) : tCons ta t σ H QA := q
theorem y_cb {rr : List V → Hp → VK → Prop} (q : t σ H fun vs H1 => rr vs H1 Q) : tCB rr t σ H Q := q
theorem y_seq (q : t1 ⟨fun σ H => t2 ⟨n, rt, bk, ct⟩ σ H, rt, bk, ct⟩ σ H) : tSeq t1 t2 ⟨n, rt, bk, ct⟩ σ H := q
theorem y_seqM (mid : St → Hp → Prop) (h2 : ∀ σ H, mid σ H → t2 ⟨n, rt, bk, ct⟩ σ H) (h1 : ∀ N : St → Hp → Prop, (∀ σ H, mid σ H → N σ H) → t1 ⟨N, rt, bk, ct⟩ σ H) : tSeq t1 t2 ⟨n, rt, bk, ct⟩ σ H := h1 _ h2
theorem y_next (q : n σ H) : tNext ⟨n, rt, bk, ct⟩ σ H := q
theorem y_set {i : Nat} (q : te σ H fun x H1 => n (σ.set i (some x)) H1) : tAsg te (gName i) ⟨n, rt, bk, ct⟩ σ H := q
theorem y_asg (q : te σ H fun x H1 => g x σ H1 n) : tAsg te g ⟨n, rt, bk, ct⟩ σ H := q
theorem y_gname {i : Nat} {QG : St → Hp → Prop} (q : QG (σ.set i (some x)) H) : gName i x σ H QG := q
theorem y_gsub {to ti : TE} {ts : TSet} {QG : St → Hp → Prop} (q : to σ H fun o H1 => ti σ H1 fun i H2 => ts o i v H2 fun H3 => QG σ H3) : gSub to ti ts v σ H QG := q
theorem y_gtup {m : Nat} {tg : TGs} {QG : St → Hp → Prop} {a : Addr} {xs : List V} (h : SqT K H a xs) (l : xs.length = m) (q : tg xs σ H QG) : gTup K m tg (.ref a) σ H QG := ⟨a, xs, rfl, h, l, q⟩
theorem y_gcons {tg : TG} {u : TGs} {QG : St → Hp → Prop} {vs : List V} (q : tg v σ H fun σ' H' => u vs σ' H' QG) : gCons tg u (v :: vs) σ H QG := ⟨v, vs, rfl, q⟩
theorem y_gnil {QG : St → Hp → Prop} (q : QG σ H) : gNil [] σ H QG := ⟨rfl, q⟩
theorem y_drop (q : te σ H fun _ H1 => n σ H1) : tDrop te ⟨n, rt, bk, ct⟩ σ H := q
theorem y_ret (q : te σ H rt) : tRet te ⟨n, rt, bk, ct⟩ σ H := q
theorem y_retN (q : rt .non H) : tRetN ⟨n, rt, bk, ct⟩ σ H := q
theorem y_brk (q : bk σ H) : tBreak ⟨n, rt, bk, ct⟩ σ H := q
theorem y_cont (q : ct σ H) : tCont ⟨n, rt, bk, ct⟩ σ H := q
theorem y_if (q : c σ H fun b H1 => if b = true then t1 D σ H1 else t2 D σ H1) : tIfS c t1 t2 D σ H := q
theorem y_ifE (q : c σ H fun b H1 => if b = true then ta σ H1 Q else tb σ H1 Q) : tIf c ta tb σ H Q := q
theorem y_test (q : ta σ H fun x H1 => ∃ k, x = .bl k ∧ QB k H1) : tTest ta σ H QB := q
theorem y_tB (q : ta σ H fun x H1 => ∃ k, x = .bl k ∧ QB k H1) : tB ta σ H QB := q
theorem y_isbl (q : QB b H) : ∃ k, V.bl b = .bl k ∧ QB k H := ⟨b, rfl, q⟩
theorem y_not (q : c σ H fun k H1 => QB (!k) H1) : tNot c σ H QB := q
theorem y_notV (q : ta σ H fun x H1 => ∃ k, x = .bl k ∧ Q (.bl (!k)) H1) : tNotV ta σ H Q := q
theorem y_and (q : c σ H fun k H1 => if k = true then c2 σ H1 QB else QB false H1) : tAnd c c2 σ H QB := q
theorem y_or (q : c σ H fun k H1 => if k = true then QB true H1 else c2 σ H1 QB) : tOr c c2 σ H QB := q
theorem y_andV (q : ta σ H fun x H1 => ∃ k, x = .bl k ∧ if k = true then tb σ H1 Q else Q (.bl false) H1) : tAndV ta tb σ H Q := q
theorem y_orV (q : ta σ H fun x H1 => ∃ k, x = .bl k ∧ if k = true then Q (.bl true) H1 else tb σ H1 Q) : tOrV ta tb σ H Q := q
theorem y_isblP {P : Bool → Prop} (q : P b) : ∃ k, V.bl b = .bl k ∧ P k := ⟨b, rfl, q⟩
theorem y_chain (q : ta σ H fun x H1 => tb σ H1 fun y H2 => r x y H2 fun z H3 => ∃ k, z = .bl k ∧ if k = true then tc σ H3 fun u H4 => r' y u H4 Q else Q (.bl false) H3) : tChain r r' ta tb tc σ H Q := q
theorem y_iteT {A B : Prop} (h : b = true) (q : A) : if b = true then A else B := by rw [if_pos h]; exact q
theorem y_iteF {A B : Prop} (h : b = false) (q : B) : if b = true then A else B := by rw [if_neg (by rw [h]; decide)]; exact q
theorem y_ite {A B : Prop} (p : b = true → A) (q : b = false → B) : if b = true then A else B := by
  cases b with
  | true => rw [if_pos rfl]; exact p rfl
  | false => rw [if_neg (by decide)]; exact q rfl
/-! operators by their values -/
theorem y_addI (q : Q (.int (i + j)) H) : rAddU K (.int i) (.int j) H Q := .inl ⟨i, j, rfl, rfl, q⟩
theorem y_addS (h : s.length + z.length ≤ sizeLine) (q : Q (.str (s ++ z)) H) : rAddU K (.str s) (.str z) H Q := .inr (.inl ⟨s, z, rfl, rfl, h, q⟩)
theorem y_subI (q : Q (.int (i - j)) H) : rI0 (fun i j => .int (i - j)) (.int i) (.int j) H Q := ⟨i, j, rfl, rfl, q⟩
theorem y_mulI (h : CMul i j) (q : Q (.int (i * j)) H) : rMulU (.int i) (.int j) H Q := .inl ⟨i, j, rfl, rfl, h, q⟩
theorem y_modI (h : 0 < j) (q : Q (.int (i % j)) H) : rModU (.int i) (.int j) H Q := .inl ⟨i, j, rfl, rfl, h, q⟩
theorem y_fdivI (h : CDiv i j) (q : Q (.int (i / j)) H) : rFdivU (.int i) (.int j) H Q := .inl ⟨i, j, rfl, rfl, h, q⟩
theorem y_powI (h : CPow i j) (q : Q (.int (i ^ j.toNat)) H) : rI CPow (fun i j => .int (i ^ j.toNat)) (.int i) (.int j) H Q := ⟨i, j, rfl, rfl, h, q⟩
theorem y_ltI (q : Q (.bl (decide (i < j))) H) : rLtU (.int i) (.int j) H Q := .inl ⟨i, j, rfl, rfl, q⟩
theorem y_leI (q : Q (.bl (decide (i ≤ j))) H) : rLeU (.int i) (.int j) H Q := .inl ⟨i, j, rfl, rfl, q⟩
theorem y_gtI (q : Q (.bl (decide (j < i))) H) : rGtU (.int i) (.int j) H Q := .inl ⟨i, j, rfl, rfl, q⟩
theorem y_geI (q : Q (.bl (decide (j ≤ i))) H) : rGeU (.int i) (.int j) H Q := .inl ⟨i, j, rfl, rfl, q⟩
theorem y_ltS (q : Q (.bl (decide (s.cps.toList < z.cps.toList))) H) : rLtU (.str s) (.str z) H Q := .inr ⟨s, z, rfl, rfl, q⟩
theorem y_geS (q : Q (.bl (!decide (s.cps.toList < z.cps.toList))) H) : rGeU (.str s) (.str z) H Q := .inr ⟨s, z, rfl, rfl, q⟩
theorem y_eqI (q : Q (.bl (decide (i = j))) H) : rEqU K (.int i) (.int j) H Q := .inl ⟨rfl, by
  have e : decide (V.int i = V.int j) = decide (i = j) := by simp
  rw [e]; exact q⟩
theorem y_neI (q : Q (.bl (!decide (i = j))) H) : rNeU K (.int i) (.int j) H Q := .inl ⟨rfl, by
  have e : decide (V.int i = V.int j) = decide (i = j) := by simp
  rw [e]; exact q⟩
theorem y_eqS (q : Q (.bl (decide (s = z))) H) : rEqU K (.str s) (.str z) H Q := .inl ⟨rfl, by
  have e : decide (V.str s = V.str z) = decide (s = z) := by simp
  rw [e]; exact q⟩
theorem y_neS (q : Q (.bl (!decide (s = z))) H) : rNeU K (.str s) (.str z) H Q := .inl ⟨rfl, by
  have e : decide (V.str s = V.str z) = decide (s = z) := by simp
  rw [e]; exact q⟩
theorem y_inS {c : Nat} (q : Q (.bl (decide (c ∈ z.cps.toList))) H) : rInU K false (.str ⟨#[c]⟩) (.str z) H Q := .inl ⟨c, z, rfl, rfl, q⟩
theorem y_notInS {c : Nat} (q : Q (.bl (!decide (c ∈ z.cps.toList))) H) : rInU K true (.str ⟨#[c]⟩) (.str z) H Q := .inl ⟨c, z, rfl, rfl, q⟩
/-! built-ins -/
theorem y_lenS (h : s.length ≤ sizeLine) (q : Q (.int s.length) H) : rLenU K [.str s] H Q := .inl ⟨_, _, rfl, ⟨h, rfl⟩, q⟩
theorem y_lenL {a : Addr} {xs : List V} (h : SqL K H a xs) (q : Q (.int xs.length) H) : rLenU K [.ref a] H Q := .inl ⟨_, _, rfl, .inl ⟨xs, h, rfl⟩, q⟩
theorem y_lenT {a : Addr} {xs : List V} (h : SqT K H a xs) (q : Q (.int xs.length) H) : rLenU K [.ref a] H Q := .inl ⟨_, _, rfl, .inr ⟨xs, h, rfl⟩, q⟩
theorem y_intI (q : Q (.int i) H) : rIntU [.int i] H Q := .inl ⟨i, rfl, q⟩
theorem y_abs (q : Q (.int (if i < 0 then -i else i)) H) : rAbsU [.int i] H Q := ⟨i, rfl, q⟩
theorem y_isi {d : Da} {T : String} {k : Bool} (h : Th K H v d) (e : kitB (tyD d) T = some k) (q : Q (.bl k) H) : rIsiU K [v, .ty T] H Q := .inl ⟨v, .ty T, _, _, k, rfl, .ty T, h.ty, kit_ty e, q⟩
/-! subscripts -/
theorem y_ixL {a : Addr} {xs : List V} (h : SqL K H a xs) (e : atI xs i = some v) (q : Q v H) : rIxU K (.ref a) (.int i) H Q := .inl (.inl ⟨a, xs, i, v, rfl, rfl, h, e, q⟩)
theorem y_ixT {a : Addr} {xs : List V} (h : SqT K H a xs) (e : atI xs i = some v) (q : Q v H) : rIxU K (.ref a) (.int i) H Q := .inl (.inr (.inl ⟨a, xs, i, v, rfl, rfl, h, e, q⟩))
theorem y_ixS {c : Nat} (h : s.length ≤ sizeLine) (e : atI s.cps.toList i = some c) (q : Q (.str ⟨#[c]⟩) H) : rIxU K (.str s) (.int i) H Q := .inl (.inr (.inr ⟨s, i, c, rfl, rfl, h, e, q⟩))
theorem y_setL {a : Addr} {xs : List V} {k : Nat} {QG : Hp → Prop} (h : H a = some (.lst xs)) (e : ixN xs.length i = some k) (q : QG (upd H a (.lst (xs.set k v)))) : rSetU (.ref a) (.int i) v H QG := .inl ⟨a, xs, i, k, rfl, rfl, h, e, q⟩
/-! made things: the heap behind is told by what is known of it -/
theorem y_tup {xs : List V} (l : xs.length ≤ sizeLine) (q : ∀ p H', H p = none → H' p = some (.tup xs) → Ev [] H H' → Q (.ref p) H') : xs.length ≤ sizeLine ∧ ∀ p, H p = none → Q (.ref p) (upd H p (.tup xs)) := ⟨l, fun p h => q p _ h upd_same (Ev.new h)⟩
theorem y_new {o : HO} {P : V → Hp → Prop} (q : ∀ p H', H p = none → H' p = some o → Ev [] H H' → P (.ref p) H') : ∀ p, H p = none → P (.ref p) (upd H p o) := fun p h => q p _ h upd_same (Ev.new h)
end
end L2

/-! ## G3: loops and comprehensions, what a value is -/
namespace L2
open PySem PySem.Spec PyProof.Rows
def dInt : Da → Bool
  | .int _ => true
  | .bl _ => true
  | _ => false
def dBl : Da → Bool
  | .bl _ => true
  | _ => false
def dStr : Da → Bool
  | .str _ => true
  | _ => false
def dTup : Da → Bool
  | .tup _ => true
  | _ => false
def dLst : Da → Bool
  | .lst => true
  | _ => false
def dDct : Da → Bool
  | .dct => true
  | _ => false
theorem kit_int : ∀ d : Da, kitB (tyD d) "int" = some (dInt d)
  | .non => (by decide +kernel : kitB "NoneType" "int" = some false)
  | .bl b => (by decide +kernel : kitB "bool" "int" = some true)
  | .int i => (by decide +kernel : kitB "int" "int" = some true)
  | .str x => (by decide +kernel : kitB "str" "int" = some false)
  | .tup l => (by decide +kernel : kitB "tuple" "int" = some false)
  | .lst => (by decide +kernel : kitB "list" "int" = some false)
  | .dct => (by decide +kernel : kitB "dict" "int" = some false)
theorem kit_bl : ∀ d : Da, kitB (tyD d) "bool" = some (dBl d)
  | .non => (by decide +kernel : kitB "NoneType" "bool" = some false)
  | .bl b => (by decide +kernel : kitB "bool" "bool" = some true)
  | .int i => (by decide +kernel : kitB "int" "bool" = some false)
  | .str x => (by decide +kernel : kitB "str" "bool" = some false)
  | .tup l => (by decide +kernel : kitB "tuple" "bool" = some false)
  | .lst => (by decide +kernel : kitB "list" "bool" = some false)
  | .dct => (by decide +kernel : kitB "dict" "bool" = some false)
theorem kit_str : ∀ d : Da, kitB (tyD d) "str" = some (dStr d)
  | .non => (by decide +kernel : kitB "NoneType" "str" = some false)
  | .bl b => (by decide +kernel : kitB "bool" "str" = some false)
  | .int i => (by decide +kernel : kitB "int" "str" = some false)
  | .str x => (by decide +kernel : kitB "str" "str" = some true)
  | .tup l => (by decide +kernel : kitB "tuple" "str" = some false)
  | .lst => (by decide +kernel : kitB "list" "str" = some false)
  | .dct => (by decide +kernel : kitB "dict" "str" = some false)
theorem kit_tup : ∀ d : Da, kitB (tyD d) "tuple" = some (dTup d)
  | .non => (by decide +kernel : kitB "NoneType" "tuple" = some false)
  | .bl b => (by decide +kernel : kitB "bool" "tuple" = some false)
  | .int i => (by decide +kernel : kitB "int" "tuple" = some false)
  | .str x => (by decide +kernel : kitB "str" "tuple" = some false)
  | .tup l => (by decide +kernel : kitB "tuple" "tuple" = some true)
  | .lst => (by decide +kernel : kitB "list" "tuple" = some false)
  | .dct => (by decide +kernel : kitB "dict" "tuple" = some false)
theorem kit_lst : ∀ d : Da, kitB (tyD d) "list" = some (dLst d)
  | .non => (by decide +kernel : kitB "NoneType" "list" = some false)
  | .bl b => (by decide +kernel : kitB "bool" "list" = some false)
  | .int i => (by decide +kernel : kitB "int" "list" = some false)
  | .str x => (by decide +kernel : kitB "str" "list" = some false)
  | .tup l => (by decide +kernel : kitB "tuple" "list" = some false)
  | .lst => (by decide +kernel : kitB "list" "list" = some true)
  | .dct => (by decide +kernel : kitB "dict" "list" = some false)
theorem kit_dct : ∀ d : Da, kitB (tyD d) "dict" = some (dDct d)
  | .non => (by decide +kernel : kitB "NoneType" "dict" = some false)
  | .bl b => (by decide +kernel : kitB "bool" "dict" = some false)
  | .int i => (by decide +kernel : kitB "int" "dict" = some false)
  | .str x => (by decide +kernel : kitB "str" "dict" = some false)
  | .tup l => (by decide +kernel : kitB "tuple" "dict" = some false)
  | .lst => (by decide +kernel : kitB "list" "dict" = some false)
  | .dct => (by decide +kernel : kitB "dict" "dict" = some true)
section
variable {K : PySem.W.Frag} {H : Hp} {Q : VK} {v : V} {d : Da}
theorem y_isiI (h : Th K H v d) (q : Q (.bl (dInt d)) H) : rIsiU K [v, .ty "int"] H Q := y_isi h (kit_int d) q
theorem y_isiB (h : Th K H v d) (q : Q (.bl (dBl d)) H) : rIsiU K [v, .ty "bool"] H Q := y_isi h (kit_bl d) q
theorem y_isiS (h : Th K H v d) (q : Q (.bl (dStr d)) H) : rIsiU K [v, .ty "str"] H Q := y_isi h (kit_str d) q
theorem y_isiT (h : Th K H v d) (q : Q (.bl (dTup d)) H) : rIsiU K [v, .ty "tuple"] H Q := y_isi h (kit_tup d) q
theorem y_isiL (h : Th K H v d) (q : Q (.bl (dLst d)) H) : rIsiU K [v, .ty "list"] H Q := y_isi h (kit_lst d) q
theorem y_isiD (h : Th K H v d) (q : Q (.bl (dDct d)) H) : rIsiU K [v, .ty "dict"] H Q := y_isi h (kit_dct d) q
end
section
variable {K : PySem.W.Frag} {σ : St} {H H1 : Hp} {Q : VK} {te t1 t2 : TE} {n : St → Hp → Prop} {rt : VK} {bk ct : St → Hp → Prop} {g : TG} {tb : TS} {a : Addr} {xs : List V}
/-- the loop, its source's value known -/
def ForU (K : PySem.W.Frag) (g : TG) (tb : TS) (D : Ends) (σ : St) (v : V) (H1 : Hp) : Prop := tFor (iU K (tC v)) g tb D σ H1
theorem y_for (q : te σ H fun v H1 => ForU K g tb ⟨n, rt, bk, ct⟩ σ v H1) : tFor (iU K te) g tb ⟨n, rt, bk, ct⟩ σ H := q
def ForR (g : TG) (tb : TS) (D : Ends) (σ : St) (v : V) (H1 : Hp) : Prop := tFor (iRng1 (tCons (tC v) tNil)) g tb D σ H1
theorem y_forr (q : te σ H fun v H1 => ForR g tb ⟨n, rt, bk, ct⟩ σ v H1) : tFor (iRng1 (tCons te tNil)) g tb ⟨n, rt, bk, ct⟩ σ H := q
def ForR2 (g : TG) (tb : TS) (D : Ends) (σ : St) (v u : V) (H1 : Hp) : Prop := tFor (iRng2 (tCons (tC v) (tCons (tC u) tNil))) g tb D σ H1
theorem y_forr2 (q : t1 σ H fun v H1 => t2 σ H1 fun u H2 => ForR2 g tb ⟨n, rt, bk, ct⟩ σ v u H2) : tFor (iRng2 (tCons t1 (tCons t2 tNil))) g tb ⟨n, rt, bk, ct⟩ σ H := q
theorem y_forS {s : Str} (Pv : Nat → St → Hp → Prop) (h0 : Pv 0 σ H)
    (hs : ∀ (i : Nat) (c : Nat) (σ : St) (H : Hp), s.cps[i]? = some c → Pv i σ H → g (.str ⟨#[c]⟩) σ H fun σ2 H2 => tb ⟨Pv (i + 1), rt, n, Pv (i + 1)⟩ σ2 H2) (hd : ∀ σ H, Pv s.cps.size σ H → n σ H) : ForU K g tb ⟨n, rt, bk, ct⟩ σ (.str s) H := by
  refine .inr (.inr ⟨s, rfl, ?_⟩)
  refine for_it walk_str Pv h0 (fun _ _ _ _ _ => trivial) (fun i x σ H H' hi p y => ?_) hd
  obtain ⟨rfl, c, hc, rfl⟩ := y
  exact hs i c σ _ hc p
theorem y_forL (xs : List V) (hx : SqL K H a xs) (Pv : Nat → St → Hp → Prop) (h0 : Pv 0 σ H) (hl : ∀ i σ H, i ≤ xs.length → Pv i σ H → SqL K H a xs)
    (hs : ∀ (i : Nat) (x : V) (σ : St) (H : Hp), xs[i]? = some x → Pv i σ H → g x σ H fun σ2 H2 => tb ⟨Pv (i + 1), rt, n, Pv (i + 1)⟩ σ2 H2) (hd : ∀ σ H, Pv xs.length σ H → n σ H) : ForU K g tb ⟨n, rt, bk, ct⟩ σ (.ref a) H := by
  refine .inl ⟨a, rfl, ⟨xs, hx⟩, ?_⟩
  exact for_list Pv h0 hl hs hd
theorem y_forT (xs : List V) (hx : SqT K H a xs) (Pv : Nat → St → Hp → Prop) (h0 : Pv 0 σ H) (hl : ∀ i σ H, i ≤ xs.length → Pv i σ H → SqT K H a xs)
    (hs : ∀ (i : Nat) (x : V) (σ : St) (H : Hp), xs[i]? = some x → Pv i σ H → g x σ H fun σ2 H2 => tb ⟨Pv (i + 1), rt, n, Pv (i + 1)⟩ σ2 H2) (hd : ∀ σ H, Pv xs.length σ H → n σ H) : ForU K g tb ⟨n, rt, bk, ct⟩ σ (.ref a) H := by
  refine .inr (.inl ⟨a, rfl, ⟨xs, hx⟩, ?_⟩)
  exact for_tup Pv h0 hl hs hd
theorem y_forR {m : Int} (hm : -(2 ^ 62) ≤ m ∧ m < 2 ^ 62) (Pv : Nat → St → Hp → Prop) (h0 : Pv 0 σ H)
    (hs : ∀ (i : Nat) (σ : St) (H : Hp), (i : Int) < m → Pv i σ H → g (.int i) σ H fun σ2 H2 => tb ⟨Pv (i + 1), rt, n, Pv (i + 1)⟩ σ2 H2) (hd : ∀ σ H, Pv m.toNat σ H → n σ H) : ForR g tb ⟨n, rt, bk, ct⟩ σ (.int m) H := by
  refine ⟨m, rfl, hm.1, hm.2, ?_⟩
  refine for_range Pv h0 (fun i σ H hi p => ?_) hd
  have e : (0 : Int) + (i : Int) = i := Int.zero_add _
  rw [e]
  exact hs i σ H (by omega) p
theorem y_forR2 {lo hi : Int} (hm : -(2 ^ 62) ≤ lo ∧ lo < 2 ^ 62 ∧ -(2 ^ 62) ≤ hi ∧ hi < 2 ^ 62) (Pv : Nat → St → Hp → Prop) (h0 : Pv 0 σ H)
    (hs : ∀ (i : Nat) (σ : St) (H : Hp), lo + (i : Int) < hi → Pv i σ H → g (.int (lo + i)) σ H fun σ2 H2 => tb ⟨Pv (i + 1), rt, n, Pv (i + 1)⟩ σ2 H2) (hd : ∀ σ H, Pv (hi - lo).toNat σ H → n σ H) : ForR2 g tb ⟨n, rt, bk, ct⟩ σ (.int lo) (.int hi) H := by
  refine ⟨lo, hi, rfl, hm, ?_⟩
  exact for_range Pv h0 (fun i σ H hi p => hs i σ H (by omega) p) hd
end

/-! ### comprehensions -/
section
variable {K : PySem.W.Frag} {σ : St} {H H1 : Hp} {Q : VK} {te t0 t1 t2 : TE} {g : TG} {a : Addr} {xs : List V} {vs : List Nat} {J : It} {n : Nat} {G : Hp → Prop} {Y : Nat → Hp → V → Hp → Prop}
theorem lc_go (w : Walk J n G Y) (S : List Addr) (hS : ∀ s ∈ S, H1 s ≠ none) (Iv : Nat → List V → Hp → Prop) (hz : n ≤ sizeLine)
    (h0 : ∀ Hc, Ev [] H1 Hc → Iv 0 [] Hc) (hG : ∀ i acc Hc, i ≤ n → Ev S H1 Hc → Iv i acc Hc → G Hc)
    (hs : ∀ (i : Nat) (x : V) (acc : List V) (D : Addr) (Hc H' : Hp) (Qt : VK), i < n → H1 D = none → Ev S H1 Hc → acc.length = i → Iv i acc Hc → Y i Hc x H' →
      (∀ y H4, Ev S Hc H4 → (∀ H5, Ev [D] H4 H5 → Iv (i + 1) (acc ++ [y]) H5) → Qt y H4) → g x (wipe σ vs) H' fun σ2 H2 => wipe σ2 vs = wipe σ vs ∧ te σ2 H2 Qt)
    (hd : ∀ (D : Addr) (Hn : Hp) (acc : List V), H1 D = none → Ev S H1 Hn → Hn D = some (.lst acc) → acc.length = n → Iv n acc Hn → Q (.ref D) Hn) :
    ∀ D, H1 D = none → ∃ W : Nat → Nat → Hp → Prop, (∃ m, W 0 m (upd H1 D (.lst []))) ∧ ∀ i m H, W i m H →
      (J.stop i H ∧ Q (.ref D) H) ∨ (J.go i H ∧ ∃ Nx : Hp → Prop, (∀ H', Nx H' → ∃ m', m' < m ∧ W (i + 1) m' H') ∧ ∀ x H', J.yld i H x H' → g x (wipe σ vs) H' fun σ2 H2 => wipe σ2 vs = wipe σ vs ∧ tYes σ2 H2 fun b H3 =>
        if b = true then te σ2 H3 fun y H4 => ∃ acc, H4 D = some (.lst acc) ∧ acc.length < sizeLine ∧ Nx (upd H4 D (.lst (acc ++ [y]))) else Nx H3) := by
  intro D hD
  have nD : D ∉ S := fun m => hS D m hD
  refine lc_it (tt := tYes) (Qd := fun H => Q (.ref D) H) w (fun i Hc => Ev S H1 Hc ∧ ∃ acc, Hc D = some (.lst acc) ∧ acc.length = i ∧ Iv i acc Hc) ⟨(Ev.new hD), [], upd_same, rfl, h0 _ (Ev.new hD)⟩ (fun i Hc hi ⟨e, acc, _, _, iv⟩ => hG i acc Hc hi e iv) (fun i x Hc H' hi p y => ?_) (fun Hn p => ?_)
  · obtain ⟨e, acc, hDc, hl, iv⟩ := p
    refine hs i x acc D Hc H' (fun y H4 => ∃ acc, H4 D = some (.lst acc) ∧ acc.length < sizeLine ∧ _) hi hD e hl iv y fun y H4 e4 k => ?_
    have hD4 := e4.keep D _ hDc nD
    have e5 : Ev [D] H4 (upd H4 D (.lst (acc ++ [y]))) := Ev.put hD4 rfl (by simp [kindO]) (by simp [kindO])
    refine ⟨acc, hD4, by omega, ?_, acc ++ [y], upd_same, by simp [hl], k _ e5⟩
    exact (e.trans e4).fresh hD (e5.mono fun x hx => by simp at hx; subst hx; exact List.mem_cons_self)
  · obtain ⟨e, acc, hDc, hl, iv⟩ := p
    exact hd D Hn acc hD e hDc hl iv
/-- the comprehension, its source's value known -/
def LcU (K : PySem.W.Frag) (g : TG) (te : TE) (vs : List Nat) (σ : St) (v : V) (H1 : Hp) (Q : VK) : Prop := tLc (iU K (tC v)) g tYes te vs σ H1 Q
theorem y_lc (q : t0 σ H fun v H1 => LcU K g te vs σ v H1 Q) : tLc (iU K t0) g tYes te vs σ H Q := q
def LcR (g : TG) (te : TE) (vs : List Nat) (σ : St) (v : V) (H1 : Hp) (Q : VK) : Prop := tLc (iRng1 (tCons (tC v) tNil)) g tYes te vs σ H1 Q
theorem y_lcr (q : t0 σ H fun v H1 => LcR g te vs σ v H1 Q) : tLc (iRng1 (tCons t0 tNil)) g tYes te vs σ H Q := q
theorem y_lcL (xs : List V) (hx : SqL K H1 a xs) (S : List Addr) (hS : ∀ s ∈ S, H1 s ≠ none) (na : ∀ Hc, Ev S H1 Hc → SqL K Hc a xs) (Iv : Nat → List V → Hp → Prop) (hz : xs.length ≤ sizeLine)
    (h0 : ∀ Hc, Ev [] H1 Hc → Iv 0 [] Hc)
    (hs : ∀ (i : Nat) (x : V) (acc : List V) (D : Addr) (Hc : Hp) (Qt : VK), xs[i]? = some x → H1 D = none → Ev S H1 Hc → acc.length = i → Iv i acc Hc →
      (∀ y H4, Ev S Hc H4 → (∀ H5, Ev [D] H4 H5 → Iv (i + 1) (acc ++ [y]) H5) → Qt y H4) → g x (wipe σ vs) Hc fun σ2 H2 => wipe σ2 vs = wipe σ vs ∧ te σ2 H2 Qt)
    (hd : ∀ (D : Addr) (Hn : Hp) (acc : List V), H1 D = none → Ev S H1 Hn → Hn D = some (.lst acc) → acc.length = xs.length → Iv xs.length acc Hn → Q (.ref D) Hn) : LcU K g te vs σ (.ref a) H1 Q := by
  refine .inl ⟨a, rfl, ⟨xs, hx⟩, ?_⟩
  refine lc_go walk_list S hS Iv hz h0 (fun i acc Hc hi e iv => na Hc e) (fun i x acc D Hc H' Qt hi hD e hl iv y k => ?_) hd
  obtain ⟨rfl, ex⟩ := y
  exact hs i x acc D _ Qt ex hD e hl iv k
theorem y_lcT (xs : List V) (hx : SqT K H1 a xs) (S : List Addr) (hS : ∀ s ∈ S, H1 s ≠ none) (Iv : Nat → List V → Hp → Prop) (hz : xs.length ≤ sizeLine)
    (h0 : ∀ Hc, Ev [] H1 Hc → Iv 0 [] Hc)
    (hs : ∀ (i : Nat) (x : V) (acc : List V) (D : Addr) (Hc : Hp) (Qt : VK), xs[i]? = some x → H1 D = none → Ev S H1 Hc → acc.length = i → Iv i acc Hc →
      (∀ y H4, Ev S Hc H4 → (∀ H5, Ev [D] H4 H5 → Iv (i + 1) (acc ++ [y]) H5) → Qt y H4) → g x (wipe σ vs) Hc fun σ2 H2 => wipe σ2 vs = wipe σ vs ∧ te σ2 H2 Qt)
    (hd : ∀ (D : Addr) (Hn : Hp) (acc : List V), H1 D = none → Ev S H1 Hn → Hn D = some (.lst acc) → acc.length = xs.length → Iv xs.length acc Hn → Q (.ref D) Hn) : LcU K g te vs σ (.ref a) H1 Q := by
  refine .inr (.inl ⟨a, rfl, ⟨xs, hx⟩, ?_⟩)
  refine lc_go walk_tup S hS Iv hz h0 (fun i acc Hc hi e iv => e.sqT hx) (fun i x acc D Hc H' Qt hi hD e hl iv y k => ?_) hd
  obtain ⟨rfl, ex⟩ := y
  exact hs i x acc D _ Qt ex hD e hl iv k
theorem y_lcS {s : Str} (S : List Addr) (hS : ∀ s ∈ S, H1 s ≠ none) (Iv : Nat → List V → Hp → Prop) (hz : s.cps.size ≤ sizeLine)
    (h0 : ∀ Hc, Ev [] H1 Hc → Iv 0 [] Hc)
    (hs : ∀ (i : Nat) (c : Nat) (acc : List V) (D : Addr) (Hc : Hp) (Qt : VK), s.cps[i]? = some c → H1 D = none → Ev S H1 Hc → acc.length = i → Iv i acc Hc →
      (∀ y H4, Ev S Hc H4 → (∀ H5, Ev [D] H4 H5 → Iv (i + 1) (acc ++ [y]) H5) → Qt y H4) → g (.str ⟨#[c]⟩) (wipe σ vs) Hc fun σ2 H2 => wipe σ2 vs = wipe σ vs ∧ te σ2 H2 Qt)
    (hd : ∀ (D : Addr) (Hn : Hp) (acc : List V), H1 D = none → Ev S H1 Hn → Hn D = some (.lst acc) → acc.length = s.cps.size → Iv s.cps.size acc Hn → Q (.ref D) Hn) : LcU K g te vs σ (.str s) H1 Q := by
  refine .inr (.inr ⟨s, rfl, ?_⟩)
  refine lc_go walk_str S hS Iv hz h0 (fun _ _ _ _ _ _ => trivial) (fun i x acc D Hc H' Qt hi hD e hl iv y k => ?_) hd
  obtain ⟨rfl, c, ec, rfl⟩ := y
  exact hs i c acc D _ Qt ec hD e hl iv k
theorem y_lcR {m : Int} (hm : 0 ≤ m ∧ m ≤ 10000) (S : List Addr) (hS : ∀ s ∈ S, H1 s ≠ none) (Iv : Nat → List V → Hp → Prop)
    (h0 : ∀ Hc, Ev [] H1 Hc → Iv 0 [] Hc)
    (hs : ∀ (i : Nat) (acc : List V) (D : Addr) (Hc : Hp) (Qt : VK), (i : Int) < m → H1 D = none → Ev S H1 Hc → acc.length = i → Iv i acc Hc →
      (∀ y H4, Ev S Hc H4 → (∀ H5, Ev [D] H4 H5 → Iv (i + 1) (acc ++ [y]) H5) → Qt y H4) → g (.int i) (wipe σ vs) Hc fun σ2 H2 => wipe σ2 vs = wipe σ vs ∧ te σ2 H2 Qt)
    (hd : ∀ (D : Addr) (Hn : Hp) (acc : List V), H1 D = none → Ev S H1 Hn → Hn D = some (.lst acc) → (acc.length : Int) = m → Iv m.toNat acc Hn → Q (.ref D) Hn) : LcR g te vs σ (.int m) H1 Q := by
  refine ⟨m, rfl, by omega, by omega, ?_⟩
  refine lc_go walk_range S hS Iv (by rw [sizeLine_eq]; omega) h0 (fun _ _ _ _ _ _ => trivial) (fun i x acc D Hc H' Qt hi hD e hl iv y k => ?_) (fun D Hn acc h1 h2 h3 h4 h5 => hd D Hn acc h1 h2 h3 (by omega) h5)
  obtain ⟨rfl, rfl⟩ := y
  have e0 : (0 : Int) + (i : Int) = i := Int.zero_add _
  show g (.int ((0 : Int) + (i : Int))) (wipe σ vs) _ _
  rw [e0]
  exact hs i acc D _ Qt (by omega) hD e hl iv k
end
/-! ### comprehensions, their places given -/
section
variable {X : Cx}
theorem pe_lcU {elt tg iter : Expr} {ifs : List Expr} {scope : Scope} {own : List (Str × Nat)} {vs : List Nat} {pos : Pos} {wi : TI} {g : TG} {tt : TT} {te : TE} (hv : own.map (·.2) = vs) (hc : X.calm = true) (hN : X.N.Nodup) (hi : PI X tg iter wi) (ok : BlkOk X.N X.env.scope scope own)
    (hg : ∀ (s : Shared) (H : Hp) (C : Addr) (cl : List (Str × Addr)) (fp : List Addr), PG (X.blk s H scope (compEnvC scope cl C X.env) fp) tg g) (ht : ∀ (s : Shared) (H : Hp) (C : Addr) (cl : List (Str × Addr)) (fp : List Addr), PTs (X.blk s H scope (compEnvC scope cl C X.env) fp) ifs tt)
    (he : ∀ (s : Shared) (H : Hp) (C : Addr) (cl : List (Str × Addr)) (fp : List Addr), PE (X.blk s H scope (compEnvC scope cl C X.env) fp) elt te) (hs : ∀ x, foldedSetIterable iter X.env x = pure x := by intro _; rfl) :
    PE X (.ListComp elt [⟨tg, iter, ifs, 0⟩] scope pos) (tLc wi g tt te vs) := hv ▸ pe_lc hc hN hi ok hg ht he hs
theorem ps_setLcU {i : Nat} {y : Str} {py : Pos} {elt tg iter : Expr} {ifs : List Expr} {scope : Scope} {own : List (Str × Nat)} {vs : List Nat} {pos spos : Pos} {wi : TI} {g : TG} {tt : TT} {te : TE} (hv : own.map (·.2) = vs) (hc : X.calm = true) (hN : X.N.Nodup) (hy : X.N[i]? = some y) (hyl : X.env.scope.names.lookup y = some .local)
    (hsw : swapsWith (.ListComp elt [⟨tg, iter, ifs, 0⟩] scope pos) (some (.Name y py)) spos.line X.env = pure true) (hi : PI X tg iter wi) (ok : BlkOk X.N X.env.scope scope own)
    (hg : ∀ (s : Shared) (H : Hp) (C : Addr) (cl : List (Str × Addr)) (fp : List Addr), PG (X.blk s H scope (compEnvC scope cl C X.env) fp) tg g) (ht : ∀ (s : Shared) (H : Hp) (C : Addr) (cl : List (Str × Addr)) (fp : List Addr), PTs (X.blk s H scope (compEnvC scope cl C X.env) fp) ifs tt)
    (he : ∀ (s : Shared) (H : Hp) (C : Addr) (cl : List (Str × Addr)) (fp : List Addr), PE (X.blk s H scope (compEnvC scope cl C X.env) fp) elt te) (hs : ∀ x, foldedSetIterable iter X.env x = pure x := by intro _; rfl) :
    PS X (.Assign [.Name y py] (.ListComp elt [⟨tg, iter, ifs, 0⟩] scope pos) spos) (tAsg (tLc wi g tt te vs) (gName i)) := hv ▸ ps_setLc hc hN hy hyl hsw hi ok hg ht he hs
theorem ps_setLc2U {i : Nat} {y : Str} {py : Pos} {elt tg iter tg1 iter1 : Expr} {ifs ifs1 : List Expr} {scope : Scope} {own : List (Str × Nat)} {vs vs1 : List Nat} {pos spos : Pos} {wi wi1 : TI} {g g1 : TG} {tt tt1 : TT} {te : TE} (hv0 : own.map (·.2) = vs) (hc : X.calm = true) (hN : X.N.Nodup) (hy : X.N[i]? = some y) (hyl : X.env.scope.names.lookup y = some .local)
    (hsw : swapsWith (.ListComp elt [⟨tg, iter, ifs, 0⟩, ⟨tg1, iter1, ifs1, 0⟩] scope pos) (some (.Name y py)) spos.line X.env = pure true) (hi : PI X tg iter wi) (ok : BlkOk X.N X.env.scope scope own) (hv : ∀ i ∈ vs1, i ∈ own.map (·.2))
    (hg : ∀ (s : Shared) (H : Hp) (C : Addr) (cl : List (Str × Addr)) (fp : List Addr), PG (X.blk s H scope (compEnvC scope cl C X.env) fp) tg g) (ht : ∀ (s : Shared) (H : Hp) (C : Addr) (cl : List (Str × Addr)) (fp : List Addr), PTs (X.blk s H scope (compEnvC scope cl C X.env) fp) ifs tt)
    (hi1 : ∀ (s : Shared) (H : Hp) (C : Addr) (cl : List (Str × Addr)) (fp : List Addr), PI (X.blk s H scope (compEnvC scope cl C X.env) fp) tg1 iter1 wi1)
    (hg1 : ∀ (s : Shared) (H : Hp) (C : Addr) (cl : List (Str × Addr)) (fp : List Addr), PG (X.blk s H scope (compEnvC scope cl C X.env) fp) tg1 g1) (ht1 : ∀ (s : Shared) (H : Hp) (C : Addr) (cl : List (Str × Addr)) (fp : List Addr), PTs (X.blk s H scope (compEnvC scope cl C X.env) fp) ifs1 tt1)
    (he : ∀ (s : Shared) (H : Hp) (C : Addr) (cl : List (Str × Addr)) (fp : List Addr), PE (X.blk s H scope (compEnvC scope cl C X.env) fp) elt te) (hs : ∀ x, foldedSetIterable iter X.env x = pure x := by intro _; rfl) (hs1 : ∀ env x, foldedSetIterable iter1 env x = pure x := by intro _ _; rfl) :
    PS X (.Assign [.Name y py] (.ListComp elt [⟨tg, iter, ifs, 0⟩, ⟨tg1, iter1, ifs1, 0⟩] scope pos) spos) (tAsg (tLc2 wi g tt wi1 g1 tt1 te vs vs1) (gName i)) := hv0 ▸ ps_setLc2 hc hN hy hyl hsw hi ok hv hg ht hi1 hg1 ht1 he hs hs1
theorem pe_lc2U {elt tg iter tg1 iter1 : Expr} {ifs ifs1 : List Expr} {scope : Scope} {own : List (Str × Nat)} {vs vs1 : List Nat} {pos : Pos} {wi wi1 : TI} {g g1 : TG} {tt tt1 : TT} {te : TE} (hv0 : own.map (·.2) = vs) (hc : X.calm = true) (hN : X.N.Nodup) (hi : PI X tg iter wi) (ok : BlkOk X.N X.env.scope scope own) (hv : ∀ i ∈ vs1, i ∈ own.map (·.2))
    (hg : ∀ (s : Shared) (H : Hp) (C : Addr) (cl : List (Str × Addr)) (fp : List Addr), PG (X.blk s H scope (compEnvC scope cl C X.env) fp) tg g) (ht : ∀ (s : Shared) (H : Hp) (C : Addr) (cl : List (Str × Addr)) (fp : List Addr), PTs (X.blk s H scope (compEnvC scope cl C X.env) fp) ifs tt)
    (hi1 : ∀ (s : Shared) (H : Hp) (C : Addr) (cl : List (Str × Addr)) (fp : List Addr), PI (X.blk s H scope (compEnvC scope cl C X.env) fp) tg1 iter1 wi1)
    (hg1 : ∀ (s : Shared) (H : Hp) (C : Addr) (cl : List (Str × Addr)) (fp : List Addr), PG (X.blk s H scope (compEnvC scope cl C X.env) fp) tg1 g1) (ht1 : ∀ (s : Shared) (H : Hp) (C : Addr) (cl : List (Str × Addr)) (fp : List Addr), PTs (X.blk s H scope (compEnvC scope cl C X.env) fp) ifs1 tt1)
    (he : ∀ (s : Shared) (H : Hp) (C : Addr) (cl : List (Str × Addr)) (fp : List Addr), PE (X.blk s H scope (compEnvC scope cl C X.env) fp) elt te) (hs : ∀ x, foldedSetIterable iter X.env x = pure x := by intro _; rfl) (hs1 : ∀ env x, foldedSetIterable iter1 env x = pure x := by intro _ _; rfl) :
    PE X (.ListComp elt [⟨tg, iter, ifs, 0⟩, ⟨tg1, iter1, ifs1, 0⟩] scope pos) (tLc2 wi g tt wi1 g1 tt1 te vs vs1) := hv0 ▸ pe_lc2 hc hN hi ok hv hg ht hi1 hg1 ht1 he hs hs1
end
/-! ### [.. for x in a list for c in a text] -/
section
variable {K : PySem.W.Frag} {σ : St} {H H1 : Hp} {Q : VK} {te t0 t1 : TE} {g g1 : TG} {a : Addr} {vs vs1 : List Nat}
def LcU2 (K : PySem.W.Frag) (g : TG) (t1 : TE) (g1 : TG) (te : TE) (vs vs1 : List Nat) (σ : St) (v : V) (H1 : Hp) (Q : VK) : Prop := tLc2 (iU K (tC v)) g tYes (iU K t1) g1 tYes te vs vs1 σ H1 Q
theorem y_lc2 (q : t0 σ H fun v H1 => LcU2 K g t1 g1 te vs vs1 σ v H1 Q) : tLc2 (iU K t0) g tYes (iU K t1) g1 tYes te vs vs1 σ H Q := q
theorem y_yesT {A B : Hp → Prop} (q : A H) : tYes σ H fun b H3 => if b = true then A H3 else B H3 := by
  show (if true = true then A H else B H)
  rw [if_pos rfl]
  exact q
theorem y_lc2LS (xs : List V) (z : Str) (f : V → Nat → V) (σx : V → St) (σy : V → Nat → St) (hx : H1 a = some (.lst xs)) (hz : xs.length * z.cps.toList.length ≤ sizeLine)
    (hw : ∀ x, wipe (σx x) vs = wipe σ vs) (hw1 : ∀ x c, wipe (σy x c) vs1 = wipe (σx x) vs1)
    (hg : ∀ x Hc (QG : St → Hp → Prop), QG (σx x) Hc → g x (wipe σ vs) Hc QG) (ht1 : ∀ x Hc (Q' : VK), Q' (.str z) Hc → t1 (σx x) Hc Q')
    (hg1 : ∀ x c Hc (QG : St → Hp → Prop), QG (σy x c) Hc → g1 (.str ⟨#[c]⟩) (wipe (σx x) vs1) Hc QG)
    (hte : ∀ x c Hc (Q' : VK), x ∈ xs → c ∈ z.cps.toList → Q' (f x c) Hc → te (σy x c) Hc Q')
    (hd : ∀ D, H1 D = none → Q (.ref D) (upd H1 D (.lst (xs.flatMap fun x => z.cps.toList.map (f x))))) : LcU2 K g t1 g1 te vs vs1 σ (.ref a) H1 Q := by
  refine .inl ⟨a, rfl, ⟨_, SqL.of hx⟩, ?_⟩
  intro D hD
  have nD : a ≠ D := ne_of_none hx hD
  have len : ∀ l : List V, (l.flatMap fun x => z.cps.toList.map (f x)).length = l.length * z.cps.toList.length := by
    intro l
    induction l with
    | nil => simp
    | cons x r ih => rw [List.flatMap_cons, List.length_append, ih, List.length_map, List.length_cons, Nat.succ_mul, Nat.add_comm]
  have stp : ∀ i x, xs[i]? = some x → (xs.take (i + 1)).flatMap (fun x => z.cps.toList.map (f x)) = (xs.take i).flatMap (fun x => z.cps.toList.map (f x)) ++ z.cps.toList.map (f x) := by
    intro i x h
    rw [List.take_add_one, h, List.flatMap_append]
    simp
  refine ⟨fun i m H => m = xs.length - i ∧ i ≤ xs.length ∧ H = upd H1 D (.lst ((xs.take i).flatMap fun x => z.cps.toList.map (f x))), ⟨xs.length, by simp, Nat.zero_le _, by simp⟩, ?_⟩
  rintro i m H ⟨rfl, hi, rfl⟩
  have hL : ∀ l, SqL K (upd H1 D (.lst l)) a xs := fun l => SqL.of (by rw [upd_ne nD]; exact hx)
  by_cases hlt : i < xs.length
  · refine .inr ⟨walk_list.goes i _ hlt (hL _), fun H => H = upd H1 D (.lst ((xs.take (i + 1)).flatMap fun x => z.cps.toList.map (f x))), fun H' p' => ⟨xs.length - (i + 1), by omega, rfl, hlt, p'⟩, fun x H' y => ?_⟩
    obtain ⟨e1, ex⟩ := walk_list.yields i _ x H' hlt (hL _) y
    subst e1
    refine hg x _ _ ⟨hw x, ?_⟩
    refine y_yesT ?_
    refine ht1 x _ _ ?_
    refine .inr (.inr ⟨z, rfl, ?_⟩)
    refine ⟨fun j k H => k = z.cps.toList.length - j ∧ j ≤ z.cps.toList.length ∧ H = upd H1 D (.lst ((xs.take i).flatMap (fun x => z.cps.toList.map (f x)) ++ (z.cps.toList.take j).map (f x))), ⟨z.cps.toList.length, by simp, Nat.zero_le _, by simp⟩, ?_⟩
    rintro j k H ⟨rfl, hj, rfl⟩
    by_cases jl : j < z.cps.toList.length
    · refine .inr ⟨walk_str.goes j _ (by simpa using jl) trivial, fun H => H = upd H1 D (.lst ((xs.take i).flatMap (fun x => z.cps.toList.map (f x)) ++ (z.cps.toList.take (j + 1)).map (f x))), fun H' p' => ⟨z.cps.toList.length - (j + 1), by omega, rfl, jl, p'⟩, fun y H' yy => ?_⟩
      obtain ⟨e1, c, hc, rfl⟩ := walk_str.yields j _ y H' (by simpa using jl) trivial yy
      subst e1
      have hc' : z.cps.toList[j]? = some c := by simpa using hc
      refine hg1 x c _ _ ⟨hw1 x c, ?_⟩
      refine y_yesT ?_
      refine hte x c _ _ (List.mem_of_getElem? ex) (List.mem_of_getElem? hc') ?_
      refine ⟨_, upd_same, ?_, ?_⟩
      · have h1 : (i + 1) * z.cps.toList.length ≤ xs.length * z.cps.toList.length := Nat.mul_le_mul_right _ hlt
        rw [Nat.succ_mul] at h1
        rw [List.length_append, len, List.length_map, List.length_take, List.length_take, Nat.min_eq_left hi]
        omega
      · rw [upd_upd, List.take_add_one, hc', List.map_append, List.append_assoc]
        rfl
    · have e : j = z.cps.toList.length := by omega
      subst e
      refine .inl ⟨walk_str.stops _ trivial, ?_⟩
      rw [stp i x ex, List.take_of_length_le (Nat.le_refl _)]
  · have e : i = xs.length := by omega
    subst e
    refine .inl ⟨walk_list.stops _ (hL _), ?_⟩
    rw [List.take_of_length_le (Nat.le_refl _)]
    exact hd D hD
end
/-! ### except clauses -/
section
variable {K : PySem.W.Frag} {σ : St} {H : Hp} {Wout : WX} {n : St → Hp → Prop} {rt : VK} {bk ct : St → Hp → Prop} {D : Ends} {c cls : Value} {d : Option Addr} {ts : Addr → Value → Option Addr → TS} {r : List Cl} {Q : VK} {a C1 : Addr}
theorem y_we {W : WX} (q : W cls d σ H) : WE W σ cls d H := q
theorem y_hdT (h : PySem.W.exmOne K cls c = some true) (q : ∀ a, H a = none → ts a cls d D σ H) : wU K Wout D ((c, none, ts) :: r) cls d σ H := ⟨true, h, fun _ => q, fun e => nomatch e⟩
theorem y_hdA {i : Nat} {σ' : Addr → St} (h : PySem.W.exmOne K cls c = some true) (e : ∀ a, σ.set i (some (.ref a)) = σ' a) (q : ∀ a, H a = none → ts a cls d ⟨fun σ2 H' => n (σ2.set i none) H', rt, fun σ2 H' => bk (σ2.set i none) H', fun σ2 H' => ct (σ2.set i none) H'⟩ (σ' a) H) : wU K Wout ⟨n, rt, bk, ct⟩ ((c, some i, ts) :: r) cls d σ H := ⟨true, h, fun _ a na => by
  show ts a cls d _ (σ.set i (some (.ref a))) H
  rw [e a]
  exact q a na, fun e => nomatch e⟩
theorem y_hdF {o : Option Nat} (h : PySem.W.exmOne K cls c = some false) (q : wU K Wout D r cls d σ H) : wU K Wout D ((c, o, ts) :: r) cls d σ H := ⟨false, h, fun e => (nomatch e), fun _ => q⟩
theorem y_hdN (q : Wout cls d σ H) : wU K Wout D [] cls d σ H := q
theorem y_isE {C2 : Addr} {b : Bool} (C : ExcC K C1) (h : PySem.W.kitOne K (.ref C1) (.ref C2) = some b) (q : Q (.bl b) H) : rIsEU K (.ref C1) none a [.ref a, .ref C2] H Q := ⟨C1, rfl, rfl, C, .ref C2, .ref C2, b, rfl, fun u r => by cases r; rfl, h, q⟩
theorem y_isET {T : String} {b : Bool} (C : ExcC K C1) (h : PySem.W.kitOne K (.ref C1) (.type T) = some b) (q : Q (.bl b) H) : rIsEU K (.ref C1) none a [.ref a, .ty T] H Q := ⟨C1, rfl, rfl, C, .ty T, .type T, b, rfl, fun u r => by cases r; rfl, h, q⟩
end
/-! ### data compared -/
section
variable {K : PySem.W.Frag} {σ : St} {H H1 : Hp} {Q : VK} {x y : V} {d e : PyData} {a : Addr} {S : List Addr}
theorem y_neD (hd : Dp K H x d) (he : Dp K H y e) (sd : SeqAt.shaped d = true) (se : SeqAt.shaped e = true) (q : Q (.bl (!PyData.eqv d e)) H) : rNeU K x y H Q := .inr ⟨d, e, hd, he, sd, se, q⟩
theorem y_eqD (hd : Dp K H x d) (he : Dp K H y e) (sd : SeqAt.shaped d = true) (se : SeqAt.shaped e = true) (q : Q (.bl (PyData.eqv d e)) H) : rEqU K x y H Q := .inr ⟨d, e, hd, he, sd, se, q⟩
theorem y_neSame (hd : Dp K H x d) (he : Dp K H y d) (sd : SeqAt.shaped d = true) (q : Q (.bl false) H) : rNeU K x y H Q := y_neD hd he sd sd (by
  rw [SeqAt.eqv_refl d (SeqAt.canLay_of_shaped sd)]
  exact q)
theorem y_eqSame (hd : Dp K H x d) (he : Dp K H y d) (sd : SeqAt.shaped d = true) (q : Q (.bl true) H) : rEqU K x y H Q := y_eqD hd he sd sd (by
  rw [SeqAt.eqv_refl d (SeqAt.canLay_of_shaped sd)]
  exact q)
def dStrs (ys : List Str) : PyData := .list (ys.map PyData.str)
theorem dpAll_strs : ∀ ys : List Str, DpAll K H (ys.map V.str) (ys.map PyData.str)
  | [] => .nil
  | x :: r => .cons (.str x) (dpAll_strs r)
theorem dp_strs {ys : List Str} (h : SqL K H a (ys.map V.str)) : Dp K H (.ref a) (dStrs ys) := .lst h (dpAll_strs ys)
end
/-! ### sorted texts -/
theorem ltCps_dec (a b : List Nat) : ltCps a b = decide (a < b) := PyProof.Rows.ltCps_eq a b
theorem rising_pw : ∀ (l : List Str) (p : Str), PyProof.Rows.risingS p l = true → (p :: l).Pairwise fun a b : Str => a.cps.toList ≤ b.cps.toList
  | [], p, _ => by simp
  | x :: r, p, h => by
    have h' : (!ltCps x.cps.toList p.cps.toList && PyProof.Rows.risingS x r) = true := h
    simp only [Bool.and_eq_true, Bool.not_eq_true'] at h'
    have q := rising_pw r x h'.2
    have px : p.cps.toList ≤ x.cps.toList := by
      have := h'.1
      rw [ltCps_dec] at this
      exact of_decide_eq_false this
    refine List.pairwise_cons.mpr ⟨fun y hy => ?_, q⟩
    rcases List.mem_cons.mp hy with e | e
    · subst e; exact px
    · exact List.le_trans px ((List.pairwise_cons.mp q).1 y e)
theorem sorted_pw {l : List Str} (h : PyProof.Rows.sortedS l = true) : l.Pairwise fun a b : Str => a.cps.toList ≤ b.cps.toList := by
  cases l with
  | nil => exact .nil
  | cons x r => exact rising_pw r x h
theorem sorted_one {l m : List Str} (hl : PyProof.Rows.sortedS l = true) (hm : PyProof.Rows.sortedS m = true) (h : l.Perm m) : l = m :=
  List.Perm.eq_of_pairwise (fun a b _ _ h1 h2 => by
    have := List.le_antisymm h1 h2
    cases a; cases b
    congr 1
    exact Array.toList_inj.mp this) (sorted_pw hl) (sorted_pw hm) h
/-! ### texts in lists as data -/
theorem canLay_strs : ∀ {ys : List Str}, (∀ y ∈ ys, PyData.strOk y = true) → PyData.canLayAll0 (ys.map PyData.str) = true
  | [], _ => rfl
  | y :: r, h => by
    show (PyData.canLay0 (.str y) && PyData.canLayAll0 (r.map PyData.str)) = true
    rw [canLay_strs fun z hz => h z (List.mem_cons_of_mem _ hz)]
    show (PyData.strOk y && true) = true
    rw [h y List.mem_cons_self]
    rfl
theorem depth_strs : ∀ ys : List Str, PyData.depthAll (ys.map PyData.str) = 0
  | [] => rfl
  | y :: r => by
    show max 0 (PyData.depthAll (r.map PyData.str)) = 0
    rw [depth_strs r]
    rfl
theorem shaped_strs {ys : List Str} (h : ∀ y ∈ ys, PyData.strOk y = true) : SeqAt.shaped (dStrs ys) = true := by
  show (PyData.canLayAll0 (ys.map PyData.str) && decide (PyData.depthAll (ys.map PyData.str) + 1 ≤ 64)) = true
  rw [canLay_strs h, depth_strs]
  rfl
theorem shaped_two {ys zs : List Str} (h : ∀ y ∈ ys, PyData.strOk y = true) (h2 : ∀ y ∈ zs, PyData.strOk y = true) : SeqAt.shaped (.list [dStrs ys, dStrs zs]) = true := by
  show ((PyData.canLayAll0 (ys.map PyData.str) && (PyData.canLayAll0 (zs.map PyData.str) && true)) && decide (max (PyData.depthAll (ys.map PyData.str) + 1) (max (PyData.depthAll (zs.map PyData.str) + 1) 0) + 1 ≤ 64)) = true
  rw [canLay_strs h, canLay_strs h2, depth_strs, depth_strs]
  rfl
/-! ### objects -/
section
variable {K : PySem.W.Frag} {σ : St} {H : Hp} {Q : VK} {ta tv te : TE} {t : TA} {C dx a : Addr} {fs : List (Str × V)} {f : Str} {v : V} {n : St → Hp → Prop} {rt : VK} {bk ct : St → Hp → Prop}
def FldAt (K : PySem.W.Frag) (x : V) (f : Str) (H1 : Hp) (Q : VK) : Prop := ∃ a C dx fs v, x = .ref a ∧ H1 a = some (.ins C dx fs) ∧ Cls K C ∧ NoAttr K C f ∧ fs.lookup f = some v ∧ Q v H1
theorem y_fld (q : ta σ H fun x H1 => FldAt K x f H1 Q) : tFld K ta f σ H Q := q
theorem y_fldAt (h : H a = some (.ins C dx fs)) (c : Cls K C) (m : NoAttr K C f) (l : fs.lookup f = some v) (q : Q v H) : FldAt K (.ref a) f H Q := ⟨a, C, dx, fs, v, rfl, h, c, m, l, q⟩
def FldPut (K : PySem.W.Frag) (x : V) (f : Str) (y : V) (H2 : Hp) (QG : Hp → Prop) : Prop := ∃ a C dx fs, x = .ref a ∧ H2 a = some (.ins C dx fs) ∧ Cls K C ∧ NoAttr K C f ∧ fs.length < 1000 ∧ QG (upd H2 a (.ins C dx (putF f y fs)))
theorem y_sfld (q : tv σ H fun y H1 => ta σ H1 fun x H2 => FldPut K x f y H2 fun H3 => n σ H3) : sFld K ta tv f ⟨n, rt, bk, ct⟩ σ H := q
theorem y_fldPut {QG : Hp → Prop} (h : H a = some (.ins C dx fs)) (c : Cls K C) (m : NoAttr K C f) (l : fs.length < 1000) (q : ∀ H', H' a = some (.ins C dx (putF f v fs)) → Ev [a] H H' → QG H') : FldPut K (.ref a) f v H QG :=
  ⟨a, C, dx, fs, rfl, h, c, m, l, q _ upd_same (Ev.put h rfl (by simp [kindO]) (by simp [kindO]))⟩
def MethAt (C : Addr) (m : Str) (x : V) (H1 : Hp) (P : Prop) : Prop := ∃ a dx fs, x = .ref a ∧ H1 a = some (.ins C dx fs) ∧ fs.lookup m = none ∧ P
theorem y_meth {m : Str} {sp : Sp} {dvs : List V} {E : XK} (q : ta σ H fun x H1 => MethAt C m x H1 (t σ H1 fun vs H2 => sp (x :: (vs ++ dvs)) H2 Q E)) : tMeth C m sp dvs E ta t σ H Q := q
theorem y_methAt {m : Str} {P : Prop} (h : H a = some (.ins C dx fs)) (l : fs.lookup m = none) (q : P) : MethAt C m (.ref a) H P := ⟨a, dx, fs, rfl, h, l, q⟩
def MakeAt (C : Addr) (sp : Sp) (E : XK) (vs : List V) (H1 : Hp) (Q : VK) : Prop := ∀ x dx, H1 x = none → H1 dx = none → dx ≠ x → sp (.ref x :: vs) (upd (upd H1 dx (.own x)) x (.ins C dx [])) (fun v H2 => v = .non ∧ Q (.ref x) H2) E
theorem y_mk {sp : Sp} {dvs : List V} {E : XK} (q : t σ H fun vs H1 => MakeAt C sp E (vs ++ dvs) H1 Q) : tMake C sp dvs E t σ H Q := q
theorem y_makeAt {sp : Sp} {E : XK} {vs : List V} (q : ∀ x dx H2, H x = none → H2 x = some (.ins C dx []) → Ev [] H H2 → sp (.ref x :: vs) H2 (fun v H3 => v = .non ∧ Q (.ref x) H3) E) : MakeAt C sp E vs H Q := fun x dx nx nd ne =>
  q x dx _ nx upd_same ((Ev.new nd).trans (Ev.new (by rw [upd_ne ne.symm]; exact nx)))
end
/-! ### dicts with tuples as keys -/
section
variable {K : PySem.W.Frag} {σ : St} {H : Hp} {Q : VK} {a b : Addr} {v : V} {kvs : List (List Key × V)} {k : List Key}
theorem y_newDT (q : ∀ p H', H p = none → H' p = some (.dT []) → Ev [] H H' → Q (.ref p) H') : tDNewT σ H Q := fun p hp => q p _ hp upd_same (Ev.new hp)
theorem y_setDT {QG : Hp → Prop} (h : H a = some (.dT kvs)) (hb : H b = some (.tup (k.map kV))) (l : kvs.length < sizeLine) (q : ∀ H', H' a = some (.dT (putK kvs k v)) → Ev [a] H H' → QG H') : rSetU (.ref a) (.ref b) v H QG :=
  .inr ⟨a, _, rfl, .inr ⟨kvs, k, b, h, rfl, hb, l, rfl⟩, q _ upd_same (Ev.put h rfl (by simp [kindO]) (by simp [kindO]))⟩
theorem y_getDT (h : H a = some (.dT kvs)) (hb : H b = some (.tup (k.map kV))) (e : valV kvs k = some v) (q : Q v H) : rIxU K (.ref a) (.ref b) H Q := .inr ⟨a, v, rfl, by rw [← e]; exact DGet.t h hb, q⟩
end
/-! ### loops over enumerate and zip -/
section
variable {K : PySem.W.Frag} {g : TG} {tb : TS} {n : St → Hp → Prop} {rt : VK} {bk ct : St → Hp → Prop} {σ : St} {H H0 : Hp} {t0 t1 : TE} {k k1 k2 : Sk} {x x1 x2 : V}
def ForE (K : PySem.W.Frag) (g : TG) (tb : TS) (D : Ends) (σ : St) (v : V) (H : Hp) : Prop := tFor (iEnumU K (tCons (tC v) tNil)) g tb D σ H
theorem y_fore (q : t0 σ H fun v H1 => ForE K g tb ⟨n, rt, bk, ct⟩ σ v H1) : tFor (iEnumU K (tCons t0 tNil)) g tb ⟨n, rt, bk, ct⟩ σ H := q
def ForZ (K : PySem.W.Frag) (g : TG) (tb : TS) (D : Ends) (σ : St) (v w : V) (H : Hp) : Prop := tFor (iZipU K (tCons (tC v) (tCons (tC w) tNil))) g tb D σ H
theorem y_forz (q : t0 σ H fun v H1 => t1 σ H1 fun w H2 => ForZ K g tb ⟨n, rt, bk, ct⟩ σ v w H2) : tFor (iZipU K (tCons t0 (tCons t1 tNil))) g tb ⟨n, rt, bk, ct⟩ σ H := q
theorem y_forEn (xs : List V) (hx : SrcAt k K H x xs) (Pv : Nat → St → Hp → Prop) (h0 : Pv 0 σ H) (hl : ∀ i σ H, i ≤ xs.length → Pv i σ H → SrcAt k K H x xs)
    (hs : ∀ (i : Nat) (y : V) (T : Addr) (σ : St) (H0 H : Hp), xs[i]? = some y → Pv i σ H0 → H0 T = none → H T = some (.tup [.int (i : Nat), y]) → Ev [] H0 H → g (.ref T) σ H fun σ2 H2 => tb ⟨Pv (i + 1), rt, n, Pv (i + 1)⟩ σ2 H2) (hd : ∀ σ H, Pv xs.length σ H → n σ H) : ForE K g tb ⟨n, rt, bk, ct⟩ σ x H := by
  refine ⟨x, k, xs, rfl, hx, ?_⟩
  refine for_it walk_enumU Pv h0 hl (fun i v σ H H' hi p y => ?_) hd
  obtain ⟨T, y, rfl, nT, rfl, hy⟩ := y
  exact hs i y T σ H _ hy p nT upd_same (Ev.new nT)
theorem y_forZn (xs ys : List V) (hx : SrcAt k1 K H x1 xs) (hy : SrcAt k2 K H x2 ys) (Pv : Nat → St → Hp → Prop) (h0 : Pv 0 σ H) (hl : ∀ i σ H, i ≤ min xs.length ys.length → Pv i σ H → SrcAt k1 K H x1 xs ∧ SrcAt k2 K H x2 ys)
    (hs : ∀ (i : Nat) (y z : V) (T : Addr) (σ : St) (H0 H : Hp), xs[i]? = some y → ys[i]? = some z → Pv i σ H0 → H0 T = none → H T = some (.tup [y, z]) → Ev [] H0 H → g (.ref T) σ H fun σ2 H2 => tb ⟨Pv (i + 1), rt, n, Pv (i + 1)⟩ σ2 H2) (hd : ∀ σ H, Pv (min xs.length ys.length) σ H → n σ H) : ForZ K g tb ⟨n, rt, bk, ct⟩ σ x1 x2 H := by
  refine ⟨x1, x2, k1, k2, xs, ys, rfl, hx, hy, ?_⟩
  refine for_it walk_zipU Pv h0 hl (fun i v σ H H' hi p y => ?_) hd
  obtain ⟨T, y, z, rfl, nT, rfl, hy, hz⟩ := y
  exact hs i y z T σ H _ hy hz p nT upd_same (Ev.new nT)
theorem srcT {a : Addr} {xs : List V} (h : SqT K H a xs) : SrcAt .t K H (.ref a) xs := ⟨a, rfl, h⟩
theorem srcL {a : Addr} {xs : List V} (h : SqL K H a xs) : SrcAt .l K H (.ref a) xs := ⟨a, rfl, h⟩
theorem srcS {z : Str} : SrcAt .s K H (.str z) (z.cps.toList.map fun c => V.str ⟨#[c]⟩) := ⟨z, rfl, rfl⟩
end
/-! ### slices, texts -/
section
variable {K : PySem.W.Frag} {σ : St} {H : Hp} {Q : VK} {te to : TE} {tl th : TO} {r : V → Option Int → Option Int → Hp → VK → Prop} {lo hi : Option Int} {a : Addr} {xs : List V} {z : Str} {v : V}
theorem y_sl (q : te σ H fun x H1 => tl σ H1 fun l H2 => th σ H2 fun u H3 => r x l u H3 Q) : tSl r te tl th σ H Q := q
theorem y_nopart {QO : Option Int → Hp → Prop} (q : QO none H) : tNoPart σ H QO := q
theorem y_part {QO : Option Int → Hp → Prop} (q : te σ H fun x H1 => ∃ i, x = .int i ∧ QO (some i) H1) : tPart te σ H QO := q
theorem y_isint {i : Int} {P : Int → Prop} (q : P i) : ∃ j, V.int i = .int j ∧ P j := ⟨i, rfl, q⟩
theorem y_slL (xs : List V) (h : SqL K H a xs) (q : ∀ p H', H p = none → H' p = some (.lst (cutV xs lo hi)) → Ev [] H H' → Q (.ref p) H') : rSlU K (.ref a) lo hi H Q := .inl ⟨a, xs, rfl, h, fun p hp => q p _ hp upd_same (Ev.new hp)⟩
theorem y_slS (h : z.length ≤ sizeLine) (q : Q (.str (cutS z lo hi)) H) : rSlU K (.str z) lo hi H Q := .inr (.inr ⟨z, rfl, h, q⟩)
theorem y_slT (xs : List V) (h : SqT K H a xs) (q : ∀ p H', SqT K H' p (cutV xs lo hi) → Ev [] H H' → Q (.ref p) H') : rSlU K (.ref a) lo hi H Q := by
  refine .inr (.inl ⟨a, xs, rfl, h, fun e => q a H ?_ Ev.refl, fun _ p hp => q p _ (SqT.of upd_same) (Ev.new hp)⟩)
  have : cutV xs lo hi = xs := by unfold cutV; rw [e.1, e.2]; simp
  rw [this]; exact h
theorem y_m1 {r : V → List V → Hp → VK → Prop} (q : to σ H fun x H1 => (∃ a, x = .str a) ∧ te σ H1 fun y H2 => r x [y] H2 Q) : tM1 r to te σ H Q := q
theorem y_m0 {r : V → List V → Hp → VK → Prop} (q : to σ H fun x H1 => (∃ a, x = .str a) ∧ r x [] H1 Q) : tM0 r to σ H Q := q
theorem y_isstr {P : Prop} (q : P) : (∃ a, V.str z = .str a) ∧ P := ⟨⟨z, rfl⟩, q⟩
theorem y_bm {T : String} {r : V → List V → Hp → VK → Prop} {t : TA} (q : to σ H fun x H1 => tyV K T x H1 ∧ t σ H1 fun xs H2 => r x xs H2 Q) : tBM K T r to t σ H Q := q
theorem y_bm0 {T : String} {r : V → List V → Hp → VK → Prop} (q : to σ H fun x H1 => tyV K T x H1 ∧ r x [] H1 Q) : tBM0 K T r to σ H Q := q
theorem y_tyL {P : Prop} {xs : List V} (h : SqL K H a xs) (q : P) : tyV K "list" (.ref a) H ∧ P := ⟨.inl ⟨rfl, xs, h⟩, q⟩
theorem y_tyS {P : Prop} (q : P) : tyV K "str" (.str z) H ∧ P := ⟨rfl, q⟩
theorem y_append (xs : List V) (h : H a = some (.lst xs)) (l : xs.length < sizeLine) (q : ∀ H', H' a = some (.lst (xs ++ [v])) → Ev [a] H H' → Q .non H') : rAppend (.ref a) [v] H Q := ⟨a, xs, v, rfl, rfl, h, l, q _ upd_same (Ev.put h rfl (by simp [kindO]) (by simp [kindO]))⟩
theorem y_extend {b : Addr} (xs ys : List V) (h : H a = some (.lst xs)) (h2 : H b = some (.lst ys)) (l : xs.length + ys.length ≤ sizeLine) (q : ∀ H', H' a = some (.lst (xs ++ ys)) → Ev [a] H H' → Q .non H') : rExtend (.ref a) [.ref b] H Q := ⟨a, b, xs, ys, rfl, rfl, h, h2, l, q _ upd_same (Ev.put h rfl (by simp [kindO]) (by simp [kindO]))⟩
theorem y_clear (xs : List V) (h : H a = some (.lst xs)) (q : ∀ H', H' a = some (.lst []) → Ev [a] H H' → Q .non H') : rClear (.ref a) [] H Q := ⟨a, xs, rfl, rfl, h, q _ upd_same (Ev.put h rfl (by simp [kindO]) (by simp [kindO]))⟩
theorem y_tupd {t : TA} (q : t σ H fun xs H1 => xs.length ≤ sizeLine ∧ ∀ p H', H1 p = none → H' p = some (.tup xs) → Ev [] H1 H' → Q (.ref p) H') (mono : ∀ H (A B : List V → Hp → Prop), (∀ xs H1, A xs H1 → B xs H1) → t σ H A → t σ H B) : tTup t σ H Q := mono H _ _ (fun xs H1 ⟨l, k⟩ => ⟨l, fun p hp => k p _ hp upd_same (Ev.new hp)⟩) q
def NewT (xs : List V) (H : Hp) (Q : VK) : Prop := xs.length ≤ sizeLine ∧ ∀ p, H p = none → Q (.ref p) (upd H p (.tup xs))
def NewL (xs : List V) (H : Hp) (Q : VK) : Prop := xs.length ≤ sizeLine ∧ ∀ p, H p = none → Q (.ref p) (upd H p (.lst xs))
theorem y_setD {kvs : List (Key × V)} {k : Str} {QG : Hp → Prop} (h : H a = some (.dK kvs)) (l : kvs.length < sizeLine) (q : ∀ H', H' a = some (.dK (putK kvs (.inr k) v)) → Ev [a] H H' → QG H') : rSetU (.ref a) (.str k) v H QG :=
  .inr ⟨a, _, rfl, .inl ⟨kvs, .inr k, h, rfl, l, rfl⟩, q _ upd_same (Ev.put h rfl (by simp [kindO]) (by simp [kindO]))⟩
theorem y_listD {kvs : List (Key × V)} (h : H a = some (.dK kvs)) (q : ∀ p H', H p = none → H' p = some (.lst (kvs.map fun kv => kV kv.1)) → Ev [] H H' → Q (.ref p) H') : rListU K [.ref a] H Q := .inr (.inl ⟨a, kvs, rfl, h, fun p hp => q p _ hp upd_same (Ev.new hp)⟩)
theorem y_listS {z : Str} (l : z.length ≤ sizeLine) (q : ∀ p H', H p = none → H' p = some (.lst (z.cps.toList.map fun c => V.str ⟨#[c]⟩)) → Ev [] H H' → Q (.ref p) H') : rListU K [.str z] H Q := .inr (.inr ⟨z, rfl, l, fun p hp => q p _ hp upd_same (Ev.new hp)⟩)
theorem y_listL (xs : List V) (h : SqL K H a xs ∨ SqT K H a xs) (q : ∀ p H', H p = none → H' p = some (.lst xs) → Ev [] H H' → Q (.ref p) H') : rListU K [.ref a] H Q := .inl ⟨a, xs, rfl, h, fun p hp => q p _ hp upd_same (Ev.new hp)⟩
def NewD (H : Hp) (Q : VK) : Prop := ∀ p, H p = none → Q (.ref p) (upd H p (.dK []))
theorem y_newD (q : ∀ p H', H p = none → H' p = some (.dK []) → Ev [] H H' → Q (.ref p) H') : tDNewK σ H Q := fun p hp => q p _ hp upd_same (Ev.new hp)
theorem y_tTup {t : TA} (q : t σ H fun xs H1 => NewT xs H1 Q) : tTup t σ H Q := q
theorem y_tLst {t : TA} (q : t σ H fun xs H1 => NewL xs H1 Q) : tLst t σ H Q := q
theorem y_newT {xs : List V} (l : xs.length ≤ sizeLine) (q : ∀ p H', H p = none → H' p = some (.tup xs) → Ev [] H H' → Q (.ref p) H') : NewT xs H Q := ⟨l, fun p h => q p _ h upd_same (Ev.new h)⟩
theorem y_newL {xs : List V} (l : xs.length ≤ sizeLine) (q : ∀ p H', H p = none → H' p = some (.lst xs) → Ev [] H H' → Q (.ref p) H') : NewL xs H Q := ⟨l, fun p h => q p _ h upd_same (Ev.new h)⟩
theorem y_newL0 (q : ∀ p H', H p = none → H' p = some (.lst []) → Ev [] H H' → Q (.ref p) H') : NewL [] H Q := ⟨Nat.zero_le _, fun p h => q p _ h upd_same (Ev.new h)⟩
theorem y_catL {b : Addr} (xs ys : List V) (h : H a = some (.lst xs)) (h2 : H b = some (.lst ys)) (l : xs.length + ys.length ≤ sizeLine) (q : ∀ p H', H p = none → H' p = some (.lst (xs ++ ys)) → Ev [] H H' → Q (.ref p) H') : rAddU K (.ref a) (.ref b) H Q := .inr (.inr (.inl ⟨a, b, xs, ys, rfl, rfl, h, h2, l, fun p hp => q p _ hp upd_same (Ev.new hp)⟩))
theorem y_catT {b : Addr} (xs ys : List V) (h : SqT K H a xs) (h2 : SqT K H b ys) (l : xs.length + ys.length ≤ sizeLine) (q : ∀ p H', SqT K H' p (xs ++ ys) → Ev [] H H' → Q (.ref p) H') : rAddU K (.ref a) (.ref b) H Q :=
  .inr (.inr (.inr ⟨a, b, xs, ys, rfl, rfl, h, h2, l, fun e => q b H (by subst e; exact h2) Ev.refl, fun _ e => q a H (by subst e; rw [List.append_nil]; exact h) Ev.refl, fun _ _ p hp => q p _ (SqT.of upd_same) (Ev.new hp)⟩))
theorem y_sorted {xs : List Str} (h : SqL K H a (xs.map V.str)) (q : ∀ p H' ys, H p = none → H' p = some (.lst (ys.map V.str)) → Ev [] H H' → ys.Perm xs → PyProof.Rows.sortedS ys = true → Q (.ref p) H') : rSortedU K [.ref a] H Q := ⟨a, xs, rfl, h, fun p ys hp pm so => q p _ ys hp upd_same (Ev.new hp) pm so⟩
theorem y_join {a : Str} {p : Addr} (ys : List Str) (h : SqL K H p (ys.map V.str) ∨ SqT K H p (ys.map V.str)) (l : (ys.map (·.length)).sum + ys.length * a.length ≤ 16777216) (q : Q (.str (Txt.join a ys)) H) : rJoinU K (.str a) [.ref p] H Q := ⟨a, p, ys, rfl, rfl, h, l, q⟩
end
end L2

/-! ## G4: slots by their places (printed by a program) -/
namespace L2
open PySem PySem.Spec PyProof.Rows
section
variable {H : Hp} {Q Qt : VK} {te : TE} {n : St → Hp → Prop} {rt : VK} {bk ct : St → Hp → Prop} {x v : V} {QG : St → Hp → Prop} {t : List (Option V)} {a0 a1 a2 a3 a4 a5 a6 a7 a8 a9 a10 a11 a12 a13 a14 a15 a16 a17 a18 a19 a20 a21 a22 a23 a24 a25 a26 a27 a28 a29 a30 : Option V}
theorem y_var0 (q : Q v H) : tVar 0 (some v :: t) H Q := ⟨v, rfl, q⟩
theorem y_set0 (q : te (a0 :: t) H fun x H1 => n (some x :: t) H1) : tAsg te (gName 0) ⟨n, rt, bk, ct⟩ (a0 :: t) H := q
theorem y_gname0 (q : QG (some x :: t) H) : gName 0 x (a0 :: t) H QG := q
theorem y_wname0 (q : QG (some x :: t) H) : gName 0 x (wipe (a0 :: t) [0]) H fun σ2 H2 => wipe σ2 [0] = wipe (a0 :: t) [0] ∧ QG σ2 H2 := ⟨rfl, q⟩
theorem y_var1 (q : Q v H) : tVar 1 (a0 :: some v :: t) H Q := ⟨v, rfl, q⟩
theorem y_set1 (q : te (a0 :: a1 :: t) H fun x H1 => n (a0 :: some x :: t) H1) : tAsg te (gName 1) ⟨n, rt, bk, ct⟩ (a0 :: a1 :: t) H := q
theorem y_gname1 (q : QG (a0 :: some x :: t) H) : gName 1 x (a0 :: a1 :: t) H QG := q
theorem y_wname1 (q : QG (a0 :: some x :: t) H) : gName 1 x (wipe (a0 :: a1 :: t) [1]) H fun σ2 H2 => wipe σ2 [1] = wipe (a0 :: a1 :: t) [1] ∧ QG σ2 H2 := ⟨rfl, q⟩
theorem y_var2 (q : Q v H) : tVar 2 (a0 :: a1 :: some v :: t) H Q := ⟨v, rfl, q⟩
theorem y_set2 (q : te (a0 :: a1 :: a2 :: t) H fun x H1 => n (a0 :: a1 :: some x :: t) H1) : tAsg te (gName 2) ⟨n, rt, bk, ct⟩ (a0 :: a1 :: a2 :: t) H := q
theorem y_gname2 (q : QG (a0 :: a1 :: some x :: t) H) : gName 2 x (a0 :: a1 :: a2 :: t) H QG := q
theorem y_wname2 (q : QG (a0 :: a1 :: some x :: t) H) : gName 2 x (wipe (a0 :: a1 :: a2 :: t) [2]) H fun σ2 H2 => wipe σ2 [2] = wipe (a0 :: a1 :: a2 :: t) [2] ∧ QG σ2 H2 := ⟨rfl, q⟩
theorem y_var3 (q : Q v H) : tVar 3 (a0 :: a1 :: a2 :: some v :: t) H Q := ⟨v, rfl, q⟩
theorem y_set3 (q : te (a0 :: a1 :: a2 :: a3 :: t) H fun x H1 => n (a0 :: a1 :: a2 :: some x :: t) H1) : tAsg te (gName 3) ⟨n, rt, bk, ct⟩ (a0 :: a1 :: a2 :: a3 :: t) H := q
theorem y_gname3 (q : QG (a0 :: a1 :: a2 :: some x :: t) H) : gName 3 x (a0 :: a1 :: a2 :: a3 :: t) H QG := q
theorem y_wname3 (q : QG (a0 :: a1 :: a2 :: some x :: t) H) : gName 3 x (wipe (a0 :: a1 :: a2 :: a3 :: t) [3]) H fun σ2 H2 => wipe σ2 [3] = wipe (a0 :: a1 :: a2 :: a3 :: t) [3] ∧ QG σ2 H2 := ⟨rfl, q⟩
theorem y_var4 (q : Q v H) : tVar 4 (a0 :: a1 :: a2 :: a3 :: some v :: t) H Q := ⟨v, rfl, q⟩
theorem y_set4 (q : te (a0 :: a1 :: a2 :: a3 :: a4 :: t) H fun x H1 => n (a0 :: a1 :: a2 :: a3 :: some x :: t) H1) : tAsg te (gName 4) ⟨n, rt, bk, ct⟩ (a0 :: a1 :: a2 :: a3 :: a4 :: t) H := q
theorem y_gname4 (q : QG (a0 :: a1 :: a2 :: a3 :: some x :: t) H) : gName 4 x (a0 :: a1 :: a2 :: a3 :: a4 :: t) H QG := q
theorem y_wname4 (q : QG (a0 :: a1 :: a2 :: a3 :: some x :: t) H) : gName 4 x (wipe (a0 :: a1 :: a2 :: a3 :: a4 :: t) [4]) H fun σ2 H2 => wipe σ2 [4] = wipe (a0 :: a1 :: a2 :: a3 :: a4 :: t) [4] ∧ QG σ2 H2 := ⟨rfl, q⟩
theorem y_var5 (q : Q v H) : tVar 5 (a0 :: a1 :: a2 :: a3 :: a4 :: some v :: t) H Q := ⟨v, rfl, q⟩
theorem y_set5 (q : te (a0 :: a1 :: a2 :: a3 :: a4 :: a5 :: t) H fun x H1 => n (a0 :: a1 :: a2 :: a3 :: a4 :: some x :: t) H1) : tAsg te (gName 5) ⟨n, rt, bk, ct⟩ (a0 :: a1 :: a2 :: a3 :: a4 :: a5 :: t) H := q
theorem y_gname5 (q : QG (a0 :: a1 :: a2 :: a3 :: a4 :: some x :: t) H) : gName 5 x (a0 :: a1 :: a2 :: a3 :: a4 :: a5 :: t) H QG := q
theorem y_wname5 (q : QG (a0 :: a1 :: a2 :: a3 :: a4 :: some x :: t) H) : gName 5 x (wipe (a0 :: a1 :: a2 :: a3 :: a4 :: a5 :: t) [5]) H fun σ2 H2 => wipe σ2 [5] = wipe (a0 :: a1 :: a2 :: a3 :: a4 :: a5 :: t) [5] ∧ QG σ2 H2 := ⟨rfl, q⟩
theorem y_var6 (q : Q v H) : tVar 6 (a0 :: a1 :: a2 :: a3 :: a4 :: a5 :: some v :: t) H Q := ⟨v, rfl, q⟩
theorem y_set6 (q : te (a0 :: a1 :: a2 :: a3 :: a4 :: a5 :: a6 :: t) H fun x H1 => n (a0 :: a1 :: a2 :: a3 :: a4 :: a5 :: some x :: t) H1) : tAsg te (gName 6) ⟨n, rt, bk, ct⟩ (a0 :: a1 :: a2 :: a3 :: a4 :: a5 :: a6 :: t) H := q
theorem y_gname6 (q : QG (a0 :: a1 :: a2 :: a3 :: a4 :: a5 :: some x :: t) H) : gName 6 x (a0 :: a1 :: a2 :: a3 :: a4 :: a5 :: a6 :: t) H QG := q
theorem y_wname6 (q : QG (a0 :: a1 :: a2 :: a3 :: a4 :: a5 :: some x :: t) H) : gName 6 x (wipe (a0 :: a1 :: a2 :: a3 :: a4 :: a5 :: a6 :: t) [6]) H fun σ2 H2 => wipe σ2 [6] = wipe (a0 :: a1 :: a2 :: a3 :: a4 :: a5 :: a6 :: t) [6] ∧ QG σ2 H2 := ⟨rfl, q⟩
theorem y_var7 (q : Q v H) : tVar 7 (a0 :: a1 :: a2 :: a3 :: a4 :: a5 :: a6 :: some v :: t) H Q := ⟨v, rfl, q⟩
theorem y_set7 (q : te (a0 :: a1 :: a2 :: a3 :: a4 :: a5 :: a6 :: a7 :: t) H fun x H1 => n (a0 :: a1 :: a2 :: a3 :: a4 :: a5 :: a6 :: some x :: t) H1) : tAsg te (gName 7) ⟨n, rt, bk, ct⟩ (a0 :: a1 :: a2 :: a3 :: a4 :: a5 :: a6 :: a7 :: t) H := q
theorem y_gname7 (q : QG (a0 :: a1 :: a2 :: a3 :: a4 :: a5 :: a6 :: some x :: t) H) : gName 7 x (a0 :: a1 :: a2 :: a3 :: a4 :: a5 :: a6 :: a7 :: t) H QG := q
theorem y_wname7 (q : QG (a0 :: a1 :: a2 :: a3 :: a4 :: a5 :: a6 :: some x :: t) H) : gName 7 x (wipe (a0 :: a1 :: a2 :: a3 :: a4 :: a5 :: a6 :: a7 :: t) [7]) H fun σ2 H2 => wipe σ2 [7] = wipe (a0 :: a1 :: a2 :: a3 :: a4 :: a5 :: a6 :: a7 :: t) [7] ∧ QG σ2 H2 := ⟨rfl, q⟩
theorem y_var8 (q : Q v H) : tVar 8 (a0 :: a1 :: a2 :: a3 :: a4 :: a5 :: a6 :: a7 :: some v :: t) H Q := ⟨v, rfl, q⟩
theorem y_set8 (q : te (a0 :: a1 :: a2 :: a3 :: a4 :: a5 :: a6 :: a7 :: a8 :: t) H fun x H1 => n (a0 :: a1 :: a2 :: a3 :: a4 :: a5 :: a6 :: a7 :: some x :: t) H1) : tAsg te (gName 8) ⟨n, rt, bk, ct⟩ (a0 :: a1 :: a2 :: a3 :: a4 :: a5 :: a6 :: a7 :: a8 :: t) H := q
theorem y_gname8 (q : QG (a0 :: a1 :: a2 :: a3 :: a4 :: a5 :: a6 :: a7 :: some x :: t) H) : gName 8 x (a0 :: a1 :: a2 :: a3 :: a4 :: a5 :: a6 :: a7 :: a8 :: t) H QG := q
theorem y_wname8 (q : QG (a0 :: a1 :: a2 :: a3 :: a4 :: a5 :: a6 :: a7 :: some x :: t) H) : gName 8 x (wipe (a0 :: a1 :: a2 :: a3 :: a4 :: a5 :: a6 :: a7 :: a8 :: t) [8]) H fun σ2 H2 => wipe σ2 [8] = wipe (a0 :: a1 :: a2 :: a3 :: a4 :: a5 :: a6 :: a7 :: a8 :: t) [8] ∧ QG σ2 H2 := ⟨rfl, q⟩
theorem y_var9 (q : Q v H) : tVar 9 (a0 :: a1 :: a2 :: a3 :: a4 :: a5 :: a6 :: a7 :: a8 :: some v :: t) H Q := ⟨v, rfl, q⟩
theorem y_set9 (q : te (a0 :: a1 :: a2 :: a3 :: a4 :: a5 :: a6 :: a7 :: a8 :: a9 :: t) H fun x H1 => n (a0 :: a1 :: a2 :: a3 :: a4 :: a5 :: a6 :: a7 :: a8 :: some x :: t) H1) : tAsg te (gName 9) ⟨n, rt, bk, ct⟩ (a0 :: a1 :: a2 :: a3 :: a4 :: a5 :: a6 :: a7 :: a8 :: a9 :: t) H := q
theorem y_gname9 (q : QG (a0 :: a1 :: a2 :: a3 :: a4 :: a5 :: a6 :: a7 :: a8 :: some x :: t) H) : gName 9 x (a0 :: a1 :: a2 :: a3 :: a4 :: a5 :: a6 :: a7 :: a8 :: a9 :: t) H QG := q
theorem y_wname9 (q : QG (a0 :: a1 :: a2 :: a3 :: a4 :: a5 :: a6 :: a7 :: a8 :: some x :: t) H) : gName 9 x (wipe (a0 :: a1 :: a2 :: a3 :: a4 :: a5 :: a6 :: a7 :: a8 :: a9 :: t) [9]) H fun σ2 H2 => wipe σ2 [9] = wipe (a0 :: a1 :: a2 :: a3 :: a4 :: a5 :: a6 :: a7 :: a8 :: a9 :: t) [9] ∧ QG σ2 H2 := ⟨rfl, q⟩
theorem y_var10 (q : Q v H) : tVar 10 (a0 :: a1 :: a2 :: a3 :: a4 :: a5 :: a6 :: a7 :: a8 :: a9 :: some v :: t) H Q := ⟨v, rfl, q⟩
theorem y_set10 (q : te (a0 :: a1 :: a2 :: a3 :: a4 :: a5 :: a6 :: a7 :: a8 :: a9 :: a10 :: t) H fun x H1 => n (a0 :: a1 :: a2 :: a3 :: a4 :: a5 :: a6 :: a7 :: a8 :: a9 :: some x :: t) H1) : tAsg te (gName 10) ⟨n, rt, bk, ct⟩ (a0 :: a1 :: a2 :: a3 :: a4 :: a5 :: a6 :: a7 :: a8 :: a9 :: a10 :: t) H := q
theorem y_gname10 (q : QG (a0 :: a1 :: a2 :: a3 :: a4 :: a5 :: a6 :: a7 :: a8 :: a9 :: some x :: t) H) : gName 10 x (a0 :: a1 :: a2 :: a3 :: a4 :: a5 :: a6 :: a7 :: a8 :: a9 :: a10 :: t) H QG := q
theorem y_wname10 (q : QG (a0 :: a1 :: a2 :: a3 :: a4 :: a5 :: a6 :: a7 :: a8 :: a9 :: some x :: t) H) : gName 10 x (wipe (a0 :: a1 :: a2 :: a3 :: a4 :: a5 :: a6 :: a7 :: a8 :: a9 :: a10 :: t) [10]) H fun σ2 H2 => wipe σ2 [10] = wipe (a0 :: a1 :: a2 :: a3 :: a4 :: a5 :: a6 :: a7 :: a8 :: a9 :: a10 :: t) [10] ∧ QG σ2 H2 := ⟨rfl, q⟩
theorem y_var11 (q : Q v H) : tVar 11 (a0 :: a1 :: a2 :: a3 :: a4 :: a5 :: a6 :: a7 :: a8 :: a9 :: a10 :: some v :: t) H Q := ⟨v, rfl, q⟩
theorem y_set11 (q : te (a0 :: a1 :: a2 :: a3 :: a4 :: a5 :: a6 :: a7 :: a8 :: a9 :: a10 :: a11 :: t) H fun x H1 => n (a0 :: a1 :: a2 :: a3 :: a4 :: a5 :: a6 :: a7 :: a8 :: a9 :: a10 :: some x :: t) H1) : tAsg te (gName 11) ⟨n, rt, bk, ct⟩ (a0 :: a1 :: a2 :: a3 :: a4 :: a5 :: a6 :: a7 :: a8 :: a9 :: a10 :: a11 :: t) H := q
theorem y_gname11 (q : QG (a0 :: a1 :: a2 :: a3 :: a4 :: a5 :: a6 :: a7 :: a8 :: a9 :: a10 :: some x :: t) H) : gName 11 x (a0 :: a1 :: a2 :: a3 :: a4 :: a5 :: a6 :: a7 :: a8 :: a9 :: a10 :: a11 :: t) H QG := q
theorem y_wname11 (q : QG (a0 :: a1 :: a2 :: a3 :: a4 :: a5 :: a6 :: a7 :: a8 :: a9 :: a10 :: some x :: t) H) : gName 11 x (wipe (a0 :: a1 :: a2 :: a3 :: a4 :: a5 :: a6 :: a7 :: a8 :: a9 :: a10 :: a11 :: t) [11]) H fun σ2 H2 => wipe σ2 [11] = wipe (a0 :: a1 :: a2 :: a3 :: a4 :: a5 :: a6 :: a7 :: a8 :: a9 :: a10 :: a11 :: t) [11] ∧ QG σ2 H2 := ⟨rfl, q⟩
theorem y_var12 (q : Q v H) : tVar 12 (a0 :: a1 :: a2 :: a3 :: a4 :: a5 :: a6 :: a7 :: a8 :: a9 :: a10 :: a11 :: some v :: t) H Q := ⟨v, rfl, q⟩
theorem y_set12 (q : te (a0 :: a1 :: a2 :: a3 :: a4 :: a5 :: a6 :: a7 :: a8 :: a9 :: a10 :: a11 :: a12 :: t) H fun x H1 => n (a0 :: a1 :: a2 :: a3 :: a4 :: a5 :: a6 :: a7 :: a8 :: a9 :: a10 :: a11 :: some x :: t) H1) : tAsg te (gName 12) ⟨n, rt, bk, ct⟩ (a0 :: a1 :: a2 :: a3 :: a4 :: a5 :: a6 :: a7 :: a8 :: a9 :: a10 :: a11 :: a12 :: t) H := q
theorem y_gname12 (q : QG (a0 :: a1 :: a2 :: a3 :: a4 :: a5 :: a6 :: a7 :: a8 :: a9 :: a10 :: a11 :: some x :: t) H) : gName 12 x (a0 :: a1 :: a2 :: a3 :: a4 :: a5 :: a6 :: a7 :: a8 :: a9 :: a10 :: a11 :: a12 :: t) H QG := q
theorem y_wname12 (q : QG (a0 :: a1 :: a2 :: a3 :: a4 :: a5 :: a6 :: a7 :: a8 :: a9 :: a10 :: a11 :: some x :: t) H) : gName 12 x (wipe (a0 :: a1 :: a2 :: a3 :: a4 :: a5 :: a6 :: a7 :: a8 :: a9 :: a10 :: a11 :: a12 :: t) [12]) H fun σ2 H2 => wipe σ2 [12] = wipe (a0 :: a1 :: a2 :: a3 :: a4 :: a5 :: a6 :: a7 :: a8 :: a9 :: a10 :: a11 :: a12 :: t) [12] ∧ QG σ2 H2 := ⟨rfl, q⟩
theorem y_var13 (q : Q v H) : tVar 13 (a0 :: a1 :: a2 :: a3 :: a4 :: a5 :: a6 :: a7 :: a8 :: a9 :: a10 :: a11 :: a12 :: some v :: t) H Q := ⟨v, rfl, q⟩
theorem y_set13 (q : te (a0 :: a1 :: a2 :: a3 :: a4 :: a5 :: a6 :: a7 :: a8 :: a9 :: a10 :: a11 :: a12 :: a13 :: t) H fun x H1 => n (a0 :: a1 :: a2 :: a3 :: a4 :: a5 :: a6 :: a7 :: a8 :: a9 :: a10 :: a11 :: a12 :: some x :: t) H1) : tAsg te (gName 13) ⟨n, rt, bk, ct⟩ (a0 :: a1 :: a2 :: a3 :: a4 :: a5 :: a6 :: a7 :: a8 :: a9 :: a10 :: a11 :: a12 :: a13 :: t) H := q
theorem y_gname13 (q : QG (a0 :: a1 :: a2 :: a3 :: a4 :: a5 :: a6 :: a7 :: a8 :: a9 :: a10 :: a11 :: a12 :: some x :: t) H) : gName 13 x (a0 :: a1 :: a2 :: a3 :: a4 :: a5 :: a6 :: a7 :: a8 :: a9 :: a10 :: a11 :: a12 :: a13 :: t) H QG := q
theorem y_wname13 (q : QG (a0 :: a1 :: a2 :: a3 :: a4 :: a5 :: a6 :: a7 :: a8 :: a9 :: a10 :: a11 :: a12 :: some x :: t) H) : gName 13 x (wipe (a0 :: a1 :: a2 :: a3 :: a4 :: a5 :: a6 :: a7 :: a8 :: a9 :: a10 :: a11 :: a12 :: a13 :: t) [13]) H fun σ2 H2 => wipe σ2 [13] = wipe (a0 :: a1 :: a2 :: a3 :: a4 :: a5 :: a6 :: a7 :: a8 :: a9 :: a10 :: a11 :: a12 :: a13 :: t) [13] ∧ QG σ2 H2 := ⟨rfl, q⟩
theorem y_var14 (q : Q v H) : tVar 14 (a0 :: a1 :: a2 :: a3 :: a4 :: a5 :: a6 :: a7 :: a8 :: a9 :: a10 :: a11 :: a12 :: a13 :: some v :: t) H Q := ⟨v, rfl, q⟩
theorem y_set14 (q : te (a0 :: a1 :: a2 :: a3 :: a4 :: a5 :: a6 :: a7 :: a8 :: a9 :: a10 :: a11 :: a12 :: a13 :: a14 :: t) H fun x H1 => n (a0 :: a1 :: a2 :: a3 :: a4 :: a5 :: a6 :: a7 :: a8 :: a9 :: a10 :: a11 :: a12 :: a13 :: some x :: t) H1) : tAsg te (gName 14) ⟨n, rt, bk, ct⟩ (a0 :: a1 :: a2 :: a3 :: a4 :: a5 :: a6 :: a7 :: a8 :: a9 :: a10 :: a11 :: a12 :: a13 :: a14 :: t) H := q
theorem y_gname14 (q : QG (a0 :: a1 :: a2 :: a3 :: a4 :: a5 :: a6 :: a7 :: a8 :: a9 :: a10 :: a11 :: a12 :: a13 :: some x :: t) H) : gName 14 x (a0 :: a1 :: a2 :: a3 :: a4 :: a5 :: a6 :: a7 :: a8 :: a9 :: a10 :: a11 :: a12 :: a13 :: a14 :: t) H QG := q
theorem y_wname14 (q : QG (a0 :: a1 :: a2 :: a3 :: a4 :: a5 :: a6 :: a7 :: a8 :: a9 :: a10 :: a11 :: a12 :: a13 :: some x :: t) H) : gName 14 x (wipe (a0 :: a1 :: a2 :: a3 :: a4 :: a5 :: a6 :: a7 :: a8 :: a9 :: a10 :: a11 :: a12 :: a13 :: a14 :: t) [14]) H fun σ2 H2 => wipe σ2 [14] = wipe (a0 :: a1 :: a2 :: a3 :: a4 :: a5 :: a6 :: a7 :: a8 :: a9 :: a10 :: a11 :: a12 :: a13 :: a14 :: t) [14] ∧ QG σ2 H2 := ⟨rfl, q⟩
theorem y_var15 (q : Q v H) : tVar 15 (a0 :: a1 :: a2 :: a3 :: a4 :: a5 :: a6 :: a7 :: a8 :: a9 :: a10 :: a11 :: a12 :: a13 :: a14 :: some v :: t) H Q := ⟨v, rfl, q⟩
theorem y_set15 (q : te (a0 :: a1 :: a2 :: a3 :: a4 :: a5 :: a6 :: a7 :: a8 :: a9 :: a10 :: a11 :: a12 :: a13 :: a14 :: a15 :: t) H fun x H1 => n (a0 :: a1 :: a2 :: a3 :: a4 :: a5 :: a6 :: a7 :: a8 :: a9 :: a10 :: a11 :: a12 :: a13 :: a14 :: some x :: t) H1) : tAsg te (gName 15) ⟨n, rt, bk, ct⟩ (a0 :: a1 :: a2 :: a3 :: a4 :: a5 :: a6 :: a7 :: a8 :: a9 :: a10 :: a11 :: a12 :: a13 :: a14 :: a15 :: t) H := q
theorem y_gname15 (q : QG (a0 :: a1 :: a2 :: a3 :: a4 :: a5 :: a6 :: a7 :: a8 :: a9 :: a10 :: a11 :: a12 :: a13 :: a14 :: some x :: t) H) : gName 15 x (a0 :: a1 :: a2 :: a3 :: a4 :: a5 :: a6 :: a7 :: a8 :: a9 :: a10 :: a11 :: a12 :: a13 :: a14 :: a15 :: t) H QG := q
theorem y_wname15 (q : QG (a0 :: a1 :: a2 :: a3 :: a4 :: a5 :: a6 :: a7 :: a8 :: a9 :: a10 :: a11 :: a12 :: a13 :: a14 :: some x :: t) H) : gName 15 x (wipe (a0 :: a1 :: a2 :: a3 :: a4 :: a5 :: a6 :: a7 :: a8 :: a9 :: a10 :: a11 :: a12 :: a13 :: a14 :: a15 :: t) [15]) H fun σ2 H2 => wipe σ2 [15] = wipe (a0 :: a1 :: a2 :: a3 :: a4 :: a5 :: a6 :: a7 :: a8 :: a9 :: a10 :: a11 :: a12 :: a13 :: a14 :: a15 :: t) [15] ∧ QG σ2 H2 := ⟨rfl, q⟩
theorem y_var16 (q : Q v H) : tVar 16 (a0 :: a1 :: a2 :: a3 :: a4 :: a5 :: a6 :: a7 :: a8 :: a9 :: a10 :: a11 :: a12 :: a13 :: a14 :: a15 :: some v :: t) H Q := ⟨v, rfl, q⟩
theorem y_set16 (q : te (a0 :: a1 :: a2 :: a3 :: a4 :: a5 :: a6 :: a7 :: a8 :: a9 :: a10 :: a11 :: a12 :: a13 :: a14 :: a15 :: a16 :: t) H fun x H1 => n (a0 :: a1 :: a2 :: a3 :: a4 :: a5 :: a6 :: a7 :: a8 :: a9 :: a10 :: a11 :: a12 :: a13 :: a14 :: a15 :: some x :: t) H1) : tAsg te (gName 16) ⟨n, rt, bk, ct⟩ (a0 :: a1 :: a2 :: a3 :: a4 :: a5 :: a6 :: a7 :: a8 :: a9 :: a10 :: a11 :: a12 :: a13 :: a14 :: a15 :: a16 :: t) H := q
theorem y_gname16 (q : QG (a0 :: a1 :: a2 :: a3 :: a4 :: a5 :: a6 :: a7 :: a8 :: a9 :: a10 :: a11 :: a12 :: a13 :: a14 :: a15 :: some x :: t) H) : gName 16 x (a0 :: a1 :: a2 :: a3 :: a4 :: a5 :: a6 :: a7 :: a8 :: a9 :: a10 :: a11 :: a12 :: a13 :: a14 :: a15 :: a16 :: t) H QG := q
theorem y_wname16 (q : QG (a0 :: a1 :: a2 :: a3 :: a4 :: a5 :: a6 :: a7 :: a8 :: a9 :: a10 :: a11 :: a12 :: a13 :: a14 :: a15 :: some x :: t) H) : gName 16 x (wipe (a0 :: a1 :: a2 :: a3 :: a4 :: a5 :: a6 :: a7 :: a8 :: a9 :: a10 :: a11 :: a12 :: a13 :: a14 :: a15 :: a16 :: t) [16]) H fun σ2 H2 => wipe σ2 [16] = wipe (a0 :: a1 :: a2 :: a3 :: a4 :: a5 :: a6 :: a7 :: a8 :: a9 :: a10 :: a11 :: a12 :: a13 :: a14 :: a15 :: a16 :: t) [16] ∧ QG σ2 H2 := ⟨rfl, q⟩
theorem y_var17 (q : Q v H) : tVar 17 (a0 :: a1 :: a2 :: a3 :: a4 :: a5 :: a6 :: a7 :: a8 :: a9 :: a10 :: a11 :: a12 :: a13 :: a14 :: a15 :: a16 :: some v :: t) H Q := ⟨v, rfl, q⟩
theorem y_set17 (q : te (a0 :: a1 :: a2 :: a3 :: a4 :: a5 :: a6 :: a7 :: a8 :: a9 :: a10 :: a11 :: a12 :: a13 :: a14 :: a15 :: a16 :: a17 :: t) H fun x H1 => n (a0 :: a1 :: a2 :: a3 :: a4 :: a5 :: a6 :: a7 :: a8 :: a9 :: a10 :: a11 :: a12 :: a13 :: a14 :: a15 :: a16 :: some x :: t) H1) : tAsg te (gName 17) ⟨n, rt, bk, ct⟩ (a0 :: a1 :: a2 :: a3 :: a4 :: a5 :: a6 :: a7 :: a8 :: a9 :: a10 :: a11 :: a12 :: a13 :: a14 :: a15 :: a16 :: a17 :: t) H := q
theorem y_gname17 (q : QG (a0 :: a1 :: a2 :: a3 :: a4 :: a5 :: a6 :: a7 :: a8 :: a9 :: a10 :: a11 :: a12 :: a13 :: a14 :: a15 :: a16 :: some x :: t) H) : gName 17 x (a0 :: a1 :: a2 :: a3 :: a4 :: a5 :: a6 :: a7 :: a8 :: a9 :: a10 :: a11 :: a12 :: a13 :: a14 :: a15 :: a16 :: a17 :: t) H QG := q
theorem y_wname17 (q : QG (a0 :: a1 :: a2 :: a3 :: a4 :: a5 :: a6 :: a7 :: a8 :: a9 :: a10 :: a11 :: a12 :: a13 :: a14 :: a15 :: a16 :: some x :: t) H) : gName 17 x (wipe (a0 :: a1 :: a2 :: a3 :: a4 :: a5 :: a6 :: a7 :: a8 :: a9 :: a10 :: a11 :: a12 :: a13 :: a14 :: a15 :: a16 :: a17 :: t) [17]) H fun σ2 H2 => wipe σ2 [17] = wipe (a0 :: a1 :: a2 :: a3 :: a4 :: a5 :: a6 :: a7 :: a8 :: a9 :: a10 :: a11 :: a12 :: a13 :: a14 :: a15 :: a16 :: a17 :: t) [17] ∧ QG σ2 H2 := ⟨rfl, q⟩
theorem y_var18 (q : Q v H) : tVar 18 (a0 :: a1 :: a2 :: a3 :: a4 :: a5 :: a6 :: a7 :: a8 :: a9 :: a10 :: a11 :: a12 :: a13 :: a14 :: a15 :: a16 :: a17 :: some v :: t) H Q := ⟨v, rfl, q⟩
theorem y_set18 (q : te (a0 :: a1 :: a2 :: a3 :: a4 :: a5 :: a6 :: a7 :: a8 :: a9 :: a10 :: a11 :: a12 :: a13 :: a14 :: a15 :: a16 :: a17 :: a18 :: t) H fun x H1 => n (a0 :: a1 :: a2 :: a3 :: a4 :: a5 :: a6 :: a7 :: a8 :: a9 :: a10 :: a11 :: a12 :: a13 :: a14 :: a15 :: a16 :: a17 :: some x :: t) H1) : tAsg te (gName 18) ⟨n, rt, bk, ct⟩ (a0 :: a1 :: a2 :: a3 :: a4 :: a5 :: a6 :: a7 :: a8 :: a9 :: a10 :: a11 :: a12 :: a13 :: a14 :: a15 :: a16 :: a17 :: a18 :: t) H := q
theorem y_gname18 (q : QG (a0 :: a1 :: a2 :: a3 :: a4 :: a5 :: a6 :: a7 :: a8 :: a9 :: a10 :: a11 :: a12 :: a13 :: a14 :: a15 :: a16 :: a17 :: some x :: t) H) : gName 18 x (a0 :: a1 :: a2 :: a3 :: a4 :: a5 :: a6 :: a7 :: a8 :: a9 :: a10 :: a11 :: a12 :: a13 :: a14 :: a15 :: a16 :: a17 :: a18 :: t) H QG := q
theorem y_wname18 (q : QG (a0 :: a1 :: a2 :: a3 :: a4 :: a5 :: a6 :: a7 :: a8 :: a9 :: a10 :: a11 :: a12 :: a13 :: a14 :: a15 :: a16 :: a17 :: some x :: t) H) : gName 18 x (wipe (a0 :: a1 :: a2 :: a3 :: a4 :: a5 :: a6 :: a7 :: a8 :: a9 :: a10 :: a11 :: a12 :: a13 :: a14 :: a15 :: a16 :: a17 :: a18 :: t) [18]) H fun σ2 H2 => wipe σ2 [18] = wipe (a0 :: a1 :: a2 :: a3 :: a4 :: a5 :: a6 :: a7 :: a8 :: a9 :: a10 :: a11 :: a12 :: a13 :: a14 :: a15 :: a16 :: a17 :: a18 :: t) [18] ∧ QG σ2 H2 := ⟨rfl, q⟩
theorem y_var19 (q : Q v H) : tVar 19 (a0 :: a1 :: a2 :: a3 :: a4 :: a5 :: a6 :: a7 :: a8 :: a9 :: a10 :: a11 :: a12 :: a13 :: a14 :: a15 :: a16 :: a17 :: a18 :: some v :: t) H Q := ⟨v, rfl, q⟩
theorem y_set19 (q : te (a0 :: a1 :: a2 :: a3 :: a4 :: a5 :: a6 :: a7 :: a8 :: a9 :: a10 :: a11 :: a12 :: a13 :: a14 :: a15 :: a16 :: a17 :: a18 :: a19 :: t) H fun x H1 => n (a0 :: a1 :: a2 :: a3 :: a4 :: a5 :: a6 :: a7 :: a8 :: a9 :: a10 :: a11 :: a12 :: a13 :: a14 :: a15 :: a16 :: a17 :: a18 :: some x :: t) H1) : tAsg te (gName 19) ⟨n, rt, bk, ct⟩ (a0 :: a1 :: a2 :: a3 :: a4 :: a5 :: a6 :: a7 :: a8 :: a9 :: a10 :: a11 :: a12 :: a13 :: a14 :: a15 :: a16 :: a17 :: a18 :: a19 :: t) H := q
theorem y_gname19 (q : QG (a0 :: a1 :: a2 :: a3 :: a4 :: a5 :: a6 :: a7 :: a8 :: a9 :: a10 :: a11 :: a12 :: a13 :: a14 :: a15 :: a16 :: a17 :: a18 :: some x :: t) H) : gName 19 x (a0 :: a1 :: a2 :: a3 :: a4 :: a5 :: a6 :: a7 :: a8 :: a9 :: a10 :: a11 :: a12 :: a13 :: a14 :: a15 :: a16 :: a17 :: a18 :: a19 :: t) H QG := q
theorem y_wname19 (q : QG (a0 :: a1 :: a2 :: a3 :: a4 :: a5 :: a6 :: a7 :: a8 :: a9 :: a10 :: a11 :: a12 :: a13 :: a14 :: a15 :: a16 :: a17 :: a18 :: some x :: t) H) : gName 19 x (wipe (a0 :: a1 :: a2 :: a3 :: a4 :: a5 :: a6 :: a7 :: a8 :: a9 :: a10 :: a11 :: a12 :: a13 :: a14 :: a15 :: a16 :: a17 :: a18 :: a19 :: t) [19]) H fun σ2 H2 => wipe σ2 [19] = wipe (a0 :: a1 :: a2 :: a3 :: a4 :: a5 :: a6 :: a7 :: a8 :: a9 :: a10 :: a11 :: a12 :: a13 :: a14 :: a15 :: a16 :: a17 :: a18 :: a19 :: t) [19] ∧ QG σ2 H2 := ⟨rfl, q⟩
theorem y_var20 (q : Q v H) : tVar 20 (a0 :: a1 :: a2 :: a3 :: a4 :: a5 :: a6 :: a7 :: a8 :: a9 :: a10 :: a11 :: a12 :: a13 :: a14 :: a15 :: a16 :: a17 :: a18 :: a19 :: some v :: t) H Q := ⟨v, rfl, q⟩
theorem y_set20 (q : te (a0 :: a1 :: a2 :: a3 :: a4 :: a5 :: a6 :: a7 :: a8 :: a9 :: a10 :: a11 :: a12 :: a13 :: a14 :: a15 :: a16 :: a17 :: a18 :: a19 :: a20 :: t) H fun x H1 => n (a0 :: a1 :: a2 :: a3 :: a4 :: a5 :: a6 :: a7 :: a8 :: a9 :: a10 :: a11 :: a12 :: a13 :: a14 :: a15 :: a16 :: a17 :: a18 :: a19 :: some x :: t) H1) : tAsg te (gName 20) ⟨n, rt, bk, ct⟩ (a0 :: a1 :: a2 :: a3 :: a4 :: a5 :: a6 :: a7 :: a8 :: a9 :: a10 :: a11 :: a12 :: a13 :: a14 :: a15 :: a16 :: a17 :: a18 :: a19 :: a20 :: t) H := q
theorem y_gname20 (q : QG (a0 :: a1 :: a2 :: a3 :: a4 :: a5 :: a6 :: a7 :: a8 :: a9 :: a10 :: a11 :: a12 :: a13 :: a14 :: a15 :: a16 :: a17 :: a18 :: a19 :: some x :: t) H) : gName 20 x (a0 :: a1 :: a2 :: a3 :: a4 :: a5 :: a6 :: a7 :: a8 :: a9 :: a10 :: a11 :: a12 :: a13 :: a14 :: a15 :: a16 :: a17 :: a18 :: a19 :: a20 :: t) H QG := q
theorem y_wname20 (q : QG (a0 :: a1 :: a2 :: a3 :: a4 :: a5 :: a6 :: a7 :: a8 :: a9 :: a10 :: a11 :: a12 :: a13 :: a14 :: a15 :: a16 :: a17 :: a18 :: a19 :: some x :: t) H) : gName 20 x (wipe (a0 :: a1 :: a2 :: a3 :: a4 :: a5 :: a6 :: a7 :: a8 :: a9 :: a10 :: a11 :: a12 :: a13 :: a14 :: a15 :: a16 :: a17 :: a18 :: a19 :: a20 :: t) [20]) H fun σ2 H2 => wipe σ2 [20] = wipe (a0 :: a1 :: a2 :: a3 :: a4 :: a5 :: a6 :: a7 :: a8 :: a9 :: a10 :: a11 :: a12 :: a13 :: a14 :: a15 :: a16 :: a17 :: a18 :: a19 :: a20 :: t) [20] ∧ QG σ2 H2 := ⟨rfl, q⟩
theorem y_var21 (q : Q v H) : tVar 21 (a0 :: a1 :: a2 :: a3 :: a4 :: a5 :: a6 :: a7 :: a8 :: a9 :: a10 :: a11 :: a12 :: a13 :: a14 :: a15 :: a16 :: a17 :: a18 :: a19 :: a20 :: some v :: t) H Q := ⟨v, rfl, q⟩
theorem y_set21 (q : te (a0 :: a1 :: a2 :: a3 :: a4 :: a5 :: a6 :: a7 :: a8 :: a9 :: a10 :: a11 :: a12 :: a13 :: a14 :: a15 :: a16 :: a17 :: a18 :: a19 :: a20 :: a21 :: t) H fun x H1 => n (a0 :: a1 :: a2 :: a3 :: a4 :: a5 :: a6 :: a7 :: a8 :: a9 :: a10 :: a11 :: a12 :: a13 :: a14 :: a15 :: a16 :: a17 :: a18 :: a19 :: a20 :: some x :: t) H1) : tAsg te (gName 21) ⟨n, rt, bk, ct⟩ (a0 :: a1 :: a2 :: a3 :: a4 :: a5 :: a6 :: a7 :: a8 :: a9 :: a10 :: a11 :: a12 :: a13 :: a14 :: a15 :: a16 :: a17 :: a18 :: a19 :: a20 :: a21 :: t) H := q
theorem y_gname21 (q : QG (a0 :: a1 :: a2 :: a3 :: a4 :: a5 :: a6 :: a7 :: a8 :: a9 :: a10 :: a11 :: a12 :: a13 :: a14 :: a15 :: a16 :: a17 :: a18 :: a19 :: a20 :: some x :: t) H) : gName 21 x (a0 :: a1 :: a2 :: a3 :: a4 :: a5 :: a6 :: a7 :: a8 :: a9 :: a10 :: a11 :: a12 :: a13 :: a14 :: a15 :: a16 :: a17 :: a18 :: a19 :: a20 :: a21 :: t) H QG := q
theorem y_wname21 (q : QG (a0 :: a1 :: a2 :: a3 :: a4 :: a5 :: a6 :: a7 :: a8 :: a9 :: a10 :: a11 :: a12 :: a13 :: a14 :: a15 :: a16 :: a17 :: a18 :: a19 :: a20 :: some x :: t) H) : gName 21 x (wipe (a0 :: a1 :: a2 :: a3 :: a4 :: a5 :: a6 :: a7 :: a8 :: a9 :: a10 :: a11 :: a12 :: a13 :: a14 :: a15 :: a16 :: a17 :: a18 :: a19 :: a20 :: a21 :: t) [21]) H fun σ2 H2 => wipe σ2 [21] = wipe (a0 :: a1 :: a2 :: a3 :: a4 :: a5 :: a6 :: a7 :: a8 :: a9 :: a10 :: a11 :: a12 :: a13 :: a14 :: a15 :: a16 :: a17 :: a18 :: a19 :: a20 :: a21 :: t) [21] ∧ QG σ2 H2 := ⟨rfl, q⟩
theorem y_var22 (q : Q v H) : tVar 22 (a0 :: a1 :: a2 :: a3 :: a4 :: a5 :: a6 :: a7 :: a8 :: a9 :: a10 :: a11 :: a12 :: a13 :: a14 :: a15 :: a16 :: a17 :: a18 :: a19 :: a20 :: a21 :: some v :: t) H Q := ⟨v, rfl, q⟩
theorem y_set22 (q : te (a0 :: a1 :: a2 :: a3 :: a4 :: a5 :: a6 :: a7 :: a8 :: a9 :: a10 :: a11 :: a12 :: a13 :: a14 :: a15 :: a16 :: a17 :: a18 :: a19 :: a20 :: a21 :: a22 :: t) H fun x H1 => n (a0 :: a1 :: a2 :: a3 :: a4 :: a5 :: a6 :: a7 :: a8 :: a9 :: a10 :: a11 :: a12 :: a13 :: a14 :: a15 :: a16 :: a17 :: a18 :: a19 :: a20 :: a21 :: some x :: t) H1) : tAsg te (gName 22) ⟨n, rt, bk, ct⟩ (a0 :: a1 :: a2 :: a3 :: a4 :: a5 :: a6 :: a7 :: a8 :: a9 :: a10 :: a11 :: a12 :: a13 :: a14 :: a15 :: a16 :: a17 :: a18 :: a19 :: a20 :: a21 :: a22 :: t) H := q
theorem y_gname22 (q : QG (a0 :: a1 :: a2 :: a3 :: a4 :: a5 :: a6 :: a7 :: a8 :: a9 :: a10 :: a11 :: a12 :: a13 :: a14 :: a15 :: a16 :: a17 :: a18 :: a19 :: a20 :: a21 :: some x :: t) H) : gName 22 x (a0 :: a1 :: a2 :: a3 :: a4 :: a5 :: a6 :: a7 :: a8 :: a9 :: a10 :: a11 :: a12 :: a13 :: a14 :: a15 :: a16 :: a17 :: a18 :: a19 :: a20 :: a21 :: a22 :: t) H QG := q
theorem y_wname22 (q : QG (a0 :: a1 :: a2 :: a3 :: a4 :: a5 :: a6 :: a7 :: a8 :: a9 :: a10 :: a11 :: a12 :: a13 :: a14 :: a15 :: a16 :: a17 :: a18 :: a19 :: a20 :: a21 :: some x :: t) H) : gName 22 x (wipe (a0 :: a1 :: a2 :: a3 :: a4 :: a5 :: a6 :: a7 :: a8 :: a9 :: a10 :: a11 :: a12 :: a13 :: a14 :: a15 :: a16 :: a17 :: a18 :: a19 :: a20 :: a21 :: a22 :: t) [22]) H fun σ2 H2 => wipe σ2 [22] = wipe (a0 :: a1 :: a2 :: a3 :: a4 :: a5 :: a6 :: a7 :: a8 :: a9 :: a10 :: a11 :: a12 :: a13 :: a14 :: a15 :: a16 :: a17 :: a18 :: a19 :: a20 :: a21 :: a22 :: t) [22] ∧ QG σ2 H2 := ⟨rfl, q⟩
theorem y_var23 (q : Q v H) : tVar 23 (a0 :: a1 :: a2 :: a3 :: a4 :: a5 :: a6 :: a7 :: a8 :: a9 :: a10 :: a11 :: a12 :: a13 :: a14 :: a15 :: a16 :: a17 :: a18 :: a19 :: a20 :: a21 :: a22 :: some v :: t) H Q := ⟨v, rfl, q⟩
theorem y_set23 (q : te (a0 :: a1 :: a2 :: a3 :: a4 :: a5 :: a6 :: a7 :: a8 :: a9 :: a10 :: a11 :: a12 :: a13 :: a14 :: a15 :: a16 :: a17 :: a18 :: a19 :: a20 :: a21 :: a22 :: a23 :: t) H fun x H1 => n (a0 :: a1 :: a2 :: a3 :: a4 :: a5 :: a6 :: a7 :: a8 :: a9 :: a10 :: a11 :: a12 :: a13 :: a14 :: a15 :: a16 :: a17 :: a18 :: a19 :: a20 :: a21 :: a22 :: some x :: t) H1) : tAsg te (gName 23) ⟨n, rt, bk, ct⟩ (a0 :: a1 :: a2 :: a3 :: a4 :: a5 :: a6 :: a7 :: a8 :: a9 :: a10 :: a11 :: a12 :: a13 :: a14 :: a15 :: a16 :: a17 :: a18 :: a19 :: a20 :: a21 :: a22 :: a23 :: t) H := q
theorem y_gname23 (q : QG (a0 :: a1 :: a2 :: a3 :: a4 :: a5 :: a6 :: a7 :: a8 :: a9 :: a10 :: a11 :: a12 :: a13 :: a14 :: a15 :: a16 :: a17 :: a18 :: a19 :: a20 :: a21 :: a22 :: some x :: t) H) : gName 23 x (a0 :: a1 :: a2 :: a3 :: a4 :: a5 :: a6 :: a7 :: a8 :: a9 :: a10 :: a11 :: a12 :: a13 :: a14 :: a15 :: a16 :: a17 :: a18 :: a19 :: a20 :: a21 :: a22 :: a23 :: t) H QG := q
theorem y_wname23 (q : QG (a0 :: a1 :: a2 :: a3 :: a4 :: a5 :: a6 :: a7 :: a8 :: a9 :: a10 :: a11 :: a12 :: a13 :: a14 :: a15 :: a16 :: a17 :: a18 :: a19 :: a20 :: a21 :: a22 :: some x :: t) H) : gName 23 x (wipe (a0 :: a1 :: a2 :: a3 :: a4 :: a5 :: a6 :: a7 :: a8 :: a9 :: a10 :: a11 :: a12 :: a13 :: a14 :: a15 :: a16 :: a17 :: a18 :: a19 :: a20 :: a21 :: a22 :: a23 :: t) [23]) H fun σ2 H2 => wipe σ2 [23] = wipe (a0 :: a1 :: a2 :: a3 :: a4 :: a5 :: a6 :: a7 :: a8 :: a9 :: a10 :: a11 :: a12 :: a13 :: a14 :: a15 :: a16 :: a17 :: a18 :: a19 :: a20 :: a21 :: a22 :: a23 :: t) [23] ∧ QG σ2 H2 := ⟨rfl, q⟩
theorem y_var24 (q : Q v H) : tVar 24 (a0 :: a1 :: a2 :: a3 :: a4 :: a5 :: a6 :: a7 :: a8 :: a9 :: a10 :: a11 :: a12 :: a13 :: a14 :: a15 :: a16 :: a17 :: a18 :: a19 :: a20 :: a21 :: a22 :: a23 :: some v :: t) H Q := ⟨v, rfl, q⟩
theorem y_set24 (q : te (a0 :: a1 :: a2 :: a3 :: a4 :: a5 :: a6 :: a7 :: a8 :: a9 :: a10 :: a11 :: a12 :: a13 :: a14 :: a15 :: a16 :: a17 :: a18 :: a19 :: a20 :: a21 :: a22 :: a23 :: a24 :: t) H fun x H1 => n (a0 :: a1 :: a2 :: a3 :: a4 :: a5 :: a6 :: a7 :: a8 :: a9 :: a10 :: a11 :: a12 :: a13 :: a14 :: a15 :: a16 :: a17 :: a18 :: a19 :: a20 :: a21 :: a22 :: a23 :: some x :: t) H1) : tAsg te (gName 24) ⟨n, rt, bk, ct⟩ (a0 :: a1 :: a2 :: a3 :: a4 :: a5 :: a6 :: a7 :: a8 :: a9 :: a10 :: a11 :: a12 :: a13 :: a14 :: a15 :: a16 :: a17 :: a18 :: a19 :: a20 :: a21 :: a22 :: a23 :: a24 :: t) H := q
theorem y_gname24 (q : QG (a0 :: a1 :: a2 :: a3 :: a4 :: a5 :: a6 :: a7 :: a8 :: a9 :: a10 :: a11 :: a12 :: a13 :: a14 :: a15 :: a16 :: a17 :: a18 :: a19 :: a20 :: a21 :: a22 :: a23 :: some x :: t) H) : gName 24 x (a0 :: a1 :: a2 :: a3 :: a4 :: a5 :: a6 :: a7 :: a8 :: a9 :: a10 :: a11 :: a12 :: a13 :: a14 :: a15 :: a16 :: a17 :: a18 :: a19 :: a20 :: a21 :: a22 :: a23 :: a24 :: t) H QG := q
theorem y_wname24 (q : QG (a0 :: a1 :: a2 :: a3 :: a4 :: a5 :: a6 :: a7 :: a8 :: a9 :: a10 :: a11 :: a12 :: a13 :: a14 :: a15 :: a16 :: a17 :: a18 :: a19 :: a20 :: a21 :: a22 :: a23 :: some x :: t) H) : gName 24 x (wipe (a0 :: a1 :: a2 :: a3 :: a4 :: a5 :: a6 :: a7 :: a8 :: a9 :: a10 :: a11 :: a12 :: a13 :: a14 :: a15 :: a16 :: a17 :: a18 :: a19 :: a20 :: a21 :: a22 :: a23 :: a24 :: t) [24]) H fun σ2 H2 => wipe σ2 [24] = wipe (a0 :: a1 :: a2 :: a3 :: a4 :: a5 :: a6 :: a7 :: a8 :: a9 :: a10 :: a11 :: a12 :: a13 :: a14 :: a15 :: a16 :: a17 :: a18 :: a19 :: a20 :: a21 :: a22 :: a23 :: a24 :: t) [24] ∧ QG σ2 H2 := ⟨rfl, q⟩
theorem y_var25 (q : Q v H) : tVar 25 (a0 :: a1 :: a2 :: a3 :: a4 :: a5 :: a6 :: a7 :: a8 :: a9 :: a10 :: a11 :: a12 :: a13 :: a14 :: a15 :: a16 :: a17 :: a18 :: a19 :: a20 :: a21 :: a22 :: a23 :: a24 :: some v :: t) H Q := ⟨v, rfl, q⟩
theorem y_set25 (q : te (a0 :: a1 :: a2 :: a3 :: a4 :: a5 :: a6 :: a7 :: a8 :: a9 :: a10 :: a11 :: a12 :: a13 :: a14 :: a15 :: a16 :: a17 :: a18 :: a19 :: a20 :: a21 :: a22 :: a23 :: a24 :: a25 :: t) H fun x H1 => n (a0 :: a1 :: a2 :: a3 :: a4 :: a5 :: a6 :: a7 :: a8 :: a9 :: a10 :: a11 :: a12 :: a13 :: a14 :: a15 :: a16 :: a17 :: a18 :: a19 :: a20 :: a21 :: a22 :: a23 :: a24 :: some x :: t) H1) : tAsg te (gName 25) ⟨n, rt, bk, ct⟩ (a0 :: a1 :: a2 :: a3 :: a4 :: a5 :: a6 :: a7 :: a8 :: a9 :: a10 :: a11 :: a12 :: a13 :: a14 :: a15 :: a16 :: a17 :: a18 :: a19 :: a20 :: a21 :: a22 :: a23 :: a24 :: a25 :: t) H := q
theorem y_gname25 (q : QG (a0 :: a1 :: a2 :: a3 :: a4 :: a5 :: a6 :: a7 :: a8 :: a9 :: a10 :: a11 :: a12 :: a13 :: a14 :: a15 :: a16 :: a17 :: a18 :: a19 :: a20 :: a21 :: a22 :: a23 :: a24 :: some x :: t) H) : gName 25 x (a0 :: a1 :: a2 :: a3 :: a4 :: a5 :: a6 :: a7 :: a8 :: a9 :: a10 :: a11 :: a12 :: a13 :: a14 :: a15 :: a16 :: a17 :: a18 :: a19 :: a20 :: a21 :: a22 :: a23 :: a24 :: a25 :: t) H QG := q
theorem y_wname25 (q : QG (a0 :: a1 :: a2 :: a3 :: a4 :: a5 :: a6 :: a7 :: a8 :: a9 :: a10 :: a11 :: a12 :: a13 :: a14 :: a15 :: a16 :: a17 :: a18 :: a19 :: a20 :: a21 :: a22 :: a23 :: a24 :: some x :: t) H) : gName 25 x (wipe (a0 :: a1 :: a2 :: a3 :: a4 :: a5 :: a6 :: a7 :: a8 :: a9 :: a10 :: a11 :: a12 :: a13 :: a14 :: a15 :: a16 :: a17 :: a18 :: a19 :: a20 :: a21 :: a22 :: a23 :: a24 :: a25 :: t) [25]) H fun σ2 H2 => wipe σ2 [25] = wipe (a0 :: a1 :: a2 :: a3 :: a4 :: a5 :: a6 :: a7 :: a8 :: a9 :: a10 :: a11 :: a12 :: a13 :: a14 :: a15 :: a16 :: a17 :: a18 :: a19 :: a20 :: a21 :: a22 :: a23 :: a24 :: a25 :: t) [25] ∧ QG σ2 H2 := ⟨rfl, q⟩
theorem y_var26 (q : Q v H) : tVar 26 (a0 :: a1 :: a2 :: a3 :: a4 :: a5 :: a6 :: a7 :: a8 :: a9 :: a10 :: a11 :: a12 :: a13 :: a14 :: a15 :: a16 :: a17 :: a18 :: a19 :: a20 :: a21 :: a22 :: a23 :: a24 :: a25 :: some v :: t) H Q := ⟨v, rfl, q⟩
theorem y_set26 (q : te (a0 :: a1 :: a2 :: a3 :: a4 :: a5 :: a6 :: a7 :: a8 :: a9 :: a10 :: a11 :: a12 :: a13 :: a14 :: a15 :: a16 :: a17 :: a18 :: a19 :: a20 :: a21 :: a22 :: a23 :: a24 :: a25 :: a26 :: t) H fun x H1 => n (a0 :: a1 :: a2 :: a3 :: a4 :: a5 :: a6 :: a7 :: a8 :: a9 :: a10 :: a11 :: a12 :: a13 :: a14 :: a15 :: a16 :: a17 :: a18 :: a19 :: a20 :: a21 :: a22 :: a23 :: a24 :: a25 :: some x :: t) H1) : tAsg te (gName 26) ⟨n, rt, bk, ct⟩ (a0 :: a1 :: a2 :: a3 :: a4 :: a5 :: a6 :: a7 :: a8 :: a9 :: a10 :: a11 :: a12 :: a13 :: a14 :: a15 :: a16 :: a17 :: a18 :: a19 :: a20 :: a21 :: a22 :: a23 :: a24 :: a25 :: a26 :: t) H := q
theorem y_gname26 (q : QG (a0 :: a1 :: a2 :: a3 :: a4 :: a5 :: a6 :: a7 :: a8 :: a9 :: a10 :: a11 :: a12 :: a13 :: a14 :: a15 :: a16 :: a17 :: a18 :: a19 :: a20 :: a21 :: a22 :: a23 :: a24 :: a25 :: some x :: t) H) : gName 26 x (a0 :: a1 :: a2 :: a3 :: a4 :: a5 :: a6 :: a7 :: a8 :: a9 :: a10 :: a11 :: a12 :: a13 :: a14 :: a15 :: a16 :: a17 :: a18 :: a19 :: a20 :: a21 :: a22 :: a23 :: a24 :: a25 :: a26 :: t) H QG := q
theorem y_wname26 (q : QG (a0 :: a1 :: a2 :: a3 :: a4 :: a5 :: a6 :: a7 :: a8 :: a9 :: a10 :: a11 :: a12 :: a13 :: a14 :: a15 :: a16 :: a17 :: a18 :: a19 :: a20 :: a21 :: a22 :: a23 :: a24 :: a25 :: some x :: t) H) : gName 26 x (wipe (a0 :: a1 :: a2 :: a3 :: a4 :: a5 :: a6 :: a7 :: a8 :: a9 :: a10 :: a11 :: a12 :: a13 :: a14 :: a15 :: a16 :: a17 :: a18 :: a19 :: a20 :: a21 :: a22 :: a23 :: a24 :: a25 :: a26 :: t) [26]) H fun σ2 H2 => wipe σ2 [26] = wipe (a0 :: a1 :: a2 :: a3 :: a4 :: a5 :: a6 :: a7 :: a8 :: a9 :: a10 :: a11 :: a12 :: a13 :: a14 :: a15 :: a16 :: a17 :: a18 :: a19 :: a20 :: a21 :: a22 :: a23 :: a24 :: a25 :: a26 :: t) [26] ∧ QG σ2 H2 := ⟨rfl, q⟩
theorem y_var27 (q : Q v H) : tVar 27 (a0 :: a1 :: a2 :: a3 :: a4 :: a5 :: a6 :: a7 :: a8 :: a9 :: a10 :: a11 :: a12 :: a13 :: a14 :: a15 :: a16 :: a17 :: a18 :: a19 :: a20 :: a21 :: a22 :: a23 :: a24 :: a25 :: a26 :: some v :: t) H Q := ⟨v, rfl, q⟩
theorem y_set27 (q : te (a0 :: a1 :: a2 :: a3 :: a4 :: a5 :: a6 :: a7 :: a8 :: a9 :: a10 :: a11 :: a12 :: a13 :: a14 :: a15 :: a16 :: a17 :: a18 :: a19 :: a20 :: a21 :: a22 :: a23 :: a24 :: a25 :: a26 :: a27 :: t) H fun x H1 => n (a0 :: a1 :: a2 :: a3 :: a4 :: a5 :: a6 :: a7 :: a8 :: a9 :: a10 :: a11 :: a12 :: a13 :: a14 :: a15 :: a16 :: a17 :: a18 :: a19 :: a20 :: a21 :: a22 :: a23 :: a24 :: a25 :: a26 :: some x :: t) H1) : tAsg te (gName 27) ⟨n, rt, bk, ct⟩ (a0 :: a1 :: a2 :: a3 :: a4 :: a5 :: a6 :: a7 :: a8 :: a9 :: a10 :: a11 :: a12 :: a13 :: a14 :: a15 :: a16 :: a17 :: a18 :: a19 :: a20 :: a21 :: a22 :: a23 :: a24 :: a25 :: a26 :: a27 :: t) H := q
theorem y_gname27 (q : QG (a0 :: a1 :: a2 :: a3 :: a4 :: a5 :: a6 :: a7 :: a8 :: a9 :: a10 :: a11 :: a12 :: a13 :: a14 :: a15 :: a16 :: a17 :: a18 :: a19 :: a20 :: a21 :: a22 :: a23 :: a24 :: a25 :: a26 :: some x :: t) H) : gName 27 x (a0 :: a1 :: a2 :: a3 :: a4 :: a5 :: a6 :: a7 :: a8 :: a9 :: a10 :: a11 :: a12 :: a13 :: a14 :: a15 :: a16 :: a17 :: a18 :: a19 :: a20 :: a21 :: a22 :: a23 :: a24 :: a25 :: a26 :: a27 :: t) H QG := q
theorem y_wname27 (q : QG (a0 :: a1 :: a2 :: a3 :: a4 :: a5 :: a6 :: a7 :: a8 :: a9 :: a10 :: a11 :: a12 :: a13 :: a14 :: a15 :: a16 :: a17 :: a18 :: a19 :: a20 :: a21 :: a22 :: a23 :: a24 :: a25 :: a26 :: some x :: t) H) : gName 27 x (wipe (a0 :: a1 :: a2 :: a3 :: a4 :: a5 :: a6 :: a7 :: a8 :: a9 :: a10 :: a11 :: a12 :: a13 :: a14 :: a15 :: a16 :: a17 :: a18 :: a19 :: a20 :: a21 :: a22 :: a23 :: a24 :: a25 :: a26 :: a27 :: t) [27]) H fun σ2 H2 => wipe σ2 [27] = wipe (a0 :: a1 :: a2 :: a3 :: a4 :: a5 :: a6 :: a7 :: a8 :: a9 :: a10 :: a11 :: a12 :: a13 :: a14 :: a15 :: a16 :: a17 :: a18 :: a19 :: a20 :: a21 :: a22 :: a23 :: a24 :: a25 :: a26 :: a27 :: t) [27] ∧ QG σ2 H2 := ⟨rfl, q⟩
theorem y_var28 (q : Q v H) : tVar 28 (a0 :: a1 :: a2 :: a3 :: a4 :: a5 :: a6 :: a7 :: a8 :: a9 :: a10 :: a11 :: a12 :: a13 :: a14 :: a15 :: a16 :: a17 :: a18 :: a19 :: a20 :: a21 :: a22 :: a23 :: a24 :: a25 :: a26 :: a27 :: some v :: t) H Q := ⟨v, rfl, q⟩
theorem y_set28 (q : te (a0 :: a1 :: a2 :: a3 :: a4 :: a5 :: a6 :: a7 :: a8 :: a9 :: a10 :: a11 :: a12 :: a13 :: a14 :: a15 :: a16 :: a17 :: a18 :: a19 :: a20 :: a21 :: a22 :: a23 :: a24 :: a25 :: a26 :: a27 :: a28 :: t) H fun x H1 => n (a0 :: a1 :: a2 :: a3 :: a4 :: a5 :: a6 :: a7 :: a8 :: a9 :: a10 :: a11 :: a12 :: a13 :: a14 :: a15 :: a16 :: a17 :: a18 :: a19 :: a20 :: a21 :: a22 :: a23 :: a24 :: a25 :: a26 :: a27 :: some x :: t) H1) : tAsg te (gName 28) ⟨n, rt, bk, ct⟩ (a0 :: a1 :: a2 :: a3 :: a4 :: a5 :: a6 :: a7 :: a8 :: a9 :: a10 :: a11 :: a12 :: a13 :: a14 :: a15 :: a16 :: a17 :: a18 :: a19 :: a20 :: a21 :: a22 :: a23 :: a24 :: a25 :: a26 :: a27 :: a28 :: t) H := q
theorem y_gname28 (q : QG (a0 :: a1 :: a2 :: a3 :: a4 :: a5 :: a6 :: a7 :: a8 :: a9 :: a10 :: a11 :: a12 :: a13 :: a14 :: a15 :: a16 :: a17 :: a18 :: a19 :: a20 :: a21 :: a22 :: a23 :: a24 :: a25 :: a26 :: a27 :: some x :: t) H) : gName 28 x (a0 :: a1 :: a2 :: a3 :: a4 :: a5 :: a6 :: a7 :: a8 :: a9 :: a10 :: a11 :: a12 :: a13 :: a14 :: a15 :: a16 :: a17 :: a18 :: a19 :: a20 :: a21 :: a22 :: a23 :: a24 :: a25 :: a26 :: a27 :: a28 :: t) H QG := q
theorem y_wname28 (q : QG (a0 :: a1 :: a2 :: a3 :: a4 :: a5 :: a6 :: a7 :: a8 :: a9 :: a10 :: a11 :: a12 :: a13 :: a14 :: a15 :: a16 :: a17 :: a18 :: a19 :: a20 :: a21 :: a22 :: a23 :: a24 :: a25 :: a26 :: a27 :: some x :: t) H) : gName 28 x (wipe (a0 :: a1 :: a2 :: a3 :: a4 :: a5 :: a6 :: a7 :: a8 :: a9 :: a10 :: a11 :: a12 :: a13 :: a14 :: a15 :: a16 :: a17 :: a18 :: a19 :: a20 :: a21 :: a22 :: a23 :: a24 :: a25 :: a26 :: a27 :: a28 :: t) [28]) H fun σ2 H2 => wipe σ2 [28] = wipe (a0 :: a1 :: a2 :: a3 :: a4 :: a5 :: a6 :: a7 :: a8 :: a9 :: a10 :: a11 :: a12 :: a13 :: a14 :: a15 :: a16 :: a17 :: a18 :: a19 :: a20 :: a21 :: a22 :: a23 :: a24 :: a25 :: a26 :: a27 :: a28 :: t) [28] ∧ QG σ2 H2 := ⟨rfl, q⟩
theorem y_var29 (q : Q v H) : tVar 29 (a0 :: a1 :: a2 :: a3 :: a4 :: a5 :: a6 :: a7 :: a8 :: a9 :: a10 :: a11 :: a12 :: a13 :: a14 :: a15 :: a16 :: a17 :: a18 :: a19 :: a20 :: a21 :: a22 :: a23 :: a24 :: a25 :: a26 :: a27 :: a28 :: some v :: t) H Q := ⟨v, rfl, q⟩
theorem y_set29 (q : te (a0 :: a1 :: a2 :: a3 :: a4 :: a5 :: a6 :: a7 :: a8 :: a9 :: a10 :: a11 :: a12 :: a13 :: a14 :: a15 :: a16 :: a17 :: a18 :: a19 :: a20 :: a21 :: a22 :: a23 :: a24 :: a25 :: a26 :: a27 :: a28 :: a29 :: t) H fun x H1 => n (a0 :: a1 :: a2 :: a3 :: a4 :: a5 :: a6 :: a7 :: a8 :: a9 :: a10 :: a11 :: a12 :: a13 :: a14 :: a15 :: a16 :: a17 :: a18 :: a19 :: a20 :: a21 :: a22 :: a23 :: a24 :: a25 :: a26 :: a27 :: a28 :: some x :: t) H1) : tAsg te (gName 29) ⟨n, rt, bk, ct⟩ (a0 :: a1 :: a2 :: a3 :: a4 :: a5 :: a6 :: a7 :: a8 :: a9 :: a10 :: a11 :: a12 :: a13 :: a14 :: a15 :: a16 :: a17 :: a18 :: a19 :: a20 :: a21 :: a22 :: a23 :: a24 :: a25 :: a26 :: a27 :: a28 :: a29 :: t) H := q
theorem y_gname29 (q : QG (a0 :: a1 :: a2 :: a3 :: a4 :: a5 :: a6 :: a7 :: a8 :: a9 :: a10 :: a11 :: a12 :: a13 :: a14 :: a15 :: a16 :: a17 :: a18 :: a19 :: a20 :: a21 :: a22 :: a23 :: a24 :: a25 :: a26 :: a27 :: a28 :: some x :: t) H) : gName 29 x (a0 :: a1 :: a2 :: a3 :: a4 :: a5 :: a6 :: a7 :: a8 :: a9 :: a10 :: a11 :: a12 :: a13 :: a14 :: a15 :: a16 :: a17 :: a18 :: a19 :: a20 :: a21 :: a22 :: a23 :: a24 :: a25 :: a26 :: a27 :: a28 :: a29 :: t) H QG := q
theorem y_wname29 (q : QG (a0 :: a1 :: a2 :: a3 :: a4 :: a5 :: a6 :: a7 :: a8 :: a9 :: a10 :: a11 :: a12 :: a13 :: a14 :: a15 :: a16 :: a17 :: a18 :: a19 :: a20 :: a21 :: a22 :: a23 :: a24 :: a25 :: a26 :: a27 :: a28 :: some x :: t) H) : gName 29 x (wipe (a0 :: a1 :: a2 :: a3 :: a4 :: a5 :: a6 :: a7 :: a8 :: a9 :: a10 :: a11 :: a12 :: a13 :: a14 :: a15 :: a16 :: a17 :: a18 :: a19 :: a20 :: a21 :: a22 :: a23 :: a24 :: a25 :: a26 :: a27 :: a28 :: a29 :: t) [29]) H fun σ2 H2 => wipe σ2 [29] = wipe (a0 :: a1 :: a2 :: a3 :: a4 :: a5 :: a6 :: a7 :: a8 :: a9 :: a10 :: a11 :: a12 :: a13 :: a14 :: a15 :: a16 :: a17 :: a18 :: a19 :: a20 :: a21 :: a22 :: a23 :: a24 :: a25 :: a26 :: a27 :: a28 :: a29 :: t) [29] ∧ QG σ2 H2 := ⟨rfl, q⟩
theorem nox_K {X : Cx} : X.nox.K = X.K := rfl
theorem tr_K {X : Cx} {pn : List (Addr × Obj)} {xe : Value → Shared → Prop} : (X.tr pn xe).K = X.K := rfl
theorem cxOf_K {CX : CXT} {P : Program} {w : World} {K : PySem.W.Frag} {mg : Str → Option Value} {base : Heap} {N : List Str} {qual : Str} {scope : Scope} {f : Addr} {cd : Value} {A : Around} {outer : List Env} {s : Shared} {H : Hp} {E : XK} : (cxOf CX P w K mg base N qual scope f cd A outer s H E).K = K := rfl
theorem y_call {sp : Sp} {dvs : List V} {E : XK} {ta : TA} {σ : L2.St} (q : ta σ H fun vs H1 => sp (vs ++ dvs) H1 Q E) : tCall sp dvs E ta σ H Q := q
theorem y_callS {sp : Sp} {E : L2.St → XK} {ta : TA} {σ : L2.St} (q : ta σ H fun vs H1 => sp vs H1 Q (E σ)) : tCallS sp E ta σ H Q := q
theorem y_start {tt : TS} {D : Ends} {σ σ' : L2.St} (h : σ = σ') (q : tt D σ' H) : tt D σ H := h ▸ q
end
end L2

/-! ## G5: texts as lists of signs -/
namespace L2
open PySem PySem.Spec PyProof.Rows
/-- the text of a list of signs -/
def ofL (l : List Nat) : Str := ⟨l.toArray⟩
theorem ofL_cps (s : Str) : ofL s.cps.toList = s := by cases s; rfl
theorem ofL_app (a b : List Nat) : ofL a ++ ofL b = ofL (a ++ b) := by
  show Str.append (ofL a) (ofL b) = _
  simp [Str.append, ofL]
theorem ofL_len (a : List Nat) : (ofL a).length = a.length := by simp [Str.length, ofL]
theorem ofL_inj {a b : List Nat} (h : ofL a = ofL b) : a = b := by
  have : (ofL a).cps.toList = (ofL b).cps.toList := by rw [h]
  simpa [ofL] using this
theorem sIx_i (n d : Nat) (k : Int) (h : 0 ≤ k) : HT.sIx n d (some k) = min k.toNat n := by
  have e : k = (k.toNat : Int) := by omega
  have q := HT.sIx_nat n d k.toNat
  rw [← e] at q
  exact q
theorem cut_to (s : Str) (k : Int) (h : 0 ≤ k) : cutS s none (some k) = ofL (s.cps.toList.take k.toNat) := by
  unfold cutS
  rw [HT.sIx_none, sIx_i _ _ _ h]
  show ofL _ = _
  congr 1
  have : s.cps.toList.length = s.length := by simp [Str.length]
  rw [List.drop_zero, Nat.sub_zero, List.take_eq_take_iff]
  omega
theorem cut_of (s : Str) (j k : Int) (h : 0 ≤ j) (h2 : j ≤ k) : cutS s (some j) (some k) = ofL ((s.cps.toList.drop j.toNat).take (k.toNat - j.toNat)) := by
  unfold cutS
  rw [sIx_i _ _ _ h, sIx_i _ _ _ (by omega)]
  show ofL _ = _
  congr 1
  have : s.cps.toList.length = s.length := by simp [Str.length]
  by_cases c : j.toNat ≤ s.length
  · rw [Nat.min_eq_left c, List.take_eq_take_iff, List.length_drop]
    omega
  · rw [List.drop_eq_nil_of_le (by omega), List.drop_eq_nil_of_le (by omega)]
    simp
theorem cut_from (s : Str) (j : Int) (h : 0 ≤ j) : cutS s (some j) none = ofL (s.cps.toList.drop j.toNat) := by
  unfold cutS
  rw [sIx_i _ _ _ h, HT.sIx_none]
  show ofL _ = _
  congr 1
  have : s.cps.toList.length = s.length := by simp [Str.length]
  by_cases c : j.toNat ≤ s.length
  · rw [Nat.min_eq_left c, List.take_of_length_le]
    rw [List.length_drop]; omega
  · rw [List.drop_eq_nil_of_le (by omega), List.drop_eq_nil_of_le (by omega)]
    simp
def txts (ls : List (List Nat)) : List V := ls.map fun l => V.str (ofL l)
theorem txts_app (a b : List (List Nat)) : txts (a ++ b) = txts a ++ txts b := List.map_append
theorem txts_len (a : List (List Nat)) : (txts a).length = a.length := List.length_map ..
theorem txts_strs (a : List (List Nat)) : txts a = (a.map ofL).map V.str := by simp [txts]
theorem range_snoc {α : Type} (f : Nat → α) (i : Nat) : (List.range (i + 1)).map f = (List.range i).map f ++ [f i] := by simp [List.range_succ]
/-! ## augmented slots (printed by a program) -/
section
variable {H : Hp} {te : TE} {ti : TIp} {n : St → Hp → Prop} {rt : VK} {bk ct : St → Hp → Prop} {x : V} {t : List (Option V)} {a0 a1 a2 a3 a4 a5 a6 a7 a8 a9 a10 a11 a12 a13 a14 a15 a16 a17 a18 a19 a20 a21 a22 a23 a24 a25 a26 a27 a28 a29 : Option V}
theorem y_aug0 (q : te (some x :: t) H fun y H1 => ti x y H1 fun z H2 => n (some z :: t) H2) : tAug 0 te ti ⟨n, rt, bk, ct⟩ (some x :: t) H := ⟨x, rfl, q⟩
theorem y_aug1 (q : te (a0 :: some x :: t) H fun y H1 => ti x y H1 fun z H2 => n (a0 :: some z :: t) H2) : tAug 1 te ti ⟨n, rt, bk, ct⟩ (a0 :: some x :: t) H := ⟨x, rfl, q⟩
theorem y_aug2 (q : te (a0 :: a1 :: some x :: t) H fun y H1 => ti x y H1 fun z H2 => n (a0 :: a1 :: some z :: t) H2) : tAug 2 te ti ⟨n, rt, bk, ct⟩ (a0 :: a1 :: some x :: t) H := ⟨x, rfl, q⟩
theorem y_aug3 (q : te (a0 :: a1 :: a2 :: some x :: t) H fun y H1 => ti x y H1 fun z H2 => n (a0 :: a1 :: a2 :: some z :: t) H2) : tAug 3 te ti ⟨n, rt, bk, ct⟩ (a0 :: a1 :: a2 :: some x :: t) H := ⟨x, rfl, q⟩
theorem y_aug4 (q : te (a0 :: a1 :: a2 :: a3 :: some x :: t) H fun y H1 => ti x y H1 fun z H2 => n (a0 :: a1 :: a2 :: a3 :: some z :: t) H2) : tAug 4 te ti ⟨n, rt, bk, ct⟩ (a0 :: a1 :: a2 :: a3 :: some x :: t) H := ⟨x, rfl, q⟩
theorem y_aug5 (q : te (a0 :: a1 :: a2 :: a3 :: a4 :: some x :: t) H fun y H1 => ti x y H1 fun z H2 => n (a0 :: a1 :: a2 :: a3 :: a4 :: some z :: t) H2) : tAug 5 te ti ⟨n, rt, bk, ct⟩ (a0 :: a1 :: a2 :: a3 :: a4 :: some x :: t) H := ⟨x, rfl, q⟩
theorem y_aug6 (q : te (a0 :: a1 :: a2 :: a3 :: a4 :: a5 :: some x :: t) H fun y H1 => ti x y H1 fun z H2 => n (a0 :: a1 :: a2 :: a3 :: a4 :: a5 :: some z :: t) H2) : tAug 6 te ti ⟨n, rt, bk, ct⟩ (a0 :: a1 :: a2 :: a3 :: a4 :: a5 :: some x :: t) H := ⟨x, rfl, q⟩
theorem y_aug7 (q : te (a0 :: a1 :: a2 :: a3 :: a4 :: a5 :: a6 :: some x :: t) H fun y H1 => ti x y H1 fun z H2 => n (a0 :: a1 :: a2 :: a3 :: a4 :: a5 :: a6 :: some z :: t) H2) : tAug 7 te ti ⟨n, rt, bk, ct⟩ (a0 :: a1 :: a2 :: a3 :: a4 :: a5 :: a6 :: some x :: t) H := ⟨x, rfl, q⟩
theorem y_aug8 (q : te (a0 :: a1 :: a2 :: a3 :: a4 :: a5 :: a6 :: a7 :: some x :: t) H fun y H1 => ti x y H1 fun z H2 => n (a0 :: a1 :: a2 :: a3 :: a4 :: a5 :: a6 :: a7 :: some z :: t) H2) : tAug 8 te ti ⟨n, rt, bk, ct⟩ (a0 :: a1 :: a2 :: a3 :: a4 :: a5 :: a6 :: a7 :: some x :: t) H := ⟨x, rfl, q⟩
theorem y_aug9 (q : te (a0 :: a1 :: a2 :: a3 :: a4 :: a5 :: a6 :: a7 :: a8 :: some x :: t) H fun y H1 => ti x y H1 fun z H2 => n (a0 :: a1 :: a2 :: a3 :: a4 :: a5 :: a6 :: a7 :: a8 :: some z :: t) H2) : tAug 9 te ti ⟨n, rt, bk, ct⟩ (a0 :: a1 :: a2 :: a3 :: a4 :: a5 :: a6 :: a7 :: a8 :: some x :: t) H := ⟨x, rfl, q⟩
theorem y_aug10 (q : te (a0 :: a1 :: a2 :: a3 :: a4 :: a5 :: a6 :: a7 :: a8 :: a9 :: some x :: t) H fun y H1 => ti x y H1 fun z H2 => n (a0 :: a1 :: a2 :: a3 :: a4 :: a5 :: a6 :: a7 :: a8 :: a9 :: some z :: t) H2) : tAug 10 te ti ⟨n, rt, bk, ct⟩ (a0 :: a1 :: a2 :: a3 :: a4 :: a5 :: a6 :: a7 :: a8 :: a9 :: some x :: t) H := ⟨x, rfl, q⟩
theorem y_aug11 (q : te (a0 :: a1 :: a2 :: a3 :: a4 :: a5 :: a6 :: a7 :: a8 :: a9 :: a10 :: some x :: t) H fun y H1 => ti x y H1 fun z H2 => n (a0 :: a1 :: a2 :: a3 :: a4 :: a5 :: a6 :: a7 :: a8 :: a9 :: a10 :: some z :: t) H2) : tAug 11 te ti ⟨n, rt, bk, ct⟩ (a0 :: a1 :: a2 :: a3 :: a4 :: a5 :: a6 :: a7 :: a8 :: a9 :: a10 :: some x :: t) H := ⟨x, rfl, q⟩
theorem y_aug12 (q : te (a0 :: a1 :: a2 :: a3 :: a4 :: a5 :: a6 :: a7 :: a8 :: a9 :: a10 :: a11 :: some x :: t) H fun y H1 => ti x y H1 fun z H2 => n (a0 :: a1 :: a2 :: a3 :: a4 :: a5 :: a6 :: a7 :: a8 :: a9 :: a10 :: a11 :: some z :: t) H2) : tAug 12 te ti ⟨n, rt, bk, ct⟩ (a0 :: a1 :: a2 :: a3 :: a4 :: a5 :: a6 :: a7 :: a8 :: a9 :: a10 :: a11 :: some x :: t) H := ⟨x, rfl, q⟩
theorem y_aug13 (q : te (a0 :: a1 :: a2 :: a3 :: a4 :: a5 :: a6 :: a7 :: a8 :: a9 :: a10 :: a11 :: a12 :: some x :: t) H fun y H1 => ti x y H1 fun z H2 => n (a0 :: a1 :: a2 :: a3 :: a4 :: a5 :: a6 :: a7 :: a8 :: a9 :: a10 :: a11 :: a12 :: some z :: t) H2) : tAug 13 te ti ⟨n, rt, bk, ct⟩ (a0 :: a1 :: a2 :: a3 :: a4 :: a5 :: a6 :: a7 :: a8 :: a9 :: a10 :: a11 :: a12 :: some x :: t) H := ⟨x, rfl, q⟩
theorem y_aug14 (q : te (a0 :: a1 :: a2 :: a3 :: a4 :: a5 :: a6 :: a7 :: a8 :: a9 :: a10 :: a11 :: a12 :: a13 :: some x :: t) H fun y H1 => ti x y H1 fun z H2 => n (a0 :: a1 :: a2 :: a3 :: a4 :: a5 :: a6 :: a7 :: a8 :: a9 :: a10 :: a11 :: a12 :: a13 :: some z :: t) H2) : tAug 14 te ti ⟨n, rt, bk, ct⟩ (a0 :: a1 :: a2 :: a3 :: a4 :: a5 :: a6 :: a7 :: a8 :: a9 :: a10 :: a11 :: a12 :: a13 :: some x :: t) H := ⟨x, rfl, q⟩
theorem y_aug15 (q : te (a0 :: a1 :: a2 :: a3 :: a4 :: a5 :: a6 :: a7 :: a8 :: a9 :: a10 :: a11 :: a12 :: a13 :: a14 :: some x :: t) H fun y H1 => ti x y H1 fun z H2 => n (a0 :: a1 :: a2 :: a3 :: a4 :: a5 :: a6 :: a7 :: a8 :: a9 :: a10 :: a11 :: a12 :: a13 :: a14 :: some z :: t) H2) : tAug 15 te ti ⟨n, rt, bk, ct⟩ (a0 :: a1 :: a2 :: a3 :: a4 :: a5 :: a6 :: a7 :: a8 :: a9 :: a10 :: a11 :: a12 :: a13 :: a14 :: some x :: t) H := ⟨x, rfl, q⟩
theorem y_aug16 (q : te (a0 :: a1 :: a2 :: a3 :: a4 :: a5 :: a6 :: a7 :: a8 :: a9 :: a10 :: a11 :: a12 :: a13 :: a14 :: a15 :: some x :: t) H fun y H1 => ti x y H1 fun z H2 => n (a0 :: a1 :: a2 :: a3 :: a4 :: a5 :: a6 :: a7 :: a8 :: a9 :: a10 :: a11 :: a12 :: a13 :: a14 :: a15 :: some z :: t) H2) : tAug 16 te ti ⟨n, rt, bk, ct⟩ (a0 :: a1 :: a2 :: a3 :: a4 :: a5 :: a6 :: a7 :: a8 :: a9 :: a10 :: a11 :: a12 :: a13 :: a14 :: a15 :: some x :: t) H := ⟨x, rfl, q⟩
theorem y_aug17 (q : te (a0 :: a1 :: a2 :: a3 :: a4 :: a5 :: a6 :: a7 :: a8 :: a9 :: a10 :: a11 :: a12 :: a13 :: a14 :: a15 :: a16 :: some x :: t) H fun y H1 => ti x y H1 fun z H2 => n (a0 :: a1 :: a2 :: a3 :: a4 :: a5 :: a6 :: a7 :: a8 :: a9 :: a10 :: a11 :: a12 :: a13 :: a14 :: a15 :: a16 :: some z :: t) H2) : tAug 17 te ti ⟨n, rt, bk, ct⟩ (a0 :: a1 :: a2 :: a3 :: a4 :: a5 :: a6 :: a7 :: a8 :: a9 :: a10 :: a11 :: a12 :: a13 :: a14 :: a15 :: a16 :: some x :: t) H := ⟨x, rfl, q⟩
theorem y_aug18 (q : te (a0 :: a1 :: a2 :: a3 :: a4 :: a5 :: a6 :: a7 :: a8 :: a9 :: a10 :: a11 :: a12 :: a13 :: a14 :: a15 :: a16 :: a17 :: some x :: t) H fun y H1 => ti x y H1 fun z H2 => n (a0 :: a1 :: a2 :: a3 :: a4 :: a5 :: a6 :: a7 :: a8 :: a9 :: a10 :: a11 :: a12 :: a13 :: a14 :: a15 :: a16 :: a17 :: some z :: t) H2) : tAug 18 te ti ⟨n, rt, bk, ct⟩ (a0 :: a1 :: a2 :: a3 :: a4 :: a5 :: a6 :: a7 :: a8 :: a9 :: a10 :: a11 :: a12 :: a13 :: a14 :: a15 :: a16 :: a17 :: some x :: t) H := ⟨x, rfl, q⟩
theorem y_aug19 (q : te (a0 :: a1 :: a2 :: a3 :: a4 :: a5 :: a6 :: a7 :: a8 :: a9 :: a10 :: a11 :: a12 :: a13 :: a14 :: a15 :: a16 :: a17 :: a18 :: some x :: t) H fun y H1 => ti x y H1 fun z H2 => n (a0 :: a1 :: a2 :: a3 :: a4 :: a5 :: a6 :: a7 :: a8 :: a9 :: a10 :: a11 :: a12 :: a13 :: a14 :: a15 :: a16 :: a17 :: a18 :: some z :: t) H2) : tAug 19 te ti ⟨n, rt, bk, ct⟩ (a0 :: a1 :: a2 :: a3 :: a4 :: a5 :: a6 :: a7 :: a8 :: a9 :: a10 :: a11 :: a12 :: a13 :: a14 :: a15 :: a16 :: a17 :: a18 :: some x :: t) H := ⟨x, rfl, q⟩
theorem y_aug20 (q : te (a0 :: a1 :: a2 :: a3 :: a4 :: a5 :: a6 :: a7 :: a8 :: a9 :: a10 :: a11 :: a12 :: a13 :: a14 :: a15 :: a16 :: a17 :: a18 :: a19 :: some x :: t) H fun y H1 => ti x y H1 fun z H2 => n (a0 :: a1 :: a2 :: a3 :: a4 :: a5 :: a6 :: a7 :: a8 :: a9 :: a10 :: a11 :: a12 :: a13 :: a14 :: a15 :: a16 :: a17 :: a18 :: a19 :: some z :: t) H2) : tAug 20 te ti ⟨n, rt, bk, ct⟩ (a0 :: a1 :: a2 :: a3 :: a4 :: a5 :: a6 :: a7 :: a8 :: a9 :: a10 :: a11 :: a12 :: a13 :: a14 :: a15 :: a16 :: a17 :: a18 :: a19 :: some x :: t) H := ⟨x, rfl, q⟩
theorem y_aug21 (q : te (a0 :: a1 :: a2 :: a3 :: a4 :: a5 :: a6 :: a7 :: a8 :: a9 :: a10 :: a11 :: a12 :: a13 :: a14 :: a15 :: a16 :: a17 :: a18 :: a19 :: a20 :: some x :: t) H fun y H1 => ti x y H1 fun z H2 => n (a0 :: a1 :: a2 :: a3 :: a4 :: a5 :: a6 :: a7 :: a8 :: a9 :: a10 :: a11 :: a12 :: a13 :: a14 :: a15 :: a16 :: a17 :: a18 :: a19 :: a20 :: some z :: t) H2) : tAug 21 te ti ⟨n, rt, bk, ct⟩ (a0 :: a1 :: a2 :: a3 :: a4 :: a5 :: a6 :: a7 :: a8 :: a9 :: a10 :: a11 :: a12 :: a13 :: a14 :: a15 :: a16 :: a17 :: a18 :: a19 :: a20 :: some x :: t) H := ⟨x, rfl, q⟩
theorem y_aug22 (q : te (a0 :: a1 :: a2 :: a3 :: a4 :: a5 :: a6 :: a7 :: a8 :: a9 :: a10 :: a11 :: a12 :: a13 :: a14 :: a15 :: a16 :: a17 :: a18 :: a19 :: a20 :: a21 :: some x :: t) H fun y H1 => ti x y H1 fun z H2 => n (a0 :: a1 :: a2 :: a3 :: a4 :: a5 :: a6 :: a7 :: a8 :: a9 :: a10 :: a11 :: a12 :: a13 :: a14 :: a15 :: a16 :: a17 :: a18 :: a19 :: a20 :: a21 :: some z :: t) H2) : tAug 22 te ti ⟨n, rt, bk, ct⟩ (a0 :: a1 :: a2 :: a3 :: a4 :: a5 :: a6 :: a7 :: a8 :: a9 :: a10 :: a11 :: a12 :: a13 :: a14 :: a15 :: a16 :: a17 :: a18 :: a19 :: a20 :: a21 :: some x :: t) H := ⟨x, rfl, q⟩
theorem y_aug23 (q : te (a0 :: a1 :: a2 :: a3 :: a4 :: a5 :: a6 :: a7 :: a8 :: a9 :: a10 :: a11 :: a12 :: a13 :: a14 :: a15 :: a16 :: a17 :: a18 :: a19 :: a20 :: a21 :: a22 :: some x :: t) H fun y H1 => ti x y H1 fun z H2 => n (a0 :: a1 :: a2 :: a3 :: a4 :: a5 :: a6 :: a7 :: a8 :: a9 :: a10 :: a11 :: a12 :: a13 :: a14 :: a15 :: a16 :: a17 :: a18 :: a19 :: a20 :: a21 :: a22 :: some z :: t) H2) : tAug 23 te ti ⟨n, rt, bk, ct⟩ (a0 :: a1 :: a2 :: a3 :: a4 :: a5 :: a6 :: a7 :: a8 :: a9 :: a10 :: a11 :: a12 :: a13 :: a14 :: a15 :: a16 :: a17 :: a18 :: a19 :: a20 :: a21 :: a22 :: some x :: t) H := ⟨x, rfl, q⟩
theorem y_aug24 (q : te (a0 :: a1 :: a2 :: a3 :: a4 :: a5 :: a6 :: a7 :: a8 :: a9 :: a10 :: a11 :: a12 :: a13 :: a14 :: a15 :: a16 :: a17 :: a18 :: a19 :: a20 :: a21 :: a22 :: a23 :: some x :: t) H fun y H1 => ti x y H1 fun z H2 => n (a0 :: a1 :: a2 :: a3 :: a4 :: a5 :: a6 :: a7 :: a8 :: a9 :: a10 :: a11 :: a12 :: a13 :: a14 :: a15 :: a16 :: a17 :: a18 :: a19 :: a20 :: a21 :: a22 :: a23 :: some z :: t) H2) : tAug 24 te ti ⟨n, rt, bk, ct⟩ (a0 :: a1 :: a2 :: a3 :: a4 :: a5 :: a6 :: a7 :: a8 :: a9 :: a10 :: a11 :: a12 :: a13 :: a14 :: a15 :: a16 :: a17 :: a18 :: a19 :: a20 :: a21 :: a22 :: a23 :: some x :: t) H := ⟨x, rfl, q⟩
theorem y_aug25 (q : te (a0 :: a1 :: a2 :: a3 :: a4 :: a5 :: a6 :: a7 :: a8 :: a9 :: a10 :: a11 :: a12 :: a13 :: a14 :: a15 :: a16 :: a17 :: a18 :: a19 :: a20 :: a21 :: a22 :: a23 :: a24 :: some x :: t) H fun y H1 => ti x y H1 fun z H2 => n (a0 :: a1 :: a2 :: a3 :: a4 :: a5 :: a6 :: a7 :: a8 :: a9 :: a10 :: a11 :: a12 :: a13 :: a14 :: a15 :: a16 :: a17 :: a18 :: a19 :: a20 :: a21 :: a22 :: a23 :: a24 :: some z :: t) H2) : tAug 25 te ti ⟨n, rt, bk, ct⟩ (a0 :: a1 :: a2 :: a3 :: a4 :: a5 :: a6 :: a7 :: a8 :: a9 :: a10 :: a11 :: a12 :: a13 :: a14 :: a15 :: a16 :: a17 :: a18 :: a19 :: a20 :: a21 :: a22 :: a23 :: a24 :: some x :: t) H := ⟨x, rfl, q⟩
theorem y_aug26 (q : te (a0 :: a1 :: a2 :: a3 :: a4 :: a5 :: a6 :: a7 :: a8 :: a9 :: a10 :: a11 :: a12 :: a13 :: a14 :: a15 :: a16 :: a17 :: a18 :: a19 :: a20 :: a21 :: a22 :: a23 :: a24 :: a25 :: some x :: t) H fun y H1 => ti x y H1 fun z H2 => n (a0 :: a1 :: a2 :: a3 :: a4 :: a5 :: a6 :: a7 :: a8 :: a9 :: a10 :: a11 :: a12 :: a13 :: a14 :: a15 :: a16 :: a17 :: a18 :: a19 :: a20 :: a21 :: a22 :: a23 :: a24 :: a25 :: some z :: t) H2) : tAug 26 te ti ⟨n, rt, bk, ct⟩ (a0 :: a1 :: a2 :: a3 :: a4 :: a5 :: a6 :: a7 :: a8 :: a9 :: a10 :: a11 :: a12 :: a13 :: a14 :: a15 :: a16 :: a17 :: a18 :: a19 :: a20 :: a21 :: a22 :: a23 :: a24 :: a25 :: some x :: t) H := ⟨x, rfl, q⟩
theorem y_aug27 (q : te (a0 :: a1 :: a2 :: a3 :: a4 :: a5 :: a6 :: a7 :: a8 :: a9 :: a10 :: a11 :: a12 :: a13 :: a14 :: a15 :: a16 :: a17 :: a18 :: a19 :: a20 :: a21 :: a22 :: a23 :: a24 :: a25 :: a26 :: some x :: t) H fun y H1 => ti x y H1 fun z H2 => n (a0 :: a1 :: a2 :: a3 :: a4 :: a5 :: a6 :: a7 :: a8 :: a9 :: a10 :: a11 :: a12 :: a13 :: a14 :: a15 :: a16 :: a17 :: a18 :: a19 :: a20 :: a21 :: a22 :: a23 :: a24 :: a25 :: a26 :: some z :: t) H2) : tAug 27 te ti ⟨n, rt, bk, ct⟩ (a0 :: a1 :: a2 :: a3 :: a4 :: a5 :: a6 :: a7 :: a8 :: a9 :: a10 :: a11 :: a12 :: a13 :: a14 :: a15 :: a16 :: a17 :: a18 :: a19 :: a20 :: a21 :: a22 :: a23 :: a24 :: a25 :: a26 :: some x :: t) H := ⟨x, rfl, q⟩
theorem y_aug28 (q : te (a0 :: a1 :: a2 :: a3 :: a4 :: a5 :: a6 :: a7 :: a8 :: a9 :: a10 :: a11 :: a12 :: a13 :: a14 :: a15 :: a16 :: a17 :: a18 :: a19 :: a20 :: a21 :: a22 :: a23 :: a24 :: a25 :: a26 :: a27 :: some x :: t) H fun y H1 => ti x y H1 fun z H2 => n (a0 :: a1 :: a2 :: a3 :: a4 :: a5 :: a6 :: a7 :: a8 :: a9 :: a10 :: a11 :: a12 :: a13 :: a14 :: a15 :: a16 :: a17 :: a18 :: a19 :: a20 :: a21 :: a22 :: a23 :: a24 :: a25 :: a26 :: a27 :: some z :: t) H2) : tAug 28 te ti ⟨n, rt, bk, ct⟩ (a0 :: a1 :: a2 :: a3 :: a4 :: a5 :: a6 :: a7 :: a8 :: a9 :: a10 :: a11 :: a12 :: a13 :: a14 :: a15 :: a16 :: a17 :: a18 :: a19 :: a20 :: a21 :: a22 :: a23 :: a24 :: a25 :: a26 :: a27 :: some x :: t) H := ⟨x, rfl, q⟩
theorem y_aug29 (q : te (a0 :: a1 :: a2 :: a3 :: a4 :: a5 :: a6 :: a7 :: a8 :: a9 :: a10 :: a11 :: a12 :: a13 :: a14 :: a15 :: a16 :: a17 :: a18 :: a19 :: a20 :: a21 :: a22 :: a23 :: a24 :: a25 :: a26 :: a27 :: a28 :: some x :: t) H fun y H1 => ti x y H1 fun z H2 => n (a0 :: a1 :: a2 :: a3 :: a4 :: a5 :: a6 :: a7 :: a8 :: a9 :: a10 :: a11 :: a12 :: a13 :: a14 :: a15 :: a16 :: a17 :: a18 :: a19 :: a20 :: a21 :: a22 :: a23 :: a24 :: a25 :: a26 :: a27 :: a28 :: some z :: t) H2) : tAug 29 te ti ⟨n, rt, bk, ct⟩ (a0 :: a1 :: a2 :: a3 :: a4 :: a5 :: a6 :: a7 :: a8 :: a9 :: a10 :: a11 :: a12 :: a13 :: a14 :: a15 :: a16 :: a17 :: a18 :: a19 :: a20 :: a21 :: a22 :: a23 :: a24 :: a25 :: a26 :: a27 :: a28 :: some x :: t) H := ⟨x, rfl, q⟩
theorem y_ipI {Q : VK} {i j : Int} (q : Q (.int (i + j)) H) : ipAddU (.int i) (.int j) H Q := .inl ⟨i, j, rfl, rfl, q⟩
end
/-! ## data walked -/
section
variable {K : PySem.W.Frag} {σ : St} {H H1 : Hp} {Q : VK} {te : TE} {g : TG} {a : Addr} {xs : List V} {ds : List Da} {vs : List Nat}
theorem y_all {bs : List Bool} (h : SqL K H a (bs.map V.bl)) (q : Q (.bl (bs.all id)) H) : rAll K [.ref a] H Q := ⟨a, bs, rfl, h, q⟩
/-- [f(x) for x in a tuple of data], f a flag and nothing else -/
theorem y_lcFlag (f : Da → Bool) (hs : SqT K H1 a xs) (ht : ThAll K H1 xs ds) (hz : xs.length ≤ sizeLine)
    (he : ∀ (x : V) (d : Da) (Hc : Hp) (Qt : VK), d ∈ ds → Th K Hc x d → Ev [] H1 Hc → (∀ H4, Ev [] Hc H4 → Qt (.bl (f d)) H4) → g x (wipe σ vs) Hc fun σ2 H2 => wipe σ2 vs = wipe σ vs ∧ te σ2 H2 Qt)
    (hd : ∀ D Hn, H1 D = none → Hn D = some (.lst ((ds.map f).map V.bl)) → Ev [] H1 Hn → Q (.ref D) Hn) : LcU K g te vs σ (.ref a) H1 Q := by
  refine y_lcT xs hs [] (by simp) (fun i acc _ => acc = ((ds.take i).map f).map V.bl) hz (fun _ _ => rfl) (fun i x acc D Hc Qt hx hD e hl iv kq => ?_) (fun D Hn acc hD e hDn hl iv => ?_)
  · obtain ⟨d, hd', hx'⟩ := ht.getV hx
    refine he x d Hc Qt (List.mem_of_getElem? hd') (e.th hx') e fun H4 e4 => kq _ _ e4 fun H5 e5 => ?_
    rw [iv, List.take_add_one, hd']
    simp
  · subst iv
    rw [List.take_of_length_le (by rw [ht.length]; exact Nat.le_refl _)] at hDn
    exact hd D Hn hD hDn e
end
section
variable {K : PySem.W.Frag} {H : Hp} {Q : VK} {a : Addr} {xs : List V}
theorem y_tupleL (h : SqL K H a xs) (q : ∀ p H', H p = none → H' p = some (.tup xs) → Ev [] H H' → Q (.ref p) H') : rTupleU K [.ref a] H Q := ⟨a, xs, rfl, .inl ⟨h, fun p hp => q p _ hp upd_same (Ev.new hp)⟩⟩
theorem y_tupleT (h : SqT K H a xs) (q : Q (.ref a) H) : rTupleU K [.ref a] H Q := ⟨a, xs, rfl, .inr ⟨h, q⟩⟩
/-- where a sign stands in a text -/
theorem find_sign (z : Str) (c : Nat) : (Txt.find z (ofL [c]) = -1 ∧ c ∉ z.cps.toList) ∨ ∃ i : Nat, Txt.find z (ofL [c]) = (i : Int) ∧ z.cps.toList[i]? = some c := by
  have zl : z.cps.toList.length = z.length := by simp [Str.length]
  have sa : ∀ i, StrLaws.At z (ofL [c]) z.length i ↔ z.cps.toList[i]? = some c := fun i => by
    unfold StrLaws.At
    rw [ofL_len]
    constructor
    · rintro ⟨h1, h2⟩
      have e : z.cps.extract i (i + 1) = #[c] := eq_of_beq h2
      have e2 := congrArg Array.toList e
      rw [Array.toList_extract, List.extract_eq_drop_take] at e2
      have e3 := congrArg (fun l : List Nat => l[0]?) e2
      simpa [List.getElem?_take, List.getElem?_drop] using e3
    · intro h
      have hl := (List.getElem?_eq_some_iff.mp h).1
      refine ⟨by show i + 1 ≤ z.length; omega, ?_⟩
      show (z.cps.extract i (i + 1) == #[c]) = true
      refine beq_iff_eq.mpr (Array.toList_inj.mp ?_)
      rw [Array.toList_extract, List.extract_eq_drop_take, show i + 1 - i = 1 by omega]
      refine List.ext_getElem? fun k => ?_
      rw [List.getElem?_take, List.getElem?_drop]
      cases k with
      | zero => simpa using h
      | succ k => simp
  rcases PyProof.Rows.find_whole z (ofL [c]) with ⟨h, n⟩ | ⟨i, h, hi, _⟩
  · refine .inl ⟨h, fun q => ?_⟩
    obtain ⟨i, hi⟩ := List.mem_iff_getElem?.mp q
    exact n i ((sa i).mpr hi)
  · exact .inr ⟨i, h, (sa i).mp hi⟩
end
/-! ## while, pairs of names (places printed by a program) -/
section
variable {H : Hp} {σ : St} {ta : TA} {te : TE} {c : TT} {tb : TS} {n : St → Hp → Prop} {rt : VK} {bk ct : St → Hp → Prop}
def WhN (W : Nat → St → Hp → Prop) (m : Nat) (tb : TS) (D : Ends) (σ : St) (H : Hp) : Prop := ∃ N : St → Hp → Prop, (∀ σ' H', N σ' H' → ∃ m', m' < m ∧ W m' σ' H') ∧ tb { D with nx := N, ct := N, bk := D.nx } σ H
theorem y_whN {W : Nat → St → Hp → Prop} {m : Nat} (q : tb ⟨fun σ' H' => ∃ m', m' < m ∧ W m' σ' H', rt, n, fun σ' H' => ∃ m', m' < m ∧ W m' σ' H'⟩ σ H) : WhN W m tb ⟨n, rt, bk, ct⟩ σ H := ⟨_, fun _ _ h => h, q⟩
theorem y_while (W : Nat → St → Hp → Prop) (m : Nat) (h0 : W m σ H) (hs : ∀ m σ H, W m σ H → c σ H fun b H1 => if b = true then WhN W m tb ⟨n, rt, bk, ct⟩ σ H1 else n σ H1) : tWhile c tb ⟨n, rt, bk, ct⟩ σ H := ⟨W, ⟨m, h0⟩, hs⟩
def Par2 (i j : Nat) (n : St → Hp → Prop) (σ : St) (vs : List V) (H1 : Hp) : Prop := ∃ v w, vs = [v, w] ∧ n ((σ.set i (some v)).set j (some w)) H1
theorem y_par {i j : Nat} (q : ta σ H fun vs H1 => Par2 i j n σ vs H1) : tPar i j ta ⟨n, rt, bk, ct⟩ σ H := q
theorem y_par2 {i j : Nat} {v w : V} {σ' : St} (h : (σ.set i (some v)).set j (some w) = σ') (q : n σ' H) : Par2 i j n σ [v, w] H := ⟨v, w, rfl, by rw [h]; exact q⟩
end
/-! ## pairs -/
def isPair : Da → Bool
  | .tup ds => decide (ds.length = 2)
  | _ => false
theorem isPair_two {d : Da} (h : isPair d = true) : ∃ a b, d = .tup [a, b] := by
  cases d <;> simp [isPair] at h
  rename_i ds
  match ds, h with
  | [a, b], _ => exact ⟨a, b, rfl⟩
theorem th_two {K : PySem.W.Frag} {H : Hp} {v : V} {a b : Da} (h : Th K H v (.tup [a, b])) : ∃ p x y, v = .ref p ∧ SqT K H p [x, y] ∧ Th K H x a ∧ Th K H y b := by
  cases h with
  | @tup p xs _ hs ht =>
    cases ht with
    | cons h1 h2 =>
      cases h2 with
      | cons h3 h4 =>
        cases h4
        exact ⟨p, _, _, rfl, hs, h1, h3⟩
/-! ## wide whole numbers -/
section
variable {H : Hp} {Q : VK} {i j : Int}
theorem log2_lt {i : Int} {n : Nat} (h : i.natAbs < 2 ^ n) (hn : 0 < n) : i.natAbs.log2 < n := by
  by_cases z : i.natAbs = 0
  · rw [z]; exact hn
  · exact (Nat.log2_lt z).mpr h
theorem y_mulW {n m : Nat} (h1 : i.natAbs < 2 ^ n) (h2 : j.natAbs < 2 ^ m) (n0 : 0 < n) (m0 : 0 < m) (hn : n + m ≤ 1000000) (q : Q (.int (i * j)) H) : rMulU (.int i) (.int j) H Q := .inr (.inl ⟨i, j, rfl, rfl, by
  show i.natAbs.log2 + j.natAbs.log2 < 1000000
  have a := log2_lt h1 n0
  have b := log2_lt h2 m0
  omega, q⟩)
theorem y_fdivW {m : Nat} (h0 : 0 < j) (h2 : j.natAbs < 2 ^ m) (m0 : 0 < m) (hm : m ≤ 9000) (q : Q (.int (i / j)) H) : rFdivU (.int i) (.int j) H Q := .inr (.inr ⟨i, j, rfl, rfl, ⟨h0, by have := log2_lt h2 m0; omega⟩, q⟩)
end
/-! ## dicts by texts -/
section
variable {K : PySem.W.Frag} {H : Hp} {Q : VK} {a : Addr} {kvs : List (Key × V)} {k : Str} {v : V}
theorem y_getD (h : H a = some (.dK kvs)) (e : valV kvs (.inr k) = some v) (q : Q v H) : rIxU K (.ref a) (.str k) H Q := .inr ⟨a, v, rfl, by rw [← e]; exact DGet.k (k := .inr k) h, q⟩
theorem y_inD (h : H a = some (.dK kvs)) (q : Q (.bl (valV kvs (.inr k)).isSome) H) : rInU K false (.str k) (.ref a) H Q := .inr (.inr ⟨a, _, rfl, DGet.k (k := .inr k) h, q⟩)
theorem y_notInD (h : H a = some (.dK kvs)) (q : Q (.bl (!(valV kvs (.inr k)).isSome)) H) : rInU K true (.str k) (.ref a) H Q := .inr (.inr ⟨a, _, rfl, DGet.k (k := .inr k) h, q⟩)
theorem y_lenD (h : H a = some (.dK kvs)) (q : Q (.int kvs.length) H) : rLenU K [.ref a] H Q := .inr ⟨a, kvs, rfl, h, q⟩
theorem y_sum {ns : List Int} (h : SqL K H a (ns.map V.int)) (q : Q (.int ns.sum) H) : rSum K [.ref a] H Q := ⟨a, ns, rfl, h, q⟩
end
/-! ## {k(x): v(x) for x in a list of texts} -/
section
variable {X : Cx}
theorem pe_dcU {kx vx tg iter : Expr} {ifs : List Expr} {scope : Scope} {own : List (Str × Nat)} {vs : List Nat} {pos : Pos} {wi : TI} {g : TG} {tt : TT} {tk tv : TE} (hv : own.map (·.2) = vs) (hc : X.calm = true) (hN : X.N.Nodup) (hi : PI X tg iter wi) (ok : BlkOk X.N X.env.scope scope own)
    (hg : ∀ (s : Shared) (H : Hp) (C : Addr) (cl : List (Str × Addr)) (fp : List Addr), PG (X.blk s H scope (compEnvC scope cl C X.env) fp) tg g) (ht : ∀ (s : Shared) (H : Hp) (C : Addr) (cl : List (Str × Addr)) (fp : List Addr), PTs (X.blk s H scope (compEnvC scope cl C X.env) fp) ifs tt)
    (hk : ∀ (s : Shared) (H : Hp) (C : Addr) (cl : List (Str × Addr)) (fp : List Addr), PE (X.blk s H scope (compEnvC scope cl C X.env) fp) kx tk)
    (he : ∀ (s : Shared) (H : Hp) (C : Addr) (cl : List (Str × Addr)) (fp : List Addr), PE (X.blk s H scope (compEnvC scope cl C X.env) fp) vx tv) (hs : ∀ x, foldedSetIterable iter X.env x = pure x := by intro _; rfl) :
    PE X (.DictComp kx vx [⟨tg, iter, ifs, 0⟩] scope pos) (tDc wi g tt tk tv vs) := hv ▸ pe_dc hc hN hi ok hg ht hk he hs
end
section
variable {K : PySem.W.Frag} {σ : St} {H H1 : Hp} {Q : VK} {tk tv t0 : TE} {g : TG} {a : Addr} {vs : List Nat}
def DcU (K : PySem.W.Frag) (g : TG) (tk tv : TE) (vs : List Nat) (σ : St) (v : V) (H1 : Hp) (Q : VK) : Prop := tDc (iU K (tC v)) g tYes tk tv vs σ H1 Q
theorem y_dc (q : t0 σ H fun v H1 => DcU K g tk tv vs σ v H1 Q) : tDc (iU K t0) g tYes tk tv vs σ H Q := q
/-- over a list of texts, the texts themselves the keys -/
theorem y_dcStrs (ys : List Str) (hx : SqL K H1 a (ys.map V.str)) (na : ∀ Hc, Ev [] H1 Hc → SqL K Hc a (ys.map V.str)) (hz : ys.length < sizeLine) (Val : Str → V → Prop)
    (hb : ∀ (y : Str) (Hc : Hp) (P : V → V → Hp → Prop), y ∈ ys → Ev [] H1 Hc → (∀ v, Val y v → P (.str y) v Hc) → g (.str y) (wipe σ vs) Hc fun σ2 H2 => wipe σ2 vs = wipe σ vs ∧ tk σ2 H2 fun k H4 => tv σ2 H4 fun v H5 => P k v H5)
    (hd : ∀ D Hn kvs, H1 D = none → Hn D = some (.dK kvs) → kvs.length ≤ ys.length → (∀ y ∈ ys, ∃ v, valV kvs (.inr y) = some v ∧ Val y v) → Ev [] H1 Hn → Q (.ref D) Hn) : DcU K g tk tv vs σ (.ref a) H1 Q := by
  refine .inl ⟨a, rfl, ⟨_, hx⟩, ?_⟩
  intro D hD
  refine ⟨fun i m H => m = ys.length - i ∧ i ≤ ys.length ∧ ∃ kvs, H = upd H1 D (.dK kvs) ∧ kvs.length ≤ i ∧ ∀ y ∈ ys.take i, ∃ v, valV kvs (.inr y) = some v ∧ Val y v, ⟨ys.length, by simp, Nat.zero_le _, [], rfl, by simp, by simp⟩, ?_⟩
  rintro i m H ⟨rfl, hi, kvs, rfl, hl, hv⟩
  have e1 : Ev [] H1 (upd H1 D (.dK kvs)) := Ev.new hD
  by_cases hlt : i < ys.length
  · have hL := na _ e1
    refine .inr ⟨walk_list.goes i _ (by rw [List.length_map]; exact hlt) hL, fun H' => i + 1 ≤ ys.length ∧ ∃ kvs, H' = upd H1 D (.dK kvs) ∧ kvs.length ≤ i + 1 ∧ ∀ y ∈ ys.take (i + 1), ∃ v, valV kvs (.inr y) = some v ∧ Val y v, fun H' p' => ⟨ys.length - (i + 1), by omega, rfl, p'.1, p'.2⟩, fun x H' y => ?_⟩
    obtain ⟨rfl, ex⟩ := walk_list.yields i _ x H' (by rw [List.length_map]; exact hlt) hL y
    have ey : ys[i]? = some ys[i] := List.getElem?_eq_getElem hlt
    rw [List.getElem?_map, ey] at ex
    cases ex
    have hb' := hb ys[i] (upd H1 D (.dK kvs)) (fun k z H5 => ∃ kvs' k', k = kV k' ∧ H5 D = some (.dK kvs') ∧ kvs'.length < sizeLine ∧ (i + 1 ≤ ys.length ∧ ∃ kvs2, upd H5 D (.dK (putK kvs' k' z)) = upd H1 D (.dK kvs2) ∧ kvs2.length ≤ i + 1 ∧ ∀ y ∈ ys.take (i + 1), ∃ v, valV kvs2 (.inr y) = some v ∧ Val y v)) (List.getElem_mem hlt) e1 (fun v hval => by
      refine ⟨kvs, .inr ys[i], rfl, upd_same, by omega, hlt, putK kvs (.inr ys[i]) v, by rw [upd_upd], Nat.le_trans (length_putK _ _ _) (by omega), fun y hy => ?_⟩
      rw [valV_put]
      by_cases e : (Sum.inr y : Key) = Sum.inr ys[i]
      · rw [if_pos e]
        cases e
        exact ⟨v, rfl, hval⟩
      · rw [if_neg e]
        rw [List.take_add_one, ey] at hy
        rcases List.mem_append.mp hy with q | q
        · exact hv y q
        · simp at q
          exact absurd (by rw [q]) e)
    exact hb'
  · have e : i = ys.length := by omega
    subst e
    have st := (walk_list (K := K) (a := a) (xs := ys.map V.str)).stops _ (na _ e1)
    rw [List.length_map] at st
    refine .inl ⟨st, ?_⟩
    rw [List.take_of_length_le (Nat.le_refl _)] at hv
    exact hd D _ kvs hD upd_same hl hv e1
end
/-! ## [c for c in a text if ..] -/
section
variable {K : PySem.W.Frag} {σ : St} {H H1 : Hp} {Q : VK} {te t0 : TE} {tt : TT} {g : TG} {vs : List Nat}
def LcF (K : PySem.W.Frag) (g : TG) (tt : TT) (te : TE) (vs : List Nat) (σ : St) (v : V) (H1 : Hp) (Q : VK) : Prop := tLc (iU K (tC v)) g tt te vs σ H1 Q
theorem y_lcF (q : t0 σ H fun v H1 => LcF K g tt te vs σ v H1 Q) : tLc (iU K t0) g tt te vs σ H Q := q
theorem y_lcFS (s : Str) (f : Nat → Bool) (hz : s.cps.toList.length < sizeLine)
    (hs : ∀ (c : Nat) (Hc : Hp) (A : Hp → Prop) (B : V → Hp → Prop), c ∈ s.cps.toList → (f c = false → A Hc) → (f c = true → B (.str ⟨#[c]⟩) Hc) → g (.str ⟨#[c]⟩) (wipe σ vs) Hc fun σ2 H2 => wipe σ2 vs = wipe σ vs ∧ tt σ2 H2 fun b H3 => if b = true then te σ2 H3 B else A H3)
    (hd : ∀ D Hn, H1 D = none → Hn D = some (.lst ((s.cps.toList.filter f).map fun c => V.str ⟨#[c]⟩)) → Ev [] H1 Hn → Q (.ref D) Hn) : LcF K g tt te vs σ (.str s) H1 Q := by
  refine .inr (.inr ⟨s, rfl, ?_⟩)
  intro D hD
  refine ⟨fun i m H => m = s.cps.toList.length - i ∧ i ≤ s.cps.toList.length ∧ H = upd H1 D (.lst (((s.cps.toList.take i).filter f).map fun c => V.str ⟨#[c]⟩)), ⟨s.cps.toList.length, by simp, Nat.zero_le _, by simp⟩, ?_⟩
  rintro i m H ⟨rfl, hi, rfl⟩
  by_cases hlt : i < s.cps.toList.length
  · refine .inr ⟨walk_str.goes i _ (by simpa using hlt) trivial, fun H => i + 1 ≤ s.cps.toList.length ∧ H = upd H1 D (.lst (((s.cps.toList.take (i + 1)).filter f).map fun c => V.str ⟨#[c]⟩)), fun H' p' => ⟨s.cps.toList.length - (i + 1), by omega, rfl, p'.1, p'.2⟩, fun x H' y => ?_⟩
    obtain ⟨rfl, c, hc, rfl⟩ := walk_str.yields i _ x H' (by simpa using hlt) trivial y
    have hc' : s.cps.toList[i]? = some c := by simpa using hc
    have e : (s.cps.toList.take (i + 1)).filter f = (s.cps.toList.take i).filter f ++ (if f c = true then [c] else []) := by
      rw [List.take_add_one, hc', List.filter_append]
      congr 1
      simp [List.filter_cons]
    refine hs c _ (fun H => i + 1 ≤ s.cps.toList.length ∧ H = upd H1 D (.lst (((s.cps.toList.take (i + 1)).filter f).map fun c => V.str ⟨#[c]⟩))) (fun y H4 => ∃ acc, H4 D = some (.lst acc) ∧ acc.length < sizeLine ∧ (i + 1 ≤ s.cps.toList.length ∧ upd H4 D (.lst (acc ++ [y])) = upd H1 D (.lst (((s.cps.toList.take (i + 1)).filter f).map fun c => V.str ⟨#[c]⟩)))) (List.mem_of_getElem? hc') (fun ef => ⟨hlt, by rw [e, ef]; simp⟩) (fun ef => ⟨_, upd_same, ?_, hlt, ?_⟩)
    · rw [List.length_map]
      have := List.length_filter_le f (s.cps.toList.take i)
      rw [List.length_take] at this
      omega
    · rw [upd_upd, e, ef, if_pos rfl, List.map_append]
      rfl
  · have e : i = s.cps.toList.length := by omega
    subst e
    have st := (walk_str (z := s)).stops (upd H1 D (.lst (((s.cps.toList.take s.cps.toList.length).filter f).map fun c => V.str ⟨#[c]⟩))) trivial
    refine .inl ⟨by simpa using st, ?_⟩
    rw [List.take_of_length_le (Nat.le_refl _)]
    exact hd D _ hD upd_same (Ev.new hD)
end
end L2

/-! ## S1: data as trees, own objects, what a value stands for -/
namespace VS
open PySem PySem.Spec PyProof.Rows L2
/-- a dict's key -/
inductive DK where
  | k (k : Key)
  | tup (l : List Key)
  deriving DecidableEq
/-- what an object is, but for its items -/
inductive Hd where
  | lst
  | dct (t : Bool) (ks : List DK)
  | ins (c : Nat) (fs : List Str)
  deriving DecidableEq
/-- data -/
inductive D where
  | non | bl (b : Bool) | int (i : Int) | str (s : Str) | tup (l : List D) | ob (h : Hd) (l : List D) | fro (l : List D)
abbrev D.lst (l : List D) : D := .ob .lst l
abbrev D.dct (t : Bool) (ks : List DK) (l : List D) : D := .ob (.dct t ks) l
abbrev D.ins (c : Nat) (fs : List Str) (l : List D) : D := .ob (.ins c fs) l
/-- data that nobody changes, or an object that is one's own -/
inductive SV where
  | fz (d : D)
  | mu (h : Hd) (l : List SV)
mutual
def SV.toD : SV → D
  | .fz d => d
  | .mu h l => .ob h (toDs l)
def toDs : List SV → List D
  | [] => []
  | s :: r => s.toD :: toDs r
end
def allFz : List SV → Option (List D)
  | [] => some []
  | .fz d :: r => (allFz r).map (d :: ·)
  | .mu _ _ :: _ => none
def SV.view : SV → Option D
  | .fz d => some d
  | .mu h l => (allFz l).map (.ob h)
theorem toDs_eq : ∀ l : List SV, toDs l = l.map SV.toD
  | [] => rfl
  | s :: r => by rw [toDs, toDs_eq r]; rfl
theorem allFz_eq : ∀ {l : List SV} {ds : List D}, allFz l = some ds → l = ds.map SV.fz
  | [], ds, h => by cases h; rfl
  | .fz d :: r, ds, h => by
    simp only [allFz, Option.map_eq_some_iff] at h
    obtain ⟨ds', h, rfl⟩ := h
    rw [allFz_eq h]; rfl
  | .mu _ _ :: _, ds, h => by cases h
theorem allFz_map : ∀ l : List D, allFz (l.map SV.fz) = some l
  | [] => rfl
  | d :: r => by simp only [List.map_cons, allFz, allFz_map r, Option.map_some]
theorem toDs_fz : ∀ l : List D, toDs (l.map SV.fz) = l
  | [] => rfl
  | d :: r => by
    show SV.toD (.fz d) :: toDs (r.map SV.fz) = _
    rw [toDs_fz r]; rfl
structure Gx where
  K : PySem.W.Frag
  cl : Nat → Addr
  hid : Nat → List Str
  pin : List Nat
  ex : L2.St → XK
def keyT : Key → DK := DK.k
/-- the object of a head and items -/
def HOf (cl : Nat → Addr) (h : Hd) (xs : List V) (o : HO) : Prop :=
  match h with
  | .lst => o = .lst xs
  | .dct false ks => ∃ kvs : List (Key × V), o = .dK kvs ∧ ks = kvs.map (fun p => DK.k p.1) ∧ xs = kvs.map (·.2)
  | .dct true ks => ∃ kvs : List (List Key × V), o = .dT kvs ∧ ks = kvs.map (fun p => DK.tup p.1) ∧ xs = kvs.map (·.2)
  | .ins c fs => ∃ dx fsr, o = .ins (cl c) dx fsr ∧ fs = fsr.map (·.1) ∧ xs = fsr.map (·.2) ∧ (fsr.map (·.1)).Nodup
/-- .. as it is read: of an instance some attributes -/
def HOr (cl : Nat → Addr) (hid : Nat → List Str) (h : Hd) (xs : List V) (o : HO) : Prop :=
  match h with
  | .lst => o = .lst xs
  | .dct false ks => ∃ kvs : List (Key × V), o = .dK kvs ∧ ks = kvs.map (fun p => DK.k p.1) ∧ xs = kvs.map (·.2)
  | .dct true ks => ∃ kvs : List (List Key × V), o = .dT kvs ∧ ks = kvs.map (fun p => DK.tup p.1) ∧ xs = kvs.map (·.2)
  | .ins c fs => ∃ dx fsr, o = .ins (cl c) dx fsr ∧ fs.length = xs.length ∧ (∀ f, f ∉ fs → f ∉ hid c → fsr.lookup f = none) ∧ ∀ (i : Nat) f x, fs[i]? = some f → xs[i]? = some x → fsr.lookup f = some x
theorem lookup_nodup {l : List (Str × V)} : (l.map (·.1)).Nodup → ∀ {i : Nat} {p : Str × V}, l[i]? = some p → l.lookup p.1 = some p.2 := by
  induction l with
  | nil => intro _ i p h; cases h
  | cons q r ih =>
    intro nd i p h
    obtain ⟨k, v⟩ := q
    obtain ⟨n1, n2⟩ := List.nodup_cons.mp nd
    cases i with
    | zero => cases h; simp [List.lookup]
    | succ i =>
      have h' : r[i]? = some p := h
      have m : p.1 ∈ r.map (·.1) := List.mem_map_of_mem (List.mem_of_getElem? h')
      have e : (p.1 == k) = false := by
        rw [beq_eq_false_iff_ne]
        rintro rfl
        exact n1 m
      rw [List.lookup, e]
      exact ih n2 h'
theorem lookup_no {f : Str} : ∀ {l : List (Str × V)}, f ∉ l.map (·.1) → l.lookup f = none
  | [], _ => rfl
  | (k, v) :: r, h => by
    have e : (f == k) = false := by
      rw [beq_eq_false_iff_ne]
      rintro rfl
      exact h (by simp)
    rw [List.lookup, e]
    exact lookup_no fun m => h (by simp at m ⊢; exact .inr m)
theorem HOf.r {cl : Nat → Addr} {hid : Nat → List Str} {h : Hd} {xs : List V} {o : HO} (q : HOf cl h xs o) : HOr cl hid h xs o := by
  cases h with
  | lst => exact q
  | dct b ks => cases b <;> exact q
  | ins c fs =>
    obtain ⟨dx, fsr, e, e1, e2, nd⟩ := q
    subst e1; subst e2
    refine ⟨dx, fsr, e, by simp, fun f n _ => lookup_no n, fun i f x h1 h2 => ?_⟩
    rw [List.getElem?_map] at h1 h2
    cases q : fsr[i]? with
    | none => rw [q] at h1; cases h1
    | some p =>
      rw [q] at h1 h2
      cases h1; cases h2
      exact lookup_nodup nd q
theorem HOf.kind {cl : Nat → Addr} {h : Hd} {xs : List V} {o : HO} (q : HOf cl h xs o) : kindO o ≠ 1 ∧ kindO o ≠ 10 := by
  cases h with
  | lst => cases q; simp [kindO]
  | dct b ks => cases b <;> obtain ⟨kvs, rfl, _⟩ := q <;> simp [kindO]
  | ins c fs => obtain ⟨dx, fsr, rfl, _⟩ := q; simp [kindO]
/-! ### heaps that change at a set of addresses -/
abbrev Ad := Addr → Prop
structure Evp (S : Ad) (H H' : Hp) : Prop where
  keep : ∀ b o, H b = some o → ¬ S b → H' b = some o
  tups : ∀ b xs, H b = some (.tup xs) → H' b = some (.tup xs)
  frzs : ∀ b o u, H b = some (.frz o u) → H' b = some (.frz o u)
  kind : ∀ b o, H b = some o → ∃ o', H' b = some o' ∧ kindO o' = kindO o
abbrev Ev0 : Hp → Hp → Prop := Evp fun _ => False
section
variable {S S' M M1 M2 : Ad} {H H1 H2 : Hp} {p b : Addr} {o o' : HO}
theorem ev_p {L : List Addr} (e : Ev L H H1) : Evp (· ∈ L) H H1 := ⟨e.keep, e.tups, e.frzs, e.kind⟩
theorem ev_p0 (e : Ev [] H H1) : Ev0 H H1 := ⟨fun b o h _ => e.keep b o h (by simp), e.tups, e.frzs, e.kind⟩
theorem Evp.refl : Evp S H H := ⟨fun _ _ h _ => h, fun _ _ h => h, fun _ _ _ h => h, fun _ o h => ⟨o, h, rfl⟩⟩
theorem Evp.mono (a : Evp S H H1) (h : ∀ x, S x → S' x) : Evp S' H H1 := ⟨fun c o e n => a.keep c o e fun m => n (h c m), a.tups, a.frzs, a.kind⟩
theorem Evp.of0 (a : Ev0 H H1) : Evp S H H1 := a.mono fun _ h => h.elim
theorem Evp.non (a : Evp S H H1) (h : H1 b = none) : H b = none := by
  cases q : H b with
  | none => rfl
  | some o =>
    obtain ⟨_, e, _⟩ := a.kind b o q
    rw [h] at e; cases e
theorem Evp.live (a : Evp S H H1) (h : H b ≠ none) : H1 b ≠ none := fun q => h (a.non q)
/-- what the second step changes was not there at the beginning, or is of S -/
theorem Evp.trans (a : Evp S H H1) (b : Evp S' H1 H2) (g : ∀ x, S' x → S x ∨ H x = none) : Evp S H H2 :=
  ⟨fun c o h n => b.keep c o (a.keep c o h n) (fun q => by
    rcases g c q with q | q
    · exact n q
    · rw [h] at q; cases q), fun c xs h => b.tups c xs (a.tups c xs h), fun c o u h => b.frzs c o u (a.frzs c o u h), fun c o h => by
    obtain ⟨o1, h1, e1⟩ := a.kind c o h
    obtain ⟨o2, h2, e2⟩ := b.kind c o1 h1
    exact ⟨o2, h2, e2.trans e1⟩⟩
theorem Ev0.trans (a : Ev0 H H1) (b : Ev0 H1 H2) : Ev0 H H2 := Evp.trans a b fun _ h => .inl h
/-- the own objects M at H have become M1 at H1 -/
structure Le (M : Ad) (H : Hp) (M1 : Ad) (H1 : Hp) : Prop where
  ev : Evp M H H1
  grow : ∀ a, M1 a → M a ∨ H a = none
theorem Le.refl : Le M H M H := ⟨.refl, fun _ h => .inl h⟩
theorem Le.of0 (e : Ev0 H H1) (g : ∀ a, M1 a → M a ∨ H a = none) : Le M H M1 H1 := ⟨.of0 e, g⟩
theorem Le.trans (a : Le M H M1 H1) (b : Le M1 H1 M2 H2) : Le M H M2 H2 :=
  ⟨a.ev.trans b.ev a.grow, fun x h => by
    rcases b.grow x h with q | q
    · exact a.grow x q
    · exact .inr (a.ev.non q)⟩
end
/-- a locked list, or one of the written part -/
def Fro (K : PySem.W.Frag) (H : Hp) (a : Addr) (xs : List V) : Prop := (∃ u, H a = some (.frz u (.lst xs))) ∨
  ∃ (o : Obj) (its : Array Value) (n : Nat), K.lookup a = some o ∧ o.cls = .type "list" ∧ o.dict = none ∧ o.data = .seq its n ∧ its.size ≤ sizeLine ∧ Vals xs its.toList
theorem Fro.sqL {K : PySem.W.Frag} {H : Hp} {a : Addr} {xs : List V} (h : Fro K H a xs) : SqL K H a xs := by
  rcases h with ⟨u, h⟩ | h
  · exact .inl (.inr ⟨u, h⟩)
  · exact .inr h
/-! ### what a value stands for -/
mutual
inductive R (g : Gx) (M : Ad) (H : Hp) : V → D → Prop
  | non : R g M H .non .non
  | bl (b : Bool) : R g M H (.bl b) (.bl b)
  | int (i : Int) : R g M H (.int i) (.int i)
  | str (x : Str) : R g M H (.str x) (.str x)
  | tup {a : Addr} {xs : List V} {ds : List D} : SqT g.K H a xs → Rs g M H xs ds → R g M H (.ref a) (.tup ds)
  | ob {a : Addr} {o : HO} {h : Hd} {xs : List V} {ds : List D} : Rd H a o → ((∀ b ks, h ≠ .dct b ks) → H a = some o) → ¬ M a → HOr g.cl g.hid h xs o → Rs g M H xs ds → R g M H (.ref a) (.ob h ds)
  | fro {a : Addr} {xs : List V} {ds : List D} : Fro g.K H a xs → Rs g M H xs ds → R g M H (.ref a) (.fro ds)
inductive Rs (g : Gx) (M : Ad) (H : Hp) : List V → List D → Prop
  | nil : Rs g M H [] []
  | cons {v : V} {vs : List V} {d : D} {ds : List D} : R g M H v d → Rs g M H vs ds → Rs g M H (v :: vs) (d :: ds)
end
mutual
inductive Ow (g : Gx) (M : Ad) (H : Hp) : V → SV → List Addr → Prop
  | fz {v : V} {d : D} : R g M H v d → Ow g M H v (.fz d) []
  | mu {a : Addr} {o : HO} {h : Hd} {xs : List V} {l : List SV} {F : List Addr} : H a = some o → HOf g.cl h xs o → Ows g M H xs l F → Ow g M H (.ref a) (.mu h l) (a :: F)
inductive Ows (g : Gx) (M : Ad) (H : Hp) : List V → List SV → List Addr → Prop
  | nil : Ows g M H [] [] []
  | cons {v : V} {vs : List V} {s : SV} {l : List SV} {F F' : List Addr} : Ow g M H v s F → Ows g M H vs l F' → Ows g M H (v :: vs) (s :: l) (F ++ F')
end
section
variable {g : Gx} {S M M1 : Ad} {H H1 : Hp} {v : V} {vs : List V} {d : D} {ds : List D} {s : SV} {l : List SV} {F F' : List Addr}
theorem rd_le {a : Addr} {o : HO} (e : Le M H M1 H1) (h : Rd H a o) (n : ¬ M a) : Rd H1 a o ∧ ¬ M1 a := by
  have live : H a ≠ none := by
    rcases h with h | ⟨_, h⟩ <;> rw [h] <;> exact fun q => nomatch q
  refine ⟨?_, fun q => ?_⟩
  · rcases h with h | ⟨u, h⟩
    · exact .inl (e.ev.keep _ _ h n)
    · exact .inr ⟨u, e.ev.frzs _ _ _ h⟩
  · rcases e.grow a q with q | q
    · exact n q
    · exact live q
theorem Evp.sqT {K : PySem.W.Frag} {a : Addr} {xs : List V} (e : Evp S H H1) (h : SqT K H a xs) : SqT K H1 a xs := by
  rcases h with (h | ⟨o, h⟩) | h
  · exact .inl (.inl (e.tups _ _ h))
  · exact .inl (.inr ⟨o, e.frzs _ _ _ h⟩)
  · exact .inr h
mutual
theorem R.le (e : Le M H M1 H1) : ∀ (d : D) (v : V), R g M H v d → R g M1 H1 v d
  | .non, _, h => by cases h; exact .non
  | .bl b, _, h => by cases h; exact .bl b
  | .int i, _, h => by cases h; exact .int i
  | .str x, _, h => by cases h; exact .str x
  | .tup ds, _, h => by
    cases h with
    | tup q r => exact .tup (e.ev.sqT q) (Rs.le e ds _ r)
  | .ob hd ds, _, h => by
    cases h with
    | ob q qi n p r => exact .ob (rd_le e q n).1 (fun eh => e.ev.keep _ _ (qi eh) n) (rd_le e q n).2 p (Rs.le e ds _ r)
  | .fro ds, _, h => by
    cases h with
    | fro q r => exact .fro (q.imp (fun ⟨u, q⟩ => ⟨u, e.ev.frzs _ _ _ q⟩) id) (Rs.le e ds _ r)
theorem Rs.le (e : Le M H M1 H1) : ∀ (ds : List D) (vs : List V), Rs g M H vs ds → Rs g M1 H1 vs ds
  | [], _, h => by cases h; exact .nil
  | d :: ds, _, h => by
    cases h with
    | cons p q => exact .cons (R.le e d _ p) (Rs.le e ds _ q)
end
theorem Le.r (e : Le M H M1 H1) (h : R g M H v d) : R g M1 H1 v d := R.le e d v h
theorem Le.rs (e : Le M H M1 H1) (h : Rs g M H vs ds) : Rs g M1 H1 vs ds := Rs.le e ds vs h
theorem Le.sub (h : ∀ a, M1 a → M a) : Le M H M1 H := ⟨.refl, fun a q => .inl (h a q)⟩
theorem R.ev0 (e : Ev0 H H1) (h : R g M H v d) : R g M H1 v d := (Le.of0 e fun _ q => .inl q).r h
theorem Rs.ev0 (e : Ev0 H H1) (h : Rs g M H vs ds) : Rs g M H1 vs ds := (Le.of0 e fun _ q => .inl q).rs h
theorem Rs.length : ∀ {vs : List V} {ds : List D}, Rs g M H vs ds → vs.length = ds.length
  | _, _, .nil => rfl
  | _, _, .cons _ q => congrArg (· + 1) q.length
theorem Rs.get : ∀ {vs : List V} {ds : List D} {i : Nat} {d : D}, Rs g M H vs ds → ds[i]? = some d → ∃ v, vs[i]? = some v ∧ R g M H v d
  | _, _, i, d, .nil, e => by simp at e
  | _, _, 0, d, .cons p q, e => by simp at e; subst e; exact ⟨_, rfl, p⟩
  | _, _, i + 1, d, .cons p q, e => by
    obtain ⟨v, h1, h2⟩ := Rs.get (i := i) q (by simpa using e)
    exact ⟨v, by simpa using h1, h2⟩
theorem Rs.getV : ∀ {vs : List V} {ds : List D} {i : Nat} {v : V}, Rs g M H vs ds → vs[i]? = some v → ∃ d, ds[i]? = some d ∧ R g M H v d
  | _, _, i, d, .nil, e => by simp at e
  | _, _, 0, d, .cons p q, e => by simp at e; subst e; exact ⟨_, rfl, p⟩
  | _, _, i + 1, d, .cons p q, e => by
    obtain ⟨v, h1, h2⟩ := Rs.getV (i := i) q (by simpa using e)
    exact ⟨v, by simpa using h1, h2⟩
theorem Rs.app : ∀ {vs ws : List V} {ds es : List D}, Rs g M H vs ds → Rs g M H ws es → Rs g M H (vs ++ ws) (ds ++ es)
  | _, _, _, _, .nil, q => q
  | _, _, _, _, .cons p r, q => .cons p (r.app q)
mutual
/-- other objects of one's own have changed -/
theorem Ow.keep (e : Evp S H H1) (hS : ∀ a, S a → M a) (gr : ∀ a, M1 a → M a ∨ H a = none) : ∀ (s : SV) (v : V) (F : List Addr), (∀ a ∈ F, ¬ S a) → Ow g M H v s F → Ow g M1 H1 v s F
  | .fz d, _, _, n, h => by
    cases h with
    | fz r => exact .fz (Le.r ⟨e.mono hS, gr⟩ r)
  | .mu hd l, _, _, n, h => by
    cases h with
    | mu h1 h2 h3 => exact .mu (e.keep _ _ h1 (n _ List.mem_cons_self)) h2 (Ows.keep e hS gr l _ _ (fun a m => n a (List.mem_cons_of_mem _ m)) h3)
theorem Ows.keep (e : Evp S H H1) (hS : ∀ a, S a → M a) (gr : ∀ a, M1 a → M a ∨ H a = none) : ∀ (l : List SV) (vs : List V) (F : List Addr), (∀ a ∈ F, ¬ S a) → Ows g M H vs l F → Ows g M1 H1 vs l F
  | [], _, _, n, h => by cases h; exact .nil
  | s :: l, _, _, n, h => by
    cases h with
    | cons p q => exact .cons (Ow.keep e hS gr s _ _ (fun a m => n a (List.mem_append_left _ m)) p) (Ows.keep e hS gr l _ _ (fun a m => n a (List.mem_append_right _ m)) q)
end
theorem Ow.keep' (e : Evp S H H1) (hS : ∀ a, S a → M a) (gr : ∀ a, M1 a → M a ∨ H a = none) (n : ∀ a ∈ F, ¬ S a) (h : Ow g M H v s F) : Ow g M1 H1 v s F := Ow.keep e hS gr s v F n h
theorem Ows.keep' (e : Evp S H H1) (hS : ∀ a, S a → M a) (gr : ∀ a, M1 a → M a ∨ H a = none) (n : ∀ a ∈ F, ¬ S a) (h : Ows g M H vs l F) : Ows g M1 H1 vs l F := Ows.keep e hS gr l vs F n h
theorem Ow.ev0 (e : Ev0 H H1) (h : Ow g M H v s F) : Ow g M H1 v s F := h.keep' e (fun _ q => q.elim) (fun _ q => .inl q) fun _ _ q => q
theorem Ow.sub (sub : ∀ a, M1 a → M a) (h : Ow g M H v s F) : Ow g M1 H v s F := h.keep' (S := fun _ => False) .refl (fun _ q => q.elim) (fun a q => .inl (sub a q)) fun _ _ q => q
mutual
theorem Ow.live : ∀ (s : SV) (v : V) (F : List Addr), Ow g M H v s F → ∀ a ∈ F, H a ≠ none
  | .fz d, _, _, h, a, m => by cases h; simp at m
  | .mu hd l, _, _, h, a, m => by
    cases h with
    | mu h1 h2 h3 =>
      rcases List.mem_cons.mp m with m | m
      · subst m; rw [h1]; exact fun q => nomatch q
      · exact Ows.live l _ _ h3 a m
theorem Ows.live : ∀ (l : List SV) (vs : List V) (F : List Addr), Ows g M H vs l F → ∀ a ∈ F, H a ≠ none
  | [], _, _, h, a, m => by cases h; simp at m
  | s :: l, _, _, h, a, m => by
    cases h with
    | cons p q =>
      rcases List.mem_append.mp m with m | m
      · exact Ow.live s _ _ p a m
      · exact Ows.live l _ _ q a m
end
mutual
/-- nobody changes it any more -/
theorem Ow.freeze (h1 : ∀ a, M1 a → M a) : ∀ (s : SV) (v : V) (F : List Addr), (∀ a ∈ F, ¬ M1 a) → Ow g M H v s F → R g M1 H v s.toD
  | .fz d, _, _, n, h => by
    cases h with
    | fz r => exact (Le.sub h1).r r
  | .mu hd l, _, _, n, h => by
    cases h with
    | mu q1 q2 q3 => exact .ob (.inl q1) (fun _ => q1) (n _ List.mem_cons_self) q2.r (Ows.freeze h1 l _ _ (fun a m => n a (List.mem_cons_of_mem _ m)) q3)
theorem Ows.freeze (h1 : ∀ a, M1 a → M a) : ∀ (l : List SV) (vs : List V) (F : List Addr), (∀ a ∈ F, ¬ M1 a) → Ows g M H vs l F → Rs g M1 H vs (toDs l)
  | [], _, _, n, h => by cases h; exact .nil
  | s :: l, _, _, n, h => by
    cases h with
    | cons p q => exact .cons (Ow.freeze h1 s _ _ (fun a m => n a (List.mem_append_left _ m)) p) (Ows.freeze h1 l _ _ (fun a m => n a (List.mem_append_right _ m)) q)
end
theorem Rs.ws : ∀ {vs : List V} {ds : List D}, Rs g M H vs ds → Ows g M H vs (ds.map SV.fz) []
  | _, _, .nil => .nil
  | _, _, .cons p q => by
    have := Ows.cons (.fz p) q.ws
    exact this
theorem Ows.rs : ∀ {vs : List V} {ds : List D} {F : List Addr}, Ows g M H vs (ds.map SV.fz) F → Rs g M H vs ds ∧ F = []
  | _, [], _, h => by cases h; exact ⟨.nil, rfl⟩
  | _, d :: ds, _, h => by
    cases h with
    | cons p q =>
      cases p with
      | fz r =>
        obtain ⟨a, b⟩ := q.rs
        exact ⟨.cons r a, by rw [b]; rfl⟩
theorem Ows.length : ∀ {vs : List V} {l : List SV} {F : List Addr}, Ows g M H vs l F → vs.length = l.length
  | _, _, _, .nil => rfl
  | _, _, _, .cons _ q => congrArg (· + 1) q.length
end
theorem ow_fz {g : Gx} {M : Ad} {H : Hp} {v : V} {d : D} {F : List Addr} (h : Ow g M H v (.fz d) F) : R g M H v d ∧ F = [] := by
  cases h with
  | fz r => exact ⟨r, rfl⟩
/-- v stands for d; its own object may be one of M, its items are not -/
inductive RT (g : Gx) (M : Ad) (H : Hp) : V → D → Prop
  | of {v : V} {d : D} : R g M H v d → RT g M H v d
  | ob {a : Addr} {o : HO} {h : Hd} {xs : List V} {ds : List D} : H a = some o → HOr g.cl g.hid h xs o → Rs g M H xs ds → RT g M H (.ref a) (.ob h ds)
theorem Ow.rt {g : Gx} {M : Ad} {H : Hp} {v : V} {s : SV} {F : List Addr} {d : D} (h : Ow g M H v s F) (e : s.view = some d) : RT g M H v d := by
  cases h with
  | fz r => cases e; exact .of r
  | mu h1 h2 h3 =>
    simp only [SV.view, Option.map_eq_some_iff] at e
    obtain ⟨ds, e, rfl⟩ := e
    rw [allFz_eq e] at h3
    exact .ob h1 h2.r h3.rs.1
end VS

/-! ## S2: slots by what they stand for; what a computation promises -/
namespace VS
open PySem PySem.Spec PyProof.Rows L2
abbrev Tau := List (Option SV)
inductive Res (α : Type) where
  | ok (a : α)
  | ex (c : Nat) (fs : List Str) (l : List D)
abbrev CM (α : Type) := Tau → Option (Res α × Tau)
def ret {α : Type} (a : Option α) : CM α := fun τ => a.map fun x => (.ok x, τ)
def bnd {α β : Type} (m : CM α) (k : α → CM β) : CM β := fun τ =>
  match m τ with
  | some (.ok x, τ1) => k x τ1
  | some (.ex c fs l, τ1) => some (.ex c fs l, τ1)
  | none => none
theorem ret_some {α : Type} {a : Option α} {τ τ' : Tau} {r : Res α} (h : ret a τ = some (r, τ')) : ∃ x, a = some x ∧ r = .ok x ∧ τ' = τ := by
  simp only [ret, Option.map_eq_some_iff] at h
  obtain ⟨x, e, h⟩ := h
  cases h
  exact ⟨x, e, rfl, rfl⟩
theorem bnd_some {α β : Type} {m : CM α} {k : α → CM β} {τ τ' : Tau} {r : Res β} (h : bnd m k τ = some (r, τ')) :
    (∃ x τ1, m τ = some (.ok x, τ1) ∧ k x τ1 = some (r, τ')) ∨ ∃ c fs l, m τ = some (.ex c fs l, τ') ∧ r = .ex c fs l := by
  unfold bnd at h
  split at h
  · rename_i x τ1 e
    exact .inl ⟨x, τ1, e, h⟩
  · rename_i c fs l τ1 e
    cases h
    exact .inr ⟨c, fs, l, e, rfl⟩
  · cases h
def Mof (M0 : Ad) (φ : Nat → List Addr) : Ad := fun a => M0 a ∨ ∃ i, a ∈ φ i
def plus (M : Ad) (F : List Addr) : Ad := fun a => M a ∨ a ∈ F
def ran (φ : Nat → List Addr) : Ad := fun a => ∃ i, a ∈ φ i
theorem le_mof {M0 : Ad} {φ φ1 : Nat → List Addr} {H H1 : Hp} (l : Le (ran φ) H (ran φ1) H1) : Le (Mof M0 φ) H (Mof M0 φ1) H1 :=
  ⟨l.ev.mono fun _ q => .inr q, fun a q => by
    rcases q with q | q
    · exact .inl (.inl q)
    · exact (l.grow a q).imp .inr id⟩
structure Sim (g : Gx) (M0 : Ad) (φ : Nat → List Addr) (τ : Tau) (σ : L2.St) (H : Hp) : Prop where
  len : σ.length = τ.length
  at_ : ∀ i s, τ[i]? = some (some s) → ∃ v, σ[i]? = some (some v) ∧ Ow g (Mof M0 φ) H v s (φ i)
  nd : ∀ i, (φ i).Nodup
  dj : ∀ i j a, a ∈ φ i → a ∈ φ j → i = j
  d0 : ∀ i a, a ∈ φ i → ¬ M0 a
  al : ∀ a, Mof M0 φ a → H a ≠ none
section
variable {g : Gx} {M M0 M1 : Ad} {φ φ1 : Nat → List Addr} {τ τ1 τ2 : Tau} {σ σ1 : L2.St} {H H1 H2 : Hp} {v : V} {s : SV} {d : D} {F : List Addr}
theorem mof_plus {a : Addr} : Mof (plus M0 F) φ a ↔ Mof M0 φ a ∨ a ∈ F := by
  unfold Mof plus
  constructor
  · rintro ((h | h) | h)
    · exact .inl (.inl h)
    · exact .inr h
    · exact .inl (.inr h)
  · rintro ((h | h) | h)
    · exact .inl (.inl h)
    · exact .inr h
    · exact .inl (.inr h)
theorem plus_nil : plus M [] = M := by
  funext a
  simp [plus]
theorem Sim.ev0 (h : Sim g M0 φ τ σ H) (e : Ev0 H H1) : Sim g M0 φ τ σ H1 :=
  ⟨h.len, fun i s q => by
    obtain ⟨v, a, b⟩ := h.at_ i s q
    exact ⟨v, a, b.ev0 e⟩, h.nd, h.dj, h.d0, fun a q => e.live (h.al a q)⟩
theorem Sim.less (h : Sim g M1 φ τ σ H) (sub : ∀ a, M0 a → M1 a) : Sim g M0 φ τ σ H :=
  ⟨h.len, fun i s q => by
    obtain ⟨v, a, b⟩ := h.at_ i s q
    exact ⟨v, a, b.sub fun a q => q.imp (sub a) id⟩, h.nd, h.dj, fun i a q m => h.d0 i a q (sub a m), fun a q => h.al a (q.imp (sub a) id)⟩
theorem Sim.less1 (h : Sim g (plus M0 F) φ τ σ H) : Sim g M0 φ τ σ H := h.less fun _ q => .inl q
theorem Sim.more (h : Sim g M0 φ τ σ H) (e : Ev0 H H1) (n : ∀ a ∈ F, H a = none) (l : ∀ a ∈ F, H1 a ≠ none) : Sim g (plus M0 F) φ τ σ H1 :=
  ⟨h.len, fun i s q => by
    obtain ⟨v, a, b⟩ := h.at_ i s q
    exact ⟨v, a, b.keep' e (fun _ q => q.elim) (fun a q => (mof_plus.mp q).imp id (n a)) fun _ _ q => q⟩, h.nd, h.dj, fun i a q m => by
    rcases m with m | m
    · exact h.d0 i a q m
    · exact h.al a (.inr ⟨i, q⟩) (n a m), fun a q => by
    rcases mof_plus.mp q with q | q
    · exact e.live (h.al a q)
    · exact l a q⟩
def upF (φ : Nat → List Addr) (i : Nat) (F : List Addr) : Nat → List Addr := fun j => if j = i then F else φ j
theorem upF_same {i : Nat} : upF φ i F i = F := if_pos rfl
theorem upF_ne {i j : Nat} (h : j ≠ i) : upF φ i F j = φ j := if_neg h
theorem mof_up {i : Nat} {a : Addr} (h : Mof M0 (upF φ i F) a) : Mof (plus M0 F) φ a := by
  rcases h with h | ⟨j, h⟩
  · exact .inl (.inl h)
  · by_cases e : j = i
    · subst e
      rw [upF_same] at h
      exact .inl (.inr h)
    · rw [upF_ne e] at h
      exact .inr ⟨j, h⟩
theorem Sim.set {i : Nat} (h : Sim g (plus M0 F) φ τ σ H) (w : Ow g (Mof (plus M0 F) φ) H v s F) (nd : F.Nodup) (n0 : ∀ a ∈ F, ¬ M0 a) : Sim g M0 (upF φ i F) (τ.set i (some s)) (σ.set i (some v)) H where
  len := by rw [List.length_set, List.length_set, h.len]
  at_ := fun j s' q => by
    by_cases e : j = i
    · subst e
      rw [List.getElem?_set] at q
      rw [if_pos rfl] at q
      by_cases hl : j < τ.length
      · rw [if_pos hl] at q
        cases q
        refine ⟨v, ?_, ?_⟩
        · rw [List.getElem?_set, if_pos rfl, if_pos (by rw [h.len]; exact hl)]
        · rw [upF_same]
          exact w.sub fun a => mof_up
      · rw [if_neg hl] at q
        cases q
    · rw [List.getElem?_set_ne (Ne.symm e)] at q
      obtain ⟨v', a, b⟩ := h.at_ j s' q
      refine ⟨v', by rw [List.getElem?_set_ne (Ne.symm e)]; exact a, ?_⟩
      rw [upF_ne e]
      exact b.sub fun a => mof_up
  nd := fun j => by
    by_cases e : j = i
    · subst e; rw [upF_same]; exact nd
    · rw [upF_ne e]; exact h.nd j
  dj := fun j k a p q => by
    by_cases e : j = i
    · subst e
      rw [upF_same] at p
      by_cases e2 : k = j
      · exact e2.symm
      · rw [upF_ne e2] at q
        exact absurd (.inr p) (h.d0 k a q)
    · rw [upF_ne e] at p
      by_cases e2 : k = i
      · subst e2
        rw [upF_same] at q
        exact absurd (.inr q) (h.d0 j a p)
      · rw [upF_ne e2] at q
        exact h.dj j k a p q
  d0 := fun j a p m => by
    by_cases e : j = i
    · subst e; rw [upF_same] at p; exact n0 a p m
    · rw [upF_ne e] at p; exact h.d0 j a p (.inl m)
  al := fun a q => h.al a (mof_up q)
theorem Sim.setD {i : Nat} (h : Sim g M0 φ τ σ H) (w : R g (Mof M0 φ) H v d) : Sim g M0 (upF φ i []) (τ.set i (some (.fz d))) (σ.set i (some v)) H := by
  refine Sim.set (F := []) (v := v) ?_ ?_ .nil (fun a m => nomatch m)
  · rw [plus_nil]; exact h
  · rw [plus_nil]; exact .fz w
/-- the slot is given up -/
theorem Sim.drop {i : Nat} {o : Option V} (h : Sim g M0 φ τ σ H) : Sim g M0 φ (τ.set i none) (σ.set i o) H :=
  ⟨by rw [List.length_set, List.length_set, h.len], fun j s q => by
    by_cases e : j = i
    · subst e
      rw [List.getElem?_set, if_pos rfl] at q
      split at q <;> cases q
    · rw [List.getElem?_set_ne (Ne.symm e)] at q
      obtain ⟨v', a, b⟩ := h.at_ j s q
      exact ⟨v', by rw [List.getElem?_set_ne (Ne.symm e)]; exact a, b⟩, h.nd, h.dj, h.d0, h.al⟩
theorem Sim.drop' {i : Nat} (h : Sim g M0 φ τ σ H) : Sim g M0 φ (τ.set i none) σ H :=
  ⟨by rw [List.length_set, h.len], fun j s q => by
    by_cases e : j = i
    · subst e
      rw [List.getElem?_set, if_pos rfl] at q
      split at q <;> cases q
    · rw [List.getElem?_set_ne (Ne.symm e)] at q
      exact h.at_ j s q, h.nd, h.dj, h.d0, h.al⟩
theorem Sim.fz {i : Nat} (h : Sim g M0 φ τ σ H) (e : τ[i]? = some (some (.fz d))) : ∃ v, σ[i]? = some (some v) ∧ R g (Mof M0 φ) H v d := by
  obtain ⟨v, a, b⟩ := h.at_ i _ e
  exact ⟨v, a, (ow_fz b).1⟩
/-- an own object becomes data -/
theorem freeze (h : Sim g (plus M0 F) φ τ σ H) (w : Ow g (Mof (plus M0 F) φ) H v s F) (n0 : ∀ a ∈ F, ¬ M0 a) : Sim g M0 φ τ σ H ∧ R g (Mof M0 φ) H v s.toD := by
  refine ⟨h.less1, w.freeze (fun a q => mof_plus.mpr (.inl q)) s v F fun a m q => ?_⟩
  rcases q with q | ⟨i, q⟩
  · exact n0 a m q
  · exact h.d0 i a q (.inr m)
/-- the slot's own object becomes data -/
theorem Sim.frz {i : Nat} (h : Sim g M0 φ τ σ H) (e : τ[i]? = some (some s)) : ∃ v, σ[i]? = some (some v) ∧ Sim g M0 (upF φ i []) (τ.set i (some (.fz s.toD))) σ H ∧ R g (Mof M0 (upF φ i [])) H v s.toD := by
  obtain ⟨v, a, b⟩ := h.at_ i s e
  have sub : ∀ x, Mof M0 (upF φ i []) x → Mof M0 φ x := fun x q => by
    rcases q with q | ⟨j, q⟩
    · exact .inl q
    · by_cases ee : j = i
      · subst ee; rw [upF_same] at q; cases q
      · rw [upF_ne ee] at q; exact .inr ⟨j, q⟩
  have r : R g (Mof M0 (upF φ i [])) H v s.toD := Ow.freeze sub s v (φ i) (fun x m q => by
    rcases q with q | ⟨j, q⟩
    · exact h.d0 i x m q
    · by_cases ee : j = i
      · subst ee; rw [upF_same] at q; cases q
      · rw [upF_ne ee] at q; exact ee (h.dj j i x q m)) b
  refine ⟨v, a, ⟨by rw [List.length_set, h.len], fun j s' q => ?_, fun j => ?_, fun j k x p q => ?_, fun j x p => ?_, fun x q => h.al x (sub x q)⟩, r⟩
  · by_cases ee : j = i
    · subst ee
      rw [List.getElem?_set, if_pos rfl] at q
      split at q
      · cases q
        rw [upF_same]
        exact ⟨v, a, .fz r⟩
      · cases q
    · rw [List.getElem?_set_ne (Ne.symm ee)] at q
      obtain ⟨v', a', b'⟩ := h.at_ j s' q
      rw [upF_ne ee]
      exact ⟨v', a', b'.sub sub⟩
  · by_cases ee : j = i
    · subst ee; rw [upF_same]; exact .nil
    · rw [upF_ne ee]; exact h.nd j
  · by_cases ee : j = i
    · subst ee; rw [upF_same] at p; cases p
    · rw [upF_ne ee] at p
      by_cases e2 : k = i
      · subst e2; rw [upF_same] at q; cases q
      · rw [upF_ne e2] at q; exact h.dj j k x p q
  · by_cases ee : j = i
    · subst ee; rw [upF_same] at p; cases p
    · rw [upF_ne ee] at p; exact h.d0 j x p
theorem sub_up {i : Nat} {x : Addr} (q : Mof M0 (upF φ i []) x) : Mof M0 φ x := by
  rcases q with q | ⟨j, q⟩
  · exact .inl q
  · by_cases ee : j = i
    · subst ee; rw [upF_same] at q; cases q
    · rw [upF_ne ee] at q; exact .inr ⟨j, q⟩
end
/-! ### what is promised -/
def XRel (g : Gx) (M : Ad) (H : Hp) (d : Option Addr) (fs : List Str) (l : List D) : Prop :=
  (fs = [] ∧ l = [] ∧ d = none) ∨ ∃ p fsr xs, d = some p ∧ (H p = some (.xd fsr) ∧ fs ≠ []) ∧ ¬ M p ∧ fs.length = xs.length ∧ (∀ (i : Nat) f x, fs[i]? = some f → xs[i]? = some x → fsr.lookup f = some x) ∧ Rs g M H xs l
def EOk (g : Gx) (M0 : Ad) (φ : Nat → List Addr) (H : Hp) (σ : L2.St) (s : SV) (τ' : Tau) (v : V) (H' : Hp) : Prop :=
  ∃ F φ', Sim g (plus M0 F) φ' τ' σ H' ∧ Ow g (Mof (plus M0 F) φ') H' v s F ∧ F.Nodup ∧ (∀ a ∈ F, ¬ M0 a) ∧ Le (ran φ) H (plus (ran φ') F) H'
def DOk (g : Gx) (M0 : Ad) (φ : Nat → List Addr) (H : Hp) (σ : L2.St) (d : D) (τ' : Tau) (v : V) (H' : Hp) : Prop :=
  ∃ φ', Sim g M0 φ' τ' σ H' ∧ R g (Mof M0 φ') H' v d ∧ Le (ran φ) H (ran φ') H'
def AOk (g : Gx) (M0 : Ad) (φ : Nat → List Addr) (H : Hp) (σ : L2.St) (ds : List D) (τ' : Tau) (vs : List V) (H' : Hp) : Prop :=
  ∃ φ', Sim g M0 φ' τ' σ H' ∧ Rs g (Mof M0 φ') H' vs ds ∧ Le (ran φ) H (ran φ') H'
def TOk (g : Gx) (M0 : Ad) (φ : Nat → List Addr) (H : Hp) (σ : L2.St) (τ' : Tau) (H' : Hp) : Prop :=
  ∃ φ', Sim g M0 φ' τ' σ H' ∧ Le (ran φ) H (ran φ') H'
def XOk (g : Gx) (M0 : Ad) (φ : Nat → List Addr) (H : Hp) (σ : L2.St) (fs : List Str) (l : List D) (τ' : Tau) (d : Option Addr) (H' : Hp) : Prop :=
  ∃ φ', Sim g M0 φ' τ' σ H' ∧ XRel g (Mof M0 φ') H' d fs l ∧ Le (ran φ) H (ran φ') H'
section
variable {g : Gx} {M M0 M1 : Ad} {φ φ1 : Nat → List Addr} {τ τ1 τ2 τ' : Tau} {σ σ1 : L2.St} {H H1 H2 H' : Hp} {v : V} {vs : List V} {s : SV} {d : D} {ds l : List D} {F : List Addr} {fs : List Str} {o : Option Addr}
theorem XRel.le (e : Le M H M1 H1) (h : XRel g M H o fs l) (k : ∀ p fsr, o = some p → H p = some (.xd fsr) → ¬ M p → H1 p = some (.xd fsr)) : XRel g M1 H1 o fs l := by
  rcases h with h | ⟨p, fsr, xs, rfl, ⟨hp, ne⟩, n, hl, q, r⟩
  · exact .inl h
  · refine .inr ⟨p, fsr, xs, rfl, ⟨k p fsr rfl hp n, ne⟩, fun m => ?_, hl, q, e.rs r⟩
    rcases e.grow p m with m | m
    · exact n m
    · rw [hp] at m; cases m
theorem XRel.le' (e : Le M H M1 H1) (h : XRel g M H o fs l) : XRel g M1 H1 o fs l := h.le e fun p fsr _ hp n => e.ev.keep _ _ hp n
theorem EOk.after (e : Le (ran φ) H (ran φ1) H1) (h : EOk g M0 φ1 H1 σ s τ' v H') : EOk g M0 φ H σ s τ' v H' := by
  obtain ⟨F, φ', a, b, c, n, l⟩ := h
  exact ⟨F, φ', a, b, c, n, e.trans l⟩
theorem DOk.after (e : Le (ran φ) H (ran φ1) H1) (h : DOk g M0 φ1 H1 σ d τ' v H') : DOk g M0 φ H σ d τ' v H' := by
  obtain ⟨φ', a, b, l⟩ := h
  exact ⟨φ', a, b, e.trans l⟩
theorem AOk.after (e : Le (ran φ) H (ran φ1) H1) (h : AOk g M0 φ1 H1 σ ds τ' vs H') : AOk g M0 φ H σ ds τ' vs H' := by
  obtain ⟨φ', a, b, l⟩ := h
  exact ⟨φ', a, b, e.trans l⟩
theorem TOk.after (e : Le (ran φ) H (ran φ1) H1) (h : TOk g M0 φ1 H1 σ τ' H') : TOk g M0 φ H σ τ' H' := by
  obtain ⟨φ', a, l⟩ := h
  exact ⟨φ', a, e.trans l⟩
theorem XOk.after (e : Le (ran φ) H (ran φ1) H1) (h : XOk g M0 φ1 H1 σ fs l τ' o H') : XOk g M0 φ H σ fs l τ' o H' := by
  obtain ⟨φ', a, b, l⟩ := h
  exact ⟨φ', a, b, e.trans l⟩
theorem EOk.frz (h : EOk g M0 φ H σ s τ' v H') : DOk g M0 φ H σ s.toD τ' v H' := by
  obtain ⟨F, φ', a, b, c, n, l⟩ := h
  obtain ⟨q, r⟩ := freeze a b n
  exact ⟨φ', q, r, l.ev, fun x m => l.grow x (.inl m)⟩
theorem DOk.up (h : DOk g M0 φ H σ d τ' v H') : EOk g M0 φ H σ (.fz d) τ' v H' := by
  obtain ⟨φ', a, b, l⟩ := h
  refine ⟨[], φ', ?_, ?_, .nil, fun a m => (nomatch m), ?_⟩
  · rw [plus_nil]; exact a
  · rw [plus_nil]; exact .fz b
  · rw [plus_nil]; exact l
theorem DOk.here (hs : Sim g M0 φ τ σ H) (r : R g (Mof M0 φ) H v d) : DOk g M0 φ H σ d τ v H := ⟨φ, hs, r, .refl⟩
end
/-- a value made of nothing that may change -/
def POk (g : Gx) (M : Ad) (H : Hp) (s : SV) (v : V) (H' : Hp) : Prop := ∃ F, Ev0 H H' ∧ Ow g (plus M F) H' v s F ∧ F.Nodup ∧ ∀ a ∈ F, H a = none
section
variable {g : Gx} {M M0 M1 : Ad} {φ φ1 : Nat → List Addr} {τ τ1 τ2 τ' : Tau} {σ σ1 : L2.St} {H H1 H2 H' : Hp} {v : V} {vs xs : List V} {s : SV} {d : D} {ds : List D} {F : List Addr} {p : Addr}
theorem POk.fz (e : Ev0 H H') (r : R g M H' v d) : POk g M H (.fz d) v H' := ⟨[], e, by rw [plus_nil]; exact .fz r, .nil, fun a m => nomatch m⟩
theorem POk.here (r : R g M H v d) : POk g M H (.fz d) v H := .fz .refl r
theorem new0 {o : HO} (n : H p = none) : Ev0 H (upd H p o) := ev_p0 (Ev.new n)
theorem POk.new {h : Hd} {o : HO} {l : List SV} {F : List Addr} (n : H p = none) (q : HOf g.cl h xs o) (w : Ows g (plus M F) H xs l F) (nd : F.Nodup) (nF : ∀ a ∈ F, H a = none) (lF : F = []) : POk g M H (.mu h l) (.ref p) (upd H p o) := by
  subst lF
  refine ⟨[p], new0 n, ?_, List.nodup_cons.mpr ⟨List.not_mem_nil, .nil⟩, fun a m => by simp at m; subst m; exact n⟩
  refine .mu upd_same q ?_
  refine w.keep' (new0 n) (fun _ q => q.elim) (fun a m => ?_) fun _ _ q => q
  rcases m with m | m
  · exact .inl (.inl m)
  · simp at m; subst m; exact .inr n
theorem POk.ob {h : Hd} {o : HO} (n : H p = none) (q : HOf g.cl h xs o) (w : Rs g M H xs ds) : POk g M H (.mu h (ds.map .fz)) (.ref p) (upd H p o) :=
  .new n q (by rw [plus_nil]; exact w.ws) .nil (fun a m => nomatch m) rfl
theorem POk.lst (n : H p = none) (w : Rs g M H xs ds) : POk g M H (.mu .lst (ds.map .fz)) (.ref p) (upd H p (.lst xs)) := .ob n rfl w
theorem POk.tup (n : H p = none) (w : Rs g M H xs ds) : POk g M H (.fz (.tup ds)) (.ref p) (upd H p (.tup xs)) :=
  .fz (new0 n) (.tup (SqT.of upd_same) (w.ev0 (new0 n)))
theorem EOk.of (hs : Sim g M0 φ τ σ H) (p : POk g (Mof M0 φ) H s v H') : EOk g M0 φ H σ s τ v H' := by
  obtain ⟨F, e, w, nd, n⟩ := p
  have live : ∀ a ∈ F, H' a ≠ none := Ow.live _ _ _ w
  refine ⟨F, φ, hs.more e n live, w.sub fun a q => ?_, nd, fun a m q => hs.al a (.inl q) (n a m), .of0 e fun a q => ?_⟩
  · exact (mof_plus.mp q).imp id id
  · exact q.imp id (n a)
end
/-! ### readings -/
def rdE (g : Gx) (m : CM SV) : TE := fun σ H Q => ∃ M0 φ τ r τ', Sim g M0 φ τ σ H ∧ m τ = some (r, τ') ∧
  match r with
  | .ok s => ∀ v H', EOk g M0 φ H σ s τ' v H' → Q v H'
  | .ex c fs l => ∀ d H', XOk g M0 φ H σ fs l τ' d H' → g.ex σ (.ref (g.cl c)) d H'
def rdD (g : Gx) (m : CM D) : TE := fun σ H Q => ∃ M0 φ τ r τ', Sim g M0 φ τ σ H ∧ m τ = some (r, τ') ∧
  match r with
  | .ok s => ∀ v H', DOk g M0 φ H σ s τ' v H' → Q v H'
  | .ex c fs l => ∀ d H', XOk g M0 φ H σ fs l τ' d H' → g.ex σ (.ref (g.cl c)) d H'
def rdA (g : Gx) (m : CM (List D)) : TA := fun σ H Q => ∃ M0 φ τ r τ', Sim g M0 φ τ σ H ∧ m τ = some (r, τ') ∧
  match r with
  | .ok s => ∀ v H', AOk g M0 φ H σ s τ' v H' → Q v H'
  | .ex c fs l => ∀ d H', XOk g M0 φ H σ fs l τ' d H' → g.ex σ (.ref (g.cl c)) d H'
def rdT (g : Gx) (m : CM Bool) : TT := fun σ H Q => ∃ M0 φ τ r τ', Sim g M0 φ τ σ H ∧ m τ = some (r, τ') ∧
  match r with
  | .ok b => ∀ H', TOk g M0 φ H σ τ' H' → Q b H'
  | .ex c fs l => ∀ d H', XOk g M0 φ H σ fs l τ' d H' → g.ex σ (.ref (g.cl c)) d H'
/-- a place: nothing changes, the value is lent -/
def rdB (g : Gx) (m : Tau → Option SV) : TE := fun σ H Q => ∃ M0 φ τ s, Sim g M0 φ τ σ H ∧ m τ = some s ∧ ∀ v H', Ev0 H H' → (∃ F, Ow g (Mof M0 φ) H' v s F) → Q v H'
inductive Fl where
  | nx | bk | ct
  | rt (s : SV)
  | ex (c : Nat) (fs : List Str) (l : List D)
abbrev SC := Tau → Option (Fl × Tau)
def SOk (g : Gx) (M0 : Ad) (φ : Nat → List Addr) (H : Hp) (σ : L2.St) (τ' : Tau) (σ' : L2.St) (H' : Hp) : Prop :=
  (∃ φ', Sim g M0 φ' τ' σ' H' ∧ Le (ran φ) H (ran φ') H') ∧ ∀ i ∈ g.pin, σ'[i]? = σ[i]?
def ROk (g : Gx) (M0 : Ad) (φ : Nat → List Addr) (H : Hp) (σ : L2.St) (s : SV) (τ' : Tau) (σ' : L2.St) (v : V) (H' : Hp) : Prop :=
  EOk g M0 φ H σ' s τ' v H' ∧ ∀ i ∈ g.pin, σ'[i]? = σ[i]?
def YOk (g : Gx) (M0 : Ad) (φ : Nat → List Addr) (H : Hp) (σ : L2.St) (fs : List Str) (l : List D) (τ' : Tau) (σ' : L2.St) (d : Option Addr) (H' : Hp) : Prop :=
  XOk g M0 φ H σ' fs l τ' d H' ∧ ∀ i ∈ g.pin, σ'[i]? = σ[i]?
def rdS (g : Gx) (m : SC) : TS := fun E σ H => ∃ M0 φ τ fl τ', Sim g M0 φ τ σ H ∧ m τ = some (fl, τ') ∧
  match fl with
  | .nx => ∀ σ' H', SOk g M0 φ H σ τ' σ' H' → E.nx σ' H'
  | .bk => ∀ σ' H', SOk g M0 φ H σ τ' σ' H' → E.bk σ' H'
  | .ct => ∀ σ' H', SOk g M0 φ H σ τ' σ' H' → E.ct σ' H'
  | .rt s => ∀ σ' v H', ROk g M0 φ H σ s τ' σ' v H' → E.rt v H'
  | .ex c fs l => ∀ σ' d H', YOk g M0 φ H σ fs l τ' σ' d H' → g.ex σ' (.ref (g.cl c)) d H'
theorem pe_le {X : Cx} {e : Expr} {t t' : TE} (h : PE X e t) (k : ∀ σ H Q, t' σ H Q → t σ H Q) : PE X e t' := ⟨fun pins s σ H Q I w => h.run pins s σ H Q I (k _ _ _ w)⟩
theorem pt_le {X : Cx} {e : Expr} {t t' : TT} (h : PT X e t) (k : ∀ σ H Q, t' σ H Q → t σ H Q) : PT X e t' := ⟨fun pins s σ H Q I w => h.run pins s σ H Q I (k _ _ _ w)⟩
theorem pw_le {X : Cx} {e : Expr} {t t' : TT} (h : PW X e t) (k : ∀ σ H Q, t' σ H Q → t σ H Q) : PW X e t' := ⟨fun wh pins s σ H Q I w => h.run wh pins s σ H Q I (k _ _ _ w)⟩
theorem pa_le {X : Cx} {e : List Expr} {t t' : TA} (h : PA X e t) (k : ∀ σ H Q, t' σ H Q → t σ H Q) : PA X e t' := ⟨fun pos pins s σ H Q I w => h.run pos pins s σ H Q I (k _ _ _ w)⟩
theorem ps_le {X : Cx} {e : Stmt} {t t' : TS} (h : PS X e t) (k : ∀ E σ H, t' E σ H → t E σ H) : PS X e t' := ⟨fun pins s σ H E I w => h.run pins s σ H E I (k _ _ _ w)⟩
theorem pss_le {X : Cx} {e : List Stmt} {t t' : TS} (h : PSs X e t) (k : ∀ E σ H, t' E σ H → t E σ H) : PSs X e t' := ⟨fun pins s σ H E I w => h.run pins s σ H E I (k _ _ _ w)⟩
theorem pi_le {X : Cx} {tg e : Expr} {t t' : TI} (h : PI X tg e t) (k : ∀ σ H Q, t' σ H Q → t σ H Q) : PI X tg e t' := ⟨fun pins s σ H Q I w => h.run pins s σ H Q I (k _ _ _ w)⟩
end VS

/-! ## S3: expressions -/
namespace VS
open PySem PySem.Spec PyProof.Rows L2
section
variable {X : Cx} {g : Gx} {e : Expr} {M M0 : Ad} {φ : Nat → List Addr} {τ τ' : Tau} {σ : L2.St} {H H' : Hp} {v : V} {d : D} {s : SV} {i : Nat}
/-! ### leaves -/
def mC (d : D) : CM D := ret (some d)
theorem s_cst (h : PE X e (tC v)) (r : ∀ M H, R g M H v d) : PE X e (rdD g (mC d)) := pe_le h fun σ H Q q => by
  obtain ⟨M0, φ, τ, q, τ', hs, hm, k⟩ := q
  obtain ⟨x, ex, rfl, rfl⟩ := ret_some hm
  cases ex
  exact k v H (.here hs (r _ _))
def mVar (i : Nat) : CM D := fun τ => match τ[i]? with
  | some (some (.fz d)) => some (.ok d, τ)
  | some (some (.mu h l)) => some (.ok (SV.toD (.mu h l)), τ.set i (some (.fz (SV.toD (.mu h l)))))
  | _ => none
theorem Le.up {i : Nat} : Le (ran φ) H (ran (upF φ i [])) H := ⟨.refl, fun a q => by
  obtain ⟨j, q⟩ := q
  by_cases e : j = i
  · subst e; rw [upF_same] at q; cases q
  · rw [upF_ne e] at q; exact .inl ⟨j, q⟩⟩
theorem s_var (h : PE X e (tVar i)) : PE X e (rdD g (mVar i)) := pe_le h fun σ H Q q => by
  obtain ⟨M0, φ, τ, r, τ', hs, hm, k⟩ := q
  unfold mVar at hm
  split at hm
  · rename_i d he
    cases hm
    obtain ⟨v, hv, r⟩ := hs.fz he
    exact ⟨v, hv, k v H (.here hs r)⟩
  · rename_i hd l he
    cases hm
    obtain ⟨v, hv, hs2, r⟩ := hs.frz he
    exact ⟨v, hv, k v H ⟨_, hs2, r, .up⟩⟩
  · cases hm
def mMove (i : Nat) : CM SV := fun τ => match τ[i]? with
  | some (some (.fz d)) => some (.ok (.fz d), τ)
  | some (some (.mu h l)) => some (.ok (.mu h l), τ.set i none)
  | _ => none
theorem s_move (h : PE X e (tVar i)) : PE X e (rdE g (mMove i)) := pe_le h fun σ H Q q => by
  obtain ⟨M0, φ, τ, r, τ', hs, hm, k⟩ := q
  unfold mMove at hm
  split at hm
  · rename_i d he
    cases hm
    obtain ⟨v, hv, r⟩ := hs.fz he
    exact ⟨v, hv, k v H (DOk.up (.here hs r))⟩
  · rename_i hd l he
    cases hm
    obtain ⟨v, hv, w⟩ := hs.at_ _ _ he
    have sub : ∀ a, Mof (plus M0 (φ i)) (upF φ i []) a → Mof M0 φ a := fun a q => by
      rcases mof_plus.mp q with q | q
      · exact sub_up q
      · exact .inr ⟨i, q⟩
    refine ⟨v, hv, k v H ⟨φ i, upF φ i [], ⟨by rw [List.length_set]; exact hs.len, fun j s' q => ?_, fun j => ?_, fun j k a p q => ?_, fun j a p m => ?_, fun a q => hs.al a (sub a q)⟩, w.sub sub, hs.nd i, fun a m => hs.d0 i a m, .refl, fun a q => ?_⟩⟩
    · by_cases ee : j = i
      · subst ee
        rw [List.getElem?_set, if_pos rfl] at q
        split at q <;> cases q
      · rw [List.getElem?_set_ne (Ne.symm ee)] at q
        obtain ⟨v', a', b'⟩ := hs.at_ j s' q
        rw [upF_ne ee]
        exact ⟨v', a', b'.sub sub⟩
    · by_cases ee : j = i
      · subst ee; rw [upF_same]; exact .nil
      · rw [upF_ne ee]; exact hs.nd j
    · by_cases ee : j = i
      · subst ee; rw [upF_same] at p; cases p
      · rw [upF_ne ee] at p
        by_cases e2 : k = i
        · subst e2; rw [upF_same] at q; cases q
        · rw [upF_ne e2] at q; exact hs.dj j k a p q
    · by_cases ee : j = i
      · subst ee; rw [upF_same] at p; cases p
      · rw [upF_ne ee] at p
        rcases m with m | m
        · exact hs.d0 j a p m
        · exact ee (hs.dj j i a p m)
    · rcases q with ⟨j, q⟩ | q
      · by_cases ee : j = i
        · subst ee; rw [upF_same] at q; cases q
        · rw [upF_ne ee] at q; exact .inl ⟨j, q⟩
      · exact .inl ⟨i, q⟩
  · cases hm
/-! ### from one kind to the other -/
def frz (m : CM SV) : CM D := bnd m fun s => ret (some s.toD)
theorem s_frz {m : CM SV} (h : PE X e (rdE g m)) : PE X e (rdD g (frz m)) := pe_le h fun σ H Q q => by
  obtain ⟨M0, φ, τ, r, τ', hs, hm, k⟩ := q
  rcases bnd_some hm with ⟨x, τ1, e1, e2⟩ | ⟨c, fs, l, e1, rfl⟩
  · obtain ⟨y, ey, rfl, rfl⟩ := ret_some e2
    cases ey
    exact ⟨M0, φ, τ, _, _, hs, e1, fun v H' q => k v H' q.frz⟩
  · exact ⟨M0, φ, τ, _, _, hs, e1, k⟩
def up (m : CM D) : CM SV := bnd m fun d => ret (some (.fz d))
theorem s_up {m : CM D} (h : PE X e (rdD g m)) : PE X e (rdE g (up m)) := pe_le h fun σ H Q q => by
  obtain ⟨M0, φ, τ, r, τ', hs, hm, k⟩ := q
  rcases bnd_some hm with ⟨x, τ1, e1, e2⟩ | ⟨c, fs, l, e1, rfl⟩
  · obtain ⟨y, ey, rfl, rfl⟩ := ret_some e2
    cases ey
    exact ⟨M0, φ, τ, _, _, hs, e1, fun v H' q => k v H' q.up⟩
  · exact ⟨M0, φ, τ, _, _, hs, e1, k⟩
/-! ### places: nothing changes -/
abbrev PB := Tau → Option SV
def bVar (i : Nat) : PB := fun τ => (τ[i]?).bind id
theorem p_var (h : PE X e (tVar i)) : PE X e (rdB g (bVar i)) := pe_le h fun σ H Q q => by
  obtain ⟨M0, φ, τ, s, hs, hm, k⟩ := q
  have he : τ[i]? = some (some s) := by
    unfold bVar at hm
    cases q : τ[i]? with
    | none => rw [q] at hm; cases hm
    | some o => rw [q] at hm; cases o with
      | none => cases hm
      | some s' => cases hm; rfl
  obtain ⟨v, hv, w⟩ := hs.at_ _ _ he
  exact ⟨v, hv, k v H .refl ⟨_, w⟩⟩
def bC (d : D) : PB := fun _ => some (.fz d)
theorem p_cst (h : PE X e (tC v)) (r : ∀ M H, R g M H v d) : PE X e (rdB g (bC d)) := pe_le h fun σ H Q q => by
  obtain ⟨M0, φ, τ, s, hs, hm, k⟩ := q
  cases hm
  exact k v H .refl ⟨_, .fz (r _ _)⟩
def mB (o : PB) : CM D := fun τ => match o τ with
  | some (.fz d) => some (.ok d, τ)
  | _ => none
theorem s_B {o : PB} (h : PE X e (rdB g o)) : PE X e (rdD g (mB o)) := pe_le h fun σ H Q q => by
  obtain ⟨M0, φ, τ, r, τ', hs, hm, k⟩ := q
  unfold mB at hm
  split at hm
  · rename_i d he
    cases hm
    refine ⟨M0, φ, τ, _, hs, he, fun v H' e0 w => ?_⟩
    obtain ⟨F, w⟩ := w
    exact k v H' ⟨φ, hs.ev0 e0, (ow_fz w).1, .of0 e0 fun _ q => .inl q⟩
  · cases hm
/-! ### operators -/
def Op2 (g : Gx) (f : D → D → Option SV) (r : R2) : Prop := ∀ {M : Ad} {H : Hp} {x y : V} {d e : D} {s : SV} {Q : VK}, RT g M H x d → RT g M H y e → f d e = some s → (∀ v H', POk g M H s v H' → Q v H') → r x y H Q
def Op1 (g : Gx) (f : D → Option SV) (r : V → Hp → VK → Prop) : Prop := ∀ {M : Ad} {H : Hp} {x : V} {d : D} {s : SV} {Q : VK}, RT g M H x d → f d = some s → (∀ v H', POk g M H s v H' → Q v H') → r x H Q
def OpL (g : Gx) (f : List D → Option SV) (r : List V → Hp → VK → Prop) : Prop := ∀ {M : Ad} {H : Hp} {xs : List V} {ds : List D} {s : SV} {Q : VK}, Rs g M H xs ds → f ds = some s → (∀ v H', POk g M H s v H' → Q v H') → r xs H Q
def mOp2 (f : D → D → Option SV) (a b : CM D) : CM SV := bnd a fun x => bnd b fun y => ret (f x y)
def mOp1 (f : D → Option SV) (a : CM D) : CM SV := bnd a fun x => ret (f x)
def mOpL (f : List D → Option SV) (a : CM (List D)) : CM SV := bnd a fun x => ret (f x)
theorem POk.after {M1 : Ad} {H1 : Hp} (l : Le M H M1 H1) (h : POk g M1 H1 s v H') : True := trivial
theorem le_op2 {r : R2} {f : D → D → Option SV} {a b : CM D} (ho : Op2 g f r) (σ : L2.St) (H : Hp) (Q : VK) (q : (rdE g (mOp2 f a b)) σ H Q) : (tOp r (rdD g a) (rdD g b)) σ H Q := by
  obtain ⟨M0, φ, τ, rs, τ', hs, hm, k⟩ := q
  rcases bnd_some hm with ⟨x, τ1, e1, e2⟩ | ⟨c, fs, l, e1, rfl⟩
  · refine ⟨M0, φ, τ, _, _, hs, e1, fun v1 H1 q1 => ?_⟩
    obtain ⟨φ1, hs1, r1, l1⟩ := q1
    rcases bnd_some e2 with ⟨y, τ2, e3, e4⟩ | ⟨c, fs, l, e3, rfl⟩
    · refine ⟨M0, φ1, τ1, _, _, hs1, e3, fun v2 H2 q2 => ?_⟩
      obtain ⟨φ2, hs2, r2, l2⟩ := q2
      obtain ⟨s, es, rfl, rfl⟩ := ret_some e4
      exact ho (.of ((le_mof l2).r r1)) (.of r2) es fun v3 H3 p => k v3 H3 (EOk.after (l1.trans l2) (.of hs2 p))
    · exact ⟨M0, φ1, τ1, _, _, hs1, e3, fun d H' q => k d H' (q.after l1)⟩
  · exact ⟨M0, φ, τ, _, _, hs, e1, k⟩
theorem s_op2 {r : R2} {f : D → D → Option SV} {a b : CM D} (ho : Op2 g f r) (h : PE X e (tOp r (rdD g a) (rdD g b))) : PE X e (rdE g (mOp2 f a b)) := pe_le h (le_op2 ho)
theorem s_op1 {r : V → Hp → VK → Prop} {f : D → Option SV} {a : CM D} (ho : Op1 g f r) (h : PE X e (tUn r (rdD g a))) : PE X e (rdE g (mOp1 f a)) := pe_le h fun σ H Q q => by
  obtain ⟨M0, φ, τ, rs, τ', hs, hm, k⟩ := q
  rcases bnd_some hm with ⟨x, τ1, e1, e2⟩ | ⟨c, fs, l, e1, rfl⟩
  · refine ⟨M0, φ, τ, _, _, hs, e1, fun v1 H1 q1 => ?_⟩
    obtain ⟨φ1, hs1, r1, l1⟩ := q1
    obtain ⟨s, es, rfl, rfl⟩ := ret_some e2
    exact ho (.of r1) es fun v3 H3 p => k v3 H3 (EOk.after l1 (.of hs1 p))
  · exact ⟨M0, φ, τ, _, _, hs, e1, k⟩
theorem s_opL {r : List V → Hp → VK → Prop} {f : List D → Option SV} {a : CM (List D)} (ho : OpL g f r) (h : PE X e (tCB r (rdA g a))) : PE X e (rdE g (mOpL f a)) := pe_le h fun σ H Q q => by
  obtain ⟨M0, φ, τ, rs, τ', hs, hm, k⟩ := q
  rcases bnd_some hm with ⟨x, τ1, e1, e2⟩ | ⟨c, fs, l, e1, rfl⟩
  · refine ⟨M0, φ, τ, _, _, hs, e1, fun v1 H1 q1 => ?_⟩
    obtain ⟨φ1, hs1, r1, l1⟩ := q1
    obtain ⟨s, es, rfl, rfl⟩ := ret_some e2
    exact ho r1 es fun v3 H3 p => k v3 H3 (EOk.after l1 (.of hs1 p))
  · exact ⟨M0, φ, τ, _, _, hs, e1, k⟩
/-! an operator on places -/
def bView (o : PB) : Tau → Option D := fun τ => (o τ).bind SV.view
/-- both operands are places -/
def mOp2B (f : D → D → Option SV) (a b : PB) : CM SV := fun τ => (bView a τ).bind fun x => (bView b τ).bind fun y => (f x y).map fun s => (.ok s, τ)
/-- the second one is a place -/
def mOp2R (f : D → D → Option SV) (a : CM D) (b : PB) : CM SV := bnd a fun x τ => (bView b τ).bind fun y => (f x y).map fun s => (.ok s, τ)
def mOp1B (f : D → Option SV) (a : PB) : CM SV := fun τ => (bView a τ).bind fun x => (f x).map fun s => (.ok s, τ)
/-- a place again -/
def bOp2 (f : D → D → Option SV) (a b : PB) : PB := fun τ => (bView a τ).bind fun x => (bView b τ).bind fun y => f x y
def bOp1 (f : D → Option SV) (a : PB) : PB := fun τ => (bView a τ).bind fun x => f x
theorem bView_some {o : PB} (h : bView o τ = some d) : ∃ s, o τ = some s ∧ s.view = some d := by
  simp only [bView, Option.bind_eq_some_iff] at h
  exact h
theorem Sim.after0 (hs : Sim g M0 φ τ σ H) (e0 : Ev0 H H') : Le (ran φ) H (ran φ) H' := .of0 e0 fun _ q => .inl q
theorem RT.ev0 (h : RT g M H v d) (e : Ev0 H H') : RT g M H' v d := by
  cases h with
  | of r => exact .of (r.ev0 e)
  | ob h1 h2 h3 => exact .ob (e.keep _ _ h1 id) h2 (h3.ev0 e)
theorem le_op2B {r : R2} {f : D → D → Option SV} {a b : PB} (ho : Op2 g f r) (σ : L2.St) (H : Hp) (Q : VK) (q : (rdE g (mOp2B f a b)) σ H Q) : (tOp r (rdB g a) (rdB g b)) σ H Q := by
  obtain ⟨M0, φ, τ, rs, τ', hs, hm, k⟩ := q
  simp only [mOp2B, Option.bind_eq_some_iff, Option.map_eq_some_iff] at hm
  obtain ⟨x, hx, y, hy, s, es, e⟩ := hm
  cases e
  obtain ⟨sx, hx, vx⟩ := bView_some hx
  obtain ⟨sy, hy, vy⟩ := bView_some hy
  refine ⟨M0, φ, τ, _, hs, hx, fun v1 H1 e1 w1 => ?_⟩
  obtain ⟨F1, w1⟩ := w1
  refine ⟨M0, φ, τ, _, hs.ev0 e1, hy, fun v2 H2 e2 w2 => ?_⟩
  obtain ⟨F2, w2⟩ := w2
  exact ho ((w1.ev0 e2).rt vx) (w2.rt vy) es fun v3 H3 p => k v3 H3 (EOk.after (hs.after0 (e1.trans e2)) (.of ((hs.ev0 e1).ev0 e2) p))
theorem s_op2B {r : R2} {f : D → D → Option SV} {a b : PB} (ho : Op2 g f r) (h : PE X e (tOp r (rdB g a) (rdB g b))) : PE X e (rdE g (mOp2B f a b)) := pe_le h (le_op2B ho)
theorem le_op2R {r : R2} {f : D → D → Option SV} {a : CM D} {b : PB} (ho : Op2 g f r) (σ : L2.St) (H : Hp) (Q : VK) (q : (rdE g (mOp2R f a b)) σ H Q) : (tOp r (rdD g a) (rdB g b)) σ H Q := by
  obtain ⟨M0, φ, τ, rs, τ', hs, hm, k⟩ := q
  rcases bnd_some hm with ⟨x, τ1, e1, e2⟩ | ⟨c, fs, l, e1, rfl⟩
  · refine ⟨M0, φ, τ, _, _, hs, e1, fun v1 H1 q1 => ?_⟩
    obtain ⟨φ1, hs1, r1, l1⟩ := q1
    simp only [Option.bind_eq_some_iff, Option.map_eq_some_iff] at e2
    obtain ⟨y, hy, s, es, e⟩ := e2
    cases e
    obtain ⟨sy, hy, vy⟩ := bView_some hy
    refine ⟨M0, φ1, _, _, hs1, hy, fun v2 H2 e2 w2 => ?_⟩
    obtain ⟨F2, w2⟩ := w2
    exact ho (.of (r1.ev0 e2)) (w2.rt vy) es fun v3 H3 p => k v3 H3 (EOk.after (l1.trans (hs1.after0 e2)) (.of (hs1.ev0 e2) p))
  · exact ⟨M0, φ, τ, _, _, hs, e1, k⟩
theorem s_op2R {r : R2} {f : D → D → Option SV} {a : CM D} {b : PB} (ho : Op2 g f r) (h : PE X e (tOp r (rdD g a) (rdB g b))) : PE X e (rdE g (mOp2R f a b)) := pe_le h (le_op2R ho)
theorem s_op1B {r : V → Hp → VK → Prop} {f : D → Option SV} {a : PB} (ho : Op1 g f r) (h : PE X e (tUn r (rdB g a))) : PE X e (rdE g (mOp1B f a)) := pe_le h fun σ H Q q => by
  obtain ⟨M0, φ, τ, rs, τ', hs, hm, k⟩ := q
  simp only [mOp1B, Option.bind_eq_some_iff, Option.map_eq_some_iff] at hm
  obtain ⟨x, hx, s, es, e⟩ := hm
  cases e
  obtain ⟨sx, hx, vx⟩ := bView_some hx
  refine ⟨M0, φ, τ, _, hs, hx, fun v1 H1 e1 w1 => ?_⟩
  obtain ⟨F1, w1⟩ := w1
  exact ho (w1.rt vx) es fun v3 H3 p => k v3 H3 (EOk.after (hs.after0 e1) (.of (hs.ev0 e1) p))
/-- what is new may be lent -/
theorem POk.lent (hs : Sim g M0 φ τ σ H) (h : POk g (Mof M0 φ) H s v H') : Ev0 H H' ∧ ∃ F, Ow g (Mof M0 φ) H' v s F := by
  obtain ⟨F, e, w, _⟩ := h
  exact ⟨e, F, w.sub fun _ q => .inl q⟩
theorem p_op2 {r : R2} {f : D → D → Option SV} {a b : PB} (ho : Op2 g f r) (h : PE X e (tOp r (rdB g a) (rdB g b))) : PE X e (rdB g (bOp2 f a b)) := pe_le h fun σ H Q q => by
  obtain ⟨M0, φ, τ, s, hs, hm, k⟩ := q
  simp only [bOp2, Option.bind_eq_some_iff] at hm
  obtain ⟨x, hx, y, hy, es⟩ := hm
  obtain ⟨sx, hx, vx⟩ := bView_some hx
  obtain ⟨sy, hy, vy⟩ := bView_some hy
  refine ⟨M0, φ, τ, _, hs, hx, fun v1 H1 e1 w1 => ?_⟩
  obtain ⟨F1, w1⟩ := w1
  refine ⟨M0, φ, τ, _, hs.ev0 e1, hy, fun v2 H2 e2 w2 => ?_⟩
  obtain ⟨F2, w2⟩ := w2
  refine ho ((w1.ev0 e2).rt vx) (w2.rt vy) es fun v3 H3 p => ?_
  obtain ⟨e3, w3⟩ := p.lent ((hs.ev0 e1).ev0 e2)
  exact k v3 H3 ((e1.trans e2).trans e3) w3
theorem p_op1 {r : V → Hp → VK → Prop} {f : D → Option SV} {a : PB} (ho : Op1 g f r) (h : PE X e (tUn r (rdB g a))) : PE X e (rdB g (bOp1 f a)) := pe_le h fun σ H Q q => by
  obtain ⟨M0, φ, τ, s, hs, hm, k⟩ := q
  simp only [bOp1, Option.bind_eq_some_iff] at hm
  obtain ⟨x, hx, es⟩ := hm
  obtain ⟨sx, hx, vx⟩ := bView_some hx
  refine ⟨M0, φ, τ, _, hs, hx, fun v1 H1 e1 w1 => ?_⟩
  obtain ⟨F1, w1⟩ := w1
  refine ho (w1.rt vx) es fun v3 H3 p => ?_
  obtain ⟨e3, w3⟩ := p.lent (hs.ev0 e1)
  exact k v3 H3 (e1.trans e3) w3
/-! ### arguments -/
def aNil : CM (List D) := ret (some [])
def aCons (a : CM D) (r : CM (List D)) : CM (List D) := bnd a fun x => bnd r fun xs => ret (some (x :: xs))
theorem s_anil {es : List Expr} (h : PA X es tNil) : PA X es (rdA g aNil) := pa_le h fun σ H Q q => by
  obtain ⟨M0, φ, τ, r, τ', hs, hm, k⟩ := q
  obtain ⟨x, ex, rfl, rfl⟩ := ret_some hm
  cases ex
  exact k [] H ⟨φ, hs, .nil, .refl⟩
theorem s_acons {es : List Expr} {a : CM D} {r : CM (List D)} (h : PA X es (tCons (rdD g a) (rdA g r))) : PA X es (rdA g (aCons a r)) := pa_le h fun σ H Q q => by
  obtain ⟨M0, φ, τ, rs, τ', hs, hm, k⟩ := q
  rcases bnd_some hm with ⟨x, τ1, e1, e2⟩ | ⟨c, fs, l, e1, rfl⟩
  · refine ⟨M0, φ, τ, _, _, hs, e1, fun v1 H1 q1 => ?_⟩
    obtain ⟨φ1, hs1, r1, l1⟩ := q1
    rcases bnd_some e2 with ⟨y, τ2, e3, e4⟩ | ⟨c, fs, l, e3, rfl⟩
    · refine ⟨M0, φ1, τ1, _, _, hs1, e3, fun v2 H2 q2 => ?_⟩
      obtain ⟨φ2, hs2, r2, l2⟩ := q2
      obtain ⟨s, es, rfl, rfl⟩ := ret_some e4
      cases es
      exact k _ H2 ⟨φ2, hs2, .cons ((le_mof l2).r r1) r2, l1.trans l2⟩
    · exact ⟨M0, φ1, τ1, _, _, hs1, e3, fun d H' q => k d H' (q.after l1)⟩
  · exact ⟨M0, φ, τ, _, _, hs, e1, k⟩
/-! ### displays -/
def mTup (a : CM (List D)) : CM D := bnd a fun l => ret (if l.length ≤ sizeLine then some (.tup l) else none)
def mLst (a : CM (List D)) : CM SV := bnd a fun l => ret (if l.length ≤ sizeLine then some (.mu .lst (l.map .fz)) else none)
theorem s_tup {a : CM (List D)} (h : PE X e (tTup (rdA g a))) : PE X e (rdD g (mTup a)) := pe_le h fun σ H Q q => by
  obtain ⟨M0, φ, τ, rs, τ', hs, hm, k⟩ := q
  rcases bnd_some hm with ⟨x, τ1, e1, e2⟩ | ⟨c, fs, l, e1, rfl⟩
  · refine ⟨M0, φ, τ, _, _, hs, e1, fun v1 H1 q1 => ?_⟩
    obtain ⟨φ1, hs1, r1, l1⟩ := q1
    obtain ⟨s, es, rfl, rfl⟩ := ret_some e2
    split at es
    · rename_i hl
      cases es
      refine ⟨by rw [r1.length]; exact hl, fun p hp => k _ _ ⟨φ1, hs1.ev0 (new0 hp), .tup (SqT.of upd_same) (r1.ev0 (new0 hp)), l1.trans (hs1.after0 (new0 hp))⟩⟩
    · cases es
  · exact ⟨M0, φ, τ, _, _, hs, e1, k⟩
theorem s_lst {a : CM (List D)} (h : PE X e (tLst (rdA g a))) : PE X e (rdE g (mLst a)) := pe_le h fun σ H Q q => by
  obtain ⟨M0, φ, τ, rs, τ', hs, hm, k⟩ := q
  rcases bnd_some hm with ⟨x, τ1, e1, e2⟩ | ⟨c, fs, l, e1, rfl⟩
  · refine ⟨M0, φ, τ, _, _, hs, e1, fun v1 H1 q1 => ?_⟩
    obtain ⟨φ1, hs1, r1, l1⟩ := q1
    obtain ⟨s, es, rfl, rfl⟩ := ret_some e2
    split at es
    · rename_i hl
      cases es
      refine ⟨by rw [r1.length]; exact hl, fun p hp => k _ _ (EOk.after l1 (.of hs1 (.lst hp r1)))⟩
    · cases es
  · exact ⟨M0, φ, τ, _, _, hs, e1, k⟩
def bTup2 (a b : PB) : PB := fun τ => match a τ, b τ with
  | some (.fz x), some (.fz y) => some (.fz (.tup [x, y]))
  | _, _ => none
end
end VS

/-! ## S4: operators on data -/
namespace VS
open PySem PySem.Spec PyProof.Rows L2
section
variable {X : Cx} {g : Gx} {M : Ad} {H : Hp} {v x y : V} {d e : D} {ds : List D} {s : SV} {Q : VK} {i : Int} {z : Str}
theorem RT.int (h : RT g M H v (.int i)) : v = .int i := by
  cases h with
  | of r => cases r; rfl
theorem RT.str (h : RT g M H v (.str z)) : v = .str z := by
  cases h with
  | of r => cases r; rfl
theorem RT.bl {b : Bool} (h : RT g M H v (.bl b)) : v = .bl b := by
  cases h with
  | of r => cases r; rfl
theorem RT.non (h : RT g M H v .non) : v = .non := by
  cases h with
  | of r => cases r; rfl
theorem RT.tup (h : RT g M H v (.tup ds)) : ∃ a xs, v = .ref a ∧ SqT g.K H a xs ∧ Rs g M H xs ds := by
  cases h with
  | of r => cases r with
    | tup q r => exact ⟨_, _, rfl, q, r⟩
theorem RT.lst (h : RT g M H v (.ob .lst ds)) : ∃ a xs, v = .ref a ∧ H a = some (.lst xs) ∧ Rs g M H xs ds := by
  cases h with
  | of r => cases r with
    | ob q qi n p r =>
      cases p
      exact ⟨_, _, rfl, qi (fun b ks e => nomatch e), r⟩
  | ob q p r =>
    cases p
    exact ⟨_, _, rfl, q, r⟩
theorem RT.fro (h : RT g M H v (.fro ds)) : ∃ a xs, v = .ref a ∧ SqL g.K H a xs ∧ Rs g M H xs ds := by
  cases h with
  | of r => cases r with
    | fro q r => exact ⟨_, _, rfl, q.sqL, r⟩
theorem RT.dct {t : Bool} {ks : List DK} (h : RT g M H v (.ob (.dct t ks) ds)) : ∃ a o xs, v = .ref a ∧ Rd H a o ∧ HOr g.cl g.hid (.dct t ks) xs o ∧ Rs g M H xs ds := by
  cases h with
  | of r => cases r with
    | ob q qi n p r => exact ⟨_, _, _, rfl, q, p, r⟩
  | ob q p r => exact ⟨_, _, _, rfl, .inl q, p, r⟩
theorem RT.ins {c : Nat} {fs : List Str} (h : RT g M H v (.ob (.ins c fs) ds)) : ∃ a dx fsr xs, v = .ref a ∧ H a = some (.ins (g.cl c) dx fsr) ∧ fs.length = xs.length ∧ (∀ f, f ∉ fs → f ∉ g.hid c → fsr.lookup f = none) ∧ (∀ (i : Nat) f x, fs[i]? = some f → xs[i]? = some x → fsr.lookup f = some x) ∧ Rs g M H xs ds := by
  cases h with
  | of r => cases r with
    | ob q qi n p r =>
      obtain ⟨dx, fsr, rfl, p1, p3, p2⟩ := p
      exact ⟨_, _, _, _, rfl, qi (fun b ks e => nomatch e), p1, p3, p2, r⟩
  | ob q p r =>
    obtain ⟨dx, fsr, rfl, p1, p3, p2⟩ := p
    exact ⟨_, _, _, _, rfl, q, p1, p3, p2, r⟩
theorem POk.int (i : Int) : POk g M H (.fz (.int i)) (.int i) H := .here (.int i)
theorem POk.bl (b : Bool) : POk g M H (.fz (.bl b)) (.bl b) H := .here (.bl b)
theorem POk.str (z : Str) : POk g M H (.fz (.str z)) (.str z) H := .here (.str z)
/-! arithmetic -/
def addF : D → D → Option SV
  | .int i, .int j => some (.fz (.int (i + j)))
  | .str a, .str b => if a.length + b.length ≤ sizeLine then some (.fz (.str (a ++ b))) else none
  | .ob .lst a, .ob .lst b => if a.length + b.length ≤ sizeLine then some (.mu .lst ((a ++ b).map .fz)) else none
  | .tup a, .tup b => if a.length + b.length ≤ sizeLine then some (.fz (.tup (a ++ b))) else none
  | _, _ => none
theorem o_add : Op2 g addF (rAddU g.K) := by
  intro M H x y d e s Q h1 h2 hf k
  unfold addF at hf
  split at hf
  · cases h1.int; cases h2.int; cases hf
    exact .inl ⟨_, _, rfl, rfl, k _ _ (.int _)⟩
  · rename_i a b
    cases h1.str; cases h2.str
    split at hf
    · cases hf
      exact .inr (.inl ⟨a, b, rfl, rfl, by assumption, k _ _ (.str _)⟩)
    · cases hf
  · rename_i a b
    obtain ⟨p, xs, rfl, hp, r1⟩ := h1.lst
    obtain ⟨q, ys, rfl, hq, r2⟩ := h2.lst
    split at hf
    · cases hf
      refine .inr (.inr (.inl ⟨p, q, xs, ys, rfl, rfl, hp, hq, by rw [r1.length, r2.length]; assumption, fun t ht => k _ _ (.lst ht (r1.app r2))⟩))
    · cases hf
  · rename_i a b
    obtain ⟨p, xs, rfl, hp, r1⟩ := h1.tup
    obtain ⟨q, ys, rfl, hq, r2⟩ := h2.tup
    split at hf
    · cases hf
      refine .inr (.inr (.inr ⟨p, q, xs, ys, rfl, rfl, hp, hq, by rw [r1.length, r2.length]; assumption, fun e => ?_, fun _ e => ?_, fun _ _ t ht => k _ _ (.tup ht (r1.app r2))⟩))
      · subst e
        cases r1
        exact k _ _ (.here (.tup hq r2))
      · subst e
        cases r2
        rw [List.append_nil] at *
        exact k _ _ (.here (.tup hp r1))
    · cases hf
  · cases hf
def subF : D → D → Option SV
  | .int i, .int j => some (.fz (.int (i - j)))
  | _, _ => none
theorem o_sub : Op2 g subF (rI0 fun i j => .int (i - j)) := by
  intro M H x y d e s Q h1 h2 hf k
  unfold subF at hf
  split at hf
  · cases h1.int; cases h2.int; cases hf
    exact ⟨_, _, rfl, rfl, k _ _ (.int _)⟩
  · cases hf
/-- the product is made -/
def mulOk (i j : Int) : Bool := decide (-(2 ^ 64) < i ∧ i < 2 ^ 64) || (decide (-(2 ^ 64) < j ∧ j < 2 ^ 64) || decide (i.natAbs.log2 + j.natAbs.log2 < 1000000))
def mulF : D → D → Option SV
  | .int i, .int j => if mulOk i j = true then some (.fz (.int (i * j))) else none
  | .ob .lst a, .int k => if -(2 ^ 63) ≤ k ∧ k < 2 ^ 63 ∧ a.length * k.toNat ≤ sizeLine then some (.mu .lst ((List.replicate k.toNat a).flatten.map .fz)) else none
  | .tup a, .int k => if a ≠ [] ∧ 2 ≤ k ∧ k ≤ 1000 ∧ a.length ≤ 1000 then some (.fz (.tup (List.replicate k.toNat a).flatten)) else none
  | _, _ => none
def rMulK (K : PySem.W.Frag) : R2 := fun x y H Q => rMulU x y H Q ∨ rRepT K x y H Q
theorem op_mulK {X : Cx} {K : PySem.W.Frag} (hK : X.K = K := by rfl) : OpR X (binaryOp .Mult) (rMulK K) := op_mulU.or (hK ▸ op_repT)
theorem Rs.rep {xs : List V} {ds : List D} (r : Rs g M H xs ds) : ∀ n : Nat, Rs g M H (List.replicate n xs).flatten (List.replicate n ds).flatten
  | 0 => .nil
  | n + 1 => by
    rw [List.replicate_succ, List.replicate_succ, List.flatten_cons, List.flatten_cons]
    exact r.app (r.rep n)
theorem o_mul : Op2 g mulF (rMulK g.K) := by
  intro M H x y d e s Q h1 h2 hf k
  unfold mulF at hf
  split at hf
  · rename_i i j
    cases h1.int; cases h2.int
    split at hf
    · rename_i hm
      cases hf
      unfold mulOk at hm
      simp only [Bool.or_eq_true, decide_eq_true_eq] at hm
      rcases hm with hm | hm | hm
      · exact .inl (.inl ⟨_, _, rfl, rfl, .inl hm, k _ _ (.int _)⟩)
      · exact .inl (.inl ⟨_, _, rfl, rfl, .inr hm, k _ _ (.int _)⟩)
      · exact .inl (.inr (.inl ⟨_, _, rfl, rfl, hm, k _ _ (.int _)⟩))
    · cases hf
  · rename_i a n
    obtain ⟨p, xs, rfl, hp, r1⟩ := h1.lst
    cases h2.int
    split at hf
    · rename_i hc
      cases hf
      exact .inl (.inr (.inr ⟨p, n, xs, rfl, rfl, hp, hc.1, hc.2.1, by rw [r1.length]; exact hc.2.2, fun t ht => k _ _ (.lst ht (r1.rep _))⟩))
    · cases hf
  · rename_i a n
    obtain ⟨p, xs, rfl, hp, r1⟩ := h1.tup
    cases h2.int
    split at hf
    · rename_i hc
      cases hf
      exact .inr ⟨p, n, xs, rfl, rfl, hp, fun e => hc.1 (by
        have := r1.length
        rw [e] at this
        exact List.eq_nil_of_length_eq_zero this.symm), hc.2.1, hc.2.2.1, by rw [r1.length]; exact hc.2.2.2, fun t ht => k _ _ (.tup ht (r1.rep _))⟩
    · cases hf
  · cases hf
def modF : D → D → Option SV
  | .int i, .int j => if 0 < j then some (.fz (.int (i % j))) else none
  | _, _ => none
theorem o_mod : Op2 g modF rModU := by
  intro M H x y d e s Q h1 h2 hf k
  unfold modF at hf
  split at hf
  · cases h1.int; cases h2.int
    split at hf
    · cases hf
      exact .inl ⟨_, _, rfl, rfl, by assumption, k _ _ (.int _)⟩
    · cases hf
  · cases hf
def divOk (j : Int) : Bool := decide (j < 1073741824) || decide (j.natAbs.log2 < 9000)
def fdivF : D → D → Option SV
  | .int i, .int j => if 0 < j ∧ divOk j = true then some (.fz (.int (i / j))) else none
  | _, _ => none
theorem o_fdiv : Op2 g fdivF rFdivU := by
  intro M H x y d e s Q h1 h2 hf k
  unfold fdivF at hf
  split at hf
  · cases h1.int; cases h2.int
    split at hf
    · rename_i hc
      cases hf
      obtain ⟨h0, hc⟩ := hc
      unfold divOk at hc
      simp only [Bool.or_eq_true, decide_eq_true_eq] at hc
      rcases hc with hc | hc
      · exact .inl ⟨_, _, rfl, rfl, ⟨h0, hc⟩, k _ _ (.int _)⟩
      · exact .inr (.inr ⟨_, _, rfl, rfl, ⟨h0, hc⟩, k _ _ (.int _)⟩)
    · cases hf
  · cases hf
def powF : D → D → Option SV
  | .int i, .int j => if 0 ≤ j ∧ j ≤ 1000000 ∧ i.natAbs < 2 ^ 64 then some (.fz (.int (i ^ j.toNat))) else none
  | _, _ => none
theorem o_pow : Op2 g powF (rI CPow fun i j => .int (i ^ j.toNat)) := by
  intro M H x y d e s Q h1 h2 hf k
  unfold powF at hf
  split at hf
  · cases h1.int; cases h2.int
    split at hf
    · rename_i hc
      cases hf
      exact ⟨_, _, rfl, rfl, hc, k _ _ (.int _)⟩
    · cases hf
  · cases hf
def negF : D → Option SV
  | .int i => some (.fz (.int (-i)))
  | _ => none
theorem o_neg : Op1 g negF (rU fun i => .int (-i)) := by
  intro M H x d s Q h1 hf k
  unfold negF at hf
  split at hf
  · cases h1.int; cases hf
    exact ⟨_, rfl, k _ _ (.int _)⟩
  · cases hf
def notF : D → Option SV
  | .bl b => some (.fz (.bl (!b)))
  | _ => none
/-! comparisons -/
def cmpF (f : Int → Int → Bool) (h : List Nat → List Nat → Bool) : D → D → Option SV
  | .int i, .int j => some (.fz (.bl (f i j)))
  | .str a, .str b => some (.fz (.bl (h a.cps.toList b.cps.toList)))
  | _, _ => none
theorem o_cmp {f : Int → Int → Bool} {h : List Nat → List Nat → Bool} : Op2 g (cmpF f h) (fun x y H Q => rI0 (fun i j => .bl (f i j)) x y H Q ∨ rCmpS (fun i j => h i.cps.toList j.cps.toList) x y H Q) := by
  intro M H x y d e s Q h1 h2 hf k
  unfold cmpF at hf
  split at hf
  · cases h1.int; cases h2.int; cases hf
    exact .inl ⟨_, _, rfl, rfl, k _ _ (.bl _)⟩
  · cases h1.str; cases h2.str; cases hf
    exact .inr ⟨_, _, rfl, rfl, k _ _ (.bl _)⟩
  · cases hf
def ltF : D → D → Option SV := cmpF (fun i j => decide (i < j)) (fun a b => decide (a < b))
def leF : D → D → Option SV := cmpF (fun i j => decide (i ≤ j)) (fun a b => !decide (b < a))
def gtF : D → D → Option SV := cmpF (fun i j => decide (j < i)) (fun a b => decide (b < a))
def geF : D → D → Option SV := cmpF (fun i j => decide (j ≤ i)) (fun a b => !decide (a < b))
theorem o_lt : Op2 g ltF rLtU := o_cmp
theorem o_le : Op2 g leF rLeU := o_cmp
theorem o_gt : Op2 g gtF rGtU := o_cmp
theorem o_ge : Op2 g geF rGeU := o_cmp
/-! equality of data -/
mutual
def toP : D → PyData
  | .non => .none
  | .bl b => .bool b
  | .int i => .int i
  | .str x => .str x
  | .tup l => .tuple (toPs l)
  | .ob .lst l => .list (toPs l)
  | .ob (.dct _ _) _ => .dict []
  | .ob (.ins _ _) _ => .dict []
  | .fro l => .list (toPs l)
def toPs : List D → List PyData
  | [] => []
  | d :: r => toP d :: toPs r
end
theorem toPs_eq : ∀ l : List D, toPs l = l.map toP
  | [] => rfl
  | d :: r => by rw [toPs, toPs_eq r]; rfl
mutual
theorem R.dp : ∀ (d : D) (v : V), PyData.canLay0 (toP d) = true → R g M H v d → Dp g.K H v (toP d)
  | .non, _, _, h => by cases h; exact .non
  | .bl b, _, _, h => by cases h; exact .bl b
  | .int i, _, _, h => by cases h; exact .int i
  | .str x, _, _, h => by cases h; exact .str x
  | .tup l, _, c, h => by
    cases h with
    | tup q r => exact .tup q (Rs.dp l _ c r)
  | .ob .lst l, _, c, h => by
    cases h with
    | ob q qi n p r =>
      cases p
      exact .lst (.inl q) (Rs.dp l _ c r)
  | .ob (.dct _ _) _, _, c, _ => by cases c
  | .ob (.ins _ _) _, _, c, _ => by cases c
  | .fro l, _, c, h => by
    cases h with
    | fro q r => exact .lst q.sqL (Rs.dp l _ c r)
theorem Rs.dp : ∀ (l : List D) (vs : List V), PyData.canLayAll0 (toPs l) = true → Rs g M H vs l → DpAll g.K H vs (toPs l)
  | [], _, _, h => by cases h; exact .nil
  | d :: r, _, c, h => by
    have c' : (PyData.canLay0 (toP d) && PyData.canLayAll0 (toPs r)) = true := c
    rw [Bool.and_eq_true] at c'
    cases h with
    | cons p q => exact .cons (R.dp d _ c'.1 p) (Rs.dp r _ c'.2 q)
end
theorem RT.dp (c : PyData.canLay0 (toP d) = true) (h : RT g M H v d) : Dp g.K H v (toP d) := by
  cases h with
  | of r => exact R.dp d v c r
  | @ob a o h xs ds h1 h2 h3 =>
    cases h with
    | lst =>
      cases h2
      exact .lst (SqL.of h1) (Rs.dp _ _ c h3)
    | dct t ks => cases c
    | ins c' fs => cases c
/-- the data may be compared -/
def shapeD (d : D) : Bool := SeqAt.shaped (toP d)
def eqB (d e : D) : Bool := PyData.eqv (toP d) (toP e)
def eqF : D → D → Option SV
  | .int i, .int j => some (.fz (.bl (decide (i = j))))
  | .str i, .str j => some (.fz (.bl (decide (i = j))))
  | .bl i, .bl j => some (.fz (.bl (decide (i = j))))
  | d, e => if shapeD d && shapeD e then some (.fz (.bl (eqB d e))) else none
theorem o_eq : Op2 g eqF (rEqU g.K) := by
  intro M H x y d e s Q h1 h2 hf k
  unfold eqF at hf
  split at hf
  · cases h1.int; cases h2.int; cases hf
    refine .inl ⟨rfl, k _ _ ?_⟩
    rw [show decide (V.int _ = V.int _) = _ from by simp; rfl]
    exact .bl _
  · cases h1.str; cases h2.str; cases hf
    refine .inl ⟨rfl, k _ _ ?_⟩
    rw [show decide (V.str _ = V.str _) = _ from by simp; rfl]
    exact .bl _
  · cases h1.bl; cases h2.bl; cases hf
    refine .inl ⟨rfl, k _ _ ?_⟩
    rw [show decide (V.bl _ = V.bl _) = _ from by simp; rfl]
    exact .bl _
  · split at hf
    · rename_i hc
      cases hf
      rw [Bool.and_eq_true] at hc
      exact .inr ⟨_, _, h1.dp (SeqAt.canLay_of_shaped hc.1), h2.dp (SeqAt.canLay_of_shaped hc.2), hc.1, hc.2, k _ _ (.bl _)⟩
    · cases hf
def neF : D → D → Option SV
  | .int i, .int j => some (.fz (.bl (!decide (i = j))))
  | .str i, .str j => some (.fz (.bl (!decide (i = j))))
  | .bl i, .bl j => some (.fz (.bl (!decide (i = j))))
  | d, e => if shapeD d && shapeD e then some (.fz (.bl (!eqB d e))) else none
theorem o_ne : Op2 g neF (rNeU g.K) := by
  intro M H x y d e s Q h1 h2 hf k
  unfold neF at hf
  split at hf
  · cases h1.int; cases h2.int; cases hf
    refine .inl ⟨rfl, k _ _ ?_⟩
    rw [show decide (V.int _ = V.int _) = _ from by simp; rfl]
    exact .bl _
  · cases h1.str; cases h2.str; cases hf
    refine .inl ⟨rfl, k _ _ ?_⟩
    rw [show decide (V.str _ = V.str _) = _ from by simp; rfl]
    exact .bl _
  · cases h1.bl; cases h2.bl; cases hf
    refine .inl ⟨rfl, k _ _ ?_⟩
    rw [show decide (V.bl _ = V.bl _) = _ from by simp; rfl]
    exact .bl _
  · split at hf
    · rename_i hc
      cases hf
      rw [Bool.and_eq_true] at hc
      exact .inr ⟨_, _, h1.dp (SeqAt.canLay_of_shaped hc.1), h2.dp (SeqAt.canLay_of_shaped hc.2), hc.1, hc.2, k _ _ (.bl _)⟩
    · cases hf
/-! is None -/
def isN : D → Bool
  | .non => true
  | _ => false
def isF (neg : Bool) (d : D) : D → Option SV
  | .non => some (.fz (.bl (if neg then !isN d else isN d)))
  | _ => none
theorem RT.isN (h : RT g M H v d) : decide (v = .non) = isN d := by
  cases h with
  | of r => cases r <;> rfl
  | ob _ _ _ => rfl
theorem o_is : Op2 g (isF false) (fun x y H Q => y = .non ∧ Q (.bl (decide (x = .non))) H) := by
  intro M H x y d e s Q h1 h2 hf k
  unfold isF at hf
  split at hf
  · cases h2.non; cases hf
    exact ⟨rfl, k _ _ (by rw [h1.isN]; exact .bl _)⟩
  · cases hf
theorem o_isnot : Op2 g (isF true) (fun x y H Q => y = .non ∧ Q (.bl (!decide (x = .non))) H) := by
  intro M H x y d e s Q h1 h2 hf k
  unfold isF at hf
  split at hf
  · cases h2.non; cases hf
    exact ⟨rfl, k _ _ (by rw [h1.isN]; exact .bl _)⟩
  · cases hf
/-! membership -/
def flatD : D → Option V
  | .non => some .non
  | .bl b => some (.bl b)
  | .int i => some (.int i)
  | .str x => some (.str x)
  | _ => none
def flatsD : List D → Option (List V)
  | [] => some []
  | d :: r => (flatD d).bind fun v => (flatsD r).map (v :: ·)
theorem R.flat {u : V} (h : R g M H v d) (e : flatD d = some u) : v = u ∧ flatV u = true := by
  cases h <;> first | (cases e; exact ⟨rfl, rfl⟩) | cases e
theorem Rs.flat : ∀ {vs us : List V} {ds : List D}, Rs g M H vs ds → flatsD ds = some us → vs = us ∧ us.all flatV = true
  | _, _, _, .nil, e => by cases e; exact ⟨rfl, rfl⟩
  | _, _, _, .cons p q, e => by
    simp only [flatsD, Option.bind_eq_some_iff, Option.map_eq_some_iff] at e
    obtain ⟨v, e1, us, e2, rfl⟩ := e
    obtain ⟨rfl, h1⟩ := p.flat e1
    obtain ⟨rfl, h2⟩ := q.flat e2
    exact ⟨rfl, by rw [List.all_cons, h1, h2]; rfl⟩
/-- a key of a dict -/
def keyOf : D → Option DK
  | .int i => some (.k (.inl i))
  | .str x => some (.k (.inr x))
  | .tup l => (flatsK l).map .tup
  | _ => none
where flatsK : List D → Option (List Key)
  | [] => some []
  | .int i :: r => (flatsK r).map (.inl i :: ·)
  | .str x :: r => (flatsK r).map (.inr x :: ·)
  | _ :: _ => none
def dLook : List DK → List D → DK → Option D
  | k :: ks, d :: ds, q => if k = q then some d else dLook ks ds q
  | _, _, _ => none
theorem keys_tup : ∀ {vs : List V} {ds : List D} {ks : List Key}, Rs g M H vs ds → keyOf.flatsK ds = some ks → vs = ks.map kV
  | _, _, _, .nil, e => by cases e; rfl
  | _, d :: r, ks, .cons p q, e => by
    cases d <;> simp only [keyOf.flatsK, Option.map_eq_some_iff] at e <;> try (cases e; done)
    · obtain ⟨ks', e, rfl⟩ := e
      cases p
      rw [keys_tup q e]; rfl
    · obtain ⟨ks', e, rfl⟩ := e
      cases p
      rw [keys_tup q e]; rfl
/-- the tuple stands as such in the heap (not in the written part) -/
def Trk (H : Hp) (v : V) : Prop := ∀ a, v = .ref a → ∃ xs, H a = some (.tup xs)
end
end VS

/-! ## S5: membership, items, slices, built-ins -/
namespace VS
open PySem PySem.Spec PyProof.Rows L2
/-- what d[y] finds, the key any tuple that is to be read -/
def DGetS (K : PySem.W.Frag) (H : Hp) (a : Addr) (y : V) (r : Option V) : Prop :=
  (∃ kvs k, Rd H a (.dK kvs) ∧ y = kV k ∧ r = valV kvs k) ∨ ∃ kvs k b, Rd H a (.dT kvs) ∧ y = .ref b ∧ SqT K H b (k.map kV) ∧ r = valV kvs k
section
variable {X : Cx} {pins : List (Addr × Obj)} {σ : L2.St} {H : Hp} {s : Shared} {a b : Addr} {y v : V} {u r : Value} {o : Option V} {A : Around} {E : Value → Shared → Prop}
theorem key_ofS (I : Inv X pins σ H s) {ks : List Key} (e : SqT X.K H b (ks.map kV)) : (tupleKind (mixKind X.prog X.w)).is s.heap ks b := by
  obtain ⟨its, r, ⟨o, h1, h2, n, h3⟩, _⟩ := I.tuple e
  exact ⟨o, its.toArray, n, h1, h2, h3, by simpa using items_are r⟩
theorem dS_getItem {Q : Value → Shared → Prop} (hu : A.units + 1 < cLine) (I : Inv X pins σ H s) (g : DGetS X.K H a y (some v)) (ry : RelV y u) (h : ∀ w' s', Inv X pins σ H s' → RelV v w' → Q w' s') :
    wpAny (model X.prog X.w) A (getItem (.ref a) u) Q E s := by
  rcases g with ⟨kvs, k, e, ey, l⟩ | ⟨kvs, k, b, e, ey, eb, l⟩
  · exact d_getItem hu I (.inl ⟨kvs, k, e, ey, l⟩) ry h
  · subst ey
    cases (show u = Value.ref b from ry)
    obtain ⟨z, hd, xs, rel, dd⟩ := dt_rd I.hok e
    obtain ⟨w', hw, rw'⟩ := RelO.some_of (v := v) (o := (atKey xs k).map (·.2)) (by rw [l]; exact rel.val k)
    obtain ⟨p, hp, hp2⟩ := Option.map_eq_some_iff.mp hw
    refine wpAny_getItem_heap (tupleKind_room_in1 hu) (key_ofS I eb) dd hp ?_
    rw [hp2]
    exact h w' _ (I.tok _) rw'
theorem dS_in {Q : Value → Shared → Prop} (hu : A.units + 1 < cLine) (I : Inv X pins σ H s) (g : DGetS X.K H a y o) (ry : RelV y u) (h : ∀ s', Inv X pins σ H s' → Q (.bool o.isSome) s') :
    wpAny (model X.prog X.w) A (compareOp .In u (.ref a)) Q E s := by
  rcases g with ⟨kvs, k, e, ey, l⟩ | ⟨kvs, k, b, e, ey, eb, l⟩
  · exact d_in hu I (.inl ⟨kvs, k, e, ey, l⟩) ry h
  · subst ey
    cases (show u = Value.ref b from ry)
    obtain ⟨z, hd, xs, rel, dd⟩ := dt_rd I.hok e
    refine wpAny_in_heap (tupleKind_room_in1 hu) (key_ofS I eb) hd dd ?_
    have q := (rel.val k).isSome_eq
    rw [Option.isSome_map] at q
    rw [← q, ← l]
    exact h _ (I.tok _)
theorem dS_notIn {Q : Value → Shared → Prop} (hu : A.units + 1 < cLine) (I : Inv X pins σ H s) (g : DGetS X.K H a y o) (ry : RelV y u) (h : ∀ s', Inv X pins σ H s' → Q (.bool (!o.isSome)) s') :
    wpAny (model X.prog X.w) A (compareOp .NotIn u (.ref a)) Q E s := by
  rcases g with ⟨kvs, k, e, ey, l⟩ | ⟨kvs, k, b, e, ey, eb, l⟩
  · exact d_notIn hu I (.inl ⟨kvs, k, e, ey, l⟩) ry h
  · subst ey
    cases (show u = Value.ref b from ry)
    obtain ⟨z, hd, xs, rel, dd⟩ := dt_rd I.hok e
    refine wpAny_notIn_heap (tupleKind_room_in1 hu) (key_ofS I eb) hd dd ?_
    have q := (rel.val k).isSome_eq
    rw [Option.isSome_map] at q
    rw [← q, ← l]
    exact h _ (I.tok _)
end
def rIxS2 (K : PySem.W.Frag) : R2 := fun x y H Q => rIx K x y H Q ∨ ∃ a w, x = .ref a ∧ DGetS K H a y (some w) ∧ Q w H
def rInS2 (K : PySem.W.Frag) (neg : Bool) : R2 := fun x y H Q => rSignIn neg x y H Q ∨ (rIn K neg x y H Q ∨ ∃ a o, y = .ref a ∧ DGetS K H a x o ∧ Q (.bl (if neg then !o.isSome else o.isSome)) H)
section
variable {X : Cx}
theorem ix_S (hu : X.A.units + 1 < cLine) {K : PySem.W.Frag} (hK : X.K = K := by rfl) : IxR X (rIxS2 K) := by
  subst hK
  refine ix_seq.or ?_
  intro value slice pins s σ H x y v u Q I rx ry h hs
  obtain ⟨a, w, rfl, g, q⟩ := h
  cases rx
  have hty : s.TypeIs (.ref a) "dict" := by
    rcases g with ⟨kvs, k, e, _⟩ | ⟨kvs, k, b, e, _⟩
    · obtain ⟨z, hd, vs, rel, dd⟩ := dk_rd I.hok e
      exact dd.typeIs
    · obtain ⟨z, hd, xs, rel, dd⟩ := dt_rd I.hok e
      exact dd.typeIs
  exact tail_any hty PySem.F.slot_dict_getitem.lookup (dS_getItem hu I g ry fun w' s' I' rw' => ⟨w, H, I', rw', q⟩) hs
theorem op_inS {K : PySem.W.Frag} (hu : X.A.units + 1 < cLine) (_ : X.A.units + 64 < cLine) (hK : X.K = K := by rfl) : OpR X (compareOp .In) (rInS2 K false) := by
  subst hK
  refine op_inSign.or (op_in_seq.or ?_)
  intro pins s σ H x y v u Q I rx ry h
  obtain ⟨a, o, rfl, g, q⟩ := h
  cases ry
  exact dS_in hu I g rx fun s' I' => ⟨.bl o.isSome, H, I', rfl, q⟩
theorem op_notInS {K : PySem.W.Frag} (hu : X.A.units + 1 < cLine) (_ : X.A.units + 64 < cLine) (hK : X.K = K := by rfl) : OpR X (compareOp .NotIn) (rInS2 K true) := by
  subst hK
  refine op_notInSign.or (op_notIn_seq.or ?_)
  intro pins s σ H x y v u Q I rx ry h
  obtain ⟨a, o, rfl, g, q⟩ := h
  cases ry
  exact dS_notIn hu I g rx fun s' I' => ⟨.bl (!o.isSome), H, I', rfl, q⟩
end
section
variable {X : Cx} {g : Gx} {M : Ad} {H : Hp} {v x y : V} {d e : D} {ds : List D} {s : SV} {Q : VK} {i : Int} {z : Str}
/-- a dict's answer, by values and by data -/
def LookR (g : Gx) (M : Ad) (H : Hp) : Option V → Option D → Prop
  | none, none => True
  | some v, some d => R g M H v d
  | _, _ => False
theorem look_k {κ : Type} [DecidableEq κ] (f : κ → DK) (hf : ∀ a b, f a = f b → a = b) (k : κ) : ∀ {kvs : List (κ × V)} {ds : List D}, Rs g M H (kvs.map (·.2)) ds → LookR g M H (valV kvs k) (dLook (kvs.map fun p => f p.1) ds (f k))
  | [], _, h => by cases h; exact trivial
  | p :: r, d :: ds, h => by
    cases h with
    | cons h1 h2 =>
      show LookR g M H _ (if f p.1 = f k then some d else dLook (r.map fun p => f p.1) ds (f k))
      by_cases e : p.1 = k
      · rw [if_pos (by rw [e]), valV_pos e]; exact h1
      · rw [if_neg (fun q => e (hf _ _ q)), valV_neg e]; exact look_k f hf k h2
theorem dk_k_inj (a b : Key) (h : DK.k a = DK.k b) : a = b := by cases h; rfl
theorem dk_t_inj (a b : List Key) (h : DK.tup a = DK.tup b) : a = b := by cases h; rfl
/-- the lookup of a key -/
def lookF (t : Bool) (ks : List DK) (l : List D) : D → Option (Option D)
  | .int i => if t then none else some (dLook ks l (.k (.inl i)))
  | .str x => if t then none else some (dLook ks l (.k (.inr x)))
  | .tup l' => if t then (keyOf.flatsK l').map fun q => dLook ks l (.tup q) else none
  | _ => none
theorem look_get {t : Bool} {ks : List DK} {k : D} {r : Option D} (h1 : RT g M H x (.ob (.dct t ks) ds)) (h2 : RT g M H y k) (h : lookF t ks ds k = some r) : ∃ a o, x = .ref a ∧ DGetS g.K H a y o ∧ LookR g M H o r := by
  obtain ⟨a, o, xs, rfl, hr, hp, rs⟩ := h1.dct
  cases k with
  | int i =>
    cases t with
    | true => cases h
    | false =>
      cases h
      obtain ⟨kvs, rfl, rfl, rfl⟩ := hp
      cases h2.int
      exact ⟨a, _, rfl, .inl ⟨kvs, .inl i, hr, rfl, rfl⟩, look_k DK.k dk_k_inj (.inl i) rs⟩
  | str z =>
    cases t with
    | true => cases h
    | false =>
      cases h
      obtain ⟨kvs, rfl, rfl, rfl⟩ := hp
      cases h2.str
      exact ⟨a, _, rfl, .inl ⟨kvs, .inr z, hr, rfl, rfl⟩, look_k DK.k dk_k_inj (.inr z) rs⟩
  | tup l =>
    cases t with
    | false => cases h
    | true =>
      have h' : (keyOf.flatsK l).map (fun q => dLook ks ds (.tup q)) = some r := h
      simp only [Option.map_eq_some_iff] at h'
      obtain ⟨q, hq, rfl⟩ := h'
      obtain ⟨kvs, rfl, rfl, rfl⟩ := hp
      obtain ⟨b, vs, rfl, hb, r2⟩ := h2.tup
      rw [keys_tup r2 hq] at hb
      exact ⟨a, _, rfl, .inr ⟨kvs, q, b, hr, rfl, hb, rfl⟩, look_k DK.tup dk_t_inj q rs⟩
  | non => cases h
  | bl b => cases h
  | ob hd l => cases h
  | fro l => cases h
theorem RT.seq (h : RT g M H v d) {l : List D} (e : d = .ob .lst l ∨ d = .tup l ∨ d = .fro l) : ∃ a xs, v = .ref a ∧ (SqL g.K H a xs ∨ SqT g.K H a xs) ∧ Rs g M H xs l := by
  rcases e with rfl | rfl | rfl
  · obtain ⟨a, xs, e, h1, h2⟩ := h.lst
    exact ⟨a, xs, e, .inl (SqL.of h1), h2⟩
  · obtain ⟨a, xs, e, h1, h2⟩ := h.tup
    exact ⟨a, xs, e, .inr h1, h2⟩
  · obtain ⟨a, xs, e, h1, h2⟩ := h.fro
    exact ⟨a, xs, e, .inl h1, h2⟩
/-- the items of a sequence -/
def seqD : D → Option (List D)
  | .ob .lst l => some l
  | .tup l => some l
  | .fro l => some l
  | _ => none
theorem seqD_or {l : List D} (h : seqD d = some l) : d = .ob .lst l ∨ d = .tup l ∨ d = .fro l := by
  unfold seqD at h
  split at h <;> cases h
  · exact .inl rfl
  · exact .inr (.inl rfl)
  · exact .inr (.inr rfl)
/-- x in c -/
def inB : D → D → Option Bool
  | d, .str z => match d with
    | .str a => match a.cps.toList with
      | [c] => some (decide (c ∈ z.cps.toList))
      | _ => none
    | _ => none
  | d, .ob (.dct t ks) l => (lookF t ks l d).map Option.isSome
  | d, e => (seqD e).bind fun l => (flatD d).bind fun u => (flatsD l).map fun us => inV u us
def inF (neg : Bool) (d e : D) : Option SV := (inB d e).map fun b => .fz (.bl (if neg then !b else b))
theorem str_one {a : Str} {c : Nat} (h : a.cps.toList = [c]) : a = ⟨#[c]⟩ := by
  cases a with
  | mk cps =>
    congr 1
    exact Array.toList_inj.mp h
theorem o_in (neg : Bool) : Op2 g (inF neg) (rInS2 g.K neg) := by
  intro M H x y d e s Q h1 h2 hf k
  simp only [inF, Option.map_eq_some_iff] at hf
  obtain ⟨b, hb, rfl⟩ := hf
  unfold inB at hb
  split at hb
  · split at hb
    · split at hb
      · rename_i z a c hc
        cases hb
        cases h1.str; cases h2.str
        exact .inl ⟨c, _, by rw [str_one hc], rfl, k _ _ (by cases neg <;> exact .bl _)⟩
      · cases hb
    · cases hb
  · simp only [Option.map_eq_some_iff] at hb
    obtain ⟨r, hr, rfl⟩ := hb
    obtain ⟨a, o, rfl, hg, hl⟩ := look_get h2 h1 hr
    have e : o.isSome = r.isSome := by
      cases o <;> cases r <;> first | rfl | exact hl.elim
    exact .inr (.inr ⟨a, o, rfl, hg, k _ _ (by rw [e]; cases neg <;> exact .bl _)⟩)
  · simp only [Option.bind_eq_some_iff, Option.map_eq_some_iff] at hb
    obtain ⟨l, hl, u, hu, us, hus, rfl⟩ := hb
    obtain ⟨a, xs, rfl, hs, rs⟩ := h2.seq (seqD_or hl)
    obtain ⟨rfl, fl⟩ := rs.flat hus
    have hx : x = u ∧ flatV u = true := by
      cases h1 with
      | of r => exact r.flat hu
      | ob _ _ _ => cases hu
    obtain ⟨rfl, fx⟩ := hx
    exact .inr (.inl ⟨a, xs, rfl, hs, fx, fl, k _ _ (by cases neg <;> exact .bl _)⟩)
/-- x[i] -/
def ixF : D → D → Option SV
  | .str z, .int i => if z.length ≤ sizeLine then (atI z.cps.toList i).map fun c => .fz (.str ⟨#[c]⟩) else none
  | .ob (.dct t ks) l, k => ((lookF t ks l k).bind id).map .fz
  | d, .int i => (seqD d).bind fun l => (atI l i).map .fz
  | _, _ => none
theorem Rs.atI {xs : List V} {ds : List D} (r : Rs g M H xs ds) (h : L2.atI ds i = some d) : ∃ v, L2.atI xs i = some v ∧ R g M H v d := by
  unfold L2.atI at *
  rw [r.length]
  simp only [Option.bind_eq_some_iff] at *
  obtain ⟨j, hj, hd⟩ := h
  obtain ⟨v, h1, h2⟩ := r.get hd
  exact ⟨v, ⟨j, hj, h1⟩, h2⟩
theorem o_ix : Op2 g ixF (rIxS2 g.K) := by
  intro M H x y d e s Q h1 h2 hf k
  unfold ixF at hf
  split at hf
  · rename_i z i
    cases h1.str; cases h2.int
    split at hf
    · simp only [Option.map_eq_some_iff] at hf
      obtain ⟨c, hc, rfl⟩ := hf
      exact .inl (.inr (.inr ⟨z, i, c, rfl, rfl, by assumption, hc, k _ _ (.str _)⟩))
    · cases hf
  · simp only [Option.map_eq_some_iff, Option.bind_eq_some_iff, id] at hf
    obtain ⟨d', ⟨r, hr, rfl⟩, rfl⟩ := hf
    obtain ⟨a, o, rfl, hg, hl⟩ := look_get h1 h2 hr
    cases o with
    | none => exact hl.elim
    | some w => exact .inr ⟨a, w, rfl, hg, k _ _ (.here hl)⟩
  · rename_i i _ _
    cases h2.int
    simp only [Option.map_eq_some_iff, Option.bind_eq_some_iff] at hf
    obtain ⟨l, hl, d', hd, rfl⟩ := hf
    obtain ⟨a, xs, rfl, hs, rs⟩ := h1.seq (seqD_or hl)
    obtain ⟨v, hv, r⟩ := rs.atI hd
    rcases hs with hs | hs
    · exact .inl (.inl ⟨a, xs, _, v, rfl, rfl, hs, hv, k _ _ (.here r)⟩)
    · exact .inl (.inr (.inl ⟨a, xs, _, v, rfl, rfl, hs, hv, k _ _ (.here r)⟩))
  · cases hf
end
end VS

/-! ## S6: built-ins, methods of texts, slices, fields, tests -/
namespace VS
open PySem PySem.Spec PyProof.Rows L2
/-- a dict locked with tuple keys is a dict -/
inductive TyY (K : PySem.W.Frag) (H : Hp) : V → Value → Prop where
  | base {x : V} {t : Value} (h : TyX K H x t) : TyY K H x t
  | fDT {a : Addr} {o : Obj} {kvs : List (List Key × V)} (e : H a = some (.frz o (.dT kvs))) : TyY K H (.ref a) (.type "dict")
def rIsiY (K : PySem.W.Frag) : List V → Hp → VK → Prop := fun xs H Q => (∃ (x c : V) (t u : Value) (b : Bool), xs = [x, c] ∧ ClsV c u ∧ TyY K H x t ∧ PySem.W.kitOne K t u = some b ∧ Q (.bl b) H) ∨
  ∃ (x : V) (tp : Addr) (cs : List V) (t : Value) (us : List Value) (b : Bool), xs = [x, .ref tp] ∧ H tp = some (.tup cs) ∧ Paired ClsV cs us ∧ TyY K H x t ∧ PySem.W.kitAny K t us = some b ∧ Q (.bl b) H
theorem kit_ofY {X : Cx} {pins : List (Addr × Obj)} {σ : L2.St} {H : Hp} {s : Shared} {x : V} {u t : Value} (I : Inv X pins σ H s) (rx : RelV x u) (ty : TyY X.K H x t) : ∃ P : Heap → Prop, PySem.W.KitX X.K u t P ∧ P s.heap ∧ u ≠ .builtin "__main__.__loader__#opaque" := by
  cases ty with
  | base b => exact kit_of I rx b
  | @fDT a ob kvs ea =>
    cases (show u = Value.ref a from rx)
    obtain ⟨_, _, _, xs, _, o, es, ep, h1, h2, _⟩ := (show ObjOk X.prog X.w H s.heap a (.frz ob (.dT kvs)) from I.hok a _ ea)
    exact ⟨_, PySem.W.kitx_dict, ⟨o, h1, h2.1⟩, fun z => nomatch z⟩
theorem call_isiY {X : Cx} {K : PySem.W.Frag} (hK : X.K = K := by rfl) : CallR X (.builtin "isinstance") (rIsiY K) := by
  subst hK
  intro pins s σ H xs us Q I r h
  rcases h with ⟨x, c, t, u, b, rfl, k, ty, e, q⟩ | ⟨x, tp, cs, t, ws, b, rfl, hT, k, ty, e, q⟩
  · obtain ⟨u1, u2, rfl, r1, r2⟩ := vals2 r
    have e2 := k.eq r2
    subst e2
    obtain ⟨P, Z, p, hx⟩ := kit_ofY I r1 ty
    exact PySem.W.kia_one Z I.kIn p e hx fun tk => ⟨.bl b, H, I.tok tk, rfl, q⟩
  · obtain ⟨u1, u2, rfl, r1, r2⟩ := vals2 r
    cases (show u2 = Value.ref tp from r2)
    obtain ⟨P, Z, p, hx⟩ := kit_ofY I r1 ty
    obtain ⟨_, its, rv, o, h1, h2, n, h3⟩ := (show ObjOk X.prog X.w H s.heap tp (.tup cs) from I.hok tp _ hT)
    have e3 := ClsV.all k rv
    subst e3
    obtain ⟨oc, od, dt, sl⟩ := o
    simp only at h2 h3
    subst h2 h3
    exact PySem.W.kia_tup Z I.kIn p h1 e hx fun tk => ⟨.bl b, H, I.tok tk, rfl, q⟩
/-- what isinstance asks of a class of instances -/
structure InsTy (K : PySem.W.Frag) (C : Addr) : Prop where
  cl : Cls K C
  ha : PySem.W.findIn K (.ref C) "__class__" = some (some (.builtin "object.__class__"))
  hn : PySem.W.specialIn K (.builtin "object.__class__") "__get__" = some (some (.builtin "getset_descriptor.__get__"))
  ht : PySem.W.takesIn K (.builtin "object.__class__") = some true
  hm : PySem.W.mroIn K C (.type "object") = some true
/-- the name of a built-in type -/
def tyN : D → Option String
  | .non => some "NoneType"
  | .bl _ => some "bool"
  | .int _ => some "int"
  | .str _ => some "str"
  | .tup _ => some "tuple"
  | .ob .lst _ => some "list"
  | .fro _ => some "list"
  | .ob (.dct _ _) _ => some "dict"
  | .ob (.ins _ _) _ => none
def clN : D → Option Nat
  | .ob (.ins c _) _ => some c
  | _ => none
section
variable {X : Cx} {g : Gx} {e : Expr} {M M0 : Ad} {φ : Nat → List Addr} {τ τ' : Tau} {σ : L2.St} {H H' : Hp} {v x y : V} {d : D} {ds : List D} {s : SV} {Q : VK} {i : Int} {z : Str} {n : String} {c : Nat}
theorem RT.ty (h : RT g M H v d) (e : tyN d = some n) : TyY g.K H v (.type n) := by
  cases d with
  | non => cases e; cases h.non; exact .base (.base .non)
  | bl b => cases e; cases h.bl; exact .base (.base (.bl b))
  | int i => cases e; cases h.int; exact .base (.base (.int i))
  | str z => cases e; cases h.str; exact .base (.base (.str z))
  | tup l => cases e; obtain ⟨a, xs, rfl, q, _⟩ := h.tup; exact .base q.ty
  | fro l =>
    cases e
    obtain ⟨a, xs, rfl, q, _⟩ := h.fro
    rcases q with (q | ⟨o, q⟩) | ⟨o, its, n, q, c, _⟩
    · exact .base (.base (.lst q))
    · exact .base (.base (.frz q))
    · exact .base (.kList q c)
  | ob hd l =>
    cases hd with
    | lst => cases e; obtain ⟨a, xs, rfl, q, _⟩ := h.lst; exact .base (.base (.lst q))
    | dct t ks =>
      cases e
      obtain ⟨a, o, xs, rfl, q, p, _⟩ := h.dct
      cases t with
      | false =>
        obtain ⟨kvs, rfl, _⟩ := p
        rcases q with q | ⟨u, q⟩
        · exact .base (.base (.dK q))
        · exact .base (.fDict q)
      | true =>
        obtain ⟨kvs, rfl, _⟩ := p
        rcases q with q | ⟨u, q⟩
        · exact .base (.base (.dT q))
        · exact .fDT q
    | ins c fs => cases e
theorem RT.tyC (h : RT g M H v d) (e : clN d = some c) (I : InsTy g.K (g.cl c)) : TyY g.K H v (.ref (g.cl c)) := by
  cases d with
  | ob hd l =>
    cases hd with
    | ins c' fs =>
      cases e
      obtain ⟨a, dx, fsr, xs, rfl, q, _⟩ := h.ins
      exact .base (.base (.ins q I.cl I.ha I.hn I.ht I.hm))
    | lst => cases e
    | dct t ks => cases e
  | non => cases e
  | bl b => cases e
  | int i => cases e
  | str z => cases e
  | tup l => cases e
  | fro l => cases e
/-! ### calls with one argument -/
def OpC (g : Gx) (f : D → Option SV) (r : List V → Hp → VK → Prop) (more : List V) : Prop := ∀ {M : Ad} {H : Hp} {x : V} {d : D} {s : SV} {Q : VK}, RT g M H x d → f d = some s → (∀ v H', POk g M H s v H' → Q v H') → r (x :: more) H Q
theorem s_call1 {r : List V → Hp → VK → Prop} {f : D → Option SV} {a : CM D} (ho : OpC g f r []) (h : PE X e (tCB r (tCons (rdD g a) tNil))) : PE X e (rdE g (mOp1 f a)) := pe_le h fun σ H Q q => by
  obtain ⟨M0, φ, τ, rs, τ', hs, hm, k⟩ := q
  rcases bnd_some hm with ⟨x, τ1, e1, e2⟩ | ⟨c, fs, l, e1, rfl⟩
  · refine ⟨M0, φ, τ, _, _, hs, e1, fun v1 H1 q1 => ?_⟩
    obtain ⟨φ1, hs1, r1, l1⟩ := q1
    obtain ⟨s, es, rfl, rfl⟩ := ret_some e2
    exact ho (.of r1) es fun v3 H3 p => k v3 H3 (EOk.after l1 (.of hs1 p))
  · exact ⟨M0, φ, τ, _, _, hs, e1, k⟩
theorem s_call1B {r : List V → Hp → VK → Prop} {f : D → Option SV} {a : PB} (ho : OpC g f r []) (h : PE X e (tCB r (tCons (rdB g a) tNil))) : PE X e (rdE g (mOp1B f a)) := pe_le h fun σ H Q q => by
  obtain ⟨M0, φ, τ, rs, τ', hs, hm, k⟩ := q
  simp only [mOp1B, Option.bind_eq_some_iff, Option.map_eq_some_iff] at hm
  obtain ⟨x, hx, s, es, e⟩ := hm
  cases e
  obtain ⟨sx, hx, vx⟩ := bView_some hx
  refine ⟨M0, φ, τ, _, hs, hx, fun v1 H1 e1 w1 => ?_⟩
  obtain ⟨F1, w1⟩ := w1
  exact ho (w1.rt vx) es fun v3 H3 p => k v3 H3 (EOk.after (hs.after0 e1) (.of (hs.ev0 e1) p))
theorem p_call1 {r : List V → Hp → VK → Prop} {f : D → Option SV} {a : PB} (ho : OpC g f r []) (h : PE X e (tCB r (tCons (rdB g a) tNil))) : PE X e (rdB g (bOp1 f a)) := pe_le h fun σ H Q q => by
  obtain ⟨M0, φ, τ, s, hs, hm, k⟩ := q
  simp only [bOp1, Option.bind_eq_some_iff] at hm
  obtain ⟨x, hx, es⟩ := hm
  obtain ⟨sx, hx, vx⟩ := bView_some hx
  refine ⟨M0, φ, τ, _, hs, hx, fun v1 H1 e1 w1 => ?_⟩
  obtain ⟨F1, w1⟩ := w1
  refine ho (w1.rt vx) es fun v3 H3 p => ?_
  obtain ⟨e3, w3⟩ := p.lent (hs.ev0 e1)
  exact k v3 H3 (e1.trans e3) w3
/-! isinstance -/
def isiF (tb : String → Bool) (cs : List Nat) (cb : Nat → Bool) (d : D) : Option SV :=
  match tyN d with
  | some n => some (.fz (.bl (tb n)))
  | none => match clN d with
    | some c => if c ∈ cs then some (.fz (.bl (cb c))) else none
    | none => none
/-- a class is known, a built-in or an own one -/
structure IsT (g : Gx) (u : Value) (tb : String → Bool) (cs : List Nat) (cb : Nat → Bool) : Prop where
  ty : ∀ n ∈ ["NoneType", "bool", "int", "str", "tuple", "list", "dict"], PySem.W.kitOne g.K (.type n) u = some (tb n)
  cl : ∀ c ∈ cs, InsTy g.K (g.cl c) ∧ PySem.W.kitOne g.K (.ref (g.cl c)) u = some (cb c)
theorem tyN_mem (h : tyN d = some n) : n ∈ ["NoneType", "bool", "int", "str", "tuple", "list", "dict"] := by
  cases d with
  | ob hd l => cases hd <;> cases h <;> decide
  | _ => cases h; decide
theorem o_isi {c : V} {u : Value} {tb : String → Bool} {cs : List Nat} {cb : Nat → Bool} (hc : ClsV c u) (T : IsT g u tb cs cb) : OpC g (isiF tb cs cb) (rIsiY g.K) [c] := by
  intro M H x d s Q h1 hf k
  unfold isiF at hf
  split at hf
  · rename_i n hn
    cases hf
    exact .inl ⟨x, c, _, u, _, rfl, hc, h1.ty hn, T.ty n (tyN_mem hn), k _ _ (.bl _)⟩
  · split at hf
    · rename_i c' hc'
      split at hf
      · rename_i hm
        cases hf
        obtain ⟨t1, t2⟩ := T.cl c' hm
        exact .inl ⟨x, c, _, u, _, rfl, hc, h1.tyC hc' t1, t2, k _ _ (.bl _)⟩
      · cases hf
    · cases hf
theorem s_isi {r : List V → Hp → VK → Prop} {f : D → Option SV} {a : CM D} {c : V} (ho : OpC g f r [c]) (h : PE X e (tCB r (tCons (rdD g a) (tCons (tC c) tNil)))) : PE X e (rdE g (mOp1 f a)) := pe_le h fun σ H Q q => by
  obtain ⟨M0, φ, τ, rs, τ', hs, hm, k⟩ := q
  rcases bnd_some hm with ⟨x, τ1, e1, e2⟩ | ⟨c, fs, l, e1, rfl⟩
  · refine ⟨M0, φ, τ, _, _, hs, e1, fun v1 H1 q1 => ?_⟩
    obtain ⟨φ1, hs1, r1, l1⟩ := q1
    obtain ⟨s, es, rfl, rfl⟩ := ret_some e2
    exact ho (.of r1) es fun v3 H3 p => k v3 H3 (EOk.after l1 (.of hs1 p))
  · exact ⟨M0, φ, τ, _, _, hs, e1, k⟩
/-- isinstance(x, (c1, c2)) -/
theorem s_isi2 {tb1 tb2 : String → Bool} {a : CM D} {n1 n2 : String} (T1 : IsT g (.type n1) tb1 [] fun _ => false) (T2 : IsT g (.type n2) tb2 [] fun _ => false) (h : PE X e (tCB (rIsiY g.K) (tCons (rdD g a) (tCons (tTup (tCons (tC (.ty n1)) (tCons (tC (.ty n2)) tNil))) tNil)))) :
    PE X e (rdE g (mOp1 (isiF (fun n => tb1 n || tb2 n) [] fun _ => false) a)) := pe_le h fun σ H Q q => by
  obtain ⟨M0, φ, τ, rs, τ', hs, hm, k⟩ := q
  rcases bnd_some hm with ⟨x, τ1, e1, e2⟩ | ⟨c, fs, l, e1, rfl⟩
  · refine ⟨M0, φ, τ, _, _, hs, e1, fun v1 H1 q1 => ?_⟩
    obtain ⟨φ1, hs1, r1, l1⟩ := q1
    obtain ⟨s, es, rfl, rfl⟩ := ret_some e2
    refine ⟨by show 2 ≤ sizeLine; decide, fun p hp => ?_⟩
    unfold isiF at es
    split at es
    · rename_i n hn
      cases es
      have t1 := T1.ty n (tyN_mem hn)
      have t2 := T2.ty n (tyN_mem hn)
      refine .inr ⟨_, p, _, _, [.type n1, .type n2], _, rfl, upd_same, .cons (.ty _) (.cons (.ty _) .nil), (RT.of (r1.ev0 (new0 hp))).ty hn, ?_, k _ _ (EOk.after (l1.trans (hs1.after0 (new0 hp))) (.of (hs1.ev0 (new0 hp)) (.bl _)))⟩
      unfold PySem.W.kitAny
      rw [t1]
      show _ = some (tb1 n || tb2 n)
      cases hb1 : tb1 n with
      | true => rfl
      | false =>
        show PySem.W.kitAny g.K (.type n) [.type n2] = some (tb2 n)
        unfold PySem.W.kitAny
        rw [t2]
        cases hb2 : tb2 n <;> rfl
    · split at es
      · split at es
        · rename_i hmm
          cases hmm
        · cases es
      · cases es
  · exact ⟨M0, φ, τ, _, _, hs, e1, k⟩
/-! other built-ins -/
def rLenS (K : PySem.W.Frag) : List V → Hp → VK → Prop := fun xs H Q => (∃ x n, xs = [x] ∧ LenV K x H n ∧ Q (.int n) H) ∨ ((∃ a kvs, xs = [V.ref a] ∧ Rd H a (.dK kvs) ∧ Q (.int kvs.length) H) ∨ ∃ a kvs, xs = [V.ref a] ∧ Rd H a (.dT kvs) ∧ Q (.int kvs.length) H)
theorem call_lenS {X : Cx} {K : PySem.W.Frag} (hK : X.K = K := by rfl) : CallR X (.builtin "len") (rLenS K) := by
  subst hK
  refine call_len.or (CallR.or (r := fun xs H Q => ∃ a kvs, xs = [V.ref a] ∧ Rd H a (.dK kvs) ∧ Q (.int kvs.length) H) ?_ ?_)
  · intro pins s σ H xs us Q I r h
    obtain ⟨a, kvs, rfl, hd, q⟩ := h
    rw [Vals.ref1 r]
    exact d_len I hd fun t s' I' => ⟨.int kvs.length, H, I', ⟨t, rfl⟩, q⟩
  · intro pins s σ H xs us Q I r h
    obtain ⟨a, kvs, rfl, hd, q⟩ := h
    rw [Vals.ref1 r]
    obtain ⟨z, hd', ys, rel, dd⟩ := dt_rd I.hok hd
    refine call_len_dictH hd' dd (by rw [← rel.length]; rw [sizeLine_eq] at z; omega) ?_
    rw [← rel.length]
    exact ⟨.int kvs.length, H, I.tok _, ⟨_, rfl⟩, q⟩
def lenF : D → Option SV
  | .str z => if z.length ≤ sizeLine then some (.fz (.int z.length)) else none
  | .ob (.dct _ _) l => some (.fz (.int l.length))
  | d => (seqD d).map fun l => .fz (.int l.length)
theorem o_len : OpC g lenF (rLenS g.K) [] := by
  intro M H x d s Q h1 hf k
  unfold lenF at hf
  split at hf
  · cases h1.str
    split at hf
    · cases hf
      exact .inl ⟨_, _, rfl, ⟨by assumption, rfl⟩, k _ _ (.int _)⟩
    · cases hf
  · rename_i t ks l
    cases hf
    obtain ⟨a, o, xs, rfl, q, p, rs⟩ := h1.dct
    cases t with
    | false =>
      obtain ⟨kvs, rfl, e1, e2⟩ := p
      have el : kvs.length = l.length := by have := rs.length; rw [e2, List.length_map] at this; exact this
      exact .inr (.inl ⟨a, kvs, rfl, q, k _ _ (by rw [el]; exact .int _)⟩)
    | true =>
      obtain ⟨kvs, rfl, e1, e2⟩ := p
      have el : kvs.length = l.length := by have := rs.length; rw [e2, List.length_map] at this; exact this
      exact .inr (.inr ⟨a, kvs, rfl, q, k _ _ (by rw [el]; exact .int _)⟩)
  · simp only [Option.map_eq_some_iff] at hf
    obtain ⟨l, hl, rfl⟩ := hf
    obtain ⟨a, xs, rfl, hs, rs⟩ := h1.seq (seqD_or hl)
    refine .inl ⟨_, _, rfl, ?_, k _ _ (.int _)⟩
    rcases hs with hs | hs
    · exact .inl ⟨xs, hs, rs.length.symm⟩
    · exact .inr ⟨xs, hs, rs.length.symm⟩
end
end VS

/-! ## S7: more built-ins, methods of texts, slices, fields, tests -/
namespace VS
open PySem PySem.Spec PyProof.Rows L2
section
variable {X : Cx} {g : Gx} {e : Expr} {M M0 : Ad} {φ : Nat → List Addr} {τ τ' : Tau} {σ : L2.St} {H H' : Hp} {v x y : V} {d : D} {ds : List D} {s : SV} {Q : VK} {i : Int} {z : Str} {n : String} {c : Nat}
def absF : D → Option SV
  | .int i => some (.fz (.int (if i < 0 then -i else i)))
  | _ => none
theorem o_abs : OpC g absF rAbsU [] := by
  intro M H x d s Q h1 hf k
  unfold absF at hf
  split at hf
  · cases h1.int; cases hf
    exact ⟨_, rfl, k _ _ (.int _)⟩
  · cases hf
def intF : D → Option SV
  | .int i => some (.fz (.int i))
  | .bl b => some (.fz (.int (if b then 1 else 0)))
  | _ => none
theorem o_int : OpC g intF rIntU [] := by
  intro M H x d s Q h1 hf k
  unfold intF at hf
  split at hf
  · cases h1.int; cases hf
    exact .inl ⟨_, rfl, k _ _ (.int _)⟩
  · cases h1.bl; cases hf
    exact .inr ⟨_, rfl, k _ _ (.int _)⟩
  · cases hf
def boolF : D → Option SV
  | .int i => some (.fz (.bl (i != 0)))
  | .bl b => some (.fz (.bl b))
  | _ => none
theorem o_bool : OpC g boolF rBoolU [] := by
  intro M H x d s Q h1 hf k
  unfold boolF at hf
  split at hf
  · cases h1.int; cases hf
    exact .inl ⟨_, rfl, k _ _ (.bl _)⟩
  · cases h1.bl; cases hf
    exact .inr ⟨_, rfl, k _ _ (.bl _)⟩
  · cases hf
def strF : D → Option SV
  | .int i => if i.natAbs.log2 < 1920 then some (.fz (.str (toString i))) else none
  | _ => none
theorem o_str : OpC g strF rStrU [] := by
  intro M H x d s Q h1 hf k
  unfold strF at hf
  split at hf
  · cases h1.int
    split at hf
    · cases hf
      exact ⟨_, rfl, by assumption, k _ _ (.str _)⟩
    · cases hf
  · cases hf
def tupleF : D → Option SV
  | .ob .lst l => some (.fz (.tup l))
  | .fro l => some (.fz (.tup l))
  | .tup l => some (.fz (.tup l))
  | _ => none
theorem o_tuple : OpC g tupleF (rTupleU g.K) [] := by
  intro M H x d s Q h1 hf k
  unfold tupleF at hf
  split at hf
  · cases hf
    obtain ⟨a, xs, rfl, h, r⟩ := h1.lst
    exact ⟨a, xs, rfl, .inl ⟨SqL.of h, fun p hp => k _ _ (.tup hp r)⟩⟩
  · cases hf
    obtain ⟨a, xs, rfl, h, r⟩ := h1.fro
    exact ⟨a, xs, rfl, .inl ⟨h, fun p hp => k _ _ (.tup hp r)⟩⟩
  · cases hf
    obtain ⟨a, xs, rfl, h, r⟩ := h1.tup
    exact ⟨a, xs, rfl, .inr ⟨h, k _ _ (.here (.tup h r))⟩⟩
  · cases hf
def keyD : DK → Option D
  | .k (.inl i) => some (.int i)
  | .k (.inr x) => some (.str x)
  | .tup _ => none
def keysD : List DK → Option (List D)
  | [] => some []
  | k :: r => (keyD k).bind fun d => (keysD r).map (d :: ·)
theorem keys_rs : ∀ {kvs : List (Key × V)} {l : List D}, keysD (kvs.map fun p => DK.k p.1) = some l → Rs g M H (kvs.map fun kv => kV kv.1) l
  | [], _, h => by cases h; exact .nil
  | (.inl i, v) :: r, l, h => by
    have h' : ((keysD (r.map fun p => DK.k p.1)).map (D.int i :: ·)) = some l := h
    simp only [Option.map_eq_some_iff] at h'
    obtain ⟨l', h', rfl⟩ := h'
    exact .cons (.int i) (keys_rs h')
  | (.inr x, v) :: r, l, h => by
    have h' : ((keysD (r.map fun p => DK.k p.1)).map (D.str x :: ·)) = some l := h
    simp only [Option.map_eq_some_iff] at h'
    obtain ⟨l', h', rfl⟩ := h'
    exact .cons (.str x) (keys_rs h')
def signs (z : Str) : List D := z.cps.toList.map fun c => D.str ⟨#[c]⟩
theorem signs_rs (z : Str) : Rs g M H (z.cps.toList.map fun c => V.str ⟨#[c]⟩) (signs z) := by
  unfold signs
  induction z.cps.toList with
  | nil => exact .nil
  | cons c r ih => exact .cons (.str _) ih
def rListR : List V → Hp → VK → Prop := fun xs H Q => ∃ (a : Addr) (kvs : List (Key × V)), xs = [.ref a] ∧ Rd H a (.dK kvs) ∧ ∀ p, H p = none → Q (.ref p) (upd H p (.lst (kvs.map fun kv => kV kv.1)))
def rListU2 (K : PySem.W.Frag) : List V → Hp → VK → Prop := fun xs H Q => rListR xs H Q ∨ rListU K xs H Q
theorem call_listU2 {X : Cx} {K : PySem.W.Frag} (hK : X.K = K := by rfl) (hc : X.calm = true := by rfl) : CallR X (.type "list") (rListU2 K) := (call_listD hc).or (call_listU hK hc)
def listF : D → Option SV
  | .ob .lst l => some (.mu .lst (l.map .fz))
  | .fro l => some (.mu .lst (l.map .fz))
  | .tup l => some (.mu .lst (l.map .fz))
  | .str z => if z.length ≤ sizeLine then some (.mu .lst ((signs z).map .fz)) else none
  | .ob (.dct false ks) _ => if ks.length ≤ sizeLine then (keysD ks).map fun l => .mu .lst (l.map .fz) else none
  | _ => none
theorem o_list : OpC g listF (rListU2 g.K) [] := by
  intro M H x d s Q h1 hf k
  unfold listF at hf
  split at hf
  · cases hf
    obtain ⟨a, xs, rfl, h, r⟩ := h1.lst
    exact .inr (.inl ⟨a, xs, rfl, .inl (SqL.of h), fun p hp => k _ _ (.lst hp r)⟩)
  · cases hf
    obtain ⟨a, xs, rfl, h, r⟩ := h1.fro
    exact .inr (.inl ⟨a, xs, rfl, .inl h, fun p hp => k _ _ (.lst hp r)⟩)
  · cases hf
    obtain ⟨a, xs, rfl, h, r⟩ := h1.tup
    exact .inr (.inl ⟨a, xs, rfl, .inr h, fun p hp => k _ _ (.lst hp r)⟩)
  · cases h1.str
    split at hf
    · cases hf
      exact .inr (.inr (.inr ⟨_, rfl, by assumption, fun p hp => k _ _ (.lst hp (signs_rs _))⟩))
    · cases hf
  · rename_i ks l
    split at hf
    · rename_i hz
      simp only [Option.map_eq_some_iff] at hf
      obtain ⟨l', hl', rfl⟩ := hf
      obtain ⟨a, o, xs, rfl, q, p, rs⟩ := h1.dct
      obtain ⟨kvs, rfl, e1, e2⟩ := p
      subst e1
      exact .inl ⟨a, kvs, rfl, q, fun p hp => k _ _ (.lst hp (keys_rs hl'))⟩
    · cases hf
  · cases hf
/-! flat lists -/
def intsD : List D → Option (List Int)
  | [] => some []
  | .int i :: r => (intsD r).map (i :: ·)
  | _ :: _ => none
def bsD : List D → Option (List Bool)
  | [] => some []
  | .bl i :: r => (bsD r).map (i :: ·)
  | _ :: _ => none
def strsD : List D → Option (List Str)
  | [] => some []
  | .str i :: r => (strsD r).map (i :: ·)
  | _ :: _ => none
theorem Rs.ints : ∀ {vs : List V} {ds : List D} {l : List Int}, Rs g M H vs ds → intsD ds = some l → vs = l.map V.int
  | _, _, _, .nil, e => by cases e; rfl
  | _, d :: r, l, .cons p q, e => by
    cases d <;> simp only [intsD, Option.map_eq_some_iff] at e <;> try (cases e; done)
    obtain ⟨l', e, rfl⟩ := e
    cases p
    rw [q.ints e]; rfl
theorem Rs.bls : ∀ {vs : List V} {ds : List D} {l : List Bool}, Rs g M H vs ds → bsD ds = some l → vs = l.map V.bl
  | _, _, _, .nil, e => by cases e; rfl
  | _, d :: r, l, .cons p q, e => by
    cases d <;> simp only [bsD, Option.map_eq_some_iff] at e <;> try (cases e; done)
    obtain ⟨l', e, rfl⟩ := e
    cases p
    rw [q.bls e]; rfl
theorem Rs.strs : ∀ {vs : List V} {ds : List D} {l : List Str}, Rs g M H vs ds → strsD ds = some l → vs = l.map V.str
  | _, _, _, .nil, e => by cases e; rfl
  | _, d :: r, l, .cons p q, e => by
    cases d <;> simp only [strsD, Option.map_eq_some_iff] at e <;> try (cases e; done)
    obtain ⟨l', e, rfl⟩ := e
    cases p
    rw [q.strs e]; rfl
theorem rs_ints (l : List Int) : Rs g M H (l.map V.int) (l.map D.int) := by
  induction l with
  | nil => exact .nil
  | cons c r ih => exact .cons (.int _) ih
theorem rs_strs (l : List Str) : Rs g M H (l.map V.str) (l.map D.str) := by
  induction l with
  | nil => exact .nil
  | cons c r ih => exact .cons (.str _) ih
theorem strsD_map (l : List Str) : strsD (l.map D.str) = some l := by
  induction l with
  | nil => rfl
  | cons c r ih => simp only [List.map_cons, strsD, ih, Option.map_some]
theorem intsD_map (l : List Int) : intsD (l.map D.int) = some l := by
  induction l with
  | nil => rfl
  | cons c r ih => simp only [List.map_cons, intsD, ih, Option.map_some]
theorem bsD_map (l : List Bool) : bsD (l.map D.bl) = some l := by
  induction l with
  | nil => rfl
  | cons c r ih => simp only [List.map_cons, bsD, ih, Option.map_some]
def lstD : D → Option (List D)
  | .ob .lst l => some l
  | .fro l => some l
  | _ => none
theorem RT.lstD {l : List D} (h : RT g M H v d) (e : lstD d = some l) : ∃ a xs, v = .ref a ∧ SqL g.K H a xs ∧ Rs g M H xs l := by
  unfold VS.lstD at e
  split at e <;> cases e
  · obtain ⟨a, xs, rfl, h, r⟩ := h.lst
    exact ⟨a, xs, rfl, SqL.of h, r⟩
  · exact h.fro
def sumF (d : D) : Option SV := (lstD d).bind fun l => (intsD l).map fun ns => .fz (.int ns.sum)
theorem o_sum : OpC g sumF (rSum g.K) [] := by
  intro M H x d s Q h1 hf k
  simp only [sumF, Option.bind_eq_some_iff, Option.map_eq_some_iff] at hf
  obtain ⟨l, hl, ns, hn, rfl⟩ := hf
  obtain ⟨a, xs, rfl, hs, rs⟩ := h1.lstD hl
  rw [rs.ints hn] at hs
  exact ⟨a, ns, rfl, hs, k _ _ (.int _)⟩
def allF (d : D) : Option SV := (lstD d).bind fun l => (bsD l).map fun ns => .fz (.bl (ns.all id))
theorem o_all : OpC g allF (rAll g.K) [] := by
  intro M H x d s Q h1 hf k
  simp only [allF, Option.bind_eq_some_iff, Option.map_eq_some_iff] at hf
  obtain ⟨l, hl, ns, hn, rfl⟩ := hf
  obtain ⟨a, xs, rfl, hs, rs⟩ := h1.lstD hl
  rw [rs.bls hn] at hs
  exact ⟨a, ns, rfl, hs, k _ _ (.bl _)⟩
def anyF (d : D) : Option SV := (lstD d).bind fun l => (bsD l).map fun ns => .fz (.bl (ns.any id))
theorem o_any : OpC g anyF (rAny g.K) [] := by
  intro M H x d s Q h1 hf k
  simp only [anyF, Option.bind_eq_some_iff, Option.map_eq_some_iff] at hf
  obtain ⟨l, hl, ns, hn, rfl⟩ := hf
  obtain ⟨a, xs, rfl, hs, rs⟩ := h1.lstD hl
  rw [rs.bls hn] at hs
  exact ⟨a, ns, rfl, hs, k _ _ (.bl _)⟩
/-- by insertion: texts -/
def insS (x : Str) : List Str → List Str
  | [] => [x]
  | y :: r => if x.cps.toList ≤ y.cps.toList then x :: y :: r else y :: insS x r
def sortS : List Str → List Str
  | [] => []
  | x :: r => insS x (sortS r)
theorem insS_perm (x : Str) : ∀ l : List Str, (insS x l).Perm (x :: l)
  | [] => .refl _
  | y :: r => by
    unfold insS
    split
    · exact .refl _
    · exact ((insS_perm x r).cons y).trans (.swap x y r)
theorem sortS_perm : ∀ l : List Str, (sortS l).Perm l
  | [] => .refl _
  | x :: r => (insS_perm x _).trans ((sortS_perm r).cons x)
theorem le_total' (a b : List Nat) (h : ¬ a ≤ b) : b ≤ a := by
  rcases List.le_total a b with q | q
  · exact absurd q h
  · exact q
theorem insS_pw (x : Str) : ∀ {l : List Str}, (l.Pairwise fun a b => a.cps.toList ≤ b.cps.toList) → (insS x l).Pairwise fun a b => a.cps.toList ≤ b.cps.toList
  | [], _ => by simp [insS]
  | y :: r, h => by
    obtain ⟨h1, h2⟩ := List.pairwise_cons.mp h
    unfold insS
    split
    · rename_i hle
      refine List.pairwise_cons.mpr ⟨fun z hz => ?_, h⟩
      rcases List.mem_cons.mp hz with e | e
      · subst e; exact hle
      · exact List.le_trans hle (h1 z e)
    · rename_i hle
      refine List.pairwise_cons.mpr ⟨fun z hz => ?_, insS_pw x h2⟩
      rcases List.mem_cons.mp ((insS_perm x r).mem_iff.mp hz) with e | e
      · subst e; exact le_total' _ _ hle
      · exact h1 z e
theorem sortS_pw : ∀ l : List Str, (sortS l).Pairwise fun a b => a.cps.toList ≤ b.cps.toList
  | [] => .nil
  | x :: r => insS_pw x (sortS_pw r)
theorem sortS_eq {l m : List Str} (hp : m.Perm l) (hs : PyProof.Rows.sortedS m = true) : m = sortS l :=
  List.Perm.eq_of_pairwise (fun a b _ _ h1 h2 => by
    have := List.le_antisymm h1 h2
    cases a; cases b
    congr 1
    exact Array.toList_inj.mp this) (sorted_pw hs) (sortS_pw l) (hp.trans (sortS_perm l).symm)
def sortedF (d : D) : Option SV := (lstD d).bind fun l => (strsD l).map fun ns => .mu .lst (((sortS ns).map D.str).map .fz)
theorem o_sorted : OpC g sortedF (rSortedU g.K) [] := by
  intro M H x d s Q h1 hf k
  simp only [sortedF, Option.bind_eq_some_iff, Option.map_eq_some_iff] at hf
  obtain ⟨l, hl, ns, hn, rfl⟩ := hf
  obtain ⟨a, xs, rfl, hs, rs⟩ := h1.lstD hl
  rw [rs.strs hn] at hs
  refine ⟨a, ns, rfl, hs, fun p ys hp pm so => ?_⟩
  rw [sortS_eq pm so]
  exact k _ _ (.lst hp (rs_strs _))
/-! ### methods of texts -/
def OpM (g : Gx) (f : D → D → Option SV) (r : V → List V → Hp → VK → Prop) : Prop := ∀ {M : Ad} {H : Hp} {x y : V} {d e : D} {s : SV} {Q : VK}, RT g M H x d → RT g M H y e → f d e = some s → (∀ v H', POk g M H s v H' → Q v H') → r x [y] H Q
def strM (f : D → D → Option SV) : D → D → Option SV
  | .str z, e => f (.str z) e
  | _, _ => none
theorem s_bm {r : V → List V → Hp → VK → Prop} {f : D → D → Option SV} {a b : CM D} (ho : OpM g f r) (h : PE X e (tBM g.K "str" r (rdD g a) (tCons (rdD g b) tNil))) (hf : ∀ d e s, f d e = some s → ∃ z, d = .str z) : PE X e (rdE g (bnd a fun x => match x with
    | .str _ => bnd b fun y => ret (f x y)
    | _ => fun _ => none)) := pe_le h fun σ H Q q => by
  obtain ⟨M0, φ, τ, rs, τ', hs, hm, k⟩ := q
  rcases bnd_some hm with ⟨x, τ1, e1, e2⟩ | ⟨c, fs, l, e1, rfl⟩
  · refine ⟨M0, φ, τ, _, _, hs, e1, fun v1 H1 q1 => ?_⟩
    obtain ⟨φ1, hs1, r1, l1⟩ := q1
    split at e2
    · rename_i z
      have hv : v1 = .str z := (RT.of r1).str
      refine ⟨by subst hv; exact rfl, ?_⟩
      rcases bnd_some e2 with ⟨y, τ2, e3, e4⟩ | ⟨c, fs, l, e3, rfl⟩
      · refine ⟨M0, φ1, τ1, _, _, hs1, e3, fun v2 H2 q2 => ?_⟩
        obtain ⟨φ2, hs2, r2, l2⟩ := q2
        obtain ⟨s, es, rfl, rfl⟩ := ret_some e4
        exact ho (.of ((le_mof l2).r r1)) (.of r2) es fun v3 H3 p => k v3 H3 (EOk.after (l1.trans l2) (.of hs2 p))
      · exact ⟨M0, φ1, τ1, _, _, hs1, e3, fun d H' q => k d H' (q.after l1)⟩
    · cases e2
  · exact ⟨M0, φ, τ, _, _, hs, e1, k⟩
def mBm (f : D → D → Option SV) (a b : CM D) : CM SV := bnd a fun x => match x with
    | .str _ => bnd b fun y => ret (f x y)
    | _ => fun _ => none
theorem s_bmS {r : V → List V → Hp → VK → Prop} {f : D → D → Option SV} {a b : CM D} (ho : OpM g f r) (hf : ∀ d e s, f d e = some s → ∃ z, d = .str z) (h : PE X e (tBM g.K "str" r (rdD g a) (tCons (rdD g b) tNil))) : PE X e (rdE g (mBm f a b)) := s_bm ho h hf
def findF : D → D → Option SV
  | .str a, .str b => some (.fz (.int (Txt.find a b)))
  | _, _ => none
def countF : D → D → Option SV
  | .str a, .str b => some (.fz (.int (Txt.count a b)))
  | _, _ => none
def startsF : D → D → Option SV
  | .str a, .str b => some (.fz (.bl (Txt.startswith a b)))
  | _, _ => none
theorem findF_str (d e : D) (s : SV) (h : findF d e = some s) : ∃ z, d = .str z := by
  unfold findF at h; split at h
  · exact ⟨_, rfl⟩
  · cases h
theorem countF_str (d e : D) (s : SV) (h : countF d e = some s) : ∃ z, d = .str z := by
  unfold countF at h; split at h
  · exact ⟨_, rfl⟩
  · cases h
theorem startsF_str (d e : D) (s : SV) (h : startsF d e = some s) : ∃ z, d = .str z := by
  unfold startsF at h; split at h
  · exact ⟨_, rfl⟩
  · cases h
theorem o_find : OpM g findF rFindU := by
  intro M H x y d e s Q h1 h2 hf k
  unfold findF at hf
  split at hf
  · cases h1.str; cases h2.str; cases hf
    exact ⟨_, _, rfl, rfl, k _ _ (.int _)⟩
  · cases hf
theorem o_count : OpM g countF rCountU := by
  intro M H x y d e s Q h1 h2 hf k
  unfold countF at hf
  split at hf
  · cases h1.str; cases h2.str; cases hf
    exact ⟨_, _, rfl, rfl, k _ _ (.int _)⟩
  · cases hf
theorem o_starts : OpM g startsF rStartU := by
  intro M H x y d e s Q h1 h2 hf k
  unfold startsF at hf
  split at hf
  · cases h1.str; cases h2.str; cases hf
    exact ⟨_, _, rfl, rfl, k _ _ (.bl _)⟩
  · cases hf
def upperF : D → Option SV
  | .str a => if a.length ≤ 5592405 then some (.fz (.str (Txt.upper a))) else none
  | _ => none
theorem s_upper {a : CM D} (h : PE X e (tBM0 g.K "str" rUpperU (rdD g a))) : PE X e (rdE g (mOp1 upperF a)) := pe_le h fun σ H Q q => by
  obtain ⟨M0, φ, τ, rs, τ', hs, hm, k⟩ := q
  rcases bnd_some hm with ⟨x, τ1, e1, e2⟩ | ⟨c, fs, l, e1, rfl⟩
  · refine ⟨M0, φ, τ, _, _, hs, e1, fun v1 H1 q1 => ?_⟩
    obtain ⟨φ1, hs1, r1, l1⟩ := q1
    obtain ⟨s, es, rfl, rfl⟩ := ret_some e2
    unfold upperF at es
    split at es
    · cases (RT.of r1).str
      split at es
      · cases es
        exact ⟨rfl, _, rfl, rfl, by assumption, k _ _ (EOk.after l1 (.of hs1 (.str _)))⟩
      · cases es
    · cases es
  · exact ⟨M0, φ, τ, _, _, hs, e1, k⟩
def joinF : D → D → Option SV
  | .str a, d => (seqD d).bind fun l => (strsD l).bind fun ys => if (ys.map (·.length)).sum + ys.length * a.length ≤ 16777216 then some (.fz (.str (Txt.join a ys))) else none
  | _, _ => none
def mJoin (a b : CM D) : CM SV := bnd a fun x => match x with
    | .str _ => bnd b fun y => ret (joinF x y)
    | _ => fun _ => none
theorem s_join {a b : CM D} (h : PE X e (tM1 (rJoinU g.K) (rdD g a) (rdD g b))) : PE X e (rdE g (mJoin a b)) := pe_le h fun σ H Q q => by
  obtain ⟨M0, φ, τ, rs, τ', hs, hm, k⟩ := q
  rcases bnd_some hm with ⟨x, τ1, e1, e2⟩ | ⟨c, fs, l, e1, rfl⟩
  · refine ⟨M0, φ, τ, _, _, hs, e1, fun v1 H1 q1 => ?_⟩
    obtain ⟨φ1, hs1, r1, l1⟩ := q1
    split at e2
    · rename_i z
      cases (RT.of r1).str
      refine ⟨⟨z, rfl⟩, ?_⟩
      rcases bnd_some e2 with ⟨y, τ2, e3, e4⟩ | ⟨c, fs, l, e3, rfl⟩
      · refine ⟨M0, φ1, τ1, _, _, hs1, e3, fun v2 H2 q2 => ?_⟩
        obtain ⟨φ2, hs2, r2, l2⟩ := q2
        obtain ⟨s, es, rfl, rfl⟩ := ret_some e4
        simp only [joinF, Option.bind_eq_some_iff] at es
        obtain ⟨l, hl, ys, hy, es⟩ := es
        obtain ⟨p, xs, rfl, hq, r3⟩ := (RT.of r2).seq (seqD_or hl)
        rw [r3.strs hy] at hq
        split at es
        · cases es
          exact ⟨z, p, ys, rfl, rfl, hq, by assumption, k _ _ (EOk.after (l1.trans l2) (.of hs2 (.str _)))⟩
        · cases es
      · exact ⟨M0, φ1, τ1, _, _, hs1, e3, fun d H' q => k d H' (q.after l1)⟩
    · cases e2
  · exact ⟨M0, φ, τ, _, _, hs, e1, k⟩
end
end VS

/-! ## S8: slices, fields, items of own objects, tests -/
namespace VS
open PySem PySem.Spec PyProof.Rows L2
section
variable {X : Cx} {g : Gx} {e : Expr} {M M0 : Ad} {φ : Nat → List Addr} {τ τ' : Tau} {σ : L2.St} {H H' : Hp} {v x y : V} {d : D} {ds : List D} {s : SV} {Q : VK} {i : Int} {z : Str} {n : String} {c : Nat}
/-! ### slices -/
def rdO (g : Gx) (m : CM (Option Int)) : TO := fun σ H Q => ∃ M0 φ τ r τ', Sim g M0 φ τ σ H ∧ m τ = some (r, τ') ∧
  match r with
  | .ok b => ∀ H', TOk g M0 φ H σ τ' H' → Q b H'
  | .ex c fs l => ∀ d H', XOk g M0 φ H σ fs l τ' d H' → g.ex σ (.ref (g.cl c)) d H'
def oNone : CM (Option Int) := ret (some none)
def oSome (a : CM D) : CM (Option Int) := bnd a fun x => match x with
  | .int i => ret (some (some i))
  | _ => fun _ => none
theorem o_none (σ : L2.St) (H : Hp) (Q : Option Int → Hp → Prop) (h : rdO g oNone σ H Q) : tNoPart σ H Q := by
  obtain ⟨M0, φ, τ, r, τ', hs, hm, k⟩ := h
  obtain ⟨x, ex, rfl, rfl⟩ := ret_some hm
  cases ex
  exact k H ⟨φ, hs, .refl⟩
theorem o_some {a : CM D} (σ : L2.St) (H : Hp) (Q : Option Int → Hp → Prop) (h : rdO g (oSome a) σ H Q) : tPart (rdD g a) σ H Q := by
  obtain ⟨M0, φ, τ, r, τ', hs, hm, k⟩ := h
  rcases bnd_some hm with ⟨x, τ1, e1, e2⟩ | ⟨c, fs, l, e1, rfl⟩
  · refine ⟨M0, φ, τ, _, _, hs, e1, fun v1 H1 q1 => ?_⟩
    obtain ⟨φ1, hs1, r1, l1⟩ := q1
    split at e2
    · obtain ⟨s, es, rfl, rfl⟩ := ret_some e2
      cases es
      exact ⟨_, (RT.of r1).int, k H1 ⟨φ1, hs1, l1⟩⟩
    · cases e2
  · exact ⟨M0, φ, τ, _, _, hs, e1, k⟩
def cutD (xs : List D) (lo hi : Option Int) : List D := (xs.drop (HT.sIx xs.length 0 lo)).take (HT.sIx xs.length xs.length hi - HT.sIx xs.length 0 lo)
theorem Rs.take {xs : List V} (r : Rs g M H xs ds) (n : Nat) : Rs g M H (xs.take n) (ds.take n) := by
  induction n generalizing xs ds with
  | zero => exact .nil
  | succ n ih => cases r with
    | nil => exact .nil
    | cons p q => exact .cons p (ih q)
theorem Rs.drop {xs : List V} (r : Rs g M H xs ds) (n : Nat) : Rs g M H (xs.drop n) (ds.drop n) := by
  induction n generalizing xs ds with
  | zero => exact r
  | succ n ih => cases r with
    | nil => exact .nil
    | cons p q => exact ih q
theorem Rs.cut {xs : List V} (r : Rs g M H xs ds) (lo hi : Option Int) : Rs g M H (cutV xs lo hi) (cutD ds lo hi) := by
  unfold cutV cutD
  rw [r.length]
  exact (r.drop _).take _
def sliceF (lo hi : Option Int) : D → Option SV
  | .str z => if z.length ≤ sizeLine then some (.fz (.str (cutS z lo hi))) else none
  | .ob .lst l => some (.mu .lst ((cutD l lo hi).map .fz))
  | .fro l => some (.mu .lst ((cutD l lo hi).map .fz))
  | .tup l => some (.fz (.tup (cutD l lo hi)))
  | _ => none
theorem o_slice {lo hi : Option Int} (h1 : RT g M H x d) (hf : sliceF lo hi d = some s) (k : ∀ v H', POk g M H s v H' → Q v H') : rSlU g.K x lo hi H Q := by
  unfold sliceF at hf
  split at hf
  · cases h1.str
    split at hf
    · cases hf
      exact .inr (.inr ⟨_, rfl, by assumption, k _ _ (.str _)⟩)
    · cases hf
  · cases hf
    obtain ⟨a, xs, rfl, h, r⟩ := h1.lst
    exact .inl ⟨a, xs, rfl, SqL.of h, fun p hp => k _ _ (.lst hp (r.cut lo hi))⟩
  · cases hf
    obtain ⟨a, xs, rfl, h, r⟩ := h1.fro
    exact .inl ⟨a, xs, rfl, h, fun p hp => k _ _ (.lst hp (r.cut lo hi))⟩
  · cases hf
    obtain ⟨a, xs, rfl, h, r⟩ := h1.tup
    refine .inr (.inl ⟨a, xs, rfl, h, fun q => k _ _ (.here (.tup h ?_)), fun _ p hp => k _ _ (.tup hp (r.cut lo hi))⟩)
    have e1 : cutV xs lo hi = xs := by unfold cutV; rw [q.1, q.2]; simp
    have := r.cut lo hi
    rw [e1] at this
    exact this
  · cases hf
def mSlice (a : CM D) (lo hi : CM (Option Int)) : CM SV := bnd a fun x => bnd lo fun l => bnd hi fun u => ret (sliceF l u x)
theorem s_slice {a : CM D} {lo hi : CM (Option Int)} {tl th : TO} (hl : ∀ σ H Q, rdO g lo σ H Q → tl σ H Q) (hh : ∀ σ H Q, rdO g hi σ H Q → th σ H Q) (h : PE X e (tSl (rSlU g.K) (rdD g a) tl th)) : PE X e (rdE g (mSlice a lo hi)) := pe_le h fun σ H Q q => by
  obtain ⟨M0, φ, τ, rs, τ', hs, hm, k⟩ := q
  rcases bnd_some hm with ⟨x, τ1, e1, e2⟩ | ⟨c, fs, l, e1, rfl⟩
  · refine ⟨M0, φ, τ, _, _, hs, e1, fun v1 H1 q1 => hl _ _ _ ?_⟩
    obtain ⟨φ1, hs1, r1, l1⟩ := q1
    rcases bnd_some e2 with ⟨y, τ2, e3, e4⟩ | ⟨c, fs, l, e3, rfl⟩
    · refine ⟨M0, φ1, τ1, _, _, hs1, e3, fun H2 q2 => hh _ _ _ ?_⟩
      obtain ⟨φ2, hs2, l2⟩ := q2
      rcases bnd_some e4 with ⟨w, τ3, e5, e6⟩ | ⟨c, fs, l, e5, rfl⟩
      · refine ⟨M0, φ2, τ2, _, _, hs2, e5, fun H3 q3 => ?_⟩
        obtain ⟨φ3, hs3, l3⟩ := q3
        obtain ⟨s, es, rfl, rfl⟩ := ret_some e6
        exact o_slice (.of ((le_mof l3).r ((le_mof l2).r r1))) es fun v4 H4 p => k v4 H4 (EOk.after ((l1.trans l2).trans l3) (.of hs3 p))
      · exact ⟨M0, φ2, τ2, _, _, hs2, e5, fun d H' q => k d H' (q.after (l1.trans l2))⟩
    · exact ⟨M0, φ1, τ1, _, _, hs1, e3, fun d H' q => k d H' (q.after l1)⟩
  · exact ⟨M0, φ, τ, _, _, hs, e1, k⟩
/-! ### fields, items of own objects -/
def fLook {α : Type} : List Str → List α → Str → Option α
  | f :: fs, d :: ds, q => if f = q then some d else fLook fs ds q
  | _, _, _ => none
theorem fLook_ix {α : Type} {q : Str} {a : α} : ∀ {fs : List Str} {l : List α}, fLook fs l q = some a → ∃ i : Nat, fs[i]? = some q ∧ l[i]? = some a
  | [], _, h => by cases h
  | _ :: _, [], h => by cases h
  | f :: fs, d :: ds, h => by
    unfold fLook at h
    split at h
    · rename_i e
      cases h
      exact ⟨0, by rw [e]; rfl, rfl⟩
    · obtain ⟨i, h1, h2⟩ := fLook_ix h
      exact ⟨i + 1, h1, h2⟩
def bFld (cs : List Nat) (f : Str) (a : PB) : PB := fun τ => match a τ with
  | some (.fz (.ob (.ins c fs) l)) => if c ∈ cs then (fLook fs l f).map .fz else none
  | some (.mu (.ins c fs) l) => if c ∈ cs then fLook fs l f else none
  | _ => none
theorem Ows.get {vs : List V} {l : List SV} {F : List Addr} {i : Nat} (h : Ows g M H vs l F) (e : l[i]? = some s) : ∃ v F', vs[i]? = some v ∧ Ow g M H v s F' := by
  induction i generalizing vs l F with
  | zero => cases h with
    | nil => cases e
    | cons p q => cases e; exact ⟨_, _, rfl, p⟩
  | succ i ih => cases h with
    | nil => cases e
    | cons p q => exact ih q e
theorem p_fld {cs : List Nat} {f : Str} {a : PB} (hc : ∀ c ∈ cs, Cls g.K (g.cl c) ∧ NoAttr g.K (g.cl c) f) (h : PE X e (tFld g.K (rdB g a) f)) : PE X e (rdB g (bFld cs f a)) := pe_le h fun σ H Q q => by
  obtain ⟨M0, φ, τ, s, hs, hm, k⟩ := q
  unfold bFld at hm
  split at hm
  · rename_i c fs l ha
    split at hm
    · rename_i hcc
      simp only [Option.map_eq_some_iff] at hm
      obtain ⟨d, hd, rfl⟩ := hm
      obtain ⟨t1, t2⟩ := hc c hcc
      refine ⟨M0, φ, τ, _, hs, ha, fun v1 H1 e1 w1 => ?_⟩
      obtain ⟨F1, w1⟩ := w1
      obtain ⟨p, dx, fsr, xs, rfl, hp, hl, _, hq, rs⟩ := (RT.of (ow_fz w1).1).ins
      obtain ⟨i, i1, i2⟩ := fLook_ix hd
      obtain ⟨v, i3, r⟩ := rs.get i2
      exact ⟨p, _, dx, fsr, v, rfl, hp, t1, t2, hq i f v i1 i3, k v H1 e1 ⟨_, .fz r⟩⟩
    · cases hm
  · rename_i c fs l ha
    split at hm
    · rename_i hcc
      obtain ⟨t1, t2⟩ := hc c hcc
      refine ⟨M0, φ, τ, _, hs, ha, fun v1 H1 e1 w1 => ?_⟩
      obtain ⟨F1, w1⟩ := w1
      obtain ⟨i, i1, i2⟩ := fLook_ix hm
      cases w1 with
      | mu hp ho ws =>
        obtain ⟨v, F', i3, w⟩ := ws.get i2
        obtain ⟨dx, fsr, rfl, hl, _, hq⟩ := ho.r (hid := g.hid)
        exact ⟨_, _, dx, fsr, v, rfl, hp, t1, t2, hq i f v i1 i3, k v H1 e1 ⟨_, w⟩⟩
    · cases hm
  · cases hm
/-- a field of data that a computation tells -/
def mFld (cs : List Nat) (f : Str) (a : CM D) : CM D := bnd a fun x => match x with
  | .ob (.ins c fs) l => ret (if c ∈ cs then fLook fs l f else none)
  | _ => fun _ => none
theorem s_fld {cs : List Nat} {f : Str} {a : CM D} (hc : ∀ c ∈ cs, Cls g.K (g.cl c) ∧ NoAttr g.K (g.cl c) f) (h : PE X e (tFld g.K (rdD g a) f)) : PE X e (rdD g (mFld cs f a)) := pe_le h fun σ H Q q => by
  obtain ⟨M0, φ, τ, rs, τ', hs, hm, k⟩ := q
  rcases bnd_some hm with ⟨x, τ1, e1, e2⟩ | ⟨c, fs, l, e1, rfl⟩
  · refine ⟨M0, φ, τ, _, _, hs, e1, fun v1 H1 q1 => ?_⟩
    obtain ⟨φ1, hs1, r1, l1⟩ := q1
    split at e2
    · rename_i c fs l
      obtain ⟨d, es, rfl, rfl⟩ := ret_some e2
      split at es
      · rename_i hcc
        obtain ⟨t1, t2⟩ := hc c hcc
        obtain ⟨p, dx, fsr, xs, rfl, hp, hl, _, hq, rs⟩ := (RT.of r1).ins
        obtain ⟨i, i1, i2⟩ := fLook_ix es
        obtain ⟨v, i3, r⟩ := rs.get i2
        exact ⟨p, _, dx, fsr, v, rfl, hp, t1, t2, hq i f v i1 i3, k v H1 ⟨φ1, hs1, r, l1⟩⟩
      · cases es
    · cases e2
  · exact ⟨M0, φ, τ, _, _, hs, e1, k⟩
def ixS (s t : SV) : Option SV := match s, t with
  | .mu .lst l, .fz (.int i) => atI l i
  | a, b => (a.view).bind fun x => (b.view).bind fun y => ixF x y
def bIx (a b : PB) : PB := fun τ => (a τ).bind fun x => (b τ).bind fun y => ixS x y
theorem Ows.atI {xs : List V} {l : List SV} {F : List Addr} (r : Ows g M H xs l F) (h : L2.atI l i = some s) : ∃ v F', L2.atI xs i = some v ∧ Ow g M H v s F' := by
  unfold L2.atI at *
  rw [r.length]
  simp only [Option.bind_eq_some_iff] at *
  obtain ⟨j, hj, hd⟩ := h
  obtain ⟨v, F', h1, h2⟩ := r.get hd
  exact ⟨v, F', ⟨j, hj, h1⟩, h2⟩
theorem p_ix {a b : PB} (h : PE X e (tOp (rIxS2 g.K) (rdB g a) (rdB g b))) : PE X e (rdB g (bIx a b)) := pe_le h fun σ H Q q => by
  obtain ⟨M0, φ, τ, s, hs, hm, k⟩ := q
  simp only [bIx, Option.bind_eq_some_iff] at hm
  obtain ⟨x, hx, y, hy, es⟩ := hm
  refine ⟨M0, φ, τ, _, hs, hx, fun v1 H1 e1 w1 => ?_⟩
  obtain ⟨F1, w1⟩ := w1
  refine ⟨M0, φ, τ, _, hs.ev0 e1, hy, fun v2 H2 e2 w2 => ?_⟩
  obtain ⟨F2, w2⟩ := w2
  have w1 := w1.ev0 e2
  unfold ixS at es
  split at es
  · cases (RT.of (ow_fz w2).1).int
    cases w1 with
    | mu hp ho ws =>
      cases ho
      obtain ⟨v, F', h1, h2⟩ := ws.atI es
      exact .inl (.inl ⟨_, _, _, v, rfl, rfl, SqL.of hp, h1, k v H2 (e1.trans e2) ⟨_, h2⟩⟩)
  · simp only [Option.bind_eq_some_iff] at es
    obtain ⟨x', vx, y', vy, es⟩ := es
    refine o_ix (w1.rt vx) (w2.rt vy) es fun v3 H3 p => ?_
    obtain ⟨e3, w3⟩ := p.lent ((hs.ev0 e1).ev0 e2)
    exact k v3 H3 ((e1.trans e2).trans e3) w3
def mIx (a b : CM D) : CM SV := mOp2 ixF a b
/-! ### tests -/
def cB (a : CM D) : CM Bool := bnd a fun x => match x with
  | .bl b => ret (some b)
  | _ => fun _ => none
theorem t_val {a : CM D} (h : PT X e (tB (rdD g a))) : PT X e (rdT g (cB a)) := pt_le h fun σ H Q q => by
  obtain ⟨M0, φ, τ, rs, τ', hs, hm, k⟩ := q
  rcases bnd_some hm with ⟨x, τ1, e1, e2⟩ | ⟨c, fs, l, e1, rfl⟩
  · refine ⟨M0, φ, τ, _, _, hs, e1, fun v1 H1 q1 => ?_⟩
    obtain ⟨φ1, hs1, r1, l1⟩ := q1
    split at e2
    · obtain ⟨b, es, rfl, rfl⟩ := ret_some e2
      cases es
      exact ⟨_, (RT.of r1).bl, k H1 ⟨φ1, hs1, l1⟩⟩
    · cases e2
  · exact ⟨M0, φ, τ, _, _, hs, e1, k⟩
def cNot (a : CM Bool) : CM Bool := bnd a fun b => ret (some (!b))
def cAnd (a b : CM Bool) : CM Bool := bnd a fun x => if x = true then b else ret (some false)
def cOr (a b : CM Bool) : CM Bool := bnd a fun x => if x = true then ret (some true) else b
theorem t_not {a : CM Bool} (h : PT X e (tNot (rdT g a))) : PT X e (rdT g (cNot a)) := pt_le h fun σ H Q q => by
  obtain ⟨M0, φ, τ, rs, τ', hs, hm, k⟩ := q
  rcases bnd_some hm with ⟨x, τ1, e1, e2⟩ | ⟨c, fs, l, e1, rfl⟩
  · refine ⟨M0, φ, τ, _, _, hs, e1, fun H1 q1 => ?_⟩
    obtain ⟨b, es, rfl, rfl⟩ := ret_some e2
    cases es
    exact k H1 q1
  · exact ⟨M0, φ, τ, _, _, hs, e1, k⟩
theorem le_and {a b : CM Bool} (σ : L2.St) (H : Hp) (Q : Bool → Hp → Prop) (q : rdT g (cAnd a b) σ H Q) : tAnd (rdT g a) (rdT g b) σ H Q := by
  obtain ⟨M0, φ, τ, rs, τ', hs, hm, k⟩ := q
  rcases bnd_some hm with ⟨x, τ1, e1, e2⟩ | ⟨c, fs, l, e1, rfl⟩
  · refine ⟨M0, φ, τ, _, _, hs, e1, fun H1 q1 => ?_⟩
    obtain ⟨φ1, hs1, l1⟩ := q1
    cases x with
    | true =>
      rw [if_pos rfl] at e2
      rw [if_pos rfl]
      refine ⟨M0, φ1, τ1, _, _, hs1, e2, ?_⟩
      cases rs with
      | ok b => exact fun H' q => k H' (q.after l1)
      | ex c fs l => exact fun d H' q => k d H' (q.after l1)
    | false =>
      rw [if_neg (by decide)] at e2
      rw [if_neg (by decide)]
      obtain ⟨b, es, rfl, rfl⟩ := ret_some e2
      cases es
      exact k H1 ⟨φ1, hs1, l1⟩
  · exact ⟨M0, φ, τ, _, _, hs, e1, k⟩
theorem le_or {a b : CM Bool} (σ : L2.St) (H : Hp) (Q : Bool → Hp → Prop) (q : rdT g (cOr a b) σ H Q) : tOr (rdT g a) (rdT g b) σ H Q := by
  obtain ⟨M0, φ, τ, rs, τ', hs, hm, k⟩ := q
  rcases bnd_some hm with ⟨x, τ1, e1, e2⟩ | ⟨c, fs, l, e1, rfl⟩
  · refine ⟨M0, φ, τ, _, _, hs, e1, fun H1 q1 => ?_⟩
    obtain ⟨φ1, hs1, l1⟩ := q1
    cases x with
    | true =>
      rw [if_pos rfl] at e2
      rw [if_pos rfl]
      obtain ⟨b, es, rfl, rfl⟩ := ret_some e2
      cases es
      exact k H1 ⟨φ1, hs1, l1⟩
    | false =>
      rw [if_neg (by decide)] at e2
      rw [if_neg (by decide)]
      refine ⟨M0, φ1, τ1, _, _, hs1, e2, ?_⟩
      cases rs with
      | ok b => exact fun H' q => k H' (q.after l1)
      | ex c fs l => exact fun d H' q => k d H' (q.after l1)
  · exact ⟨M0, φ, τ, _, _, hs, e1, k⟩
theorem w_and {a b : CM Bool} (h : PW X e (tAnd (rdT g a) (rdT g b))) : PW X e (rdT g (cAnd a b)) := pw_le h le_and
theorem w_or {a b : CM Bool} (h : PW X e (tOr (rdT g a) (rdT g b))) : PW X e (rdT g (cOr a b)) := pw_le h le_or
/-! as values: a bool, and .. -/
def mAnd (a b : CM D) : CM D := bnd a fun x => match x with
  | .bl true => b
  | .bl false => ret (some (.bl false))
  | _ => fun _ => none
def mOr (a b : CM D) : CM D := bnd a fun x => match x with
  | .bl true => ret (some (.bl true))
  | .bl false => b
  | _ => fun _ => none
def mNot (a : CM D) : CM D := bnd a fun x => match x with
  | .bl b => ret (some (.bl (!b)))
  | _ => fun _ => none
theorem s_not {a : CM D} (h : PE X e (tNotV (rdD g a))) : PE X e (rdD g (mNot a)) := pe_le h fun σ H Q q => by
  obtain ⟨M0, φ, τ, rs, τ', hs, hm, k⟩ := q
  rcases bnd_some hm with ⟨x, τ1, e1, e2⟩ | ⟨c, fs, l, e1, rfl⟩
  · refine ⟨M0, φ, τ, _, _, hs, e1, fun v1 H1 q1 => ?_⟩
    obtain ⟨φ1, hs1, r1, l1⟩ := q1
    split at e2
    · obtain ⟨b, es, rfl, rfl⟩ := ret_some e2
      cases es
      exact ⟨_, (RT.of r1).bl, k _ H1 ⟨φ1, hs1, .bl _, l1⟩⟩
    · cases e2
  · exact ⟨M0, φ, τ, _, _, hs, e1, k⟩
theorem s_and {a b : CM D} (h : PE X e (tAndV (rdD g a) (rdD g b))) : PE X e (rdD g (mAnd a b)) := pe_le h fun σ H Q q => by
  obtain ⟨M0, φ, τ, rs, τ', hs, hm, k⟩ := q
  rcases bnd_some hm with ⟨x, τ1, e1, e2⟩ | ⟨c, fs, l, e1, rfl⟩
  · refine ⟨M0, φ, τ, _, _, hs, e1, fun v1 H1 q1 => ?_⟩
    obtain ⟨φ1, hs1, r1, l1⟩ := q1
    split at e2
    · refine ⟨_, (RT.of r1).bl, ?_⟩
      rw [if_pos rfl]
      refine ⟨M0, φ1, τ1, _, _, hs1, e2, ?_⟩
      cases rs with
      | ok b => exact fun v H' q => k v H' (q.after l1)
      | ex c fs l => exact fun d H' q => k d H' (q.after l1)
    · obtain ⟨b, es, rfl, rfl⟩ := ret_some e2
      cases es
      refine ⟨_, (RT.of r1).bl, ?_⟩
      rw [if_neg (by decide)]
      exact k _ H1 ⟨φ1, hs1, .bl _, l1⟩
    · cases e2
  · exact ⟨M0, φ, τ, _, _, hs, e1, k⟩
theorem s_or {a b : CM D} (h : PE X e (tOrV (rdD g a) (rdD g b))) : PE X e (rdD g (mOr a b)) := pe_le h fun σ H Q q => by
  obtain ⟨M0, φ, τ, rs, τ', hs, hm, k⟩ := q
  rcases bnd_some hm with ⟨x, τ1, e1, e2⟩ | ⟨c, fs, l, e1, rfl⟩
  · refine ⟨M0, φ, τ, _, _, hs, e1, fun v1 H1 q1 => ?_⟩
    obtain ⟨φ1, hs1, r1, l1⟩ := q1
    split at e2
    · obtain ⟨b, es, rfl, rfl⟩ := ret_some e2
      cases es
      refine ⟨_, (RT.of r1).bl, ?_⟩
      rw [if_pos rfl]
      exact k _ H1 ⟨φ1, hs1, .bl _, l1⟩
    · refine ⟨_, (RT.of r1).bl, ?_⟩
      rw [if_neg (by decide)]
      refine ⟨M0, φ1, τ1, _, _, hs1, e2, ?_⟩
      cases rs with
      | ok b => exact fun v H' q => k v H' (q.after l1)
      | ex c fs l => exact fun d H' q => k d H' (q.after l1)
    · cases e2
  · exact ⟨M0, φ, τ, _, _, hs, e1, k⟩
def mIf (c : CM Bool) (a b : CM SV) : CM SV := bnd c fun x => if x = true then a else b
theorem s_if {c : CM Bool} {a b : CM SV} (h : PE X e (tIf (rdT g c) (rdE g a) (rdE g b))) : PE X e (rdE g (mIf c a b)) := pe_le h fun σ H Q q => by
  obtain ⟨M0, φ, τ, rs, τ', hs, hm, k⟩ := q
  rcases bnd_some hm with ⟨x, τ1, e1, e2⟩ | ⟨c, fs, l, e1, rfl⟩
  · refine ⟨M0, φ, τ, _, _, hs, e1, fun H1 q1 => ?_⟩
    obtain ⟨φ1, hs1, l1⟩ := q1
    have fin : ∀ {m : CM SV}, m τ1 = some (rs, τ') → rdE g m σ H1 Q := fun {m} e2 => by
      refine ⟨M0, φ1, τ1, _, _, hs1, e2, ?_⟩
      cases rs with
      | ok b => exact fun v H' q => k v H' (q.after l1)
      | ex c fs l => exact fun d H' q => k d H' (q.after l1)
    cases x with
    | true =>
      rw [if_pos rfl] at e2
      rw [if_pos rfl]
      exact fin e2
    | false =>
      rw [if_neg (by decide)] at e2
      rw [if_neg (by decide)]
      exact fin e2
  · exact ⟨M0, φ, τ, _, _, hs, e1, k⟩
/-! a < b < c -/
def mChain (f f' : D → D → Option SV) (a b c : CM D) : CM D := bnd a fun x => bnd b fun y => match f x y with
  | some (.fz (.bl true)) => bnd c fun z => ret (match f' y z with
    | some (.fz d) => some d
    | _ => none)
  | some (.fz (.bl false)) => ret (some (.bl false))
  | _ => fun _ => none
theorem le_chain {r r' : R2} {f f' : D → D → Option SV} {a b c : CM D} (ho : Op2 g f r) (ho' : Op2 g f' r') (σ : L2.St) (H : Hp) (Q : VK) (q : (rdD g (mChain f f' a b c)) σ H Q) : (tChain r r' (rdD g a) (rdD g b) (rdD g c)) σ H Q := by
  obtain ⟨M0, φ, τ, rs, τ', hs, hm, k⟩ := q
  rcases bnd_some hm with ⟨x, τ1, e1, e2⟩ | ⟨c, fs, l, e1, rfl⟩
  · refine ⟨M0, φ, τ, _, _, hs, e1, fun v1 H1 q1 => ?_⟩
    obtain ⟨φ1, hs1, r1, l1⟩ := q1
    rcases bnd_some e2 with ⟨y, τ2, e3, e4⟩ | ⟨c, fs, l, e3, rfl⟩
    · refine ⟨M0, φ1, τ1, _, _, hs1, e3, fun v2 H2 q2 => ?_⟩
      obtain ⟨φ2, hs2, r2, l2⟩ := q2
      generalize hf : f x y = of at e4
      split at e4
      · refine ho (.of ((le_mof l2).r r1)) (.of r2) hf fun v3 H3 p => ?_
        obtain ⟨F3, e0, w3, _⟩ := p
        cases (RT.of (ow_fz w3).1).bl
        refine ⟨true, rfl, ?_⟩
        rw [if_pos rfl]
        have hs3 := hs2.ev0 e0
        rcases bnd_some e4 with ⟨z, τ3, e5, e6⟩ | ⟨c, fs, l, e5, rfl⟩
        · refine ⟨M0, φ2, τ2, _, _, hs3, e5, fun v4 H4 q4 => ?_⟩
          obtain ⟨φ4, hs4, r4, l4⟩ := q4
          obtain ⟨d, es, rfl, rfl⟩ := ret_some e6
          split at es
          · rename_i hf'
            cases es
            refine ho' (.of ((le_mof l4).r (r2.ev0 e0))) (.of r4) hf' fun v5 H5 p => ?_
            obtain ⟨F5, e05, w5, _⟩ := p
            obtain ⟨r5, rfl⟩ := ow_fz w5
            rw [plus_nil] at r5
            exact k v5 H5 ⟨φ4, hs4.ev0 e05, r5, (((l1.trans l2).trans (hs2.after0 e0)).trans l4).trans (hs4.after0 e05)⟩
          · cases es
        · exact ⟨M0, φ2, τ2, _, _, hs3, e5, fun d H' q => k d H' (q.after ((l1.trans l2).trans (hs2.after0 e0)))⟩
      · refine ho (.of ((le_mof l2).r r1)) (.of r2) hf fun v3 H3 p => ?_
        obtain ⟨F3, e0, w3, _⟩ := p
        cases (RT.of (ow_fz w3).1).bl
        refine ⟨false, rfl, ?_⟩
        rw [if_neg (by decide)]
        obtain ⟨d, es, rfl, rfl⟩ := ret_some e4
        cases es
        exact k _ H3 ⟨φ2, hs2.ev0 e0, .bl _, (l1.trans l2).trans (hs2.after0 e0)⟩
      · cases e4
    · exact ⟨M0, φ1, τ1, _, _, hs1, e3, fun d H' q => k d H' (q.after l1)⟩
  · exact ⟨M0, φ, τ, _, _, hs, e1, k⟩
theorem s_chain {r r' : R2} {f f' : D → D → Option SV} {a b c : CM D} (ho : Op2 g f r) (ho' : Op2 g f' r') (h : PE X e (tChain r r' (rdD g a) (rdD g b) (rdD g c))) : PE X e (rdD g (mChain f f' a b c)) := pe_le h (le_chain ho ho')
/-! comparisons as tests -/
theorem t_E {t : TE} {m : CM SV} (hle : ∀ σ H Q, rdE g m σ H Q → t σ H Q) (h : PT X e (tTest t)) : PT X e (rdT g (cB (frz m))) := pt_le h fun σ H Q q => hle _ _ _ (by
  obtain ⟨M0, φ, τ, rs, τ', hs, hm, k⟩ := q
  rcases bnd_some hm with ⟨x, τ1, e1, e2⟩ | ⟨c, fs, l, e1, rfl⟩
  · rcases bnd_some e1 with ⟨s, τ2, e3, e4⟩ | ⟨c, fs, l, e3, e4⟩
    · refine ⟨M0, φ, τ, _, _, hs, e3, fun v1 H1 q1 => ?_⟩
      obtain ⟨y, ey, e5, rfl⟩ := ret_some e4
      cases ey
      cases e5
      obtain ⟨φ1, hs1, r1, l1⟩ := q1.frz
      generalize SV.toD s = sd at e2 r1
      split at e2
      · obtain ⟨z, es, rfl, rfl⟩ := ret_some e2
        cases es
        exact ⟨_, (RT.of r1).bl, k H1 ⟨φ1, hs1, l1⟩⟩
      · cases e2
    · cases e4
  · rcases bnd_some e1 with ⟨s, τ2, e3, e4⟩ | ⟨c', fs', l', e3, e4⟩
    · obtain ⟨y, ey, e5, rfl⟩ := ret_some e4
      cases e5
    · cases e4
      exact ⟨M0, φ, τ, _, _, hs, e3, k⟩)
theorem t_D {t : TE} {m : CM D} (hle : ∀ σ H Q, rdD g m σ H Q → t σ H Q) (h : PT X e (tTest t)) : PT X e (rdT g (cB m)) := pt_le h fun σ H Q q => hle _ _ _ (by
  obtain ⟨M0, φ, τ, rs, τ', hs, hm, k⟩ := q
  rcases bnd_some hm with ⟨x, τ1, e1, e2⟩ | ⟨c, fs, l, e1, rfl⟩
  · refine ⟨M0, φ, τ, _, _, hs, e1, fun v1 H1 q1 => ?_⟩
    obtain ⟨φ1, hs1, r1, l1⟩ := q1
    split at e2
    · obtain ⟨z, es, rfl, rfl⟩ := ret_some e2
      cases es
      exact ⟨_, (RT.of r1).bl, k H1 ⟨φ1, hs1, l1⟩⟩
    · cases e2
  · exact ⟨M0, φ, τ, _, _, hs, e1, k⟩)
end
end VS

/-! ## S9: statements -/
namespace VS
open PySem PySem.Spec PyProof.Rows L2
def sNx : SC := fun τ => some (.nx, τ)
def sSeq (a b : SC) : SC := fun τ => match a τ with
  | some (.nx, τ1) => b τ1
  | r => r
def sE {α : Type} (m : CM α) (k : α → SC) : SC := fun τ => match m τ with
  | some (.ok x, τ1) => k x τ1
  | some (.ex c fs l, τ1) => some (.ex c fs l, τ1)
  | none => none
theorem sE_some {α : Type} {m : CM α} {k : α → SC} {τ τ' : Tau} {r : Fl} (h : sE m k τ = some (r, τ')) :
    (∃ x τ1, m τ = some (.ok x, τ1) ∧ k x τ1 = some (r, τ')) ∨ ∃ c fs l, m τ = some (.ex c fs l, τ') ∧ r = .ex c fs l := by
  unfold sE at h
  split at h
  · rename_i x τ1 e
    exact .inl ⟨x, τ1, e, h⟩
  · rename_i c fs l τ1 e
    cases h
    exact .inr ⟨c, fs, l, e, rfl⟩
  · cases h
section
variable {X : Cx} {g : Gx} {st : Stmt} {sts : List Stmt} {e : Expr} {M M0 : Ad} {φ φ1 : Nat → List Addr} {τ τ' : Tau} {σ σ1 : L2.St} {H H' H1 : Hp} {v x y : V} {d : D} {ds : List D} {s : SV} {Q : VK} {i : Int} {z : Str} {n : String} {c : Nat} {E : Ends} {fl : Fl}
/-- what is wanted behind a statement -/
def Fin (g : Gx) (E : Ends) (M0 : Ad) (φ : Nat → List Addr) (H : Hp) (σ : L2.St) (τ' : Tau) : Fl → Prop
  | .nx => ∀ σ' H', SOk g M0 φ H σ τ' σ' H' → E.nx σ' H'
  | .bk => ∀ σ' H', SOk g M0 φ H σ τ' σ' H' → E.bk σ' H'
  | .ct => ∀ σ' H', SOk g M0 φ H σ τ' σ' H' → E.ct σ' H'
  | .rt s => ∀ σ' v H', ROk g M0 φ H σ s τ' σ' v H' → E.rt v H'
  | .ex c fs l => ∀ σ' d H', YOk g M0 φ H σ fs l τ' σ' d H' → g.ex σ' (.ref (g.cl c)) d H'
theorem rdS_iff {m : SC} : rdS g m E σ H ↔ ∃ M0 φ τ fl τ', Sim g M0 φ τ σ H ∧ m τ = some (fl, τ') ∧ Fin g E M0 φ H σ τ' fl := by
  unfold rdS
  constructor
  · rintro ⟨M0, φ, τ, fl, τ', hs, hm, k⟩
    refine ⟨M0, φ, τ, fl, τ', hs, hm, ?_⟩
    cases fl <;> exact k
  · rintro ⟨M0, φ, τ, fl, τ', hs, hm, k⟩
    refine ⟨M0, φ, τ, fl, τ', hs, hm, ?_⟩
    cases fl <;> exact k
theorem SOk.after (l : Le (ran φ) H (ran φ1) H1) (hp : ∀ i ∈ g.pin, σ1[i]? = σ[i]?) {σ' : L2.St} (q : SOk g M0 φ1 H1 σ1 τ' σ' H') : SOk g M0 φ H σ τ' σ' H' := by
  obtain ⟨⟨φ', a, b⟩, p⟩ := q
  exact ⟨⟨φ', a, l.trans b⟩, fun i hi => (p i hi).trans (hp i hi)⟩
theorem Fin.after (l : Le (ran φ) H (ran φ1) H1) (hp : ∀ i ∈ g.pin, σ1[i]? = σ[i]?) (k : Fin g E M0 φ H σ τ' fl) : Fin g E M0 φ1 H1 σ1 τ' fl := by
  cases fl with
  | nx => exact fun σ' H' q => k σ' H' (q.after l hp)
  | bk => exact fun σ' H' q => k σ' H' (q.after l hp)
  | ct => exact fun σ' H' q => k σ' H' (q.after l hp)
  | rt s => exact fun σ' v H' q => k σ' v H' ⟨q.1.after l, fun i hi => (q.2 i hi).trans (hp i hi)⟩
  | ex c fs l' => exact fun σ' d H' q => k σ' d H' ⟨q.1.after l, fun i hi => (q.2 i hi).trans (hp i hi)⟩
theorem Fin.xk {fs : List Str} {l : List D} (k : Fin g E M0 φ H σ τ' (.ex c fs l)) : ∀ d H', XOk g M0 φ H σ fs l τ' d H' → g.ex σ (.ref (g.cl c)) d H' := fun d H' q => k σ d H' ⟨q, fun _ _ => rfl⟩
theorem SOk.here (hs : Sim g M0 φ τ σ H) : SOk g M0 φ H σ τ σ H := ⟨⟨φ, hs, .refl⟩, fun _ _ => rfl⟩
/-! ### blocks -/
theorem b_nil (h : PSs X sts tNext) : PSs X sts (rdS g sNx) := pss_le h fun E σ H q => by
  obtain ⟨M0, φ, τ, fl, τ', hs, hm, k⟩ := rdS_iff.mp q
  cases hm
  exact k σ H (.here hs)
theorem b_seq {a b : SC} (h : PSs X sts (tSeq (rdS g a) (rdS g b))) : PSs X sts (rdS g (sSeq a b)) := pss_le h fun E σ H q => by
  obtain ⟨M0, φ, τ, fl, τ', hs, hm, k⟩ := rdS_iff.mp q
  unfold sSeq at hm
  refine rdS_iff.mpr ?_
  split at hm
  · rename_i τ1 ha
    exact ⟨M0, φ, τ, _, _, hs, ha, fun σ1 H1 q1 => rdS_iff.mpr ⟨M0, q1.1.choose, τ1, fl, τ', q1.1.choose_spec.1, hm, by
      have := Fin.after q1.1.choose_spec.2 q1.2 k
      cases fl <;> exact this⟩⟩
  · rename_i hn
    refine ⟨M0, φ, τ, _, _, hs, hm, ?_⟩
    cases fl with
    | nx => exact absurd hm (hn τ')
    | bk => exact k
    | ct => exact k
    | rt s => exact k
    | ex c fs l => exact k
theorem s_pass (h : PS X st tNext) : PS X st (rdS g sNx) := ps_le h fun E σ H q => by
  obtain ⟨M0, φ, τ, fl, τ', hs, hm, k⟩ := rdS_iff.mp q
  cases hm
  exact k σ H (.here hs)
def sBk : SC := fun τ => some (.bk, τ)
def sCt : SC := fun τ => some (.ct, τ)
theorem s_bk (h : PS X st tBreak) : PS X st (rdS g sBk) := ps_le h fun E σ H q => by
  obtain ⟨M0, φ, τ, fl, τ', hs, hm, k⟩ := rdS_iff.mp q
  cases hm
  exact k σ H (.here hs)
theorem s_ct (h : PS X st tCont) : PS X st (rdS g sCt) := ps_le h fun E σ H q => by
  obtain ⟨M0, φ, τ, fl, τ', hs, hm, k⟩ := rdS_iff.mp q
  cases hm
  exact k σ H (.here hs)
/-! ### with one expression -/
def sDrop (m : CM D) : SC := sE m fun _ => sNx
theorem s_drop {m : CM D} (h : PS X st (tDrop (rdD g m))) : PS X st (rdS g (sDrop m)) := ps_le h fun E σ H q => by
  obtain ⟨M0, φ, τ, fl, τ', hs, hm, k⟩ := rdS_iff.mp q
  rcases sE_some hm with ⟨x, τ1, e1, e2⟩ | ⟨c, fs, l, e1, rfl⟩
  · cases e2
    refine ⟨M0, φ, τ, _, _, hs, e1, fun v1 H1 q1 => ?_⟩
    obtain ⟨φ1, hs1, r1, l1⟩ := q1
    exact k σ H1 ⟨⟨φ1, hs1, l1⟩, fun _ _ => rfl⟩
  · exact ⟨M0, φ, τ, _, _, hs, e1, k.xk⟩
def sRet (m : CM SV) : SC := sE m fun s τ => some (.rt s, τ)
theorem s_ret {m : CM SV} (h : PS X st (tRet (rdE g m))) : PS X st (rdS g (sRet m)) := ps_le h fun E σ H q => by
  obtain ⟨M0, φ, τ, fl, τ', hs, hm, k⟩ := rdS_iff.mp q
  rcases sE_some hm with ⟨x, τ1, e1, e2⟩ | ⟨c, fs, l, e1, rfl⟩
  · cases e2
    exact ⟨M0, φ, τ, _, _, hs, e1, fun v1 H1 q1 => k σ v1 H1 ⟨q1, fun _ _ => rfl⟩⟩
  · exact ⟨M0, φ, τ, _, _, hs, e1, k.xk⟩
def sRetN : SC := fun τ => some (.rt (.fz .non), τ)
theorem s_retN (h : PS X st tRetN) : PS X st (rdS g sRetN) := ps_le h fun E σ H q => by
  obtain ⟨M0, φ, τ, fl, τ', hs, hm, k⟩ := rdS_iff.mp q
  cases hm
  exact k σ _ H ⟨DOk.up (.here hs .non), fun _ _ => rfl⟩
theorem set_pin {i : Nat} (hp : g.pin.contains i = false) : ∀ j ∈ g.pin, (σ.set i (some v))[j]? = σ[j]? := fun j hj => by
  rw [List.getElem?_set_ne]
  rintro rfl
  rw [List.contains_iff_mem.mpr hj] at hp
  cases hp
def sSet (i : Nat) (m : CM SV) : SC := sE m fun s τ => some (.nx, τ.set i (some s))
theorem EOk.set {i : Nat} (hp : g.pin.contains i = false) (q : EOk g M0 φ H σ s τ' v H') : SOk g M0 φ H σ (τ'.set i (some s)) (σ.set i (some v)) H' := by
  obtain ⟨F, φ', a, b, cc, n, l⟩ := q
  refine ⟨⟨upF φ' i F, a.set b cc n, l.ev, fun x q => ?_⟩, set_pin hp⟩
  obtain ⟨j, q⟩ := q
  by_cases ee : j = i
  · subst ee; rw [upF_same] at q; exact l.grow x (.inr q)
  · rw [upF_ne ee] at q; exact l.grow x (.inl ⟨j, q⟩)
theorem s_set {i : Nat} {m : CM SV} (hp : g.pin.contains i = false) (h : PS X st (tAsg (rdE g m) (gName i))) : PS X st (rdS g (sSet i m)) := ps_le h fun E σ H q => by
  obtain ⟨M0, φ, τ, fl, τ', hs, hm, k⟩ := rdS_iff.mp q
  rcases sE_some hm with ⟨x, τ1, e1, e2⟩ | ⟨c, fs, l, e1, rfl⟩
  · cases e2
    exact ⟨M0, φ, τ, _, _, hs, e1, fun v1 H1 q1 => k _ H1 (q1.set hp)⟩
  · exact ⟨M0, φ, τ, _, _, hs, e1, k.xk⟩
def sIf (c : CM Bool) (a b : SC) : SC := sE c fun x => if x = true then a else b
theorem s_ifS {c : CM Bool} {a b : SC} (h : PS X st (tIfS (rdT g c) (rdS g a) (rdS g b))) : PS X st (rdS g (sIf c a b)) := ps_le h fun E σ H q => by
  obtain ⟨M0, φ, τ, fl, τ', hs, hm, k⟩ := rdS_iff.mp q
  rcases sE_some hm with ⟨x, τ1, e1, e2⟩ | ⟨c, fs, l, e1, rfl⟩
  · refine ⟨M0, φ, τ, _, _, hs, e1, fun H1 q1 => ?_⟩
    obtain ⟨φ1, hs1, l1⟩ := q1
    cases x with
    | true =>
      rw [if_pos rfl] at e2 ⊢
      exact rdS_iff.mpr ⟨M0, φ1, τ1, _, _, hs1, e2, Fin.after l1 (fun _ _ => rfl) k⟩
    | false =>
      rw [if_neg (by decide)] at e2 ⊢
      exact rdS_iff.mpr ⟨M0, φ1, τ1, _, _, hs1, e2, Fin.after l1 (fun _ _ => rfl) k⟩
  · exact ⟨M0, φ, τ, _, _, hs, e1, k.xk⟩
/-- a, b = e1, e2 (two names) -/
def sPar (i j : Nat) (a b : CM D) : SC := sE a fun x => sE b fun y τ => some (.nx, (τ.set i (some (.fz x))).set j (some (.fz y)))
theorem s_par {i j : Nat} {a b : CM D} (hi : g.pin.contains i = false) (hj : g.pin.contains j = false) (h : PS X st (tPar i j (tCons (rdD g a) (tCons (rdD g b) tNil)))) : PS X st (rdS g (sPar i j a b)) := ps_le h fun E σ H q => by
  obtain ⟨M0, φ, τ, fl, τ', hs, hm, k⟩ := rdS_iff.mp q
  rcases sE_some hm with ⟨x, τ1, e1, e2⟩ | ⟨c, fs, l, e1, rfl⟩
  · refine ⟨M0, φ, τ, _, _, hs, e1, fun v1 H1 q1 => ?_⟩
    obtain ⟨φ1, hs1, r1, l1⟩ := q1
    rcases sE_some e2 with ⟨y, τ2, e3, e4⟩ | ⟨c, fs, l, e3, rfl⟩
    · cases e4
      refine ⟨M0, φ1, τ1, _, _, hs1, e3, fun v2 H2 q2 => ?_⟩
      obtain ⟨φ2, hs2, r2, l2⟩ := q2
      have r1' := (le_mof l2).r r1
      have s3 := hs2.setD (i := i) r1'
      have l3 : Le (ran φ2) H2 (ran (upF φ2 i [])) H2 := .up
      have s4 := s3.setD (i := j) ((le_mof l3).r r2)
      refine ⟨v1, v2, rfl, k _ H2 ⟨⟨_, s4, ((l1.trans l2).trans l3).trans .up⟩, fun m hm => ?_⟩⟩
      exact (set_pin hj m hm).trans (set_pin hi m hm)
    · exact ⟨M0, φ1, τ1, _, _, hs1, e3, fun d H' q => k.xk d H' (q.after l1)⟩
  · exact ⟨M0, φ, τ, _, _, hs, e1, k.xk⟩
/-! ### targets that take data -/
abbrev TD := D → Tau → Option Tau
def dName (i : Nat) : TD := fun d τ => some (τ.set i (some (.fz d)))
def rdG (g : Gx) (vs : List Nat) (t : TD) : TG := fun v σ H Q => ∃ M0 φ τ d τ', Sim g M0 φ τ σ H ∧ R g (Mof M0 φ) H v d ∧ t d τ = some τ' ∧
  ∀ σ' φ', Sim g M0 φ' τ' σ' H → Le (ran φ) H (ran φ') H → σ'.length = σ.length → (∀ j, j ∉ vs → σ'[j]? = σ[j]?) → Q σ' H
def rdGs (g : Gx) (vs : List Nat) (t : List D → Tau → Option Tau) : TGs := fun xs σ H Q => ∃ M0 φ τ ds τ', Sim g M0 φ τ σ H ∧ Rs g (Mof M0 φ) H xs ds ∧ t ds τ = some τ' ∧
  ∀ σ' φ', Sim g M0 φ' τ' σ' H → Le (ran φ) H (ran φ') H → σ'.length = σ.length → (∀ j, j ∉ vs → σ'[j]? = σ[j]?) → Q σ' H
theorem pg_le {t t' : TG} (h : PG X e t) (k : ∀ v σ H Q, t' v σ H Q → t v σ H Q) : PG X e t' := ⟨fun pins s σ H v u Q I r w => h.run pins s σ H v u Q I r (k _ _ _ _ w)⟩
theorem pgs_le {es : List Expr} {t t' : TGs} (h : PGs X es t) (k : ∀ v σ H Q, t' v σ H Q → t v σ H Q) : PGs X es t' := ⟨fun pins s σ H v u Q I r w => h.run pins s σ H v u Q I r (k _ _ _ _ w)⟩
theorem g_name {i : Nat} (h : PG X e (gName i)) : PG X e (rdG g [i] (dName i)) := pg_le h fun v σ H Q q => by
  obtain ⟨M0, φ, τ, d, τ', hs, r, ht, k⟩ := q
  cases ht
  exact k _ _ (hs.setD r) .up (by rw [List.length_set]) fun j hj => by
    rw [List.getElem?_set_ne]
    rintro rfl
    exact hj List.mem_cons_self
def dNil : List D → Tau → Option Tau := fun ds τ => match ds with
  | [] => some τ
  | _ => none
def dCons (t : TD) (u : List D → Tau → Option Tau) : List D → Tau → Option Tau := fun ds τ => match ds with
  | d :: r => (t d τ).bind (u r)
  | [] => none
theorem g_nil {es : List Expr} (h : PGs X es gNil) : PGs X es (rdGs g [] dNil) := pgs_le h fun v σ H Q q => by
  obtain ⟨M0, φ, τ, ds, τ', hs, r, ht, k⟩ := q
  unfold dNil at ht
  split at ht
  · cases ht
    cases r
    exact ⟨rfl, k σ φ hs .refl rfl fun _ _ => rfl⟩
  · cases ht
theorem g_cons {es : List Expr} {vs ws : List Nat} {t : TD} {u : List D → Tau → Option Tau} (h : PGs X es (gCons (rdG g vs t) (rdGs g ws u))) : PGs X es (rdGs g (vs ++ ws) (dCons t u)) := pgs_le h fun v σ H Q q => by
  obtain ⟨M0, φ, τ, ds, τ', hs, r, ht, k⟩ := q
  unfold dCons at ht
  split at ht
  · simp only [Option.bind_eq_some_iff] at ht
    obtain ⟨τ1, h1, h2⟩ := ht
    cases r with
    | cons p q =>
      refine ⟨_, _, rfl, M0, φ, τ, _, τ1, hs, p, h1, fun σ1 φ1 s1 l1 len1 o1 => ?_⟩
      refine ⟨M0, φ1, τ1, _, τ', s1, (le_mof l1).rs q, h2, fun σ2 φ2 s2 l2 len2 o2 => k σ2 φ2 s2 (l1.trans l2) (len2.trans len1) fun j hj => ?_⟩
      exact (o2 j fun m => hj (List.mem_append_right _ m)).trans (o1 j fun m => hj (List.mem_append_left _ m))
  · cases ht
def dTup (n : Nat) (u : List D → Tau → Option Tau) : TD := fun d τ => match d with
  | .tup l => if l.length = n then u l τ else none
  | _ => none
theorem g_tup {m : Nat} {vs : List Nat} {u : List D → Tau → Option Tau} (h : PG X e (gTup g.K m (rdGs g vs u))) : PG X e (rdG g vs (dTup m u)) := pg_le h fun v σ H Q q => by
  obtain ⟨M0, φ, τ, d, τ', hs, r, ht, k⟩ := q
  unfold dTup at ht
  split at ht
  · split at ht
    · rename_i hl
      obtain ⟨a, xs, rfl, hq, rs⟩ := (RT.of r).tup
      exact ⟨a, xs, rfl, hq, by rw [rs.length]; exact hl, M0, φ, τ, _, τ', hs, rs, ht, k⟩
    · cases ht
  · cases ht
/-- target = e -/
def sAsg (t : TD) (m : CM D) : SC := sE m fun d τ => (t d τ).map fun τ' => (.nx, τ')
theorem s_asg {vs : List Nat} {t : TD} {m : CM D} (hp : (g.pin.any vs.contains) = false) (h : PS X st (tAsg (rdD g m) (rdG g vs t))) : PS X st (rdS g (sAsg t m)) := ps_le h fun E σ H q => by
  obtain ⟨M0, φ, τ, fl, τ', hs, hm, k⟩ := rdS_iff.mp q
  rcases sE_some hm with ⟨x, τ1, e1, e2⟩ | ⟨c, fs, l, e1, rfl⟩
  · simp only [Option.map_eq_some_iff] at e2
    obtain ⟨τ2, ht, e2⟩ := e2
    cases e2
    refine ⟨M0, φ, τ, _, _, hs, e1, fun v1 H1 q1 => ?_⟩
    obtain ⟨φ1, hs1, r1, l1⟩ := q1
    refine ⟨M0, φ1, τ1, x, _, hs1, r1, ht, fun σ2 φ2 s2 l2 len2 o2 => k σ2 H1 ⟨⟨φ2, s2, l1.trans l2⟩, fun j hj => o2 j fun m => ?_⟩⟩
    rw [List.any_eq_false] at hp
    exact hp j hj (List.contains_iff_mem.mpr m)
  · exact ⟨M0, φ, τ, _, _, hs, e1, k.xk⟩
/-- x op= e -/
def OpI (g : Gx) (f : D → D → Option D) (r : TIp) : Prop := ∀ {M : Ad} {H : Hp} {x y : V} {d e : D} {s : D} {Q : VK}, RT g M H x d → RT g M H y e → f d e = some s → (∀ v, R g M H v s → Q v H) → r x y H Q
def sAug (i : Nat) (f : D → D → Option D) (m : CM D) : SC := fun τ => match τ[i]? with
  | some (some (.fz x)) => sE m (fun y τ1 => (f x y).map fun d => (.nx, τ1.set i (some (.fz d)))) τ
  | _ => none
theorem s_aug {i : Nat} {f : D → D → Option D} {r : TIp} {m : CM D} (ho : OpI g f r) (hp : g.pin.contains i = false) (h : PS X st (tAug i (rdD g m) r)) : PS X st (rdS g (sAug i f m)) := ps_le h fun E σ H q => by
  obtain ⟨M0, φ, τ, fl, τ', hs, hm, k⟩ := rdS_iff.mp q
  unfold sAug at hm
  split at hm
  · rename_i x hx
    obtain ⟨vx, hv, rx⟩ := hs.fz hx
    refine ⟨vx, hv, ?_⟩
    rcases sE_some hm with ⟨y, τ1, e1, e2⟩ | ⟨c, fs, l, e1, rfl⟩
    · simp only [Option.map_eq_some_iff] at e2
      obtain ⟨d, hd, e2⟩ := e2
      cases e2
      refine ⟨M0, φ, τ, _, _, hs, e1, fun v1 H1 q1 => ?_⟩
      obtain ⟨φ1, hs1, r1, l1⟩ := q1
      exact ho (.of ((le_mof l1).r rx)) (.of r1) hd fun v r => k _ H1 ⟨⟨_, hs1.setD r, l1.trans .up⟩, set_pin hp⟩
    · exact ⟨M0, φ, τ, _, _, hs, e1, k.xk⟩
  · cases hm
def addI : D → D → Option D
  | .int i, .int j => some (.int (i + j))
  | .str a, .str b => if a.length + b.length ≤ sizeLine then some (.str (a ++ b)) else none
  | _, _ => none
def subI : D → D → Option D
  | .int i, .int j => some (.int (i - j))
  | _, _ => none
theorem i_add : OpI g addI ipAddU := by
  intro M H x y d e s Q h1 h2 hf k
  unfold addI at hf
  split at hf
  · cases h1.int; cases h2.int; cases hf
    exact .inl ⟨_, _, rfl, rfl, k _ (.int _)⟩
  · cases h1.str; cases h2.str
    split at hf
    · cases hf
      exact .inr ⟨_, _, rfl, rfl, by assumption, k _ (.str _)⟩
    · cases hf
  · cases hf
theorem i_sub : OpI g subI (ipI fun i j => i - j) := by
  intro M H x y d e s Q h1 h2 hf k
  unfold subI at hf
  split at hf
  · cases h1.int; cases h2.int; cases hf
    exact ⟨_, _, rfl, rfl, k _ (.int _)⟩
  · cases hf
end
end VS

/-! ## S10: what is walked, loops -/
namespace VS
open PySem PySem.Spec PyProof.Rows L2
section
variable {X : Cx} {g : Gx} {st : Stmt} {sts : List Stmt} {e tg : Expr} {M M0 M1 : Ad} {φ φ1 : Nat → List Addr} {τ τ' : Tau} {σ σ1 : L2.St} {H H' H1 : Hp} {v x y : V} {d : D} {ds items : List D} {s : SV} {Q : VK} {i : Int} {z : Str} {n : String} {c : Nat} {E : Ends} {fl : Fl} {J : It}
def ItOk (g : Gx) (J : It) (items : List D) (M : Ad) (H : Hp) : Prop :=
  (∀ i M1 H1, Le M H M1 H1 → i < items.length → J.go i H1) ∧ (∀ M1 H1, Le M H M1 H1 → J.stop items.length H1) ∧
  ∀ i M1 H1 x H2, Le M H M1 H1 → i < items.length → J.yld i H1 x H2 → Ev0 H1 H2 ∧ ∃ d, items[i]? = some d ∧ R g M1 H2 x d
theorem ItOk.le (l : Le M H M1 H1) (h : ItOk g J items M H) : ItOk g J items M1 H1 :=
  ⟨fun i M2 H2 q => h.1 i M2 H2 (l.trans q), fun M2 H2 q => h.2.1 M2 H2 (l.trans q), fun i M2 H2 x H3 q => h.2.2 i M2 H2 x H3 (l.trans q)⟩
def rdI (g : Gx) (m : CM (List D)) : TI := fun σ H Rr => ∃ M0 φ τ r τ', Sim g M0 φ τ σ H ∧ m τ = some (r, τ') ∧
  match r with
  | .ok items => ∀ J H' φ', Sim g M0 φ' τ' σ H' → Le (ran φ) H (ran φ') H' → ItOk g J items (Mof M0 φ') H' → Rr J H'
  | .ex c fs l => ∀ d H', XOk g M0 φ H σ fs l τ' d H' → g.ex σ (.ref (g.cl c)) d H'
def itemsD : D → Option (List D)
  | .str z => some (signs z)
  | d => seqD d
/-- the sequence of a value, staying -/
theorem R.src {l : List D} (r : R g M H v d) (e : itemsD d = some l) : ∃ k xs, ∀ M1 H1, Le M H M1 H1 → SrcAt k g.K H1 v xs ∧ Rs g M1 H1 xs l := by
  cases r with
  | non => cases e
  | bl b => cases e
  | int i => cases e
  | str z =>
    cases e
    exact ⟨.s, _, fun M1 H1 le => ⟨⟨z, rfl, rfl⟩, signs_rs z⟩⟩
  | tup q r =>
    cases e
    exact ⟨.t, _, fun M1 H1 le => ⟨⟨_, rfl, le.ev.sqT q⟩, le.rs r⟩⟩
  | @ob a o h xs ds q qi n p r =>
    cases h with
    | lst =>
      cases e
      cases p
      have q := qi fun b ks e => nomatch e
      exact ⟨.l, _, fun M1 H1 le => ⟨⟨_, rfl, SqL.of (le.ev.keep _ _ q n)⟩, le.rs r⟩⟩
    | dct t ks => cases e
    | ins c fs => cases e
  | fro q r =>
    cases e
    exact ⟨.l, _, fun M1 H1 le => ⟨⟨_, rfl, Fro.sqL (q.imp (fun ⟨u, q⟩ => ⟨u, le.ev.frzs _ _ _ q⟩) id)⟩, le.rs r⟩⟩
def itD (a : CM D) : CM (List D) := bnd a fun d => ret (itemsD d)
theorem pi_rd {a : CM D} {f : D → Option (List D)} {t : TI} (hf : ∀ (σ : L2.St) (H : Hp) (v : V) (M : Ad) (d : D) (l : List D) (Rr : It → Hp → Prop), R g M H v d → f d = some l → (∀ J, ItOk g J l M H → Rr J H) → True) : True := trivial
theorem i_seq {a : CM D} (h : PI X tg e (iU g.K (rdD g a))) : PI X tg e (rdI g (itD a)) := pi_le h fun σ H Rr q => by
  obtain ⟨M0, φ, τ, rs, τ', hs, hm, k⟩ := q
  rcases bnd_some hm with ⟨x, τ1, e1, e2⟩ | ⟨c, fs, l, e1, rfl⟩
  · refine ⟨M0, φ, τ, _, _, hs, e1, fun v1 H1 q1 => ?_⟩
    obtain ⟨φ1, hs1, r1, l1⟩ := q1
    obtain ⟨l, es, rfl, rfl⟩ := ret_some e2
    obtain ⟨kd, xs, src⟩ := r1.src es
    have el : xs.length = l.length := (src _ _ .refl).2.length
    cases kd with
    | l =>
      obtain ⟨⟨p, rfl, hp⟩, _⟩ := src _ _ .refl
      refine .inl ⟨p, rfl, ⟨xs, hp⟩, k _ H1 φ1 hs1 l1 ⟨fun i M2 H2 l hi => ?_, fun M2 H2 l => ?_, fun i M2 H2 x H3 l hi y => ?_⟩⟩
      · obtain ⟨⟨p', e', hp'⟩, _⟩ := src _ _ l; cases e'
        exact walk_list.goes i H2 (by rw [el]; exact hi) hp'
      · obtain ⟨⟨p', e', hp'⟩, _⟩ := src _ _ l; cases e'
        rw [← el]; exact walk_list.stops H2 hp'
      · obtain ⟨⟨p', e', hp'⟩, r⟩ := src _ _ l; cases e'
        obtain ⟨rfl, ex⟩ := walk_list.yields i H2 x H3 (by rw [el]; exact hi) hp' y
        obtain ⟨d, e1, e2⟩ := r.getV ex
        exact ⟨.refl, d, e1, e2⟩
    | t =>
      obtain ⟨⟨p, rfl, hp⟩, _⟩ := src _ _ .refl
      refine .inr (.inl ⟨p, rfl, ⟨xs, hp⟩, k _ H1 φ1 hs1 l1 ⟨fun i M2 H2 l hi => ?_, fun M2 H2 l => ?_, fun i M2 H2 x H3 l hi y => ?_⟩⟩)
      · obtain ⟨⟨p', e', hp'⟩, _⟩ := src _ _ l; cases e'
        exact walk_tup.goes i H2 (by rw [el]; exact hi) hp'
      · obtain ⟨⟨p', e', hp'⟩, _⟩ := src _ _ l; cases e'
        rw [← el]; exact walk_tup.stops H2 hp'
      · obtain ⟨⟨p', e', hp'⟩, r⟩ := src _ _ l; cases e'
        obtain ⟨rfl, ex⟩ := walk_tup.yields i H2 x H3 (by rw [el]; exact hi) hp' y
        obtain ⟨d, e1, e2⟩ := r.getV ex
        exact ⟨.refl, d, e1, e2⟩
    | s =>
      obtain ⟨⟨z, rfl, rfl⟩, _⟩ := src _ _ .refl
      have ez : z.cps.size = l.length := by rw [← el]; simp
      refine .inr (.inr ⟨z, rfl, k _ H1 φ1 hs1 l1 ⟨fun i M2 H2 l hi => ?_, fun M2 H2 l => ?_, fun i M2 H2 x H3 l hi y => ?_⟩⟩)
      · exact walk_str.goes i H2 (by rw [ez]; exact hi) trivial
      · rw [← ez]; exact walk_str.stops H2 trivial
      · obtain ⟨rfl, c, ex, rfl⟩ := walk_str.yields i H2 x H3 (by rw [ez]; exact hi) trivial y
        obtain ⟨_, r⟩ := src _ _ l
        have : (z.cps.toList.map fun c => V.str ⟨#[c]⟩)[i]? = some (.str ⟨#[c]⟩) := by
          rw [List.getElem?_map]
          simp [ex]
        obtain ⟨d, e1, e2⟩ := r.getV this
        exact ⟨.refl, d, e1, e2⟩
  · exact ⟨M0, φ, τ, _, _, hs, e1, k⟩
/-! ranges -/
def rangeL (lo : Int) (n : Nat) : List D := (List.range n).map fun i => D.int (lo + (i : Nat))
theorem rangeL_len {lo : Int} {n : Nat} : (rangeL lo n).length = n := by simp [rangeL]
theorem rangeL_at {lo : Int} {n i : Nat} (h : i < n) : (rangeL lo n)[i]? = some (.int (lo + (i : Nat))) := by
  unfold rangeL
  rw [List.getElem?_map, List.getElem?_range h]
  rfl
theorem it_range {lo : Int} {n : Nat} : ItOk g (Itr lo n) (rangeL lo n) M H :=
  ⟨fun i M1 H1 l hi => walk_range.goes i H1 (by rw [rangeL_len] at hi; exact hi) trivial, fun M1 H1 l => by rw [rangeL_len]; exact walk_range.stops H1 trivial, fun i M1 H1 x H2 l hi y => by
    rw [rangeL_len] at hi
    obtain ⟨rfl, rfl⟩ := walk_range.yields i H1 x H2 hi trivial y
    exact ⟨.refl, _, rangeL_at hi, .int _⟩⟩
def itR1 (a : CM D) : CM (List D) := bnd a fun d => match d with
  | .int j => ret (if -(2 ^ 62) ≤ j ∧ j < 2 ^ 62 then some (rangeL 0 j.toNat) else none)
  | _ => fun _ => none
theorem i_range1 {a : CM D} (h : PI X tg e (iRng1 (tCons (rdD g a) tNil))) : PI X tg e (rdI g (itR1 a)) := pi_le h fun σ H Rr q => by
  obtain ⟨M0, φ, τ, rs, τ', hs, hm, k⟩ := q
  rcases bnd_some hm with ⟨x, τ1, e1, e2⟩ | ⟨c, fs, l, e1, rfl⟩
  · refine ⟨M0, φ, τ, _, _, hs, e1, fun v1 H1 q1 => ?_⟩
    obtain ⟨φ1, hs1, r1, l1⟩ := q1
    split at e2
    · obtain ⟨l, es, rfl, rfl⟩ := ret_some e2
      cases (RT.of r1).int
      split at es
      · rename_i hb
        cases es
        exact ⟨_, rfl, hb.1, hb.2, k _ H1 φ1 hs1 l1 it_range⟩
      · cases es
    · cases e2
  · exact ⟨M0, φ, τ, _, _, hs, e1, k⟩
def itR2 (a b : CM D) : CM (List D) := bnd a fun d => bnd b fun e => match d, e with
  | .int i, .int j => ret (if -(2 ^ 62) ≤ i ∧ i < 2 ^ 62 ∧ -(2 ^ 62) ≤ j ∧ j < 2 ^ 62 then some (rangeL i (j - i).toNat) else none)
  | _, _ => fun _ => none
theorem i_range2 {a b : CM D} (h : PI X tg e (iRng2 (tCons (rdD g a) (tCons (rdD g b) tNil)))) : PI X tg e (rdI g (itR2 a b)) := pi_le h fun σ H Rr q => by
  obtain ⟨M0, φ, τ, rs, τ', hs, hm, k⟩ := q
  rcases bnd_some hm with ⟨x, τ1, e1, e2⟩ | ⟨c, fs, l, e1, rfl⟩
  · refine ⟨M0, φ, τ, _, _, hs, e1, fun v1 H1 q1 => ?_⟩
    obtain ⟨φ1, hs1, r1, l1⟩ := q1
    rcases bnd_some e2 with ⟨y, τ2, e3, e4⟩ | ⟨c, fs, l, e3, rfl⟩
    · refine ⟨M0, φ1, τ1, _, _, hs1, e3, fun v2 H2 q2 => ?_⟩
      obtain ⟨φ2, hs2, r2, l2⟩ := q2
      split at e4
      · obtain ⟨l, es, rfl, rfl⟩ := ret_some e4
        cases (RT.of r1).int; cases (RT.of r2).int
        split at es
        · rename_i hb
          cases es
          exact ⟨_, _, rfl, hb, k _ H2 φ2 hs2 (l1.trans l2) it_range⟩
        · cases es
      · cases e4
    · exact ⟨M0, φ1, τ1, _, _, hs1, e3, fun d H' q => k d H' (q.after l1)⟩
  · exact ⟨M0, φ, τ, _, _, hs, e1, k⟩
/-! enumerate, zip -/
def enumL (l : List D) : List D := l.zipIdx.map fun p => D.tup [.int (p.2 : Nat), p.1]
theorem enumL_len {l : List D} : (enumL l).length = l.length := by simp [enumL]
theorem enumL_at {l : List D} {i : Nat} {d : D} (h : l[i]? = some d) : (enumL l)[i]? = some (.tup [.int (i : Nat), d]) := by
  unfold enumL
  rw [List.getElem?_map, List.getElem?_zipIdx, h]
  simp
def itEn (a : CM D) : CM (List D) := bnd a fun d => ret ((itemsD d).map enumL)
theorem i_enum {a : CM D} (h : PI X tg e (iEnumU g.K (tCons (rdD g a) tNil))) : PI X tg e (rdI g (itEn a)) := pi_le h fun σ H Rr q => by
  obtain ⟨M0, φ, τ, rs, τ', hs, hm, k⟩ := q
  rcases bnd_some hm with ⟨x, τ1, e1, e2⟩ | ⟨c, fs, l, e1, rfl⟩
  · refine ⟨M0, φ, τ, _, _, hs, e1, fun v1 H1 q1 => ?_⟩
    obtain ⟨φ1, hs1, r1, l1⟩ := q1
    obtain ⟨l, es, rfl, rfl⟩ := ret_some e2
    simp only [Option.map_eq_some_iff] at es
    obtain ⟨l, es, rfl⟩ := es
    obtain ⟨kd, xs, src⟩ := r1.src es
    have el : xs.length = l.length := (src _ _ .refl).2.length
    refine ⟨v1, kd, xs, rfl, (src _ _ .refl).1, k _ H1 φ1 hs1 l1 ⟨fun i M2 H2 l hi => ?_, fun M2 H2 l => ?_, fun i M2 H2 x H3 l hi y => ?_⟩⟩
    · rw [enumL_len] at hi
      exact walk_enumU.goes i H2 (by rw [el]; exact hi) (src _ _ l).1
    · rw [enumL_len, ← el]; exact walk_enumU.stops H2 (src _ _ l).1
    · rw [enumL_len] at hi
      obtain ⟨T, y, rfl, hT, rfl, ey⟩ := walk_enumU.yields i H2 x H3 (by rw [el]; exact hi) (src _ _ l).1 y
      obtain ⟨d, e1, e2⟩ := (src _ _ l).2.getV ey
      exact ⟨new0 hT, _, enumL_at e1, .tup (SqT.of upd_same) (.cons (.int _) (.cons (e2.ev0 (new0 hT)) .nil))⟩
  · exact ⟨M0, φ, τ, _, _, hs, e1, k⟩
def zipL (l m : List D) : List D := (l.zip m).map fun p => D.tup [p.1, p.2]
theorem zipL_len {l m : List D} : (zipL l m).length = min l.length m.length := by simp [zipL]
theorem zipL_at {l m : List D} {i : Nat} {d e : D} (h : l[i]? = some d) (h2 : m[i]? = some e) : (zipL l m)[i]? = some (.tup [d, e]) := by
  unfold zipL
  rw [List.getElem?_map, List.getElem?_zip_eq_some (z := (d, e)) |>.mpr ⟨h, h2⟩]
  rfl
def itZip (a b : CM D) : CM (List D) := bnd a fun d => bnd b fun e => ret ((itemsD d).bind fun l => (itemsD e).map fun m => zipL l m)
theorem i_zip {a b : CM D} (h : PI X tg e (iZipU g.K (tCons (rdD g a) (tCons (rdD g b) tNil)))) : PI X tg e (rdI g (itZip a b)) := pi_le h fun σ H Rr q => by
  obtain ⟨M0, φ, τ, rs, τ', hs, hm, k⟩ := q
  rcases bnd_some hm with ⟨x, τ1, e1, e2⟩ | ⟨c, fs, l, e1, rfl⟩
  · refine ⟨M0, φ, τ, _, _, hs, e1, fun v1 H1 q1 => ?_⟩
    obtain ⟨φ1, hs1, r1, l1⟩ := q1
    rcases bnd_some e2 with ⟨y, τ2, e3, e4⟩ | ⟨c, fs, l, e3, rfl⟩
    · refine ⟨M0, φ1, τ1, _, _, hs1, e3, fun v2 H2 q2 => ?_⟩
      obtain ⟨φ2, hs2, r2, l2⟩ := q2
      obtain ⟨l, es, rfl, rfl⟩ := ret_some e4
      simp only [Option.bind_eq_some_iff, Option.map_eq_some_iff] at es
      obtain ⟨l, es1, m, es2, rfl⟩ := es
      obtain ⟨k1, xs, src1⟩ := ((le_mof (M0 := M0) l2).r r1).src es1
      obtain ⟨k2, ys, src2⟩ := r2.src es2
      have el1 : xs.length = l.length := (src1 _ _ .refl).2.length
      have el2 : ys.length = m.length := (src2 _ _ .refl).2.length
      refine ⟨v1, v2, k1, k2, xs, ys, rfl, (src1 _ _ .refl).1, (src2 _ _ .refl).1, k _ H2 φ2 hs2 (l1.trans l2) ⟨fun i M2 H3 l hi => ?_, fun M2 H3 l => ?_, fun i M2 H3 x H4 l hi y => ?_⟩⟩
      · rw [zipL_len] at hi
        exact walk_zipU.goes i H3 (by rw [el1, el2]; exact hi) ⟨(src1 _ _ l).1, (src2 _ _ l).1⟩
      · rw [zipL_len, ← el1, ← el2]; exact walk_zipU.stops H3 ⟨(src1 _ _ l).1, (src2 _ _ l).1⟩
      · rw [zipL_len] at hi
        obtain ⟨T, y, z, rfl, hT, rfl, ey, ez⟩ := walk_zipU.yields i H3 x H4 (by rw [el1, el2]; exact hi) ⟨(src1 _ _ l).1, (src2 _ _ l).1⟩ y
        obtain ⟨d, e1, e2⟩ := (src1 _ _ l).2.getV ey
        obtain ⟨d', e1', e2'⟩ := (src2 _ _ l).2.getV ez
        exact ⟨new0 hT, _, zipL_at e1 e1', .tup (SqT.of upd_same) (.cons (e2.ev0 (new0 hT)) (.cons (e2'.ev0 (new0 hT)) .nil))⟩
    · exact ⟨M0, φ1, τ1, _, _, hs1, e3, fun d H' q => k d H' (q.after l1)⟩
  · exact ⟨M0, φ, τ, _, _, hs, e1, k⟩
/-! ### for -/
def sLoop (t : TD) (b : SC) : List D → SC
  | [] => sNx
  | d :: r => fun τ => match t d τ with
    | some τ1 => match b τ1 with
      | some (.nx, τ2) => sLoop t b r τ2
      | some (.ct, τ2) => sLoop t b r τ2
      | some (.bk, τ2) => some (.nx, τ2)
      | some (.rt s, τ2) => some (.rt s, τ2)
      | some (.ex c fs l, τ2) => some (.ex c fs l, τ2)
      | none => none
    | none => none
def sFor (it : CM (List D)) (t : TD) (b : SC) : SC := sE it fun l => sLoop t b l
theorem le_for {it : CM (List D)} {vs : List Nat} {t : TD} {b : SC} (hp : (g.pin.any vs.contains) = false) (E : Ends) (σ : L2.St) (H : Hp) (q : rdS g (sFor it t b) E σ H) : tFor (rdI g it) (rdG g vs t) (rdS g b) E σ H := by
  obtain ⟨M0, φ, τ, fl, τ', hs, hm, k⟩ := rdS_iff.mp q
  rcases sE_some hm with ⟨items, τ1, e1, e2⟩ | ⟨c, fs, l, e1, rfl⟩
  · refine ⟨M0, φ, τ, _, _, hs, e1, fun J H1 φ1 hs1 l1 ok => ?_⟩
    have hpin : ∀ {σ1 σ2 : L2.St}, (∀ j, j ∉ vs → σ2[j]? = σ1[j]?) → ∀ j ∈ g.pin, σ2[j]? = σ1[j]? := fun o j hj => o j fun m => by
      rw [List.any_eq_false] at hp
      exact hp j hj (List.contains_iff_mem.mpr m)
    refine ⟨fun i m σ' H' => m = items.length - i ∧ i ≤ items.length ∧ ∃ φ' τ2, Sim g M0 φ' τ2 σ' H' ∧ Le (ran φ1) H1 (ran φ') H' ∧ (∀ j ∈ g.pin, σ'[j]? = σ[j]?) ∧ sLoop t b (items.drop i) τ2 = some (fl, τ'), ⟨items.length, by simp, Nat.zero_le _, φ1, τ1, hs1, .refl, fun _ _ => rfl, e2⟩, ?_⟩
    rintro i m σ' H' ⟨rfl, hi, φ', τ2, s2, l2, p2, e3⟩
    by_cases hlt : i < items.length
    · refine .inr ⟨ok.1 i _ H' (le_mof l2) hlt, fun σ3 H3 => i + 1 ≤ items.length ∧ ∃ φ3 τ3, Sim g M0 φ3 τ3 σ3 H3 ∧ Le (ran φ1) H1 (ran φ3) H3 ∧ (∀ j ∈ g.pin, σ3[j]? = σ[j]?) ∧ sLoop t b (items.drop (i + 1)) τ3 = some (fl, τ'), fun σ3 H3 n => ⟨_, by omega, rfl, n⟩, fun x H3 y => ?_⟩
      obtain ⟨e0, d, hd, rx⟩ := ok.2.2 i _ H' x H3 (le_mof l2) hlt y
      have hdrop : items.drop i = d :: items.drop (i + 1) := by
        rw [List.drop_eq_getElem_cons hlt]
        congr 1
        rw [List.getElem?_eq_getElem hlt] at hd
        exact Option.some.inj hd
      rw [hdrop] at e3
      unfold sLoop at e3
      split at e3
      · rename_i τ3 ht
        have s3 := s2.ev0 e0
        refine ⟨M0, φ', τ2, d, τ3, s3, rx, ht, fun σ4 φ4 s4 l4 len4 o4 => ?_⟩
        have l14 : Le (ran φ1) H1 (ran φ4) H3 := (l2.trans (s2.after0 e0)).trans l4
        have p4 : ∀ j ∈ g.pin, σ4[j]? = σ[j]? := fun j hj => (hpin o4 j hj).trans (p2 j hj)
        refine rdS_iff.mpr ?_
        have nxt : ∀ {τ5 : Tau}, sLoop t b (items.drop (i + 1)) τ5 = some (fl, τ') → ∀ σ5 H5, SOk g M0 φ4 H3 σ4 τ5 σ5 H5 → i + 1 ≤ items.length ∧ ∃ φ3 τ3, Sim g M0 φ3 τ3 σ5 H5 ∧ Le (ran φ1) H1 (ran φ3) H5 ∧ (∀ j ∈ g.pin, σ5[j]? = σ[j]?) ∧ sLoop t b (items.drop (i + 1)) τ3 = some (fl, τ') := fun {τ5} e5 σ5 H5 q => by
          obtain ⟨⟨φ5, s5, l5⟩, p5⟩ := q
          exact ⟨hlt, φ5, τ5, s5, l14.trans l5, fun j hj => (p5 j hj).trans (p4 j hj), e5⟩
        have kk := Fin.after (l1.trans l14) p4 k
        split at e3
        · rename_i τ5 hb
          exact ⟨M0, φ4, τ3, _, _, s4, hb, nxt e3⟩
        · rename_i τ5 hb
          exact ⟨M0, φ4, τ3, _, _, s4, hb, nxt e3⟩
        · rename_i τ5 hb
          cases e3
          exact ⟨M0, φ4, τ3, _, _, s4, hb, kk⟩
        · rename_i s5 τ5 hb
          cases e3
          exact ⟨M0, φ4, τ3, _, _, s4, hb, kk⟩
        · rename_i c5 fs5 l5 τ5 hb
          cases e3
          exact ⟨M0, φ4, τ3, _, _, s4, hb, kk⟩
        · cases e3
      · cases e3
    · have e : i = items.length := by omega
      subst e
      rw [List.drop_of_length_le (Nat.le_refl _)] at e3
      cases e3
      exact .inl ⟨ok.2.1 _ H' (le_mof l2), k σ' H' ⟨⟨φ', s2, l1.trans l2⟩, p2⟩⟩
  · exact ⟨M0, φ, τ, _, _, hs, e1, k.xk⟩
theorem s_for {it : CM (List D)} {vs : List Nat} {t : TD} {b : SC} (hp : (g.pin.any vs.contains) = false) (h : PS X st (tFor (rdI g it) (rdG g vs t) (rdS g b))) : PS X st (rdS g (sFor it t b)) := ps_le h (le_for hp)
/-! ### while -/
def sWhile (c : CM Bool) (b : SC) : Nat → SC
  | 0 => fun _ => none
  | n + 1 => fun τ => match c τ with
    | some (.ok true, τ1) => match b τ1 with
      | some (.nx, τ2) => sWhile c b n τ2
      | some (.ct, τ2) => sWhile c b n τ2
      | some (.bk, τ2) => some (.nx, τ2)
      | some (.rt s, τ2) => some (.rt s, τ2)
      | some (.ex c fs l, τ2) => some (.ex c fs l, τ2)
      | none => none
    | some (.ok false, τ1) => some (.nx, τ1)
    | some (.ex c fs l, τ1) => some (.ex c fs l, τ1)
    | none => none
def fuelS : Option SV → Nat
  | some (.fz (.int i)) => i.natAbs
  | _ => 0
def fuelT (τ : Tau) : Nat := (τ.map fuelS).sum + 1099511627776
def sWhileT (c : CM Bool) (b : SC) : SC := fun τ => sWhile c b (fuelT τ) τ
theorem le_while {c : CM Bool} {b : SC} {n : Nat} (E : Ends) (σ : L2.St) (H : Hp) (q : rdS g (sWhile c b n) E σ H) : tWhile (rdT g c) (rdS g b) E σ H := by
  obtain ⟨M0, φ, τ, fl, τ', hs, hm, k⟩ := rdS_iff.mp q
  refine ⟨fun m σ' H' => ∃ φ' τ2, Sim g M0 φ' τ2 σ' H' ∧ Le (ran φ) H (ran φ') H' ∧ (∀ j ∈ g.pin, σ'[j]? = σ[j]?) ∧ sWhile c b m τ2 = some (fl, τ'), ⟨n, φ, τ, hs, .refl, fun _ _ => rfl, hm⟩, ?_⟩
  rintro m σ' H' ⟨φ', τ2, s2, l2, p2, e3⟩
  cases m with
  | zero => cases e3
  | succ m =>
    unfold sWhile at e3
    split at e3
    · rename_i τ3 hc
      refine ⟨M0, φ', τ2, _, _, s2, hc, fun H3 q3 => ?_⟩
      obtain ⟨φ3, s3, l3⟩ := q3
      rw [if_pos rfl]
      refine ⟨fun σ5 H5 => ∃ φ3 τ3, Sim g M0 φ3 τ3 σ5 H5 ∧ Le (ran φ) H (ran φ3) H5 ∧ (∀ j ∈ g.pin, σ5[j]? = σ[j]?) ∧ sWhile c b m τ3 = some (fl, τ'), fun σ5 H5 q => ⟨m, Nat.lt_succ_self m, q⟩, rdS_iff.mpr ?_⟩
      have l23 := l2.trans l3
      have nxt : ∀ {τ5 : Tau}, sWhile c b m τ5 = some (fl, τ') → ∀ σ5 H5, SOk g M0 φ3 H3 σ' τ5 σ5 H5 → ∃ φ3 τ3, Sim g M0 φ3 τ3 σ5 H5 ∧ Le (ran φ) H (ran φ3) H5 ∧ (∀ j ∈ g.pin, σ5[j]? = σ[j]?) ∧ sWhile c b m τ3 = some (fl, τ') := fun {τ5} e5 σ5 H5 q => by
        obtain ⟨⟨φ5, s5, l5⟩, p5⟩ := q
        exact ⟨φ5, τ5, s5, l23.trans l5, fun j hj => (p5 j hj).trans (p2 j hj), e5⟩
      have kk := Fin.after l23 p2 k
      split at e3
      · rename_i τ5 hb
        exact ⟨M0, φ3, τ3, _, _, s3, hb, nxt e3⟩
      · rename_i τ5 hb
        exact ⟨M0, φ3, τ3, _, _, s3, hb, nxt e3⟩
      · rename_i τ5 hb
        cases e3
        exact ⟨M0, φ3, τ3, _, _, s3, hb, kk⟩
      · rename_i s5 τ5 hb
        cases e3
        exact ⟨M0, φ3, τ3, _, _, s3, hb, kk⟩
      · rename_i c5 fs5 l5 τ5 hb
        cases e3
        exact ⟨M0, φ3, τ3, _, _, s3, hb, kk⟩
      · cases e3
    · rename_i τ3 hc
      cases e3
      refine ⟨M0, φ', τ2, _, _, s2, hc, fun H3 q3 => ?_⟩
      obtain ⟨φ3, s3, l3⟩ := q3
      rw [if_neg (by decide)]
      exact k σ' H3 ⟨⟨φ3, s3, l2.trans l3⟩, p2⟩
    · rename_i c5 fs5 l5 τ5 hc
      cases e3
      exact ⟨M0, φ', τ2, _, _, s2, hc, fun d H5 q5 => k σ' d H5 ⟨q5.after l2, p2⟩⟩
    · cases e3
theorem s_while {c : CM Bool} {b : SC} {n : Nat} (h : PS X st (tWhile (rdT g c) (rdS g b))) : PS X st (rdS g (sWhile c b n)) := ps_le h le_while
/-- with as many turns as the integers at hand are big -/
theorem s_whileT {c : CM Bool} {b : SC} (h : PS X st (tWhile (rdT g c) (rdS g b))) : PS X st (rdS g (sWhileT c b)) := ps_le h fun E σ H q => by
  obtain ⟨M0, φ, τ, fl, τ', hs, hm, k⟩ := rdS_iff.mp q
  exact le_while (n := fuelT τ) E σ H (rdS_iff.mpr ⟨M0, φ, τ, fl, τ', hs, hm, k⟩)
end
end VS

/-! ## S11: comprehensions -/
namespace VS
open PySem PySem.Spec PyProof.Rows L2
section
variable {g g' : Gx} {M M0 M1 : Ad} {φ φ1 : Nat → List Addr} {τ τ' : Tau} {σ σ1 σ2 : L2.St} {H H' H1 : Hp} {v x y : V} {vs : List V} {d : D} {ds : List D} {s : SV} {l : List SV} {F : List Addr}
/-! another frame's context -/
mutual
theorem R.cast (hK : g'.K = g.K) (hc : g'.cl = g.cl) (hh : g'.hid = g.hid) : ∀ (d : D) (v : V), R g M H v d → R g' M H v d
  | .non, _, h => by cases h; exact .non
  | .bl b, _, h => by cases h; exact .bl b
  | .int i, _, h => by cases h; exact .int i
  | .str x, _, h => by cases h; exact .str x
  | .tup ds, _, h => by
    cases h with
    | tup q r => exact .tup (by rw [hK]; exact q) (Rs.cast hK hc hh ds _ r)
  | .ob hd ds, _, h => by
    cases h with
    | ob q qi n p r => exact .ob q qi n (by rw [hc, hh]; exact p) (Rs.cast hK hc hh ds _ r)
  | .fro ds, _, h => by
    cases h with
    | fro q r => exact .fro (by rw [hK]; exact q) (Rs.cast hK hc hh ds _ r)
theorem Rs.cast (hK : g'.K = g.K) (hc : g'.cl = g.cl) (hh : g'.hid = g.hid) : ∀ (ds : List D) (vs : List V), Rs g M H vs ds → Rs g' M H vs ds
  | [], _, h => by cases h; exact .nil
  | d :: ds, _, h => by
    cases h with
    | cons p q => exact .cons (R.cast hK hc hh d _ p) (Rs.cast hK hc hh ds _ q)
end
mutual
theorem Ow.cast (hK : g'.K = g.K) (hc : g'.cl = g.cl) (hh : g'.hid = g.hid) : ∀ (s : SV) (v : V) (F : List Addr), Ow g M H v s F → Ow g' M H v s F
  | .fz d, _, _, h => by
    cases h with
    | fz r => exact .fz (R.cast hK hc hh d _ r)
  | .mu hd l, _, _, h => by
    cases h with
    | mu h1 h2 h3 => exact .mu h1 (by rw [hc]; exact h2) (Ows.cast hK hc hh l _ _ h3)
theorem Ows.cast (hK : g'.K = g.K) (hc : g'.cl = g.cl) (hh : g'.hid = g.hid) : ∀ (l : List SV) (vs : List V) (F : List Addr), Ows g M H vs l F → Ows g' M H vs l F
  | [], _, _, h => by cases h; exact .nil
  | s :: l, _, _, h => by
    cases h with
    | cons p q => exact .cons (Ow.cast hK hc hh s _ _ p) (Ows.cast hK hc hh l _ _ q)
end
theorem Sim.cast (hK : g'.K = g.K) (hc : g'.cl = g.cl) (hh : g'.hid = g.hid) (h : Sim g M0 φ τ σ H) : Sim g' M0 φ τ σ H :=
  ⟨h.len, fun i s q => by
    obtain ⟨v, a, b⟩ := h.at_ i s q
    exact ⟨v, a, Ow.cast hK hc hh _ _ _ b⟩, h.nd, h.dj, h.d0, h.al⟩
/-- a block's context: nothing is raised -/
abbrev gB (g : Gx) : Gx := { g with pin := [], ex := fun _ _ _ _ => False }
theorem Sim.blk (h : Sim g M0 φ τ σ H) : Sim (gB g) M0 φ τ σ H := Sim.cast (g := g) (g' := gB g) rfl rfl rfl h
theorem Sim.unblk (h : Sim (gB g) M0 φ τ σ H) : Sim g M0 φ τ σ H := Sim.cast (g := gB g) (g' := g) rfl rfl rfl h
theorem R.blk (h : R g M H v d) : R (gB g) M H v d := R.cast (g := g) (g' := gB g) rfl rfl rfl _ _ h
theorem R.unblk (h : R (gB g) M H v d) : R g M H v d := R.cast (g := gB g) (g' := g) rfl rfl rfl _ _ h
/-! the own names of a comprehension -/
def wipeT (τ : Tau) : List Nat → Tau
  | [] => τ
  | v :: vs => (wipeT τ vs).set v none
theorem Sim.wipe (h : Sim g M0 φ τ σ H) : ∀ vs : List Nat, Sim g M0 φ (wipeT τ vs) (wipe σ vs) H
  | [] => h
  | v :: vs => (h.wipe vs).drop
theorem wipeT_some {i : Nat} : ∀ {vs : List Nat}, (wipeT τ vs)[i]? = some (some s) → i ∉ vs ∧ τ[i]? = some (some s)
  | [], h => ⟨by simp, h⟩
  | v :: vs, h => by
    unfold wipeT at h
    by_cases e : v = i
    · subst e
      rw [List.getElem?_set, if_pos rfl] at h
      split at h <;> cases h
    · rw [List.getElem?_set_ne e] at h
      obtain ⟨a, b⟩ := wipeT_some h
      exact ⟨by simp [Ne.symm e, a], b⟩
theorem wipeT_len : ∀ vs : List Nat, (wipeT τ vs).length = τ.length
  | [] => rfl
  | v :: vs => by unfold wipeT; rw [List.length_set, wipeT_len vs]
/-- back to the def's slots -/
theorem Sim.back {vs : List Nat} (h : Sim g M0 φ τ σ1 H) (hl : σ.length = σ1.length) (o : ∀ j, j ∉ vs → σ1[j]? = σ[j]?) : Sim g M0 φ (wipeT τ vs) σ H :=
  ⟨by rw [wipeT_len, hl, h.len], fun i s q => by
    obtain ⟨ni, q⟩ := wipeT_some q
    obtain ⟨v, a, b⟩ := h.at_ i s q
    exact ⟨v, by rw [← o i ni]; exact a, b⟩, h.nd, h.dj, h.d0, h.al⟩
theorem wipe_out {i : Nat} : ∀ {vs : List Nat}, i ∉ vs → (wipe σ vs)[i]? = σ[i]?
  | [], _ => rfl
  | v :: vs, h => by
    unfold L2.wipe
    rw [List.getElem?_set_ne (fun e => h (by subst e; exact List.mem_cons_self))]
    exact wipe_out fun m => h (List.mem_cons_of_mem _ m)
theorem wipe_in {i : Nat} : ∀ {vs : List Nat}, i ∈ vs → i < σ.length → (wipe σ vs)[i]? = some none
  | v :: vs, h, hl => by
    unfold L2.wipe
    by_cases e : v = i
    · subst e
      rw [List.getElem?_set, if_pos rfl, if_pos (by rw [wipe_length]; exact hl)]
    · rw [List.getElem?_set_ne e]
      rcases List.mem_cons.mp h with h | h
      · exact absurd h.symm e
      · exact wipe_in h hl
theorem wipe_eq {vs : List Nat} (hl : σ2.length = σ.length) (o : ∀ j, j ∉ vs → σ2[j]? = (wipe σ vs)[j]?) : wipe σ2 vs = wipe σ vs := by
  apply List.ext_getElem?
  intro i
  by_cases h : i ∈ vs
  · by_cases hi : i < σ.length
    · rw [wipe_in h hi, wipe_in h (by rw [hl]; exact hi)]
    · rw [List.getElem?_eq_none (by rw [wipe_length, hl]; omega), List.getElem?_eq_none (by rw [wipe_length]; omega)]
  · rw [wipe_out h, o i h]
/-! one address more -/
theorem plus1 {D0 a : Addr} (h : plus M [D0] a) : M a ∨ a = D0 := h.imp id (by simp)
theorem Le.pl {D0 : Addr} (l : Le M H M1 H1) : Le (VS.plus M [D0]) H (VS.plus M1 [D0]) H1 :=
  ⟨l.ev.mono fun _ q => .inl q, fun a q => by
    rcases plus1 q with q | rfl
    · exact (l.grow a q).imp .inl id
    · exact .inl (.inr (by simp))⟩
/-- the address is written -/
theorem put_ev {D0 : Addr} {o o' : HO} (h : H D0 = some o) (k : kindO o' = kindO o) (n1 : kindO o ≠ 1) (n2 : kindO o ≠ 10) : Evp (· = D0) H (upd H D0 o') := by
  have := ev_p (Ev.put (o' := o') h k n1 n2)
  exact this.mono fun a m => by simpa using m
theorem Sim.put {D0 : Addr} {o o' : HO} (hs : Sim g (plus M0 [D0]) φ τ σ H) (h : H D0 = some o) (k : kindO o' = kindO o) (n1 : kindO o ≠ 1) (n2 : kindO o ≠ 10) : Sim g (plus M0 [D0]) φ τ σ (upd H D0 o') := by
  have e := put_ev h k n1 n2
  refine ⟨hs.len, fun i s q => ?_, hs.nd, hs.dj, hs.d0, fun a q => e.live (hs.al a q)⟩
  obtain ⟨v, a, b⟩ := hs.at_ i s q
  refine ⟨v, a, b.keep' e (fun a q => ?_) (fun a q => .inl q) fun a m q => ?_⟩
  · subst q; exact .inl (.inr (by simp))
  · subst q; exact hs.d0 i a m (.inr (by simp))
theorem put_le {D0 : Addr} {o o' : HO} (h : H D0 = some o) (k : kindO o' = kindO o) (n1 : kindO o ≠ 1) (n2 : kindO o ≠ 10) : Le (plus M [D0]) H (plus M [D0]) (upd H D0 o') :=
  ⟨(put_ev h k n1 n2).mono fun a q => .inr (by simpa using q), fun _ q => .inl q⟩
theorem mofp {D0 a : Addr} : Mof (plus M0 [D0]) φ a ↔ plus (Mof M0 φ) [D0] a := by
  rw [mof_plus]
  rfl
theorem Le.mof1 {D0 : Addr} (l : Le (plus (ran φ) [D0]) H (plus (ran φ1) [D0]) H1) : Le (Mof (plus M0 [D0]) φ) H (Mof (plus M0 [D0]) φ1) H1 :=
  ⟨l.ev.mono fun a q => by
    rcases plus1 q with q | rfl
    · exact .inr q
    · exact .inl (.inr (by simp)), fun a q => by
    rcases q with (q | q) | q
    · exact .inl (.inl (.inl q))
    · exact .inl (.inl (.inr q))
    · exact (l.grow a (.inl q)).imp (fun q => by
        rcases plus1 q with q | rfl
        · exact .inr q
        · exact .inl (.inr (by simp))) id⟩
end
/-! ### lists -/
def lcGo (t : TD) (c : CM Bool) (el : CM D) (vs : List Nat) : List D → List D → Tau → Option (List D × Tau)
  | [], acc, τ => some (acc, τ)
  | d :: r, acc, τ => match t d (wipeT τ vs) with
    | some τ1 => match c τ1 with
      | some (.ok true, τ2) => match el τ2 with
        | some (.ok y, τ3) => if acc.length < sizeLine then lcGo t c el vs r (acc ++ [y]) (wipeT τ3 vs) else none
        | _ => none
      | some (.ok false, τ2) => lcGo t c el vs r acc (wipeT τ2 vs)
      | _ => none
    | none => none
def mLc (vs : List Nat) (it : CM (List D)) (t : TD) (c : CM Bool) (el : CM D) : CM SV := bnd it fun l τ => (lcGo t c el vs l [] τ).map fun p => (.ok (.mu .lst (p.1.map .fz)), p.2)
def cYes : CM Bool := ret (some true)
section
variable {X : Cx} {g : Gx} {e : Expr} {φ : Nat → List Addr} {τ τ' : Tau} {σ : L2.St} {H H' : Hp}
theorem t_yes (σ : L2.St) (H : Hp) (Q : Bool → Hp → Prop) (h : rdT g cYes σ H Q) : tYes σ H Q := by
  obtain ⟨M0, φ, τ, r, τ', hs, hm, k⟩ := h
  obtain ⟨x, ex, rfl, rfl⟩ := ret_some hm
  cases ex
  exact k H ⟨φ, hs, .refl⟩
theorem le_lc {it : CM (List D)} {vs ws : List Nat} {t : TD} {c : CM Bool} {el : CM D} {tt : TT} (hw : ∀ i ∈ ws, i ∈ vs) (ht : ∀ σ H Q, rdT (gB g) c σ H Q → tt σ H Q) (σ : L2.St) (H : Hp) (Q : VK) (q : rdE g (mLc vs it t c el) σ H Q) :
    tLc (rdI g it) (rdG (gB g) ws t) tt (rdD (gB g) el) vs σ H Q := by
  obtain ⟨M0, φ, τ, rs, τ', hs, hm, k⟩ := q
  rcases bnd_some hm with ⟨items, τ1, e1, e2⟩ | ⟨c', fs, l, e1, rfl⟩
  · simp only [Option.map_eq_some_iff] at e2
    obtain ⟨⟨out, τf⟩, e2, e3⟩ := e2
    cases e3
    refine ⟨M0, φ, τ, _, _, hs, e1, fun J H1 φ1 hs1 l1 ok => ?_⟩
    intro D0 hD
    have ok1 : ∀ {φ' : Nat → List Addr} {H' : Hp}, Le (ran φ1) H1 (plus (ran φ') [D0]) H' → Le (Mof M0 φ1) H1 (Mof (plus M0 [D0]) φ') H' := fun {φ' H'} l =>
      ⟨l.ev.mono fun _ q => .inr q, fun a q => by
        rcases q with (q | q) | q
        · exact .inl (.inl q)
        · exact .inr (by simp at q; rw [q]; exact hD)
        · exact (l.grow a (.inl q)).imp .inr id⟩
    have hlive : upd H1 D0 (.lst []) D0 ≠ none := by rw [upd_same]; exact fun q => nomatch q
    refine ⟨fun i m Hc => m = items.length - i ∧ i ≤ items.length ∧ ∃ φ' τ2 acc xs, Sim g (plus M0 [D0]) φ' τ2 σ Hc ∧ Le (ran φ1) H1 (plus (ran φ') [D0]) Hc ∧ Hc D0 = some (.lst xs) ∧ Rs g (Mof (plus M0 [D0]) φ') Hc xs acc ∧ lcGo t c el vs (items.drop i) acc τ2 = some (out, τf), ⟨items.length, by simp, Nat.zero_le _, φ1, τ1, [], [], hs1.more (F := [D0]) (new0 hD) (fun a m => by simp at m; rw [m]; exact hD) (fun a m => by simp at m; rw [m]; exact hlive), .of0 (new0 hD) fun a q => (plus1 q).imp id fun e => by rw [e]; exact hD, upd_same, .nil, e2⟩, ?_⟩
    rintro i m Hc ⟨rfl, hi, φ', τ2, acc, xs, s2, l2, hDc, rs, e3⟩
    by_cases hlt : i < items.length
    · refine .inr ⟨ok.1 i _ Hc (ok1 l2) hlt, fun H3 => i + 1 ≤ items.length ∧ ∃ φ3 τ3 acc xs, Sim g (plus M0 [D0]) φ3 τ3 σ H3 ∧ Le (ran φ1) H1 (plus (ran φ3) [D0]) H3 ∧ H3 D0 = some (.lst xs) ∧ Rs g (Mof (plus M0 [D0]) φ3) H3 xs acc ∧ lcGo t c el vs (items.drop (i + 1)) acc τ3 = some (out, τf), fun H3 n => ⟨_, by omega, rfl, n⟩, fun x H3 y => ?_⟩
      obtain ⟨e0, d, hd, rx⟩ := ok.2.2 i _ Hc x H3 (ok1 l2) hlt y
      have hdrop : items.drop i = d :: items.drop (i + 1) := by
        rw [List.drop_eq_getElem_cons hlt]
        congr 1
        rw [List.getElem?_eq_getElem hlt] at hd
        exact Option.some.inj hd
      rw [hdrop] at e3
      unfold lcGo at e3
      split at e3
      · rename_i τ3 ht'
        have s3 := (s2.ev0 e0).wipe vs
        have l3 : Le (ran φ1) H1 (plus (ran φ') [D0]) H3 := l2.trans (.of0 e0 fun _ q => .inl q)
        have hD3 := e0.keep _ _ hDc id
        have rs3 := rs.ev0 e0
        refine ⟨plus M0 [D0], φ', wipeT τ2 vs, d, τ3, s3.blk, rx.blk, ht', fun σ4 φ4 s4 l4 len4 o4 => ?_⟩
        have s4 := s4.unblk
        have o4' : ∀ j, j ∉ vs → σ4[j]? = (wipe σ vs)[j]? := fun j hj => o4 j fun m => hj (hw j m)
        have len4' : σ4.length = σ.length := by rw [len4, wipe_length]
        refine ⟨wipe_eq len4' o4', ht _ _ _ ?_⟩
        have back : ∀ {τ5 : Tau} {φ5 : Nat → List Addr} {H5 : Hp}, Sim g (plus M0 [D0]) φ5 τ5 σ4 H5 → Sim g (plus M0 [D0]) φ5 (wipeT τ5 vs) σ H5 := fun s5 => s5.back len4'.symm fun j hj => (o4' j hj).trans (wipe_out hj)
        have l34 : Le (ran φ1) H1 (plus (ran φ4) [D0]) H3 := l3.trans (Le.pl l4)
        have rs4 := (Le.mof1 (M0 := M0) (D0 := D0) (Le.pl l4)).rs rs3
        have keepD : ∀ {φ5 φ6 : Nat → List Addr} {τ5 : Tau} {H5 H6 : Hp} {u : HO}, Sim g (plus M0 [D0]) φ5 τ5 σ4 H5 → Le (ran φ5) H5 (ran φ6) H6 → H5 D0 = some u → H6 D0 = some u := fun {φ5 φ6 τ5 H5 H6 u} s5 l5 h5 => l5.ev.keep _ _ h5 fun q => by
          obtain ⟨j, q⟩ := q
          exact s5.d0 j D0 q (.inr (by simp))
        split at e3
        · rename_i τ5 hc
          refine ⟨plus M0 [D0], φ4, τ3, _, _, s4.blk, hc, fun H5 q5 => ?_⟩
          obtain ⟨φ5, s5, l5⟩ := q5
          have s5 := s5.unblk
          rw [if_pos rfl]
          split at e3
          · rename_i y τ6 he
            split at e3
            · rename_i hz
              refine ⟨plus M0 [D0], φ5, τ5, _, _, s5.blk, he, fun v6 H6 q6 => ?_⟩
              obtain ⟨φ6, s6, r6, l6⟩ := q6
              have s6 := s6.unblk
              have hD5 := keepD s4 l5 hD3
              have hD6 := keepD s5 l6 hD5
              have rs6 := (le_mof l6).rs ((le_mof l5).rs rs4)
              have lp := put_le (M := ran φ6) (o' := .lst (xs ++ [v6])) hD6 rfl (by simp [kindO]) (by simp [kindO])
              refine ⟨xs, hD6, by rw [rs6.length]; exact hz, hlt, φ6, wipeT τ6 vs, acc ++ [y], xs ++ [v6], (back s6).put hD6 rfl (by simp [kindO]) (by simp [kindO]), ((l34.trans (Le.pl l5)).trans (Le.pl l6)).trans lp, upd_same, (Le.mof1 lp).rs (rs6.app (.cons r6.unblk .nil)), e3⟩
            · cases e3
          · cases e3
        · rename_i τ5 hc
          refine ⟨plus M0 [D0], φ4, τ3, _, _, s4.blk, hc, fun H5 q5 => ?_⟩
          obtain ⟨φ5, s5, l5⟩ := q5
          have s5 := s5.unblk
          rw [if_neg (by decide)]
          exact ⟨hlt, φ5, wipeT τ5 vs, acc, xs, back s5, l34.trans (Le.pl l5), keepD s4 l5 hD3, (le_mof l5).rs rs4, e3⟩
        · cases e3
      · cases e3
    · have e : i = items.length := by omega
      subst e
      rw [List.drop_of_length_le (Nat.le_refl _)] at e3
      cases e3
      refine .inl ⟨ok.2.1 _ Hc (ok1 l2), k _ Hc ⟨[D0], φ', s2, .mu hDc rfl rs.ws, List.nodup_cons.mpr ⟨List.not_mem_nil, .nil⟩, fun a m q => ?_, l1.trans l2⟩⟩
      simp at m
      subst m
      exact hs1.al a (.inl q) hD
  · exact ⟨M0, φ, τ, _, _, hs, e1, k⟩
theorem s_lc {it : CM (List D)} {vs ws : List Nat} {t : TD} {el : CM D} (hw : ∀ i ∈ ws, i ∈ vs) (h : PE X e (tLc (rdI g it) (rdG (gB g) ws t) tYes (rdD (gB g) el) vs)) : PE X e (rdE g (mLc vs it t cYes el)) := pe_le h (le_lc hw t_yes)
theorem s_lcIf {it : CM (List D)} {vs ws : List Nat} {t : TD} {c : CM Bool} {el : CM D} (hw : ∀ i ∈ ws, i ∈ vs) (h : PE X e (tLc (rdI g it) (rdG (gB g) ws t) (rdT (gB g) c) (rdD (gB g) el) vs)) : PE X e (rdE g (mLc vs it t c el)) := pe_le h (le_lc hw fun _ _ _ q => q)
theorem s_setLc {st : Stmt} {i : Nat} {it : CM (List D)} {vs ws : List Nat} {t : TD} {el : CM D} (hp : g.pin.contains i = false) (hw : ∀ i ∈ ws, i ∈ vs) (h : PS X st (tAsg (tLc (rdI g it) (rdG (gB g) ws t) tYes (rdD (gB g) el) vs) (gName i))) : PS X st (rdS g (sSet i (mLc vs it t cYes el))) :=
  s_set hp (ps_le h fun E σ H q => le_lc hw t_yes _ _ _ q)
theorem s_setLcIf {st : Stmt} {i : Nat} {it : CM (List D)} {vs ws : List Nat} {t : TD} {c : CM Bool} {el : CM D} (hp : g.pin.contains i = false) (hw : ∀ i ∈ ws, i ∈ vs) (h : PS X st (tAsg (tLc (rdI g it) (rdG (gB g) ws t) (rdT (gB g) c) (rdD (gB g) el) vs) (gName i))) : PS X st (rdS g (sSet i (mLc vs it t c el))) :=
  s_set hp (ps_le h fun E σ H q => le_lc hw (fun _ _ _ q => q) _ _ _ q)
end
end VS

/-! ## S12: defs and their calls -/
namespace VS
open PySem PySem.Spec PyProof.Rows L2
abbrev Fn := List SV → Option (Res SV × List SV)
/-- what the arguments have become: those at pinned slots as they stand, the others unchanged data -/
def outs (pin : List Nat) (τ' : Tau) : Nat → List SV → Option (List SV)
  | _, [] => some []
  | i, s :: r => if pin.contains i = true then
      match τ'[i]? with
      | some (some s') => (outs pin τ' (i + 1) r).map (s' :: ·)
      | _ => none
    else match s with
      | .fz d => (outs pin τ' (i + 1) r).map (.fz d :: ·)
      | .mu _ _ => none
def mkFn (n : Nat) (pin : List Nat) (body : SC) : Fn := fun args => match body (args.map some ++ List.replicate (n - args.length) none) with
  | some (.rt s, τ') => (outs pin τ' 0 args).map fun o => (.ok s, o)
  | some (.nx, τ') => (outs pin τ' 0 args).map fun o => (.ok (.fz .non), o)
  | some (.ex c fs l, τ') => (outs pin τ' 0 args).map fun o => (.ex c fs l, o)
  | _ => none
/-- a context without frame -/
abbrev gK (K : PySem.W.Frag) (cl : Nat → Addr) (hid : Nat → List Str) : Gx := ⟨K, cl, hid, [], fun _ _ _ _ => False⟩
def spF (g : Gx) (F : Fn) : Sp := fun vs H Q E => ∃ M0 φ args r os, Sim g M0 φ (args.map some) (vs.map some) H ∧ F args = some (r, os) ∧
  match r with
  | .ok s => ∀ v H', EOk g M0 φ H (vs.map some) s (os.map some) v H' → Q v H'
  | .ex c fs l => ∀ d H', XOk g M0 φ H (vs.map some) fs l (os.map some) d H' → E (.ref (g.cl c)) d H'
section
variable {X : Cx} {g g' : Gx} {e : Expr} {es : List Expr} {M M0 M1 : Ad} {φ φ1 φ2 : Nat → List Addr} {τ τ' : Tau} {σ σ1 σ2 : L2.St} {H H' H1 : Hp} {v x y : V} {vs : List V} {d : D} {ds : List D} {s : SV} {l : List SV} {F : List Addr} {args os : List SV}
theorem outs_len {pin : List Nat} : ∀ {i : Nat} {args os : List SV}, outs pin τ' i args = some os → os.length = args.length
  | _, [], _, h => by cases h; rfl
  | i, s :: r, os, h => by
    unfold outs at h
    split at h
    · split at h
      · simp only [Option.map_eq_some_iff] at h
        obtain ⟨o, h, rfl⟩ := h
        simp [outs_len h]
      · cases h
    · split at h
      · simp only [Option.map_eq_some_iff] at h
        obtain ⟨o, h, rfl⟩ := h
        simp [outs_len h]
      · cases h
theorem outs_at {pin : List Nat} : ∀ {i : Nat} {args os : List SV}, outs pin τ' i args = some os → ∀ {k : Nat} {s : SV}, os[k]? = some s → (i + k ∈ pin ∧ τ'[i + k]? = some (some s)) ∨ ∃ d, s = .fz d ∧ args[k]? = some (.fz d) ∧ pin.contains (i + k) = false
  | _, [], _, h, k, s, e => by cases h; simp at e
  | i, s0 :: r, os, h, k, s, e => by
    unfold outs at h
    split at h
    · rename_i hp
      split at h
      · rename_i s' hs'
        simp only [Option.map_eq_some_iff] at h
        obtain ⟨o, h, rfl⟩ := h
        cases k with
        | zero =>
          cases e
          exact .inl ⟨List.contains_iff_mem.mp hp, hs'⟩
        | succ k =>
          have := outs_at h (k := k) (s := s) e
          rw [show i + 1 + k = i + (k + 1) by omega] at this
          exact this
      · cases h
    · rename_i hnp
      split at h
      · rename_i d
        simp only [Option.map_eq_some_iff] at h
        obtain ⟨o, h, rfl⟩ := h
        cases k with
        | zero =>
          cases e
          exact .inr ⟨d, rfl, rfl, by simpa using hnp⟩
        | succ k =>
          have := outs_at h (k := k) (s := s) e
          rw [show i + 1 + k = i + (k + 1) by omega] at this
          exact this
      · cases h
theorem map_some_at {α : Type} {l : List α} {i : Nat} {a : α} : (l.map some)[i]? = some (some a) ↔ l[i]? = some a := by
  rw [List.getElem?_map]
  cases l[i]? <;> simp
/-- a frame's slots, from the arguments -/
theorem Sim.start {n : Nat} (h : Sim g M0 φ (args.map some) (vs.map some) H) : Sim g M0 φ (args.map some ++ List.replicate (n - args.length) none) (vs.map some ++ List.replicate (n - vs.length) none) H := by
  have hl : vs.length = args.length := by have := h.len; simpa using this
  refine ⟨by simp [hl], fun i s q => ?_, h.nd, h.dj, h.d0, h.al⟩
  by_cases hi : i < (args.map some).length
  · rw [List.getElem?_append_left hi] at q
    obtain ⟨v, a, b⟩ := h.at_ i s q
    exact ⟨v, by rw [List.getElem?_append_left (by rw [h.len]; exact hi)]; exact a, b⟩
  · rw [List.getElem?_append_right (by omega), List.getElem?_replicate] at q
    split at q <;> cases q
/-- .. and back -/
def pinF (pin : List Nat) (φ : Nat → List Addr) : Nat → List Addr := fun i => if pin.contains i = true then φ i else []
theorem pinF_sub {pin : List Nat} {i : Nat} {a : Addr} (h : a ∈ pinF pin φ i) : a ∈ φ i ∧ pin.contains i = true := by
  unfold pinF at h
  split at h
  · exact ⟨h, by assumption⟩
  · cases h
theorem pinF_mof {pin : List Nat} {a : Addr} (h : Mof M0 (pinF pin φ) a) : Mof M0 φ a := by
  rcases h with h | ⟨i, h⟩
  · exact .inl h
  · exact .inr ⟨i, (pinF_sub h).1⟩
theorem Sim.stop {n : Nat} {pin : List Nat} (h0 : Sim g M0 φ (args.map some) (vs.map some) H) (l : Le (ran φ) H (ran φ1) H1) (h : Sim g M1 φ1 τ' σ1 H1) (ho : outs pin τ' 0 args = some os)
    (hp : ∀ i ∈ pin, σ1[i]? = (vs.map some ++ List.replicate (n - vs.length) none)[i]?) (gr : ∀ a, M1 a → M0 a ∨ H a = none ∨ ran φ a) : Sim g M1 (pinF pin φ1) (os.map some) (vs.map some) H1 := by
  have hl : vs.length = args.length := by have := h0.len; simpa using this
  refine ⟨by simp [hl, outs_len ho], fun i s q => ?_, fun i => ?_, fun i j a p q => h.dj i j a (pinF_sub p).1 (pinF_sub q).1, fun i a p => h.d0 i a (pinF_sub p).1, fun a q => h.al a (pinF_mof q)⟩
  · rw [map_some_at] at q
    have hi' : i < args.length := by rw [← outs_len ho]; exact (List.getElem?_eq_some_iff.mp q).1
    have shrink : ∀ {v : V} {F : List Addr}, Ow g (Mof M1 φ1) H1 v s F → Ow g (Mof M1 (pinF pin φ1)) H1 v s F := fun w => w.sub fun a q => pinF_mof q
    rcases outs_at ho q with ⟨hi, e⟩ | ⟨d, rfl, e, hnp⟩
    · rw [Nat.zero_add] at hi e
      obtain ⟨v, a, b⟩ := h.at_ i s e
      refine ⟨v, ?_, ?_⟩
      · rw [hp i hi, List.getElem?_append_left (by simp [hl, hi'])] at a
        exact a
      · unfold pinF
        rw [if_pos (List.contains_iff_mem.mpr hi)]
        exact shrink b
    · obtain ⟨v, a, b⟩ := h0.at_ i (.fz d) (map_some_at.mpr e)
      have r := (ow_fz b).1
      have r1 : R g (Mof M1 φ1) H1 v d := Le.r ⟨l.ev.mono fun _ q => .inr q, fun a q => by
        rcases q with q | q
        · rcases gr a q with q | q | q
          · exact .inl (.inl q)
          · exact .inr q
          · exact .inl (.inr q)
        · exact (l.grow a q).imp .inr id⟩ r
      refine ⟨v, a, ?_⟩
      unfold pinF
      rw [Nat.zero_add] at hnp
      rw [if_neg (by rw [hnp]; decide)]
      exact shrink (.fz r1)
  · unfold pinF
    split
    · exact h.nd i
    · exact .nil
end
end VS

/-! ## S13: a def keeps its promise; calls -/
namespace VS
open PySem PySem.Spec PyProof.Rows L2
section
variable {P : Program} {w : World} {K : PySem.W.Frag} {mg : Str → Option Value} {base : Heap}
/-- a frame's context -/
abbrev gF (K : PySem.W.Frag) (cl : Nat → Addr) (hid : Nat → List Str) (pin : List Nat) (E : XK) : Gx := ⟨K, cl, hid, pin, fun _ => E⟩
theorem spF_len {g : Gx} {F : Fn} {ps : List Str} (hl : ∀ args r, F args = some r → args.length = ps.length) (vs : List V) (H : Hp) (Q : VK) (E : XK) (h : spF g F vs H Q E) : vs.length = ps.length := by
  obtain ⟨M0, φ, args, r, os, hs, hf, _⟩ := h
  rw [← hl args _ hf]
  have := hs.len
  simpa using this
/-- a def of so many parameters -/
def ary (n : Nat) (F : Fn) : Fn := fun args => if args.length = n then F args else none
theorem fn_S {x qual : Str} {st : Stmt} {f : Addr} {fd : FuncData} {N ps : List Str} {k : Nat} {cl : Nat → Addr} {hid : Nat → List Str} {m : SC} {pin : List Nat} {n na : Nat} (F : Fun K x qual st f fd) (S : FnScope N ps (defScope st)) (hn : N.length = n) (hna : ps.length = na)
    (hbody : ∀ (cdv : Value) (A : Around) (outer : List Env) (s : Shared) (H : Hp) (E : XK), Room k (A.deeper (envOfC qual (defScope st) s.heap.objs.size f cdv)) →
      PSs (cxOf (L2.CX P w) P w K mg base N qual (defScope st) f cdv A outer s H E) (defBody st) (rdS (gF K cl hid pin E) m)) : FnOk P w K mg base (L2.CX P w) (k + 1) f fd ps (spF (gK K cl hid) (ary na (mkFn n pin m))) := by
  subst hn hna
  have hary : ∀ args r, ary ps.length (mkFn N.length pin m) args = some r → args.length = ps.length ∧ mkFn N.length pin m args = some r := fun args r h => by
    unfold ary at h
    split at h
    · exact ⟨by assumption, h⟩
    · cases h
  refine F.okX S (fun vs H Q E h => spF_len (fun args r h => (hary args r h).1) vs H Q E h) (fun cdv A outer s H vs Q E hr h => ⟨_, hbody cdv A outer s H E hr, ?_⟩)
  obtain ⟨M0, φ, args, r, os, hs, hf, kk⟩ := h
  have hf := (hary _ _ hf).2
  have hl : vs.length = args.length := by have := hs.len; simpa using this
  have hs' : Sim (gF K cl hid pin E) M0 φ (args.map some) (vs.map some) H := Sim.cast (g := gK K cl hid) (g' := gF K cl hid pin E) rfl rfl rfl hs
  have s0 : Sim (gF K cl hid pin E) M0 φ (args.map some ++ List.replicate (N.length - args.length) none) (start N vs) H := hs'.start
  have cast : ∀ {φ1 : Nat → List Addr} {τ1 : Tau} {σ1 : L2.St} {H1 : Hp} {M1 : Ad}, Sim (gF K cl hid pin E) M1 φ1 τ1 σ1 H1 → Sim (gK K cl hid) M1 φ1 τ1 σ1 H1 := fun h => Sim.cast (g := gF K cl hid pin E) (g' := gK K cl hid) rfl rfl rfl h
  have lpin : ∀ {φ1 : Nat → List Addr} {H1 : Hp} {F1 : List Addr}, Le (ran φ) H (plus (ran φ1) F1) H1 → Le (ran φ) H (plus (ran (pinF pin φ1)) F1) H1 := fun l => ⟨l.ev, fun a q => l.grow a (q.imp (fun ⟨i, q⟩ => ⟨i, (pinF_sub q).1⟩) id)⟩
  have lpin0 : ∀ {φ1 : Nat → List Addr} {H1 : Hp}, Le (ran φ) H (ran φ1) H1 → Le (ran φ) H (ran (pinF pin φ1)) H1 := fun l => ⟨l.ev, fun a ⟨i, q⟩ => l.grow a ⟨i, (pinF_sub q).1⟩⟩
  refine rdS_iff.mpr ?_
  unfold mkFn at hf
  split at hf
  · rename_i s1 τ' hb
    simp only [Option.map_eq_some_iff] at hf
    obtain ⟨o, ho, e⟩ := hf
    cases e
    refine ⟨M0, φ, _, _, _, s0, hb, fun σ' v H' q => kk v H' ?_⟩
    obtain ⟨⟨F1, φ1, s1, w1, nd, n0, l1⟩, hp⟩ := q
    have l1' : Le (ran φ) H (ran φ1) H' := ⟨l1.ev, fun a q => l1.grow a (.inl q)⟩
    have s2 := Sim.stop (n := N.length) hs' l1' s1 ho hp fun a q => by
      rcases q with q | q
      · exact .inl q
      · exact .inr ((l1.grow a (.inr q)).symm)
    exact ⟨F1, pinF pin φ1, cast s2, (Ow.cast (g := gF K cl hid pin E) (g' := gK K cl hid) rfl rfl rfl _ _ _ w1).sub fun a q => pinF_mof q, nd, n0, lpin l1⟩
  · rename_i τ' hb
    simp only [Option.map_eq_some_iff] at hf
    obtain ⟨o, ho, e⟩ := hf
    cases e
    refine ⟨M0, φ, _, _, _, s0, hb, fun σ' H' q => kk _ H' ?_⟩
    obtain ⟨⟨φ1, s1, l1⟩, hp⟩ := q
    have s2 := Sim.stop (n := N.length) hs' l1 s1 ho hp fun a q => .inl q
    exact DOk.up ⟨pinF pin φ1, cast s2, .non, lpin0 l1⟩
  · rename_i c fs l τ' hb
    simp only [Option.map_eq_some_iff] at hf
    obtain ⟨o, ho, e⟩ := hf
    cases e
    refine ⟨M0, φ, _, _, _, s0, hb, fun σ' d H' q => kk d H' ?_⟩
    obtain ⟨⟨φ1, s1, x1, l1⟩, hp⟩ := q
    have s2 := Sim.stop (n := N.length) hs' l1 s1 ho hp fun a q => .inl q
    refine ⟨pinF pin φ1, cast s2, ?_, lpin0 l1⟩
    rcases x1 with x1 | ⟨p, fsr, xs, e, hp, n, hl, q, r⟩
    · exact .inl x1
    · exact .inr ⟨p, fsr, xs, e, hp, fun q => n (pinF_mof q), hl, q, Rs.cast (g := gF K cl hid pin E) (g' := gK K cl hid) rfl rfl rfl _ _ ((Le.sub fun a q => pinF_mof q).rs r)⟩
  · cases hf
end
/-! ### arguments: data, or a slot's own object -/
inductive Arg where
  | d (d : D)
  | n (i : Nat)
inductive ArgR (g : Gx) (M : Ad) (H : Hp) (σ : L2.St) : V → Arg → Prop
  | d {v : V} {d : D} : R g M H v d → ArgR g M H σ v (.d d)
  | n {v : V} {i : Nat} : σ[i]? = some (some v) → ArgR g M H σ v (.n i)
abbrev ArgsR (g : Gx) (M : Ad) (H : Hp) (σ : L2.St) : List V → List Arg → Prop := Paired (ArgR g M H σ)
section
variable {X : Cx} {g : Gx} {e : Expr} {es : List Expr} {M M0 M1 : Ad} {φ φ1 φ2 : Nat → List Addr} {τ τ' : Tau} {σ σ1 σ2 : L2.St} {H H' H1 : Hp} {v x y : V} {vs : List V} {d : D} {ds : List D} {s : SV} {l : List SV} {F : List Addr} {as : List Arg}
theorem ArgsR.le (q : Le M H M1 H1) (h : ArgsR g M H σ vs as) : ArgsR g M1 H1 σ vs as := by
  induction h with
  | nil => exact .nil
  | cons p _ ih =>
    refine .cons ?_ ih
    cases p with
    | d r => exact .d (q.r r)
    | n e => exact .n e
def rdR (g : Gx) (m : CM (List Arg)) : TA := fun σ H Q => ∃ M0 φ τ r τ', Sim g M0 φ τ σ H ∧ m τ = some (r, τ') ∧
  match r with
  | .ok s => ∀ v H' φ', Sim g M0 φ' τ' σ H' → ArgsR g (Mof M0 φ') H' σ v s → Le (ran φ) H (ran φ') H' → Q v H'
  | .ex c fs l => ∀ d H', XOk g M0 φ H σ fs l τ' d H' → g.ex σ (.ref (g.cl c)) d H'
def rNil : CM (List Arg) := ret (some [])
def rD (a : CM D) (r : CM (List Arg)) : CM (List Arg) := bnd a fun x => bnd r fun xs => ret (some (.d x :: xs))
/-- a name: what is one's own is lent, data is handed on -/
def rN (i : Nat) (r : CM (List Arg)) : CM (List Arg) := fun τ => match τ[i]? with
  | some (some (.fz d)) => bnd r (fun xs => ret (some (.d d :: xs))) τ
  | some (some (.mu _ _)) => bnd r (fun xs => ret (some (.n i :: xs))) τ
  | _ => none
theorem r_nil (h : PA X es tNil) : PA X es (rdR g rNil) := pa_le h fun σ H Q q => by
  obtain ⟨M0, φ, τ, r, τ', hs, hm, k⟩ := q
  obtain ⟨x, ex, rfl, rfl⟩ := ret_some hm
  cases ex
  exact k [] H φ hs .nil .refl
theorem r_d {a : CM D} {r : CM (List Arg)} (h : PA X es (tCons (rdD g a) (rdR g r))) : PA X es (rdR g (rD a r)) := pa_le h fun σ H Q q => by
  obtain ⟨M0, φ, τ, rs, τ', hs, hm, k⟩ := q
  rcases bnd_some hm with ⟨x, τ1, e1, e2⟩ | ⟨c, fs, l, e1, rfl⟩
  · refine ⟨M0, φ, τ, _, _, hs, e1, fun v1 H1 q1 => ?_⟩
    obtain ⟨φ1, hs1, r1, l1⟩ := q1
    rcases bnd_some e2 with ⟨y, τ2, e3, e4⟩ | ⟨c, fs, l, e3, rfl⟩
    · refine ⟨M0, φ1, τ1, _, _, hs1, e3, fun v2 H2 φ2 hs2 r2 l2 => ?_⟩
      obtain ⟨s, es, rfl, rfl⟩ := ret_some e4
      cases es
      exact k _ H2 φ2 hs2 (.cons (.d ((le_mof l2).r r1)) r2) (l1.trans l2)
    · exact ⟨M0, φ1, τ1, _, _, hs1, e3, fun d H' q => k d H' (q.after l1)⟩
  · exact ⟨M0, φ, τ, _, _, hs, e1, k⟩
theorem r_n {i : Nat} {r : CM (List Arg)} (h : PA X es (tCons (tVar i) (rdR g r))) : PA X es (rdR g (rN i r)) := pa_le h fun σ H Q q => by
  obtain ⟨M0, φ, τ, rs, τ', hs, hm, k⟩ := q
  unfold rN at hm
  split at hm
  · rename_i d hi
    obtain ⟨v, hv, rv⟩ := hs.fz hi
    refine ⟨v, hv, ?_⟩
    rcases bnd_some hm with ⟨y, τ2, e3, e4⟩ | ⟨c, fs, l, e3, rfl⟩
    · refine ⟨M0, φ, τ, _, _, hs, e3, fun v2 H2 φ2 hs2 r2 l2 => ?_⟩
      obtain ⟨s, es, rfl, rfl⟩ := ret_some e4
      cases es
      exact k _ H2 φ2 hs2 (.cons (.d ((le_mof l2).r rv)) r2) l2
    · exact ⟨M0, φ, τ, _, _, hs, e3, k⟩
  · rename_i hd l hi
    obtain ⟨v, hv, w⟩ := hs.at_ _ _ hi
    refine ⟨v, hv, ?_⟩
    rcases bnd_some hm with ⟨y, τ2, e3, e4⟩ | ⟨c, fs, l, e3, rfl⟩
    · refine ⟨M0, φ, τ, _, _, hs, e3, fun v2 H2 φ2 hs2 r2 l2 => ?_⟩
      obtain ⟨s, es, rfl, rfl⟩ := ret_some e4
      cases es
      exact k _ H2 φ2 hs2 (.cons (.n hv) r2) l2
    · exact ⟨M0, φ, τ, _, _, hs, e3, k⟩
  · cases hm
/-! the slots that are lent -/
def lent : List Arg → List (Option Nat)
  | [] => []
  | .d _ :: r => none :: lent r
  | .n i :: r => some i :: lent r
def posOf : List (Option Nat) → Nat → Option Nat
  | [], _ => none
  | o :: r, i => if o = some i then some 0 else (posOf r i).map (· + 1)
theorem posOf_some : ∀ {ns : List (Option Nat)} {i k : Nat}, posOf ns i = some k → ns[k]? = some (some i)
  | [], _, _, h => by cases h
  | o :: r, i, k, h => by
    unfold posOf at h
    split at h
    · rename_i e
      cases h
      rw [e]; rfl
    · simp only [Option.map_eq_some_iff] at h
      obtain ⟨k', h, rfl⟩ := h
      exact posOf_some (ns := r) h
theorem posOf_none : ∀ {ns : List (Option Nat)} {i k : Nat}, posOf ns i = none → ns[k]? ≠ some (some i)
  | [], _, k, h => by simp
  | o :: r, i, k, h => by
    unfold posOf at h
    split at h
    · cases h
    · rename_i e
      cases k with
      | zero => simpa using e
      | succ k =>
        simp only [Option.map_eq_none_iff] at h
        exact posOf_none (ns := r) (k := k) h
/-- no slot twice -/
def once : List (Option Nat) → Bool
  | [] => true
  | none :: r => once r
  | some i :: r => !(r.contains (some i)) && once r
theorem once_pos : ∀ {ns : List (Option Nat)} {i k : Nat}, once ns = true → ns[k]? = some (some i) → posOf ns i = some k
  | [], _, _, _, h => by simp at h
  | o :: r, i, 0, h, e => by
    simp at e
    subst e
    simp [posOf]
  | o :: r, i, k + 1, h, e => by
    have e' : r[k]? = some (some i) := by simpa using e
    have ho : o ≠ some i := by
      rintro rfl
      have h' : (!(r.contains (some i)) && once r) = true := h
      rw [Bool.and_eq_true] at h'
      have m : some i ∈ r := List.mem_of_getElem? e'
      rw [List.contains_iff_mem.mpr m] at h'
      exact absurd h'.1 (by decide)
    have hr : once r = true := by
      cases o with
      | none => exact h
      | some j =>
        have h' : (!(r.contains (some j)) && once r) = true := h
        rw [Bool.and_eq_true] at h'
        exact h'.2
    unfold posOf
    rw [if_neg ho, once_pos hr e']
    rfl
/-- what stands at the arguments -/
def svsOf (τ : Tau) : List Arg → Option (List SV)
  | [] => some []
  | .d d :: r => (svsOf τ r).map (.fz d :: ·)
  | .n i :: r => match τ[i]? with
    | some (some s) => (svsOf τ r).map (s :: ·)
    | _ => none
/-- what they have become is written back -/
def wb : List (Option Nat) → List SV → Tau → Tau
  | some i :: ns, s :: os, τ => wb ns os (τ.set i (some s))
  | none :: ns, _ :: os, τ => wb ns os τ
  | _, _, τ => τ
theorem wb_len : ∀ (ns : List (Option Nat)) (os : List SV) (τ : Tau), (wb ns os τ).length = τ.length
  | [], _, _ => by cases ‹List SV› <;> rfl
  | some i :: ns, s :: os, τ => by
    show (wb ns os (τ.set i (some s))).length = _
    rw [wb_len ns os, List.length_set]
  | none :: ns, _ :: os, τ => wb_len ns os τ
  | some i :: ns, [], τ => rfl
  | none :: ns, [], τ => rfl
theorem wb_other : ∀ {ns : List (Option Nat)} {os : List SV} {τ : Tau} {i : Nat}, posOf ns i = none → (wb ns os τ)[i]? = τ[i]?
  | [], os, _, _, _ => by cases os <;> rfl
  | some j :: ns, s :: os, τ, i, h => by
    show (wb ns os (τ.set j (some s)))[i]? = _
    unfold posOf at h
    split at h
    · cases h
    · rename_i e
      simp only [Option.map_eq_none_iff] at h
      rw [wb_other h, List.getElem?_set_ne]
      rintro rfl
      exact e rfl
  | none :: ns, _ :: os, τ, i, h => by
    show (wb ns os τ)[i]? = _
    unfold posOf at h
    rw [if_neg (by simp)] at h
    simp only [Option.map_eq_none_iff] at h
    exact wb_other h
  | some i :: ns, [], τ, _, _ => rfl
  | none :: ns, [], τ, _, _ => rfl
theorem wb_at : ∀ {ns : List (Option Nat)} {os : List SV} {τ : Tau} {i k : Nat} {s : SV}, once ns = true → posOf ns i = some k → os[k]? = some s → i < τ.length → (wb ns os τ)[i]? = some (some s)
  | [], _, _, _, _, _, _, h, _, _ => by cases h
  | o :: ns, [], _, _, _, _, _, _, h, _ => by simp at h
  | some j :: ns, s0 :: os, τ, i, k, s, h1, h, hs, hl => by
    show (wb ns os (τ.set j (some s0)))[i]? = _
    have h1' : (!(ns.contains (some j)) && once ns) = true := h1
    rw [Bool.and_eq_true] at h1'
    unfold posOf at h
    split at h
    · rename_i e
      cases h
      cases e
      simp at hs
      subst hs
      have hn : posOf ns j = none := by
        cases q : posOf ns j with
        | none => rfl
        | some k =>
          have m : some j ∈ ns := List.mem_of_getElem? (posOf_some q)
          rw [List.contains_iff_mem.mpr m] at h1'
          exact absurd h1'.1 (by decide)
      rw [wb_other hn, List.getElem?_set, if_pos rfl, if_pos hl]
    · simp only [Option.map_eq_some_iff] at h
      obtain ⟨k', h, rfl⟩ := h
      exact wb_at h1'.2 h (by simpa using hs) (by rw [List.length_set]; exact hl)
  | none :: ns, s0 :: os, τ, i, k, s, h1, h, hs, hl => by
    show (wb ns os τ)[i]? = _
    unfold posOf at h
    rw [if_neg (by simp)] at h
    simp only [Option.map_eq_some_iff] at h
    obtain ⟨k', h, rfl⟩ := h
    exact wb_at (show once ns = true from h1) h (by simpa using hs) hl
end
end VS

/-! ## S14: calls of own defs -/
namespace VS
open PySem PySem.Spec PyProof.Rows L2
def callT (F : Fn) (args : List Arg) (τ : Tau) : Option (Res SV × Tau) :=
  if once (lent args) = true then (svsOf τ args).bind fun svs => (F svs).bind fun p => if p.2.length = args.length then some (p.1, wb (lent args) p.2 τ) else none else none
def mCall (F : Fn) (as : CM (List Arg)) : CM SV := bnd as fun args τ => callT F args τ
section
variable {X : Cx} {g : Gx} {e : Expr} {es : List Expr} {M M0 M1 : Ad} {φ φ1 φ2 φ' : Nat → List Addr} {τ τ' : Tau} {σ σ1 σ2 : L2.St} {H H' H1 : Hp} {v x y : V} {vs : List V} {d : D} {ds : List D} {s : SV} {l : List SV} {F : List Addr} {as : List Arg} {svs os : List SV}
theorem lent_at : ∀ {as : List Arg} {k i : Nat}, (lent as)[k]? = some (some i) → as[k]? = some (.n i)
  | [], k, i, h => by simp [lent] at h
  | .d d :: r, 0, i, h => by simp [lent] at h
  | .n j :: r, 0, i, h => by simp [lent] at h; subst h; rfl
  | .d d :: r, k + 1, i, h => by simpa using lent_at (as := r) (by simpa [lent] using h)
  | .n j :: r, k + 1, i, h => by simpa using lent_at (as := r) (by simpa [lent] using h)
theorem lent_of : ∀ {as : List Arg} {k i : Nat}, as[k]? = some (.n i) → (lent as)[k]? = some (some i)
  | [], k, i, h => by simp at h
  | .d d :: r, 0, i, h => by simp at h
  | .n j :: r, 0, i, h => by simp at h; subst h; rfl
  | .d d :: r, k + 1, i, h => by simpa [lent] using lent_of (as := r) (by simpa using h)
  | .n j :: r, k + 1, i, h => by simpa [lent] using lent_of (as := r) (by simpa using h)
theorem svs_at : ∀ {as : List Arg} {svs : List SV}, svsOf τ as = some svs → ∀ {k : Nat} {s : SV}, svs[k]? = some s → (∃ d, as[k]? = some (.d d) ∧ s = .fz d) ∨ ∃ i, as[k]? = some (.n i) ∧ τ[i]? = some (some s)
  | [], _, h, k, s, e => by cases h; simp at e
  | .d d :: r, svs, h, k, s, e => by
    simp only [svsOf, Option.map_eq_some_iff] at h
    obtain ⟨svs', h, rfl⟩ := h
    cases k with
    | zero => simp at e; subst e; exact .inl ⟨d, rfl, rfl⟩
    | succ k => exact svs_at h (by simpa using e)
  | .n i :: r, svs, h, k, s, e => by
    unfold svsOf at h
    split at h
    · rename_i s0 h0
      simp only [Option.map_eq_some_iff] at h
      obtain ⟨svs', h, rfl⟩ := h
      cases k with
      | zero => simp at e; subst e; exact .inr ⟨i, rfl, h0⟩
      | succ k => exact svs_at h (by simpa using e)
    · cases h
theorem svs_len : ∀ {as : List Arg} {svs : List SV}, svsOf τ as = some svs → svs.length = as.length
  | [], _, h => by cases h; rfl
  | .d d :: r, svs, h => by
    simp only [svsOf, Option.map_eq_some_iff] at h
    obtain ⟨svs', h, rfl⟩ := h
    simp [svs_len h]
  | .n i :: r, svs, h => by
    unfold svsOf at h
    split at h
    · simp only [Option.map_eq_some_iff] at h
      obtain ⟨svs', h, rfl⟩ := h
      simp [svs_len h]
    · cases h
theorem argsR_at : ∀ {vs : List V} {as : List Arg}, ArgsR g M H σ vs as → ∀ {k : Nat} {a : Arg}, as[k]? = some a → ∃ v, vs[k]? = some v ∧ ArgR g M H σ v a
  | _, _, .nil, k, a, e => by simp at e
  | _, _, .cons p q, 0, a, e => by simp at e; subst e; exact ⟨_, rfl, p⟩
  | _, _, .cons p q, k + 1, a, e => by
    obtain ⟨v, h1, h2⟩ := argsR_at q (k := k) (by simpa using e)
    exact ⟨v, by simpa using h1, h2⟩
/-- the callee's footprints, what it may not touch -/
def phiC (ns : List (Option Nat)) (φ : Nat → List Addr) : Nat → List Addr := fun k => match ns[k]? with
  | some (some i) => φ i
  | _ => []
def M0C (ns : List (Option Nat)) (M0 : Ad) (φ : Nat → List Addr) : Ad := fun a => Mof M0 φ a ∧ ∀ i k, posOf ns i = some k → a ∉ φ i
/-- the caller's footprints behind the call -/
def phiB (ns : List (Option Nat)) (φ φ' : Nat → List Addr) : Nat → List Addr := fun i => match posOf ns i with
  | some k => φ' k
  | none => φ i
theorem phiC_mem {ns : List (Option Nat)} {k : Nat} {a : Addr} (h : a ∈ phiC ns φ k) : ∃ i, ns[k]? = some (some i) ∧ a ∈ φ i := by
  unfold phiC at h
  split at h
  · exact ⟨_, by assumption, h⟩
  · cases h
theorem call_in (hs : Sim g M0 φ τ σ H) (ha : ArgsR g (Mof M0 φ) H σ vs as) (ho : once (lent as) = true) (hv : svsOf τ as = some svs) : Sim g (M0C (lent as) M0 φ) (phiC (lent as) φ) (svs.map some) (vs.map some) H := by
  have sub : ∀ a, Mof (M0C (lent as) M0 φ) (phiC (lent as) φ) a → Mof M0 φ a := fun a q => by
    rcases q with q | ⟨k, q⟩
    · exact q.1
    · obtain ⟨i, _, q⟩ := phiC_mem q
      exact .inr ⟨i, q⟩
  have hl : vs.length = as.length := Paired.length ha
  refine ⟨by simp [hl, svs_len hv], fun k s q => ?_, fun k => ?_, fun k j a p q => ?_, fun k a p q => ?_, fun a q => hs.al a (sub a q)⟩
  · rw [map_some_at] at q
    rcases svs_at hv q with ⟨d, e, rfl⟩ | ⟨i, e, e2⟩
    · obtain ⟨v, h1, h2⟩ := argsR_at ha e
      refine ⟨v, map_some_at.mpr h1, ?_⟩
      have : phiC (lent as) φ k = [] := by
        unfold phiC
        split
        · rename_i i h
          rw [lent_at h] at e; cases e
        · rfl
      rw [this]
      cases h2 with
      | d r => exact .fz ((Le.sub sub).r r)
    · obtain ⟨v, h1, h2⟩ := argsR_at ha e
      refine ⟨v, map_some_at.mpr h1, ?_⟩
      have : phiC (lent as) φ k = φ i := by
        unfold phiC
        rw [lent_of e]
      rw [this]
      obtain ⟨v', h3, w⟩ := hs.at_ i s e2
      cases h2 with
      | n h4 =>
        rw [h4] at h3
        cases h3
        exact w.sub sub
  · unfold phiC
    split
    · exact hs.nd _
    · exact .nil
  · obtain ⟨i, h1, h2⟩ := phiC_mem p
    obtain ⟨i', h3, h4⟩ := phiC_mem q
    have := hs.dj i i' a h2 h4
    subst this
    have e1 := once_pos ho h1
    have e2 := once_pos ho h3
    rw [e1] at e2
    exact Option.some.inj e2
  · obtain ⟨i, h1, h2⟩ := phiC_mem p
    exact q.2 i k (once_pos ho h1) h2
theorem call_back (hs : Sim g M0 φ τ σ H) (ha : ArgsR g (Mof M0 φ) H σ vs as) (ho : once (lent as) = true) (hv : svsOf τ as = some svs) (hl : os.length = as.length)
    (s1 : Sim g (plus (M0C (lent as) M0 φ) F) φ' (os.map some) (vs.map some) H') (n0 : ∀ a ∈ F, ¬ M0C (lent as) M0 φ a) (l1 : Le (ran (phiC (lent as) φ)) H (plus (ran φ') F) H') :
    Sim g (plus M0 F) (phiB (lent as) φ φ') (wb (lent as) os τ) σ H' ∧ (∀ a, Mof (plus M0 F) (phiB (lent as) φ φ') a → Mof (plus (M0C (lent as) M0 φ) F) φ' a) ∧ (∀ a ∈ F, ¬ M0 a) ∧ Le (ran φ) H (plus (ran (phiB (lent as) φ φ')) F) H' := by
  have inC : ∀ a, M0 a → M0C (lent as) M0 φ a := fun a q => ⟨.inl q, fun i k _ m => hs.d0 i a m q⟩
  have inC2 : ∀ a i, a ∈ φ i → posOf (lent as) i = none → M0C (lent as) M0 φ a := fun a i m h => ⟨.inr ⟨i, m⟩, fun j k hj mj => by
    have := hs.dj i j a m mj
    subst this
    rw [h] at hj; cases hj⟩
  have cran : ∀ a, ran (phiC (lent as) φ) a → ∃ i k, posOf (lent as) i = some k ∧ a ∈ φ i := fun a ⟨k, q⟩ => by
    obtain ⟨i, h1, h2⟩ := phiC_mem q
    exact ⟨i, k, once_pos ho h1, h2⟩
  have sub : ∀ a, Mof (plus M0 F) (phiB (lent as) φ φ') a → Mof (plus (M0C (lent as) M0 φ) F) φ' a := fun a q => by
    rcases q with (q | q) | ⟨i, q⟩
    · exact .inl (.inl (inC a q))
    · exact .inl (.inr q)
    · unfold phiB at q
      split at q
      · exact .inr ⟨_, q⟩
      · exact .inl (.inl (inC2 a i q (by assumption)))
  have grow : ∀ a, Mof (plus M0 F) (phiB (lent as) φ φ') a → Mof M0 φ a ∨ H a = none := fun a q => by
    rcases q with (q | q) | ⟨i, q⟩
    · exact .inl (.inl q)
    · exact (l1.grow a (.inr q)).imp (fun q => by
        obtain ⟨i, k, _, h⟩ := cran a q
        exact .inr ⟨i, h⟩) id
    · unfold phiB at q
      split at q
      · exact (l1.grow a (.inl ⟨_, q⟩)).imp (fun q => by
          obtain ⟨i, k, _, h⟩ := cran a q
          exact .inr ⟨i, h⟩) id
      · exact .inl (.inr ⟨i, q⟩)
  refine ⟨⟨by rw [wb_len]; exact hs.len, fun i s q => ?_, fun i => ?_, fun i j a p q => ?_, fun i a p q => ?_, fun a q => s1.al a (sub a q)⟩, sub, fun a m q => n0 a m (inC a q), l1.ev.mono fun a q => ?_, fun a q => ?_⟩
  · cases hp : posOf (lent as) i with
    | none =>
      rw [wb_other hp] at q
      obtain ⟨v, a, b⟩ := hs.at_ i s q
      refine ⟨v, a, ?_⟩
      have : phiB (lent as) φ φ' i = φ i := by unfold phiB; rw [hp]
      rw [this]
      refine b.keep' l1.ev (fun a q => ?_) grow fun a m q => ?_
      · obtain ⟨j, k, _, h⟩ := cran a q
        exact .inr ⟨j, h⟩
      · obtain ⟨j, k, hj, h⟩ := cran a q
        have := hs.dj i j a m h
        subst this
        rw [hp] at hj; cases hj
    | some k =>
      have hk := lent_at (posOf_some hp)
      have hkl : k < os.length := by rw [hl]; exact (List.getElem?_eq_some_iff.mp hk).1
      have hsv : k < svs.length := by rw [svs_len hv]; exact (List.getElem?_eq_some_iff.mp hk).1
      have hti : i < τ.length := by
        rcases svs_at hv (List.getElem?_eq_getElem hsv) with ⟨d, e, _⟩ | ⟨i', e, e2⟩
        · rw [hk] at e; cases e
        · rw [hk] at e
          cases e
          exact (List.getElem?_eq_some_iff.mp e2).1
      rw [wb_at ho hp (List.getElem?_eq_getElem hkl) hti] at q
      cases q
      obtain ⟨v, a, b⟩ := s1.at_ k _ (map_some_at.mpr (List.getElem?_eq_getElem hkl))
      rw [map_some_at] at a
      obtain ⟨v', h1, h2⟩ := argsR_at ha hk
      rw [a] at h1
      cases h1
      refine ⟨v, ?_, ?_⟩
      · cases h2 with
        | n h => exact h
      · have : phiB (lent as) φ φ' i = φ' k := by unfold phiB; rw [hp]
        rw [this]
        exact b.sub sub
  · unfold phiB
    split
    · exact s1.nd _
    · exact hs.nd _
  · unfold phiB at p q
    split at p
    · rename_i k hk
      split at q
      · rename_i k' hk'
        have := s1.dj k k' a p q
        subst this
        have e1 := posOf_some hk
        have e2 := posOf_some hk'
        rw [e1] at e2
        cases e2
        rfl
      · rename_i hn
        exact absurd (.inl (inC2 a j q hn)) (s1.d0 k a p)
    · rename_i hn
      split at q
      · rename_i k' hk'
        exact absurd (.inl (inC2 a i p hn)) (s1.d0 k' a q)
      · exact hs.dj i j a p q
  · unfold phiB at p
    split at p
    · rename_i k hk
      refine s1.d0 k a p ?_
      exact q.imp (inC a) id
    · rename_i hn
      rcases q with q | q
      · exact hs.d0 i a p q
      · exact n0 a q (inC2 a i p hn)
  · obtain ⟨i, k, _, h⟩ := cran a q
    exact ⟨i, h⟩
  · rcases q with ⟨i, q⟩ | q
    · unfold phiB at q
      split at q
      · exact (l1.grow a (.inl ⟨_, q⟩)).imp (fun q => by
          obtain ⟨i, k, _, h⟩ := cran a q
          exact ⟨i, h⟩) id
      · exact .inl ⟨i, q⟩
    · exact (l1.grow a (.inr q)).imp (fun q => by
        obtain ⟨i, k, _, h⟩ := cran a q
        exact ⟨i, h⟩) id
/-- another context -/
theorem XRel.cast {g g' : Gx} {d : Option Addr} {fs : List Str} {l : List D} (hK : g'.K = g.K) (hc : g'.cl = g.cl) (hh : g'.hid = g.hid) (h : XRel g M H d fs l) : XRel g' M H d fs l := by
  rcases h with h | ⟨p, fsr, xs, e, hp, n, hl, q, r⟩
  · exact .inl h
  · exact .inr ⟨p, fsr, xs, e, hp, n, hl, q, Rs.cast hK hc hh _ _ r⟩
theorem le_callS {F : Fn} {as : CM (List Arg)} (σ : L2.St) (H : Hp) (Q : VK) (q : rdE g (mCall F as) σ H Q) : tCallS (spF (gK g.K g.cl g.hid) F) g.ex (rdR g as) σ H Q := by
  obtain ⟨M0, φ, τ, rs, τ', hs, hm, k⟩ := q
  rcases bnd_some hm with ⟨args, τ1, e1, e2⟩ | ⟨c, fs, l, e1, rfl⟩
  · refine ⟨M0, φ, τ, _, _, hs, e1, fun vs H1 φ1 hs1 ha l1 => ?_⟩
    unfold callT at e2
    split at e2
    · rename_i ho
      simp only [Option.bind_eq_some_iff] at e2
      obtain ⟨svs, hv, ⟨r, os⟩, hF, e2⟩ := e2
      split at e2
      · rename_i hl
        cases e2
        have toK : ∀ {φ2 : Nat → List Addr} {τ2 : Tau} {σ2 : L2.St} {H2 : Hp} {M2 : Ad}, Sim g M2 φ2 τ2 σ2 H2 → Sim (gK g.K g.cl g.hid) M2 φ2 τ2 σ2 H2 := fun h => Sim.cast (g := g) (g' := gK g.K g.cl g.hid) rfl rfl rfl h
        have ofK : ∀ {φ2 : Nat → List Addr} {τ2 : Tau} {σ2 : L2.St} {H2 : Hp} {M2 : Ad}, Sim (gK g.K g.cl g.hid) M2 φ2 τ2 σ2 H2 → Sim g M2 φ2 τ2 σ2 H2 := fun h => Sim.cast (g := gK g.K g.cl g.hid) (g' := g) rfl rfl rfl h
        refine ⟨_, _, svs, r, os, toK (call_in hs1 ha ho hv), hF, ?_⟩
        cases r with
        | ok s =>
          intro v H' q
          obtain ⟨F1, φ', s1, w1, nd, n0, l2⟩ := q
          obtain ⟨a1, a2, a3, a4⟩ := call_back hs1 ha ho hv hl (ofK s1) n0 l2
          exact k v H' (EOk.after l1 ⟨F1, _, a1, (Ow.cast (g := gK g.K g.cl g.hid) (g' := g) rfl rfl rfl _ _ _ w1).sub a2, nd, a3, a4⟩)
        | ex c fs l =>
          intro d H' q
          obtain ⟨φ', s1, x1, l2⟩ := q
          have s1' : Sim g (plus (M0C (lent args) M0 φ1) []) φ' (os.map some) (vs.map some) H' := by rw [plus_nil]; exact ofK s1
          have l2' : Le (ran (phiC (lent args) φ1)) H1 (plus (ran φ') []) H' := by rw [plus_nil]; exact l2
          obtain ⟨a1, a2, a3, a4⟩ := call_back hs1 ha ho hv hl s1' (fun a m => nomatch m) l2'
          rw [plus_nil] at a1 a2 a4
          rw [plus_nil] at a2
          refine k d H' (XOk.after l1 ⟨_, a1, ?_, a4⟩)
          rcases XRel.cast (g := gK g.K g.cl g.hid) (g' := g) rfl rfl rfl x1 with x1 | ⟨p, fsr, xs, e, hp, n, hl, q, r⟩
          · exact .inl x1
          · exact .inr ⟨p, fsr, xs, e, hp, fun m => n (a2 p m), hl, q, (Le.sub a2).rs r⟩
      · cases e2
    · cases e2
  · exact ⟨M0, φ, τ, _, _, hs, e1, k⟩
theorem s_call {F : Fn} {as : CM (List Arg)} (h : PE X e (tCallS (spF (gK g.K g.cl g.hid) F) g.ex (rdR g as))) : PE X e (rdE g (mCall F as)) := pe_le h le_callS
end
end VS

/-! ## S15: methods, instances made, what is one's own changed -/
namespace VS
open PySem PySem.Spec PyProof.Rows L2
section
variable {X : Cx} {CX : CXT} {k : Nat} {f C : Addr} {fd : FuncData} {ps : List Str} {sp : Sp} {E : L2.St → XK} {x m : Str} {p pos apos : Pos} {e o : Expr} {es : List Expr} {ta : TE} {t : TA}
def tMakeS (C : Addr) (sp : Sp) (E : L2.St → XK) (t : TA) : TE := fun σ H Q => t σ H fun vs H1 => ∀ x dx, H1 x = none → H1 dx = none → dx ≠ x →
  sp (.ref x :: vs) (upd (upd H1 dx (.own x)) x (.ins C dx [])) (fun v H2 => v = .non ∧ Q (.ref x) H2) (E σ)
theorem run_makeS {pins : List (Addr × Obj)} {σ : L2.St} {H : Hp} {s : Shared} {Q : VK} {us : List Value} {vs : List V} (M : Mk X.K C f) (F : FnOk X.prog X.w X.K X.mg X.base CX k f fd ps sp) (hr : Room (k + 1) X.A) (hb : Binds X.K fd ps [])
    (hx : PassesAt CX X σ (E σ)) (I : Inv X pins σ H s) (r : Vals vs us)
    (h : ∀ x dx, H x = none → H dx = none → dx ≠ x → sp (.ref x :: vs) (upd (upd H dx (.own x)) x (.ins C dx [])) (fun v H2 => v = .non ∧ Q (.ref x) H2) (E σ)) :
    wpAny (model X.prog X.w) X.A (call (.ref C) us) (EP X pins σ Q) X.xe s := by
  have hq := h (s.heap.objs.size + 1) s.heap.objs.size (I.hok.fresh (Nat.le_succ _)) (I.hok.fresh (Nat.le_refl _)) (Nat.ne_of_lt (Nat.lt_succ_self _))
  have I2 := Inv.made (C := C) I
  have r2 : Vals (V.ref (s.heap.objs.size + 1) :: vs) (Value.ref (s.heap.objs.size + 1) :: us) := .cons rfl r
  have hl : (Value.ref (s.heap.objs.size + 1) :: us ++ []).length = ps.length := by
    have e := r2.length
    rw [F.len _ _ _ _ hq] at e
    rw [List.append_nil]
    exact e.symm
  have hb' := hb _ (Value.ref (s.heap.objs.size + 1) :: us) I2.kIn hl
  rw [List.append_nil] at hb'
  refine wpAny_call (make_map (f := f) I.kIn M.makes M.init (beq_iff_eq.mp M.fn) (codeAny_mono (F.run _ X.stack _ _ ⟨Value.ref (s.heap.objs.size + 1) :: us, []⟩ (Value.ref (s.heap.objs.size + 1) :: us) _ _ (E σ) (hr.make C us [])
    (I2.env0.make C us []) hb' r2 hq) fun r s' hq' => ?_))
  cases r with
  | error e => exact hx pins _ _ e s' I2 hq'
  | ok fl =>
    cases fl with
    | ret u =>
      obtain ⟨v, H', I3, rv, ev, q3⟩ := I2.after hq'
      subst ev
      exact ⟨rv, ⟨V.ref (s.heap.objs.size + 1), H', I3, rfl, q3⟩⟩
    | next => exact False.elim hq'
    | brk => exact False.elim hq'
    | cont => exact False.elim hq'
theorem pe_makeS (M : Mk X.K C f) (F : FnOk X.prog X.w X.K X.mg X.base CX k f fd ps sp) (hr : Room (k + 1) X.A) (hg : Gl X x) (hm : X.mg x = some (.ref C)) (hb : Binds X.K fd ps []) (hx : ∀ σ, PassesAt CX X σ (E σ))
    (ha : PA X (e :: es) t) (hdb : (x == ("__debug__" : Str)) = false := by decide) (he : starEach (e :: es) X.env = (false, eval e X.env) :: starEach es X.env := by rfl) (hpl : (backTo pos (starEach es X.env)).any (·.1) = false := by rfl) :
    PE X (.Call (.Name x p) (e :: es) [] pos) (tMakeS C sp E t) := by
  refine ⟨fun pins s σ H Q I h => ?_⟩
  refine wpAny_Call_Name_kw (ld_glob I hg hm ?_ hdb)
  refine PySem.W.callWith_K (h₀ := X.base) I.ok.mod.kin M.kp (thn (ha.run pos pins s σ H _ I h) fun us s1 ⟨vs, H1, I1, r, q⟩ => ⟨I1.kIn, ?_⟩) he hpl
  exact run_makeS M F hr hb (hx σ) I1 r q
def tMethS' (C : Addr) (m : Str) (sp : Sp) (E : L2.St → XK) (ta : TE) (t : TA) : TE := fun σ H Q => ta σ H fun x H1 => ∃ a dx fs, x = .ref a ∧ H1 a = some (.ins C dx fs) ∧ fs.lookup m = none ∧ t σ H1 fun vs H2 => sp (x :: vs) H2 Q (E σ)
theorem pe_methS' {pl : Sem Bool} (he : PE X o ta) (c : Cls X.K C) (hm : Meth X.K C m f) (F : FnOk X.prog X.w X.K X.mg X.base CX k f fd ps sp) (hr : Room k X.A) (hb : Binds X.K fd ps []) (hx : ∀ σ, PassesAt CX X σ (E σ)) (ha : PA X (e :: es) t)
    (hst : starEach (e :: es) X.env = (false, eval e X.env) :: starEach es X.env := by rfl) (hpl : (backTo pos (starEach es X.env)).any (·.1) = false := by rfl)
    (ht : eval (.Call (.Attribute o m apos) (e :: es) [] pos) X.env = (do
      let ov ← eval o X.env
      standAt apos.atName
      let (f, first) ← holding [ov] (getMethod ov m pl)
      callWith pos f first (backTo pos (starEach (e :: es) X.env)) (backToKw pos (keywordEach [] X.env))) := by rfl) :
    PE X (.Call (.Attribute o m apos) (e :: es) [] pos) (tMethS' C m sp E ta t) := by
  refine ⟨fun pins s σ H Q I h => ?_⟩
  refine PySem.W.methodCall_KW (pl := pl) (thn (he.run pins s σ H _ I h) fun u s1 ⟨x, H1, I1, rx, a, dx, fs, ex, ea, l, q⟩ => ?_) ht
  subst ex
  obtain rfl : u = Value.ref a := rx
  refine getmeth_ok I1 ea c hm l ?_
  refine PySem.W.callWith_K (first := [.ref a]) (h₀ := X.base) I.ok.mod.kin hm.kp (thn (ha.run pos pins s1 σ H1 _ I1 q) fun us s2 ⟨vs, H2, I2, r, q2⟩ => ⟨I2.kIn, ?_⟩) hst hpl
  exact run_fnS (us := .ref a :: us) (vs := .ref a :: vs) F hr hb (hx σ) I2 (.cons rfl r) q2
theorem pe_meth0S {pl : Sem Bool} (he : PE X o ta) (c : Cls X.K C) (hm : Meth X.K C m f) (F : FnOk X.prog X.w X.K X.mg X.base CX k f fd ps sp) (hr : Room k X.A) (hb : Binds X.K fd ps []) (hx : ∀ σ, PassesAt CX X σ (E σ))
    (ht : eval (.Call (.Attribute o m apos) [] [] pos) X.env = (do
      let ov ← eval o X.env
      standAt apos.atName
      let (f, first) ← holding [ov] (getMethod ov m pl)
      callWith pos f first (backTo pos (starEach [] X.env)) (backToKw pos (keywordEach [] X.env))) := by rfl) :
    PE X (.Call (.Attribute o m apos) [] [] pos) (tMethS' C m sp E ta tNil) := by
  refine ⟨fun pins s σ H Q I h => ?_⟩
  refine PySem.W.methodCall_KW (pl := pl) (thn (he.run pins s σ H _ I h) fun u s1 ⟨x, H1, I1, rx, a, dx, fs, ex, ea, l, q⟩ => ?_) ht
  subst ex
  obtain rfl : u = Value.ref a := rx
  refine getmeth_ok I1 ea c hm l ?_
  exact PySem.W.callWith_K0 (first := [.ref a]) I1.kIn hm.kp (run_fnS (us := [.ref a]) (vs := [.ref a]) F hr hb (hx σ) I1 (.cons rfl .nil) q)
end
section
variable {X : Cx} {g : Gx} {st : Stmt} {e : Expr} {es : List Expr} {M M0 M1 : Ad} {φ φ1 φ2 φ' : Nat → List Addr} {τ τ' : Tau} {σ σ1 σ2 : L2.St} {H H' H1 : Hp} {v x y : V} {vs : List V} {d : D} {ds : List D} {s : SV} {l : List SV} {F : List Addr} {as : List Arg} {svs os : List SV}
/-- the class and the attributes of an instance -/
def insOf : SV → Option (Nat × List Str)
  | .fz (.ob (.ins c fs) _) => some (c, fs)
  | .mu (.ins c fs) _ => some (c, fs)
  | _ => none
/-- x.m(..), x a slot -/
def mMeth (c : Nat) (m : Str) (F : Fn) (i : Nat) (as : CM (List Arg)) : CM SV := fun τ => match τ[i]? with
  | some (some s) => match insOf s with
    | some (c', fs) => if c' = c ∧ ¬ m ∈ fs then mCall F (rN i as) τ else none
    | none => none
  | _ => none
theorem s_meth {c i : Nat} {m : Str} {F : Fn} {as : CM (List Arg)} (hm : m ∉ g.hid c) (h : PE X e (tMethS' (g.cl c) m (spF (gK g.K g.cl g.hid) F) g.ex (tVar i) (rdR g as))) : PE X e (rdE g (mMeth c m F i as)) := pe_le h fun σ H Q q => by
  obtain ⟨M0, φ, τ, rs, τ', hs, hmm, k⟩ := q
  unfold mMeth at hmm
  split at hmm
  · rename_i s hi
    split at hmm
    · rename_i c' fs hc
      split at hmm
      · rename_i hcc
        obtain ⟨rfl, hnot⟩ := hcc
        have q : tCallS (spF (gK g.K g.cl g.hid) F) g.ex (rdR g (rN i as)) σ H Q := le_callS σ H Q ⟨M0, φ, τ, rs, τ', hs, hmm, k⟩
        obtain ⟨v, hv, w⟩ := hs.at_ _ _ hi
        have hins : ∃ a dx fsr, v = .ref a ∧ H a = some (.ins (g.cl c') dx fsr) ∧ fsr.lookup m = none := by
          generalize φ i = Fi at w
          cases w with
          | @fz v d r =>
            cases d with
            | ob hd l =>
              cases hd with
              | ins c2 fs2 =>
                cases hc
                obtain ⟨a, dx, fsr, xs, rfl, h1, h2, h3, h4, h5⟩ := (RT.of r).ins
                exact ⟨a, dx, fsr, rfl, h1, h3 m hnot hm⟩
              | lst => cases hc
              | dct t ks => cases hc
            | non => cases hc
            | bl b => cases hc
            | int i => cases hc
            | str z => cases hc
            | tup l => cases hc
            | fro l => cases hc
          | @mu a o hd xs l F h1 h2 h3 =>
            cases hd with
            | ins c2 fs2 =>
              cases hc
              obtain ⟨dx, fsr, rfl, e1, e2, nd⟩ := h2
              exact ⟨a, dx, fsr, rfl, h1, lookup_no (by rw [← e1]; exact hnot)⟩
            | lst => cases hc
            | dct t ks => cases hc
        obtain ⟨a, dx, fsr, rfl, ha, hl⟩ := hins
        refine ⟨.ref a, hv, a, dx, fsr, rfl, ha, hl, ?_⟩
        -- the receiver is the first argument
        unfold tCallS at q
        obtain ⟨M0', φ', τ2, r2, τ2', hs2, hm2, k2⟩ := q
        refine ⟨M0', φ', τ2, ?_⟩
        unfold rN at hm2
        split at hm2
        · rename_i d hi2
          rcases bnd_some hm2 with ⟨ys, τ3, e3, e4⟩ | ⟨c, fs, l, e3, rfl⟩
          · obtain ⟨s, es, rfl, rfl⟩ := ret_some e4
            cases es
            refine ⟨_, _, hs2, e3, fun v2 H2 φ2 hs3 r3 l3 => ?_⟩
            obtain ⟨v', hv', rv⟩ := hs2.fz hi2
            rw [hv] at hv'
            cases hv'
            exact k2 _ H2 φ2 hs3 (.cons (.d ((le_mof l3).r rv)) r3) l3
          · exact ⟨_, _, hs2, e3, k2⟩
        · rename_i hd l hi2
          rcases bnd_some hm2 with ⟨ys, τ3, e3, e4⟩ | ⟨c, fs, l, e3, rfl⟩
          · obtain ⟨s, es, rfl, rfl⟩ := ret_some e4
            cases es
            exact ⟨_, _, hs2, e3, fun v2 H2 φ2 hs3 r3 l3 => k2 _ H2 φ2 hs3 (.cons (.n hv) r3) l3⟩
          · exact ⟨_, _, hs2, e3, k2⟩
        · cases hm2
      · cases hmm
    · cases hmm
  · cases hmm
end
end VS

/-! ## S16: instances made; one's own changed; raise -/
namespace VS
open PySem PySem.Spec PyProof.Rows L2
section
variable {X : Cx} {g : Gx} {st : Stmt} {e : Expr} {es : List Expr} {M M0 M1 : Ad} {φ φ1 φ2 φ' : Nat → List Addr} {τ τ' : Tau} {σ σ1 σ2 : L2.St} {H H' H1 : Hp} {v x y : V} {vs : List V} {d : D} {ds : List D} {s : SV} {l : List SV} {F : List Addr} {as : List Arg} {svs os : List SV}
/-- one slot more, ahead -/
def consF (F : List Addr) (φ : Nat → List Addr) : Nat → List Addr
  | 0 => F
  | k + 1 => φ k
theorem Sim.cons (hs : Sim g M0 φ τ σ H) (e : Ev0 H H1) (w : Ow g (fun a => Mof M0 φ a ∨ a ∈ F) H1 v s F) (nd : F.Nodup) (n : ∀ a ∈ F, H a = none) : Sim g M0 (consF F φ) (some s :: τ) (some v :: σ) H1 := by
  have sub : ∀ a, Mof M0 (consF F φ) a → Mof M0 φ a ∨ a ∈ F := fun a q => by
    rcases q with q | ⟨k, q⟩
    · exact .inl (.inl q)
    · cases k with
      | zero => exact .inr q
      | succ k => exact .inl (.inr ⟨k, q⟩)
  refine ⟨by simp [hs.len], fun i s' q => ?_, fun i => ?_, fun i j a p q => ?_, fun i a p q => ?_, fun a q => ?_⟩
  · cases i with
    | zero =>
      simp at q
      subst q
      exact ⟨v, rfl, w.sub sub⟩
    | succ i =>
      obtain ⟨v', a, b⟩ := hs.at_ i s' (by simpa using q)
      exact ⟨v', by simpa using a, b.keep' e (fun _ q => q.elim) (fun a q => (sub a q).imp id (n a)) fun _ _ q => q⟩
  · cases i with
    | zero => exact nd
    | succ i => exact hs.nd i
  · cases i with
    | zero =>
      cases j with
      | zero => rfl
      | succ j => exact absurd (n a p) (hs.al a (.inr ⟨j, q⟩))
    | succ i =>
      cases j with
      | zero => exact absurd (n a q) (hs.al a (.inr ⟨i, p⟩))
      | succ j => rw [hs.dj i j a p q]
  · cases i with
    | zero => exact hs.al a (.inl q) (n a p)
    | succ i => exact hs.d0 i a p q
  · rcases sub a q with q | q
    · exact e.live (hs.al a q)
    · exact Ow.live _ _ _ w a q
theorem Sim.tail {s0 : SV} {v0 : V} (h : Sim g M0 φ (some s0 :: τ) (some v0 :: σ) H) : Sim g (plus M0 (φ 0)) (fun k => φ (k + 1)) τ σ H ∧ Ow g (Mof (plus M0 (φ 0)) fun k => φ (k + 1)) H v0 s0 (φ 0) := by
  have sub : ∀ a, Mof (plus M0 (φ 0)) (fun k => φ (k + 1)) a → Mof M0 φ a := fun a q => by
    rcases q with (q | q) | ⟨k, q⟩
    · exact .inl q
    · exact .inr ⟨0, q⟩
    · exact .inr ⟨k + 1, q⟩
  refine ⟨⟨by have := h.len; simpa using this, fun i s q => ?_, fun i => h.nd _, fun i j a p q => by have := h.dj _ _ a p q; omega, fun i a p q => ?_, fun a q => h.al a (sub a q)⟩, ?_⟩
  · obtain ⟨v, a, b⟩ := h.at_ (i + 1) s (by simpa using q)
    exact ⟨v, by simpa using a, b.sub sub⟩
  · rcases q with q | q
    · exact h.d0 _ a p q
    · have := h.dj _ _ a p q
      omega
  · obtain ⟨v, a, b⟩ := h.at_ 0 s0 rfl
    simp at a
    subst a
    exact b.sub sub
def makeT (c : Nat) (F : Fn) (args : List Arg) (τ : Tau) : Option (Res SV × Tau) :=
  if once (lent args) = true then (svsOf τ args).bind fun svs => (F (.mu (.ins c []) [] :: svs)).bind fun p => match p with
    | (.ok (.fz .non), s0 :: os) => if os.length = args.length then some (.ok s0, wb (lent args) os τ) else none
    | (.ex c' fs l, _ :: os) => if os.length = args.length then some (.ex c' fs l, wb (lent args) os τ) else none
    | _ => none
  else none
def mMake (c : Nat) (F : Fn) (as : CM (List Arg)) : CM SV := bnd as fun args τ => makeT c F args τ
theorem s_make {c : Nat} {F : Fn} {as : CM (List Arg)} (h : PE X e (tMakeS (g.cl c) (spF (gK g.K g.cl g.hid) F) g.ex (rdR g as))) : PE X e (rdE g (mMake c F as)) := pe_le h fun σ H Q q => by
  obtain ⟨M0, φ, τ, rs, τ', hs, hm, k⟩ := q
  rcases bnd_some hm with ⟨args, τ1, e1, e2⟩ | ⟨c, fs, l, e1, rfl⟩
  · refine ⟨M0, φ, τ, _, _, hs, e1, fun vs H1 φ1 hs1 ha l1 => ?_⟩
    intro x dx hx hdx ne
    have e0 : Ev0 H1 (upd (upd H1 dx (.own x)) x (.ins (g.cl c) dx [])) := (new0 hdx).trans (new0 (by rw [upd_ne ne.symm]; exact hx))
    unfold makeT at e2
    split at e2
    · rename_i ho
      simp only [Option.bind_eq_some_iff] at e2
      obtain ⟨svs, hv, p, hF, e2⟩ := e2
      have toK : ∀ {φ2 : Nat → List Addr} {τ2 : Tau} {σ2 : L2.St} {H2 : Hp} {M2 : Ad}, Sim g M2 φ2 τ2 σ2 H2 → Sim (gK g.K g.cl g.hid) M2 φ2 τ2 σ2 H2 := fun h => Sim.cast (g := g) (g' := gK g.K g.cl g.hid) rfl rfl rfl h
      have ofK : ∀ {φ2 : Nat → List Addr} {τ2 : Tau} {σ2 : L2.St} {H2 : Hp} {M2 : Ad}, Sim (gK g.K g.cl g.hid) M2 φ2 τ2 σ2 H2 → Sim g M2 φ2 τ2 σ2 H2 := fun h => Sim.cast (g := gK g.K g.cl g.hid) (g' := g) rfl rfl rfl h
      have si := (call_in hs1 ha ho hv).cons (F := [x]) (v := .ref x) (s := .mu (.ins c []) []) e0 (.mu upd_same ⟨dx, [], rfl, rfl, rfl, .nil⟩ .nil) (List.nodup_cons.mpr ⟨List.not_mem_nil, .nil⟩) (fun a m => by simp at m; subst m; exact hx)
      have lcomp : ∀ {φ' : Nat → List Addr} {H' : Hp}, Le (ran (consF [x] (phiC (lent args) φ1))) (upd (upd H1 dx (.own x)) x (.ins (g.cl c) dx [])) (ran φ') H' → Le (ran (phiC (lent args) φ1)) H1 (plus (ran fun k => φ' (k + 1)) (φ' 0)) H' := fun {φ' H'} l => by
        have ranc : ∀ a, ran (consF [x] (phiC (lent args) φ1)) a → ran (phiC (lent args) φ1) a ∨ H1 a = none := fun a ⟨k, q⟩ => by
          cases k with
          | zero =>
            have : a = x := by simpa [consF] using q
            subst this
            exact .inr hx
          | succ k => exact .inl ⟨k, q⟩
        refine ⟨(Evp.of0 e0).trans l.ev ranc, fun a q => ?_⟩
        have : ran φ' a := by
          rcases q with ⟨k, q⟩ | q
          · exact ⟨k + 1, q⟩
          · exact ⟨0, q⟩
        rcases l.grow a this with q | q
        · exact ranc a q
        · exact .inr (e0.non q)
      refine ⟨_, _, _, _, _, toK si, hF, ?_⟩
      split at e2
      · rename_i s0 os
        split at e2
        · rename_i hl
          cases e2
          intro v H' q
          obtain ⟨F1, φ', s1, w1, nd, n0, l2⟩ := q
          obtain ⟨r1, rfl⟩ := ow_fz w1
          rw [plus_nil] at s1 l2
          cases r1
          refine ⟨rfl, ?_⟩
          obtain ⟨t1, t2⟩ := Sim.tail (ofK s1)
          obtain ⟨a1, a2, a3, a4⟩ := call_back hs1 ha ho hv hl t1 (fun a m q => s1.d0 0 a m q) (lcomp l2)
          exact k _ H' (EOk.after l1 ⟨φ' 0, _, a1, t2.sub a2, s1.nd 0, a3, a4⟩)
        · cases e2
      · rename_i c' fs l s0 os
        split at e2
        · rename_i hl
          cases e2
          intro d H' q
          obtain ⟨φ', s1, x1, l2⟩ := q
          obtain ⟨t1, t2⟩ := Sim.tail (ofK s1)
          obtain ⟨a1, a2, a3, a4⟩ := call_back hs1 ha ho hv hl t1 (fun a m q => s1.d0 0 a m q) (lcomp l2)
          have sub : ∀ a, Mof M0 (phiB (lent args) φ1 fun k => φ' (k + 1)) a → Mof (M0C (lent args) M0 φ1) φ' a := fun a q => by
            have := a2 a (mof_plus.mpr (.inl q))
            rcases this with (q | q) | ⟨k, q⟩
            · exact .inl q
            · exact .inr ⟨0, q⟩
            · exact .inr ⟨k + 1, q⟩
          refine k d H' (XOk.after l1 ⟨_, a1.less1, ?_, a4.ev, fun a q => a4.grow a (.inl q)⟩)
          rcases XRel.cast (g := gK g.K g.cl g.hid) (g' := g) rfl rfl rfl x1 with x1 | ⟨p, fsr, xs, e, hp, n, hl, q, r⟩
          · exact .inl x1
          · exact .inr ⟨p, fsr, xs, e, hp, fun m => n (sub p m), hl, q, (Le.sub sub).rs r⟩
        · cases e2
      · cases e2
    · cases e2
  · exact ⟨M0, φ, τ, _, _, hs, e1, k⟩
/-! ### what is one's own changed -/
def MuOk (g : Gx) (f : Hd → List SV → List D → Option (Hd × List SV × D)) (r : V → List V → Hp → VK → Prop) : Prop :=
  ∀ {M : Ad} {H : Hp} {a : Addr} {o : HO} {h : Hd} {xs : List V} {l : List SV} {F : List Addr} {vs : List V} {ds : List D} {h' : Hd} {l' : List SV} {d : D} {Q : VK}, H a = some o → HOf g.cl h xs o → Ows g M H xs l F → Rs g M H vs ds → f h l ds = some (h', l', d) →
    (∀ o' xs' v F', HOf g.cl h' xs' o' → kindO o' = kindO o → Ows g M H xs' l' F' → (∀ x ∈ F', x ∈ F) → (F.Nodup → F'.Nodup) → R g M H v d → Q v (upd H a o')) → r (.ref a) vs H Q
/-- a slot's own object, changed -/
theorem Sim.change {i : Nat} {a : Addr} {o o' : HO} {h h' : Hd} {xs' : List V} {l' : List SV} {F' : List Addr} (hs : Sim g M0 φ τ σ H) (hv : σ[i]? = some (some (.ref a))) (hF : φ i = a :: F) (ha : H a = some o) (hk : HOf g.cl h' xs' o') (kd : kindO o' = kindO o) (k1 : kindO o ≠ 1) (k2 : kindO o ≠ 10)
    (w : Ows g (Mof M0 φ) H xs' l' F') (sub : ∀ x ∈ F', x ∈ F) (nd : F'.Nodup) (hi : i < τ.length) : Sim g M0 (upF φ i (a :: F')) (τ.set i (some (.mu h' l'))) σ (upd H a o') ∧ Le (ran φ) H (ran (upF φ i (a :: F'))) (upd H a o') := by
  have ev := put_ev (o' := o') ha kd k1 k2
  have nda := hs.nd i
  rw [hF] at nda
  have naF : a ∉ F := (List.nodup_cons.mp nda).1
  have am : a ∈ φ i := by rw [hF]; exact List.mem_cons_self
  have up : ∀ x j, x ∈ upF φ i (a :: F') j → x ∈ φ j := fun x j q => by
    by_cases e : j = i
    · subst e
      rw [upF_same] at q
      rw [hF]
      rcases List.mem_cons.mp q with q | q
      · rw [q]; exact List.mem_cons_self
      · exact List.mem_cons_of_mem _ (sub x q)
    · rw [upF_ne e] at q; exact q
  have subM : ∀ x, Mof M0 (upF φ i (a :: F')) x → Mof M0 φ x := fun x q => q.imp id fun ⟨j, q⟩ => ⟨j, up x j q⟩
  refine ⟨⟨by rw [List.length_set]; exact hs.len, fun j s' q => ?_, fun j => ?_, fun j k x p q => hs.dj j k x (up x j p) (up x k q), fun j x p => hs.d0 j x (up x j p), fun x q => ev.live (hs.al x (subM x q))⟩, ⟨ev.mono fun x q => ⟨i, by rw [q]; exact am⟩, fun x ⟨j, q⟩ => .inl ⟨j, up x j q⟩⟩⟩
  · by_cases e : j = i
    · subst e
      rw [List.getElem?_set, if_pos rfl, if_pos hi] at q
      cases q
      refine ⟨.ref a, hv, ?_⟩
      rw [upF_same]
      refine .mu upd_same hk (w.keep' ev (fun x q => ?_) (fun x q => .inl (subM x q)) fun x m q => ?_)
      · subst q; exact .inr ⟨j, am⟩
      · subst q; exact naF (sub _ m)
    · rw [List.getElem?_set_ne (Ne.symm e)] at q
      obtain ⟨v, p, b⟩ := hs.at_ j s' q
      rw [upF_ne e]
      refine ⟨v, p, b.keep' ev (fun x q => ?_) (fun x q => .inl (subM x q)) fun x m q => ?_⟩
      · subst q; exact .inr ⟨i, am⟩
      · subst q; exact e (hs.dj j i _ m am)
  · by_cases e : j = i
    · subst e
      rw [upF_same]
      exact List.nodup_cons.mpr ⟨fun m => naF (sub a m), nd⟩
    · rw [upF_ne e]; exact hs.nd j
/-- what stands at a slot that is one's own -/
theorem Sim.own {i : Nat} {h : Hd} {l : List SV} (hs : Sim g M0 φ τ σ H) (e : τ[i]? = some (some (.mu h l))) : ∃ a o xs F, σ[i]? = some (some (.ref a)) ∧ φ i = a :: F ∧ H a = some o ∧ HOf g.cl h xs o ∧ Ows g (Mof M0 φ) H xs l F ∧ F.Nodup ∧ i < τ.length := by
  obtain ⟨v, p, b⟩ := hs.at_ i _ e
  have nd := hs.nd i
  generalize hF : φ i = Fi at b nd
  cases b with
  | @mu a o h xs l F h1 h2 h3 =>
    exact ⟨a, o, xs, F, p, rfl, h1, h2, h3, (List.nodup_cons.mp nd).2, (List.getElem?_eq_some_iff.mp e).1⟩
/-- the type of a method's receiver -/
def hdTy : Hd → String
  | .lst => "list"
  | .dct _ _ => "dict"
  | .ins _ _ => ""
def mMut (T : String) (f : Hd → List SV → List D → Option (Hd × List SV × D)) (i : Nat) (as : CM (List D)) : CM D := fun τ => match τ[i]? with
  | some (some (.mu h _)) => if hdTy h = T then bnd as (fun ds τ1 => match τ1[i]? with
      | some (some (.mu h1 l1)) => (f h1 l1 ds).map fun p => (.ok p.2.2, τ1.set i (some (.mu p.1 p.2.1)))
      | _ => none) τ else none
  | _ => none
theorem s_mut {T : String} {f : Hd → List SV → List D → Option (Hd × List SV × D)} {r : V → List V → Hp → VK → Prop} {i : Nat} {as : CM (List D)} (hT : T = "list") (ho : MuOk g f r) (h : PE X e (tBM g.K T r (tVar i) (rdA g as))) : PE X e (rdD g (mMut T f i as)) := pe_le h fun σ H Q q => by
  obtain ⟨M0, φ, τ, rs, τ', hs, hm, k⟩ := q
  unfold mMut at hm
  split at hm
  · rename_i h0 l0 hi
    split at hm
    · rename_i ht
      obtain ⟨a, o, xs, F, hv, hF, ha, hk, w, nd, hl⟩ := hs.own hi
      have hty : tyV g.K T (.ref a) H := by
        subst hT
        cases h0 with
        | lst => cases hk; exact .inl ⟨rfl, xs, SqL.of ha⟩
        | dct t ks => exact absurd ht (show ¬ ("dict" = "list") by decide)
        | ins c fs => exact absurd ht (show ¬ ("" = "list") by decide)
      refine ⟨.ref a, hv, hty, ?_⟩
      rcases bnd_some hm with ⟨ds, τ1, e1, e2⟩ | ⟨c, fs, l, e1, rfl⟩
      · refine ⟨M0, φ, τ, _, _, hs, e1, fun vs H1 q1 => ?_⟩
        obtain ⟨φ1, hs1, r1, l1⟩ := q1
        split at e2
        · rename_i h1 ls1 hi1
          simp only [Option.map_eq_some_iff] at e2
          obtain ⟨⟨h', l', d⟩, hf, e2⟩ := e2
          cases e2
          obtain ⟨a1, o1, xs1, F1, hv1, hF1, ha1, hk1, w1, nd1, hl1⟩ := hs1.own hi1
          rw [hv] at hv1
          cases hv1
          refine ho ha1 hk1 w1 r1 hf fun o' xs' v F' k1 k2 k3 k4 k5 k6 => ?_
          obtain ⟨s2, l2⟩ := hs1.change (h := h1) hv hF1 ha1 k1 k2 hk1.kind.1 hk1.kind.2 k3 k4 (k5 nd1) hl1
          exact k v _ ⟨_, s2, (le_mof l2).r k6, l1.trans l2⟩
        · cases e2
      · exact ⟨M0, φ, τ, _, _, hs, e1, k⟩
    · cases hm
  · cases hm
/-! the operations -/
theorem Ows.app {l2 : List SV} {vs2 : List V} {F2 : List Addr} (h : Ows g M H vs l F) (h2 : Ows g M H vs2 l2 F2) : Ows g M H (vs ++ vs2) (l ++ l2) (F ++ F2) := by
  induction l generalizing vs F with
  | nil => cases h; exact h2
  | cons s l ih => cases h with
    | cons p q =>
      have := Ows.cons p (ih q)
      rw [← List.append_assoc] at this
      exact this
def appendM : Hd → List SV → List D → Option (Hd × List SV × D)
  | .lst, l, [d] => if l.length < sizeLine then some (.lst, l ++ [.fz d], .non) else none
  | _, _, _ => none
theorem u_append : MuOk g appendM rAppend := by
  intro M H a o h xs l F vs ds h' l' d Q ha hk w rs hf k
  unfold appendM at hf
  split at hf
  · split at hf
    · rename_i hz
      cases hf
      cases hk
      cases rs with
      | cons r rs =>
        cases rs
        exact ⟨a, xs, _, rfl, rfl, ha, by rw [w.length]; exact hz, k _ _ _ (F ++ []) rfl rfl (w.app (.cons (.fz r) .nil)) (by simp) (by simp) .non⟩
    · cases hf
  · cases hf
def extendM : Hd → List SV → List D → Option (Hd × List SV × D)
  | .lst, l, [.ob .lst m] => if l.length + m.length ≤ sizeLine then some (.lst, l ++ m.map .fz, .non) else none
  | _, _, _ => none
theorem u_extend : MuOk g extendM rExtend := by
  intro M H a o h xs l F vs ds h' l' d Q ha hk w rs hf k
  unfold extendM at hf
  split at hf
  · split at hf
    · rename_i m hz
      cases hf
      cases hk
      cases rs with
      | cons r rs =>
        cases rs
        obtain ⟨b, ys, rfl, hb, rs2⟩ := (RT.of r).lst
        exact ⟨a, b, xs, ys, rfl, rfl, ha, hb, by rw [w.length, rs2.length]; exact hz, k _ _ _ (F ++ []) rfl rfl (w.app rs2.ws) (by simp) (by simp) .non⟩
    · cases hf
  · cases hf
/-! ### x[k] = e, x a slot's own list or dict -/
def repSV : List DK → List SV → DK → D → List SV
  | q :: ks, s :: l, k, d => if q = k then .fz d :: repSV ks l k d else s :: repSV ks l k d
  | _, l, _, _ => l
def putSV (ks : List DK) (l : List SV) (k : DK) (d : D) (t : Bool) : Hd × List SV :=
  if ks.contains k = true then (.dct t ks, repSV ks l k d) else (.dct t (ks ++ [k]), l ++ [.fz d])
def setSV (h : Hd) (l : List SV) (k d : D) : Option (Hd × List SV) := match h, k with
  | .lst, .int i => (ixN l.length i).map fun j => (.lst, l.set j (.fz d))
  | .dct false ks, .int i => if ks.length < sizeLine then some (putSV ks l (.k (.inl i)) d false) else none
  | .dct false ks, .str z => if ks.length < sizeLine then some (putSV ks l (.k (.inr z)) d false) else none
  | _, _ => none
theorem Ows.set {i : Nat} {v : V} (w : Ows g M H vs l F) (r : R g M H v d) : ∃ F', Ows g M H (vs.set i v) (l.set i (.fz d)) F' ∧ (∀ x ∈ F', x ∈ F) ∧ (F.Nodup → F'.Nodup) := by
  induction i generalizing vs l F with
  | zero =>
    cases w with
    | nil => exact ⟨[], .nil, fun _ m => m, id⟩
    | @cons v0 vs s l F1 F2 p q => exact ⟨_, .cons (.fz r) q, fun x m => List.mem_append_right _ (by simpa using m), fun n => by simpa using (List.nodup_append.mp n).2.1⟩
  | succ i ih =>
    cases w with
    | nil => exact ⟨[], .nil, fun _ m => m, id⟩
    | @cons v0 vs s l F1 F2 p q =>
      obtain ⟨F', a, b, c⟩ := ih q
      refine ⟨_, .cons p a, fun x m => ?_, fun n => ?_⟩
      · rcases List.mem_append.mp m with m | m
        · exact List.mem_append_left _ m
        · exact List.mem_append_right _ (b x m)
      · obtain ⟨n1, n2, n3⟩ := List.nodup_append.mp n
        exact List.nodup_append.mpr ⟨n1, c n2, fun x m y m2 => n3 x m y (b y m2)⟩
theorem Ows.put {κ : Type} [DecidableEq κ] (f : κ → DK) (hf : ∀ a b, f a = f b → a = b) (t : Bool) (k : κ) {v : V} (r : R g M H v d) {kvs : List (κ × V)} (w : Ows g M H (kvs.map (·.2)) l F) :
    ∃ F', (putSV (kvs.map fun p => f p.1) l (f k) d t).1 = .dct t ((putK kvs k v).map fun p => f p.1) ∧ Ows g M H ((putK kvs k v).map (·.2)) (putSV (kvs.map fun p => f p.1) l (f k) d t).2 F' ∧ (∀ x ∈ F', x ∈ F) ∧ (F.Nodup → F'.Nodup) := by
  have hany : (kvs.map fun p => f p.1).contains (f k) = kvs.any fun kv => decide (kv.1 = k) := by
    rw [Bool.eq_iff_iff, List.contains_iff_mem, List.any_eq_true]
    constructor
    · intro m
      obtain ⟨p, hp, e⟩ := List.mem_map.mp m
      exact ⟨p, hp, by simpa using hf _ _ e⟩
    · rintro ⟨p, hp, e⟩
      exact List.mem_map.mpr ⟨p, hp, by rw [of_decide_eq_true e]⟩
  unfold putSV putK
  rw [hany]
  by_cases c : (kvs.any fun kv => decide (kv.1 = k)) = true
  · rw [if_pos c, if_pos c]
    have key : ∀ {kvs : List (κ × V)} {l : List SV} {F : List Addr}, Ows g M H (kvs.map (·.2)) l F → ∃ F', Ows g M H ((kvs.map fun kv => if kv.1 = k then (kv.1, v) else kv).map (·.2)) (repSV (kvs.map fun p => f p.1) l (f k) d) F' ∧ (∀ x ∈ F', x ∈ F) ∧ (F.Nodup → F'.Nodup) := by
      intro kvs
      induction kvs with
      | nil => intro l F w; cases w; exact ⟨[], .nil, fun _ m => m, id⟩
      | cons p kvs ih =>
        intro l F w
        cases w with
        | @cons _ _ s l F1 F2 p1 q1 =>
        obtain ⟨F', a, b, c⟩ := ih q1
        by_cases e : p.1 = k
        · refine ⟨[] ++ F', ?_, fun x m => List.mem_append_right _ (b x (by simpa using m)), fun n => by simpa using c (List.nodup_append.mp n).2.1⟩
          show Ows g M H ((if p.1 = k then (p.1, v) else p).2 :: _) (if f p.1 = f k then _ else _) _
          rw [if_pos e, if_pos (by rw [e])]
          exact .cons (.fz r) a
        · refine ⟨F1 ++ F', ?_, fun x m => ?_, fun n => ?_⟩
          · show Ows g M H ((if p.1 = k then (p.1, v) else p).2 :: _) (if f p.1 = f k then _ else _) _
            rw [if_neg e, if_neg (fun q => e (hf _ _ q))]
            exact .cons p1 a
          · rcases List.mem_append.mp m with m | m
            · exact List.mem_append_left _ m
            · exact List.mem_append_right _ (b x m)
          · obtain ⟨n1, n2, n3⟩ := List.nodup_append.mp n
            exact List.nodup_append.mpr ⟨n1, c n2, fun x m y m2 => n3 x m y (b y m2)⟩
    obtain ⟨F', a, b, c'⟩ := key w
    refine ⟨F', ?_, a, b, c'⟩
    rw [List.map_map]
    show Hd.dct t _ = Hd.dct t _
    refine congrArg _ (List.map_congr_left fun p _ => ?_)
    show f p.1 = f (if p.1 = k then (p.1, v) else p).1
    split <;> rfl
  · rw [if_neg c, if_neg c]
    exact ⟨F ++ [], by simp, by
      rw [List.map_append]
      exact w.app (.cons (.fz r) .nil), by simp, by simp⟩
def mPut (i : Nat) (m k : CM D) : SC := sE m fun d τ1 => match τ1[i]? with
  | some (some (.mu _ _)) => sE k (fun q τ2 => match τ2[i]? with
    | some (some (.mu h l)) => (setSV h l q d).map fun p => (.nx, τ2.set i (some (.mu p.1 p.2)))
    | _ => none) τ1
  | _ => none
theorem s_put {i : Nat} {m k : CM D} {cs : TSet} (hcs : cs = rSetU) (h : PS X st (tAsg (rdD g m) (gSub (tVar i) (rdD g k) cs))) : PS X st (rdS g (mPut i m k)) := ps_le h fun E σ H q => by
  subst hcs
  obtain ⟨M0, φ, τ, fl, τ', hs, hm, kk⟩ := rdS_iff.mp q
  rcases sE_some hm with ⟨d, τ1, e1, e2⟩ | ⟨c, fs, l, e1, rfl⟩
  · refine ⟨M0, φ, τ, _, _, hs, e1, fun v1 H1 q1 => ?_⟩
    obtain ⟨φ1, hs1, r1, l1⟩ := q1
    split at e2
    · rename_i h0 l0 hi0
      obtain ⟨a, o, xs, F, hv, hF, ha, hk, w, nd, hl⟩ := hs1.own hi0
      refine ⟨.ref a, hv, ?_⟩
      rcases sE_some e2 with ⟨q, τ2, e3, e4⟩ | ⟨c, fs, l, e3, rfl⟩
      · refine ⟨M0, φ1, τ1, _, _, hs1, e3, fun v2 H2 q2 => ?_⟩
        obtain ⟨φ2, hs2, r2, l2⟩ := q2
        split at e4
        · rename_i h1 ls1 hi1
          simp only [Option.map_eq_some_iff] at e4
          obtain ⟨⟨h', l'⟩, hf, e4⟩ := e4
          cases e4
          obtain ⟨a1, o1, xs1, F1, hv1, hF1, ha1, hk1, w1, nd1, hl1⟩ := hs2.own hi1
          rw [hv] at hv1
          cases hv1
          have r1' := (le_mof (M0 := M0) l2).r r1
          have fin : ∀ {o' : HO} {h' : Hd} {xs' : List V} {l' : List SV} {F' : List Addr}, HOf g.cl h' xs' o' → kindO o' = kindO o1 → Ows g (Mof M0 φ2) H2 xs' l' F' → (∀ x ∈ F', x ∈ F1) → (F1.Nodup → F'.Nodup) → Fin g E M0 φ H σ (τ2.set i (some (.mu h' l'))) .nx → E.nx σ (upd H2 a o') := fun {o' h' xs' l' F'} k1 k2 k3 k4 k5 kk => by
            obtain ⟨s3, l3⟩ := hs2.change (h := h1) hv hF1 ha1 k1 k2 hk1.kind.1 hk1.kind.2 k3 k4 (k5 nd1) hl1
            exact kk σ _ ⟨⟨_, s3, (l1.trans l2).trans l3⟩, fun _ _ => rfl⟩
          unfold setSV at hf
          split at hf
          · rename_i z
            simp only [Option.map_eq_some_iff] at hf
            obtain ⟨j, hj, hf⟩ := hf
            cases hf
            cases hk1
            cases (RT.of r2).int
            obtain ⟨F', b1, b2, b3⟩ := w1.set (i := j) r1'
            exact .inl ⟨a, xs1, _, j, rfl, rfl, ha1, by rw [w1.length]; exact hj, fin (h' := .lst) (xs' := xs1.set j v1) rfl rfl b1 b2 b3 kk⟩
          · split at hf
            · rename_i hz
              have hf := Option.some.inj hf
              obtain ⟨kvs, rfl, rfl, rfl⟩ := hk1
              cases (RT.of r2).int
              obtain ⟨F', b0, b1, b2, b3⟩ := Ows.put DK.k dk_k_inj false (.inl _) r1' w1
              have ea : h' = _ := (congrArg Prod.fst hf).symm.trans b0
              have eb : l' = _ := (congrArg Prod.snd hf).symm
              subst ea
              subst eb
              refine .inr ⟨a, _, rfl, .inl ⟨kvs, .inl _, ha1, rfl, by simpa using hz, rfl⟩, fin (h' := .dct false _) (xs' := _) ⟨_, rfl, rfl, rfl⟩ rfl b1 b2 b3 kk⟩
            · cases hf
          · split at hf
            · rename_i hz
              have hf := Option.some.inj hf
              obtain ⟨kvs, rfl, rfl, rfl⟩ := hk1
              cases (RT.of r2).str
              obtain ⟨F', b0, b1, b2, b3⟩ := Ows.put DK.k dk_k_inj false (.inr _) r1' w1
              have ea : h' = _ := (congrArg Prod.fst hf).symm.trans b0
              have eb : l' = _ := (congrArg Prod.snd hf).symm
              subst ea
              subst eb
              refine .inr ⟨a, _, rfl, .inl ⟨kvs, .inr _, ha1, rfl, by simpa using hz, rfl⟩, fin (h' := .dct false _) (xs' := _) ⟨_, rfl, rfl, rfl⟩ rfl b1 b2 b3 kk⟩
            · cases hf
          · cases hf
        · cases e4
      · exact ⟨M0, φ1, τ1, _, _, hs1, e3, fun d H' q => kk.xk d H' (q.after l1)⟩
    · cases e2
  · exact ⟨M0, φ, τ, _, _, hs, e1, kk.xk⟩
end
end VS

/-! ## S17: raise, try -/
namespace VS
open PySem PySem.Spec PyProof.Rows L2
section
variable {X : Cx} {g : Gx} {st : Stmt} {e : Expr} {es : List Expr} {M M0 M1 : Ad} {φ φ1 φ2 φ' : Nat → List Addr} {τ τ' : Tau} {σ σ1 σ2 : L2.St} {H H' H1 : Hp} {v x y : V} {vs : List V} {d : D} {ds : List D} {s : SV} {l : List SV} {F : List Addr} {c : Nat} {W : WX}
def sRaise (c : Nat) : SC := fun τ => some (.ex c [] [], τ)
theorem s_raise {t : L2.St → Hp → XK → Prop} (h : PS X st (fun _ σ H => t σ H fun cls d H' => W cls d σ H')) (hW : ∀ σ cls d H, g.ex σ cls d H → W cls d σ H) (ht : ∀ σ H (Q : XK), Q (.ref (g.cl c)) none H → t σ H Q) : PS X st (rdS g (sRaise c)) := ps_le h fun E σ H q => by
  obtain ⟨M0, φ, τ, fl, τ', hs, hm, k⟩ := rdS_iff.mp q
  cases hm
  exact ht _ _ _ (hW _ _ _ _ (k.xk none H ⟨φ, hs, .inl ⟨rfl, rfl, rfl⟩, .refl⟩))
/-- the context of a try's body -/
abbrev gW (g : Gx) (W : WX) : Gx := { g with ex := fun σ cls d H => W cls d σ H }
/-- a clause: what it catches, its suite -/
abbrev Hn := (Nat → Option Bool) × (Nat → List Str → List D → SC)
def handle : List Hn → Nat → List Str → List D → SC
  | [], c, fs, l => fun τ => some (.ex c fs l, τ)
  | h :: r, c, fs, l => fun τ => match h.1 c with
    | some true => h.2 c fs l τ
    | some false => handle r c fs l τ
    | none => none
def sTry (m : SC) (hs : List Hn) : SC := fun τ => match m τ with
  | some (.ex c fs l, τ1) => handle hs c fs l τ1
  | r => r
/-- a clause does what it says -/
def HnOk (g : Gx) (h : Hn) (cl : Cl) : Prop := ∀ c b, h.1 c = some b → PySem.W.exmOne g.K (.ref (g.cl c)) cl.1 = some b ∧
  (b = true → ∀ (fs : List Str) (l : List D) (d : Option Addr) (M0 : Ad) (φ : Nat → List Addr) (τ τ' : Tau) (σ : L2.St) (H : Hp) (E : Ends) (fl : Fl) (a : Addr), Sim g M0 φ τ σ H → XRel g (Mof M0 φ) H d fs l → H a = none → h.2 c fs l τ = some (fl, τ') → Fin g E M0 φ H σ τ' fl →
    cl.2.2 a (.ref (g.cl c)) d (endsU cl.2.1 E) (slotU cl.2.1 σ a) H)
theorem handle_ok {Wout : WX} {E : Ends} (hW : ∀ σ cls d H, g.ex σ cls d H → Wout cls d σ H) : ∀ {hs : List Hn} {ls : List Cl}, Paired (HnOk g) hs ls → ∀ {c : Nat} {fs : List Str} {l : List D} {d : Option Addr} {M0 : Ad} {φ : Nat → List Addr} {τ τ' : Tau} {σ : L2.St} {H : Hp} {fl : Fl},
    Sim g M0 φ τ σ H → XRel g (Mof M0 φ) H d fs l → handle hs c fs l τ = some (fl, τ') → Fin g E M0 φ H σ τ' fl → wU g.K Wout E ls (.ref (g.cl c)) d σ H
  | _, _, .nil, c, fs, l, d, M0, φ, τ, τ', σ, H, fl, s, x, hm, k => by
    cases hm
    exact hW _ _ _ _ (k.xk d H ⟨φ, s, x, .refl⟩)
  | (mt, kk) :: r, (cv, o, ts) :: ls, .cons p q, c, fs, l, d, M0, φ, τ, τ', σ, H, fl, s, x, hm, k => by
    have hm' : (match mt c with
      | some true => kk c fs l τ
      | some false => handle r c fs l τ
      | none => none) = some (fl, τ') := hm
    clear hm
    revert hm'
    intro hm
    split at hm
    · rename_i hb
      obtain ⟨e1, e2⟩ := p c true hb
      exact ⟨true, e1, fun _ a ha => e2 rfl fs l d M0 φ τ τ' σ H E fl a s x ha hm k, fun q => nomatch q⟩
    · rename_i hb
      obtain ⟨e1, e2⟩ := p c false hb
      exact ⟨false, e1, fun q => (nomatch q), fun _ => handle_ok hW q s x hm k⟩
    · cases hm
theorem s_try {m : SC} {hs : List Hn} {ls : List Cl} {Wout : WX} (hW : ∀ σ cls d H, g.ex σ cls d H → Wout cls d σ H) (hh : Paired (HnOk g) hs ls) (h : PS X st (fun D σ H => rdS (gW g (wU g.K Wout D ls)) m D σ H)) : PS X st (rdS g (sTry m hs)) := ps_le h fun E σ H q => by
  obtain ⟨M0, φ, τ, fl, τ', s0, hm, k⟩ := rdS_iff.mp q
  unfold sTry at hm
  have up : ∀ {φ1 : Nat → List Addr} {τ1 : Tau} {σ1 : L2.St} {H1 : Hp} {M1 : Ad}, Sim (gW g (wU g.K Wout E ls)) M1 φ1 τ1 σ1 H1 → Sim g M1 φ1 τ1 σ1 H1 := fun h => Sim.cast (g := gW g (wU g.K Wout E ls)) (g' := g) rfl rfl rfl h
  have s0' : Sim (gW g (wU g.K Wout E ls)) M0 φ τ σ H := Sim.cast (g := g) (g' := gW g (wU g.K Wout E ls)) rfl rfl rfl s0
  refine rdS_iff.mpr ?_
  have same : ∀ {fl : Fl}, (∀ c fs l, fl ≠ .ex c fs l) → Fin g E M0 φ H σ τ' fl → Fin (gW g (wU g.K Wout E ls)) E M0 φ H σ τ' fl := fun {fl} hn k => by
    cases fl with
    | nx => exact fun σ' H' ⟨⟨φ', a, b⟩, p⟩ => k σ' H' ⟨⟨φ', up a, b⟩, p⟩
    | bk => exact fun σ' H' ⟨⟨φ', a, b⟩, p⟩ => k σ' H' ⟨⟨φ', up a, b⟩, p⟩
    | ct => exact fun σ' H' ⟨⟨φ', a, b⟩, p⟩ => k σ' H' ⟨⟨φ', up a, b⟩, p⟩
    | rt s => exact fun σ' v H' ⟨⟨F, φ', a, b, c, d, e⟩, p⟩ => k σ' v H' ⟨⟨F, φ', up a, Ow.cast (g := gW g (wU g.K Wout E ls)) (g' := g) rfl rfl rfl _ _ _ b, c, d, e⟩, p⟩
    | ex c fs l => exact absurd rfl (hn c fs l)
  split at hm
  · rename_i c fs l τ1 hb
    refine ⟨M0, φ, τ, _, _, s0', hb, fun σ' d H' q => ?_⟩
    obtain ⟨⟨φ', s1, x1, l1⟩, p1⟩ := q
    exact handle_ok hW hh (up s1) (XRel.cast (g := gW g (wU g.K Wout E ls)) (g' := g) rfl rfl rfl x1) hm (Fin.after l1 p1 k)
  · rename_i hn
    refine ⟨M0, φ, τ, _, _, s0', hm, same (fun c fs l e => ?_) k⟩
    subst e
    exact hn c fs l τ' hm
/-- a clause without a name -/
theorem hn_plain {mt : Nat → Option Bool} {m : SC} {cv : Value} (hmt : ∀ c b, mt c = some b → PySem.W.exmOne g.K (.ref (g.cl c)) cv = some b) : HnOk g (mt, fun _ _ _ => m) (cv, none, fun _ _ _ => rdS g m) := fun c b hb =>
  ⟨hmt c b hb, fun _ fs l d M0 φ τ τ' σ H E fl a s x ha hm k => rdS_iff.mpr ⟨M0, φ, τ, fl, τ', s, hm, k⟩⟩
theorem s_tryU {body : List Stmt} {h₀ : ExceptHandler} {hds : List ExceptHandler} {pos : Pos} {m : SC} {hs : List Hn} {ls : List Cl} {Wout : WX} (hst : X.stack = X.env :: X.outer) (hf : X.env.frame = some X.env.locals) (tk : Takes X Wout) (hK : X.K = g.K) (hW : ∀ σ cls d H, g.ex σ cls d H → Wout cls d σ H)
    (hb : ∀ (W : WX) (pn : List (Addr × Obj)) (xe : Value → Shared → Prop), Takes (X.tr pn xe) W → PassesOwn (model X.prog X.w) X.A X.env xe → PSs (X.tr pn xe) body (rdS (gW g W) m)) (hhd : HdsU X (h₀ :: hds) ls) (hh : Paired (HnOk g) hs ls) : PS X (.Try body (h₀ :: hds) [] [] pos) (rdS g (sTry m hs)) := by
  have h := ps_tryU (X := X) (pos := pos) (tb := fun W => rdS (gW g W) m) hst hf tk hb hhd
  rw [hK] at h
  exact s_try hW hh h
end
end VS

/-! ## S18: dicts made, tuples of places, fields stored, classes told -/
namespace VS
open PySem PySem.Spec PyProof.Rows L2
section
variable {X : Cx} {g : Gx} {st : Stmt} {e : Expr} {es : List Expr} {M M0 M1 : Ad} {φ φ1 φ2 φ' : Nat → List Addr} {τ τ' : Tau} {σ σ1 σ2 : L2.St} {H H' H1 : Hp} {v x y : V} {vs : List V} {d : D} {ds : List D} {s : SV} {l : List SV} {F : List Addr} {c : Nat} {W : WX}
def mNewK : CM SV := ret (some (.mu (.dct false []) []))
def mNewT : CM SV := ret (some (.mu (.dct true []) []))
theorem s_newK (h : PE X e tDNewK) : PE X e (rdE g mNewK) := pe_le h fun σ H Q q => by
  obtain ⟨M0, φ, τ, r, τ', hs, hm, k⟩ := q
  obtain ⟨x, ex, rfl, rfl⟩ := ret_some hm
  cases ex
  exact fun p hp => k _ _ (.of hs (POk.ob (ds := []) hp ⟨[], rfl, rfl, rfl⟩ .nil))
theorem s_newT (h : PE X e tDNewT) : PE X e (rdE g mNewT) := pe_le h fun σ H Q q => by
  obtain ⟨M0, φ, τ, r, τ', hs, hm, k⟩ := q
  obtain ⟨x, ex, rfl, rfl⟩ := ret_some hm
  cases ex
  exact fun p hp => k _ _ (.of hs (POk.ob (ds := []) hp ⟨[], rfl, rfl, rfl⟩ .nil))
def mDisp1 (z : Str) (a : CM D) : CM SV := bnd a fun d => ret (some (.mu (.dct false [.k (.inr z)]) [.fz d]))
theorem s_disp1 {z : Str} {a : CM D} (h : PE X e (tDisp [(tC (.str z), rdD g a)])) : PE X e (rdE g (mDisp1 z a)) := pe_le h fun σ H Q q => by
  obtain ⟨M0, φ, τ, rs, τ', hs, hm, k⟩ := q
  intro p hp
  have live : upd H p (.dK []) p ≠ none := by rw [upd_same]; exact fun q => nomatch q
  have s1 : Sim g (plus M0 [p]) φ τ σ (upd H p (.dK [])) := hs.more (F := [p]) (new0 hp) (fun a m => by simp at m; rw [m]; exact hp) (fun a m => by simp at m; rw [m]; exact live)
  rcases bnd_some hm with ⟨x, τ1, e1, e2⟩ | ⟨c, fs, l, e1, rfl⟩
  · obtain ⟨s, es, rfl, rfl⟩ := ret_some e2
    cases es
    show rdD g a σ (upd H p (.dK [])) _
    refine ⟨plus M0 [p], φ, τ, _, _, s1, e1, fun v1 H1 q1 => ?_⟩
    obtain ⟨φ1, hs1, r1, l1⟩ := q1
    have hp1 : H1 p = some (.dK []) := l1.ev.keep _ _ upd_same fun ⟨j, q⟩ => s1.d0 j p q (.inr (by simp))
    refine ⟨hp1, [(.inr z, v1)], rfl, by simp, ?_⟩
    have e3 : mergeK [] [((.inr z : Key), v1)] = [(.inr z, v1)] := rfl
    rw [e3]
    have lp := put_le (M := ran φ1) (o' := .dK [((.inr z : Key), v1)]) hp1 rfl (by simp [kindO]) (by simp [kindO])
    refine k _ _ ⟨[p], φ1, hs1.put hp1 rfl (by simp [kindO]) (by simp [kindO]), .mu upd_same ⟨_, rfl, rfl, rfl⟩ (.cons (.fz ((Le.mof1 (M0 := M0) lp).r r1)) .nil), List.nodup_cons.mpr ⟨List.not_mem_nil, .nil⟩, fun a m q => ?_, ?_⟩
    · simp at m; subst m; exact hs.al a (.inl q) hp
    · have l0 : Le (ran φ) H (plus (ran φ) [p]) (upd H p (.dK [])) := .of0 (new0 hp) fun a q => (plus1 q).imp id fun e => by rw [e]; exact hp
      exact (l0.trans (Le.pl l1)).trans lp
  · show rdD g a σ (upd H p (.dK [])) _
    refine ⟨plus M0 [p], φ, τ, _, _, s1, e1, fun d H' q => k d H' ?_⟩
    obtain ⟨φ', a, b, l⟩ := q
    have l0 : Le (ran φ) H (plus (ran φ) [p]) (upd H p (.dK [])) := .of0 (new0 hp) fun a q => (plus1 q).imp id fun e => by rw [e]; exact hp
    refine ⟨φ', a.less1, ?_, ⟨(l0.trans (Le.pl l)).ev, fun x q => (l0.trans (Le.pl l)).grow x (.inl q)⟩⟩
    rcases b with b | ⟨p', fsr, xs, e, hp', n, hl, q, r⟩
    · exact .inl b
    · exact .inr ⟨p', fsr, xs, e, hp', fun m => n (mof_plus.mpr (.inl m)), hl, q, (Le.sub fun a m => mof_plus.mpr (.inl m)).rs r⟩
/-! tuples of places -/
abbrev PBs := Tau → Option (List D)
def rdBs (g : Gx) (m : PBs) : TA := fun σ H Q => ∃ M0 φ τ ds, Sim g M0 φ τ σ H ∧ m τ = some ds ∧ ∀ vs H', Ev0 H H' → Rs g (Mof M0 φ) H' vs ds → Q vs H'
def pbNil : PBs := fun _ => some []
def pbCons (a : PB) (r : PBs) : PBs := fun τ => match a τ with
  | some (.fz d) => (r τ).map (d :: ·)
  | _ => none
theorem p_nil (h : PA X es tNil) : PA X es (rdBs g pbNil) := pa_le h fun σ H Q q => by
  obtain ⟨M0, φ, τ, ds, hs, hm, k⟩ := q
  cases hm
  exact k [] H .refl .nil
theorem p_cons {a : PB} {r : PBs} (h : PA X es (tCons (rdB g a) (rdBs g r))) : PA X es (rdBs g (pbCons a r)) := pa_le h fun σ H Q q => by
  obtain ⟨M0, φ, τ, ds, hs, hm, k⟩ := q
  unfold pbCons at hm
  split at hm
  · rename_i d ha
    simp only [Option.map_eq_some_iff] at hm
    obtain ⟨ds', hm, rfl⟩ := hm
    refine ⟨M0, φ, τ, _, hs, ha, fun v1 H1 e1 w1 => ?_⟩
    obtain ⟨F1, w1⟩ := w1
    refine ⟨M0, φ, τ, _, hs.ev0 e1, hm, fun vs H2 e2 r2 => k _ H2 (e1.trans e2) (.cons ((ow_fz w1).1.ev0 e2) r2)⟩
  · cases hm
def bTup (a : PBs) : PB := fun τ => (a τ).bind fun l => if l.length ≤ sizeLine then some (.fz (.tup l)) else none
theorem p_tup {a : PBs} (h : PE X e (tTup (rdBs g a))) : PE X e (rdB g (bTup a)) := pe_le h fun σ H Q q => by
  obtain ⟨M0, φ, τ, s, hs, hm, k⟩ := q
  simp only [bTup, Option.bind_eq_some_iff] at hm
  obtain ⟨l, hl, hm⟩ := hm
  split at hm
  · rename_i hz
    cases hm
    refine ⟨M0, φ, τ, _, hs, hl, fun vs H1 e1 r1 => ⟨by rw [r1.length]; exact hz, fun p hp => k _ _ (e1.trans (new0 hp)) ⟨_, .fz (.tup (SqT.of upd_same) (r1.ev0 (new0 hp)))⟩⟩⟩
  · cases hm
/-! ### self.f = e -/
def putSf : List Str → List SV → Str → SV → List Str × List SV
  | f :: fs, s :: l, q, x => if f = q then (f :: fs, x :: l) else ((f :: (putSf fs l q x).1), (s :: (putSf fs l q x).2))
  | fs, l, q, x => (fs ++ [q], l ++ [x])
theorem putF_names (f : Str) (v : V) : ∀ fsr : List (Str × V), ∀ q, q ∈ (putF f v fsr).map (·.1) → q = f ∨ q ∈ fsr.map (·.1)
  | [], q, h => by simp [putF] at h; exact .inl h
  | (k, x) :: r, q, h => by
    unfold putF at h
    split at h
    · exact .inr (by simpa using h)
    · simp only [List.map_cons, List.mem_cons] at h
      rcases h with h | h
      · exact .inr (by simp [h])
      · exact (putF_names f v r q h).imp id fun m => by simp only [List.map_cons, List.mem_cons]; exact .inr m
theorem putF_nodup (f : Str) (v : V) : ∀ {fsr : List (Str × V)}, (fsr.map (·.1)).Nodup → ((putF f v fsr).map (·.1)).Nodup
  | [], _ => by simp [putF]
  | (k, x) :: r, h => by
    obtain ⟨n1, n2⟩ := List.nodup_cons.mp h
    unfold putF
    split
    · exact h
    · rename_i ne
      refine List.nodup_cons.mpr ⟨fun m => ?_, putF_nodup f v n2⟩
      rcases putF_names f v r k m with e | m
      · exact ne e
      · exact n1 m
theorem Ows.putF {v : V} {s : SV} {Fn : List Addr} (f : Str) (wn : Ow g M H v s Fn) (nn : Fn.Nodup) : ∀ {fsr : List (Str × V)} {l : List SV} {F : List Addr}, Ows g M H (fsr.map (·.2)) l F → F.Nodup → (∀ x ∈ Fn, x ∉ F) →
    ∃ F', (putSf (fsr.map (·.1)) l f s).1 = (putF f v fsr).map (·.1) ∧ Ows g M H ((L2.putF f v fsr).map (·.2)) (putSf (fsr.map (·.1)) l f s).2 F' ∧ (∀ x ∈ F', x ∈ F ∨ x ∈ Fn) ∧ F'.Nodup
  | [], l, F, w, nd, dj => by
    cases w
    exact ⟨Fn ++ [], rfl, .cons wn .nil, fun x m => .inr (by simpa using m), by simpa using nn⟩
  | (k, x) :: r, l, F, w, nd, dj => by
    cases w with
    | @cons _ _ s0 l F1 F2 p q =>
      obtain ⟨n1, n2, n3⟩ := List.nodup_append.mp nd
      show ∃ F', (if k = f then _ else _ : List Str × List SV).1 = (L2.putF f v ((k, x) :: r)).map (·.1) ∧ Ows g M H ((L2.putF f v ((k, x) :: r)).map (·.2)) (if k = f then _ else _ : List Str × List SV).2 F' ∧ _
      unfold L2.putF
      by_cases e : k = f
      · rw [if_pos e, if_pos e]
        refine ⟨Fn ++ F2, rfl, .cons wn q, fun x m => ?_, ?_⟩
        · rcases List.mem_append.mp m with m | m
          · exact .inr m
          · exact .inl (List.mem_append_right _ m)
        · exact List.nodup_append.mpr ⟨nn, n2, fun a m b m2 e => dj a m (List.mem_append_right _ (by rw [e]; exact m2))⟩
      · rw [if_neg e, if_neg e]
        obtain ⟨F', a1, a2, a3, a4⟩ := Ows.putF f wn nn q n2 fun x m m2 => dj x m (List.mem_append_right _ m2)
        refine ⟨F1 ++ F', ?_, .cons p a2, fun x m => ?_, ?_⟩
        · show k :: _ = k :: _
          rw [← a1]
        · rcases List.mem_append.mp m with m | m
          · exact .inl (List.mem_append_left _ m)
          · exact (a3 x m).imp (List.mem_append_right _) id
        · refine List.nodup_append.mpr ⟨n1, a4, fun a m b m2 e => ?_⟩
          subst e
          rcases a3 a m2 with m2 | m2
          · exact n3 a m a m2 rfl
          · exact dj a m2 (List.mem_append_left _ m)
def sFld (i : Nat) (cs : List Nat) (f : Str) (m : CM SV) : SC := sE m fun s τ1 => match τ1[i]? with
  | some (some (.mu (.ins c fs) l)) => if c ∈ cs ∧ fs.length < 1000 then some (.nx, τ1.set i (some (.mu (.ins c (putSf fs l f s).1) (putSf fs l f s).2))) else none
  | _ => none
theorem s_fldS {i : Nat} {cs : List Nat} {f : Str} {m : CM SV} (hc : ∀ c ∈ cs, Cls g.K (g.cl c) ∧ NoAttr g.K (g.cl c) f) (h : PS X st (L2.sFld g.K (tVar i) (rdE g m) f)) : PS X st (rdS g (sFld i cs f m)) := ps_le h fun E σ H q => by
  obtain ⟨M0, φ, τ, fl, τ', hs, hm, kk⟩ := rdS_iff.mp q
  rcases sE_some hm with ⟨s, τ1, e1, e2⟩ | ⟨c, fs, l, e1, rfl⟩
  · refine ⟨M0, φ, τ, _, _, hs, e1, fun v1 H1 q1 => ?_⟩
    obtain ⟨Fn, φ1, hs1, w1, nd1, n01, l1⟩ := q1
    split at e2
    · rename_i c fs l hi
      split at e2
      · rename_i hcc
        cases e2
        obtain ⟨t1, t2⟩ := hc c hcc.1
        obtain ⟨a, o, xs, F, hv, hF, ha, hk, w, nd, hl⟩ := hs1.own hi
        obtain ⟨dx, fsr, rfl, rfl, rfl, ndf⟩ := hk
        have hlf : fsr.length < 1000 := by have := hcc.2; rw [List.length_map] at this; exact this
        refine ⟨.ref a, hv, a, g.cl c, dx, fsr, rfl, ha, t1, t2, hlf, ?_⟩
        have dj : ∀ x ∈ Fn, x ∉ F := fun x m m2 => hs1.d0 i x (by rw [hF]; exact List.mem_cons_of_mem _ m2) (.inr m)
        obtain ⟨F', a1, a2, a3, a4⟩ := Ows.putF f w1 nd1 w nd dj
        have ev := put_ev (o' := .ins (g.cl c) dx (L2.putF f v1 fsr)) ha rfl (by simp [kindO]) (by simp [kindO])
        have naF : a ∉ F := by have := hs1.nd i; rw [hF] at this; exact (List.nodup_cons.mp this).1
        have am : a ∈ φ1 i := by rw [hF]; exact List.mem_cons_self
        have naN : a ∉ Fn := fun m => hs1.d0 i a am (.inr m)
        have naF' : a ∉ F' := fun m => by
          rcases a3 a m with m | m
          · exact naF m
          · exact naN m
        have up : ∀ x j, x ∈ upF φ1 i (a :: F') j → x ∈ φ1 j ∨ (x ∈ Fn ∧ j = i) := fun x j q => by
          by_cases e : j = i
          · subst e
            rw [upF_same] at q
            rcases List.mem_cons.mp q with q | q
            · exact .inl (by rw [q]; exact am)
            · rcases a3 x q with q | q
              · exact .inl (by rw [hF]; exact List.mem_cons_of_mem _ q)
              · exact .inr ⟨q, rfl⟩
          · rw [upF_ne e] at q; exact .inl q
        have subM : ∀ x, Mof M0 (upF φ1 i (a :: F')) x → Mof (plus M0 Fn) φ1 x := fun x q => by
          rcases q with q | ⟨j, q⟩
          · exact .inl (.inl q)
          · rcases up x j q with q | q
            · exact .inr ⟨j, q⟩
            · exact .inl (.inr q.1)
        refine kk σ _ ⟨⟨upF φ1 i (a :: F'), ⟨by rw [List.length_set]; exact hs1.len, fun j s' q => ?_, fun j => ?_, fun j k x p q => ?_, fun j x p q => ?_, fun x q => ev.live (hs1.al x (subM x q))⟩, l1.trans ⟨ev.mono fun x q => .inl ⟨i, by rw [q]; exact am⟩, fun x ⟨j, q⟩ => .inl ((up x j q).imp (fun q => ⟨j, q⟩) fun q => q.1)⟩⟩, fun _ _ => rfl⟩
        · by_cases e : j = i
          · subst e
            rw [List.getElem?_set, if_pos rfl, if_pos hl] at q
            cases q
            refine ⟨.ref a, hv, ?_⟩
            rw [upF_same]
            refine .mu upd_same ⟨dx, _, rfl, a1, rfl, putF_nodup f v1 ndf⟩ (a2.keep' ev (fun x q => ?_) (fun x q => .inl (subM x q)) fun x m q => ?_)
            · subst q; exact .inr ⟨j, am⟩
            · subst q; exact naF' m
          · rw [List.getElem?_set_ne (Ne.symm e)] at q
            obtain ⟨v, p, b⟩ := hs1.at_ j s' q
            rw [upF_ne e]
            refine ⟨v, p, b.keep' ev (fun x q => ?_) (fun x q => .inl (subM x q)) fun x m q => ?_⟩
            · subst q; exact .inr ⟨i, am⟩
            · subst q; exact e (hs1.dj j i _ m am)
        · by_cases e : j = i
          · subst e; rw [upF_same]; exact List.nodup_cons.mpr ⟨naF', a4⟩
          · rw [upF_ne e]; exact hs1.nd j
        · rcases up x j p with p1 | p1
          · rcases up x k q with q1 | q1
            · exact hs1.dj j k x p1 q1
            · exact absurd (.inr q1.1) (hs1.d0 j x p1)
          · rcases up x k q with q1 | q1
            · exact absurd (.inr p1.1) (hs1.d0 k x q1)
            · rw [p1.2, q1.2]
        · rcases up x j p with p1 | p1
          · exact hs1.d0 j x p1 (.inl q)
          · exact n01 x p1.1 q
      · cases e2
    · cases e2
  · exact ⟨M0, φ, τ, _, _, hs, e1, kk.xk⟩
/-! classes told -/
abbrev hid0 : Nat → List Str := fun _ => []
theorem mem1 {P : Nat → Prop} {a : Nat} (h : P a) : ∀ c ∈ [a], P c := fun c m => by simp at m; subst m; exact h
theorem mem2 {P : Nat → Prop} {a b : Nat} (h : P a) (h2 : P b) : ∀ c ∈ [a, b], P c := fun c m => by
  simp at m
  rcases m with m | m <;> subst m <;> assumption
theorem mem0 {P : Nat → Prop} : ∀ c ∈ ([] : List Nat), P c := fun c m => nomatch m
def tbInt (n : String) : Bool := n == "int" || n == "bool"
def tbBool (n : String) : Bool := n == "bool"
def tbStr (n : String) : Bool := n == "str"
def tbTup (n : String) : Bool := n == "tuple"
def tbLst (n : String) : Bool := n == "list"
def tbDct (n : String) : Bool := n == "dict"
theorem isT_of {T : String} {tb : String → Bool} (h : ∀ n ∈ ["NoneType", "bool", "int", "str", "tuple", "list", "dict"], kitB n T = some (tb n)) : IsT g (.type T) tb [] fun _ => false :=
  ⟨fun n m => kit_ty (h n m), mem0⟩
theorem mem7 {P : String → Prop} (h1 : P "NoneType") (h2 : P "bool") (h3 : P "int") (h4 : P "str") (h5 : P "tuple") (h6 : P "list") (h7 : P "dict") : ∀ n ∈ ["NoneType", "bool", "int", "str", "tuple", "list", "dict"], P n := fun n m => by
  simp only [List.mem_cons, List.not_mem_nil, or_false] at m
  rcases m with m | m | m | m | m | m | m <;> subst m <;> assumption
theorem isT_int : IsT g (.type "int") tbInt [] fun _ => false := isT_of (mem7 (by decide +kernel) (by decide +kernel) (by decide +kernel) (by decide +kernel) (by decide +kernel) (by decide +kernel) (by decide +kernel))
theorem isT_bool : IsT g (.type "bool") tbBool [] fun _ => false := isT_of (mem7 (by decide +kernel) (by decide +kernel) (by decide +kernel) (by decide +kernel) (by decide +kernel) (by decide +kernel) (by decide +kernel))
theorem isT_str : IsT g (.type "str") tbStr [] fun _ => false := isT_of (mem7 (by decide +kernel) (by decide +kernel) (by decide +kernel) (by decide +kernel) (by decide +kernel) (by decide +kernel) (by decide +kernel))
theorem isT_tuple : IsT g (.type "tuple") tbTup [] fun _ => false := isT_of (mem7 (by decide +kernel) (by decide +kernel) (by decide +kernel) (by decide +kernel) (by decide +kernel) (by decide +kernel) (by decide +kernel))
theorem isT_list : IsT g (.type "list") tbLst [] fun _ => false := isT_of (mem7 (by decide +kernel) (by decide +kernel) (by decide +kernel) (by decide +kernel) (by decide +kernel) (by decide +kernel) (by decide +kernel))
theorem isT_dict : IsT g (.type "dict") tbDct [] fun _ => false := isT_of (mem7 (by decide +kernel) (by decide +kernel) (by decide +kernel) (by decide +kernel) (by decide +kernel) (by decide +kernel) (by decide +kernel))
end
end VS

/-! ## S19: two clauses in a comprehension; a caught error asked for its class -/
namespace VS
open PySem PySem.Spec PyProof.Rows L2
def sNever : SC := fun _ => none
theorem s_never {X : Cx} {g : Gx} {st : Stmt} : PS X st (rdS g sNever) := ps_le ps_never fun E σ H q => by
  obtain ⟨M0, φ, τ, fl, τ', hs, hm, k⟩ := rdS_iff.mp q
  cases hm
/-! ### [.. for x in xs for y in ys] -/
def lcIn (t1 : TD) (c1 : CM Bool) (el : CM D) (vs1 : List Nat) : List D → List D → Tau → Option (List D × Tau) := lcGo t1 c1 el vs1
def lc2Go (t : TD) (it1 : CM (List D)) (t1 : TD) (el : CM D) (vs vs1 : List Nat) : List D → List D → Tau → Option (List D × Tau)
  | [], acc, τ => some (acc, τ)
  | d :: r, acc, τ => match t d (wipeT τ vs) with
    | some τ1 => match it1 τ1 with
      | some (.ok l1, τ2) => match lcGo t1 cYes el vs1 l1 acc τ2 with
        | some (acc', τ3) => lc2Go t it1 t1 el vs vs1 r acc' (wipeT τ3 vs)
        | none => none
      | _ => none
    | none => none
def mLc2 (vs vs1 : List Nat) (it : CM (List D)) (t : TD) (it1 : CM (List D)) (t1 : TD) (el : CM D) : CM SV := bnd it fun l τ => (lc2Go t it1 t1 el vs vs1 l [] τ).map fun p => (.ok (.mu .lst (p.1.map .fz)), p.2)
section
variable {X : Cx} {g : Gx} {e : Expr} {φ : Nat → List Addr} {τ τ' : Tau} {σ : L2.St} {H H' : Hp}
theorem le_lc2 {it it1 : CM (List D)} {vs vs1 ws ws1 : List Nat} {t t1 : TD} {el : CM D} (hw : ∀ i ∈ ws, i ∈ vs) (hw1 : ∀ i ∈ ws1, i ∈ vs1) (h1v : ∀ i ∈ vs1, i ∈ vs) (σ : L2.St) (H : Hp) (Q : VK) (q : rdE g (mLc2 vs vs1 it t it1 t1 el) σ H Q) :
    tLc2 (rdI g it) (rdG (gB g) ws t) tYes (rdI (gB g) it1) (rdG (gB g) ws1 t1) tYes (rdD (gB g) el) vs vs1 σ H Q := by
  obtain ⟨M0, φ, τ, rs, τ', hs, hm, k⟩ := q
  rcases bnd_some hm with ⟨items, τ1, e1, e2⟩ | ⟨c', fs, l, e1, rfl⟩
  · simp only [Option.map_eq_some_iff] at e2
    obtain ⟨⟨out, τf⟩, e2, e3⟩ := e2
    cases e3
    refine ⟨M0, φ, τ, _, _, hs, e1, fun J H1 φ1 hs1 l1 ok => ?_⟩
    intro D0 hD
    have ok1 : ∀ {φ' : Nat → List Addr} {H' : Hp}, Le (ran φ1) H1 (plus (ran φ') [D0]) H' → Le (Mof M0 φ1) H1 (Mof (plus M0 [D0]) φ') H' := fun {φ' H'} l =>
      ⟨l.ev.mono fun _ q => .inr q, fun a q => by
        rcases q with (q | q) | q
        · exact .inl (.inl q)
        · exact .inr (by simp at q; rw [q]; exact hD)
        · exact (l.grow a (.inl q)).imp .inr id⟩
    have hlive : upd H1 D0 (.lst []) D0 ≠ none := by rw [upd_same]; exact fun q => nomatch q
    refine ⟨fun i m Hc => m = items.length - i ∧ i ≤ items.length ∧ ∃ φ' τ2 acc xs, Sim g (plus M0 [D0]) φ' τ2 σ Hc ∧ Le (ran φ1) H1 (plus (ran φ') [D0]) Hc ∧ Hc D0 = some (.lst xs) ∧ Rs g (Mof (plus M0 [D0]) φ') Hc xs acc ∧ lc2Go t it1 t1 el vs vs1 (items.drop i) acc τ2 = some (out, τf), ⟨items.length, by simp, Nat.zero_le _, φ1, τ1, [], [], hs1.more (F := [D0]) (new0 hD) (fun a m => by simp at m; rw [m]; exact hD) (fun a m => by simp at m; rw [m]; exact hlive), .of0 (new0 hD) fun a q => (plus1 q).imp id fun e => by rw [e]; exact hD, upd_same, .nil, e2⟩, ?_⟩
    rintro i m Hc ⟨rfl, hi, φ', τ2, acc, xs, s2, l2, hDc, rs, e3⟩
    by_cases hlt : i < items.length
    · refine .inr ⟨ok.1 i _ Hc (ok1 l2) hlt, fun H3 => i + 1 ≤ items.length ∧ ∃ φ3 τ3 acc xs, Sim g (plus M0 [D0]) φ3 τ3 σ H3 ∧ Le (ran φ1) H1 (plus (ran φ3) [D0]) H3 ∧ H3 D0 = some (.lst xs) ∧ Rs g (Mof (plus M0 [D0]) φ3) H3 xs acc ∧ lc2Go t it1 t1 el vs vs1 (items.drop (i + 1)) acc τ3 = some (out, τf), fun H3 n => ⟨_, by omega, rfl, n⟩, fun x H3 y => ?_⟩
      obtain ⟨e0, d, hd, rx⟩ := ok.2.2 i _ Hc x H3 (ok1 l2) hlt y
      have hdrop : items.drop i = d :: items.drop (i + 1) := by
        rw [List.drop_eq_getElem_cons hlt]
        congr 1
        rw [List.getElem?_eq_getElem hlt] at hd
        exact Option.some.inj hd
      rw [hdrop] at e3
      unfold lc2Go at e3
      split at e3
      · rename_i τ3 ht'
        have s3 := (s2.ev0 e0).wipe vs
        have l3 : Le (ran φ1) H1 (plus (ran φ') [D0]) H3 := l2.trans (.of0 e0 fun _ q => .inl q)
        have hD3 := e0.keep _ _ hDc id
        have rs3 := rs.ev0 e0
        refine ⟨plus M0 [D0], φ', wipeT τ2 vs, d, τ3, s3.blk, rx.blk, ht', fun σ4 φ4 s4 l4 len4 o4 => ?_⟩
        have s4 := s4.unblk
        have o4' : ∀ j, j ∉ vs → σ4[j]? = (wipe σ vs)[j]? := fun j hj => o4 j fun m => hj (hw j m)
        have len4' : σ4.length = σ.length := by rw [len4, wipe_length]
        refine ⟨wipe_eq len4' o4', ?_⟩
        refine y_yesT ?_
        have back : ∀ {τ5 : Tau} {φ5 : Nat → List Addr} {H5 : Hp}, Sim g (plus M0 [D0]) φ5 τ5 σ4 H5 → Sim g (plus M0 [D0]) φ5 (wipeT τ5 vs) σ H5 := fun s5 => s5.back len4'.symm fun j hj => (o4' j hj).trans (wipe_out hj)
        have l34 : Le (ran φ1) H1 (plus (ran φ4) [D0]) H3 := l3.trans (Le.pl l4)
        have rs4 := (Le.mof1 (M0 := M0) (D0 := D0) (Le.pl l4)).rs rs3
        have keepD : ∀ {φ5 φ6 : Nat → List Addr} {τ5 : Tau} {σ5 : L2.St} {H5 H6 : Hp} {u : HO}, Sim g (plus M0 [D0]) φ5 τ5 σ5 H5 → Le (ran φ5) H5 (ran φ6) H6 → H5 D0 = some u → H6 D0 = some u := fun {φ5 φ6 τ5 σ5 H5 H6 u} s5 l5 h5 => l5.ev.keep _ _ h5 fun q => by
          obtain ⟨j, q⟩ := q
          exact s5.d0 j D0 q (.inr (by simp))
        split at e3
        · rename_i ys τ5 hit
          refine ⟨plus M0 [D0], φ4, τ3, _, _, s4.blk, hit, fun J1 H5 φ5 s5 l5 okB => ?_⟩
          have s5 := s5.unblk
          split at e3
          · rename_i acc' τ6 hgo
            have hD5 := keepD s4 l5 hD3
            have rs5 := (le_mof l5).rs rs4
            have l35 := l34.trans (Le.pl l5)
            refine ⟨fun j m H6 => m = ys.length - j ∧ j ≤ ys.length ∧ ∃ φ6 τ7 acc xs, Sim g (plus M0 [D0]) φ6 τ7 σ4 H6 ∧ Le (plus (ran φ5) [D0]) H5 (plus (ran φ6) [D0]) H6 ∧ H6 D0 = some (.lst xs) ∧ Rs g (Mof (plus M0 [D0]) φ6) H6 xs acc ∧ lcGo t1 cYes el vs1 (ys.drop j) acc τ7 = some (acc', τ6), ⟨ys.length, by simp, Nat.zero_le _, φ5, τ5, acc, xs, s5, .refl, hD5, rs5, by simpa using hgo⟩, ?_⟩
            rintro j m H6 ⟨rfl, hj, φ6, τ7, acc2, xs2, s6, l6, hD6, rs6, e6⟩
            have le6 : Le (Mof (plus M0 [D0]) φ5) H5 (Mof (plus M0 [D0]) φ6) H6 := Le.mof1 l6
            by_cases jlt : j < ys.length
            · refine .inr ⟨okB.1 j _ H6 le6 jlt, fun H7 => j + 1 ≤ ys.length ∧ ∃ φ6 τ7 acc xs, Sim g (plus M0 [D0]) φ6 τ7 σ4 H7 ∧ Le (plus (ran φ5) [D0]) H5 (plus (ran φ6) [D0]) H7 ∧ H7 D0 = some (.lst xs) ∧ Rs g (Mof (plus M0 [D0]) φ6) H7 xs acc ∧ lcGo t1 cYes el vs1 (ys.drop (j + 1)) acc τ7 = some (acc', τ6), fun H7 n => ⟨_, by omega, rfl, n⟩, fun x7 H7 y7 => ?_⟩
              obtain ⟨e07, d7, hd7, rx7⟩ := okB.2.2 j _ H6 x7 H7 le6 jlt y7
              have hdrop7 : ys.drop j = d7 :: ys.drop (j + 1) := by
                rw [List.drop_eq_getElem_cons jlt]
                congr 1
                rw [List.getElem?_eq_getElem jlt] at hd7
                exact Option.some.inj hd7
              rw [hdrop7] at e6
              unfold lcGo at e6
              split at e6
              · rename_i τ8 ht8
                have s7 := (s6.ev0 e07).wipe vs1
                have hD7 := e07.keep _ _ hD6 id
                refine ⟨plus M0 [D0], φ6, wipeT τ7 vs1, d7, τ8, s7.blk, rx7, ht8, fun σ8 φ8 s8 l8 len8 o8 => ?_⟩
                have s8 := s8.unblk
                have o8' : ∀ j, j ∉ vs1 → σ8[j]? = (wipe σ4 vs1)[j]? := fun j hj => o8 j fun m => hj (hw1 j m)
                have len8' : σ8.length = σ4.length := by rw [len8, wipe_length]
                refine ⟨wipe_eq len8' o8', ?_⟩
                refine y_yesT ?_
                have l68 : Le (plus (ran φ5) [D0]) H5 (plus (ran φ8) [D0]) H7 := (l6.trans (Le.pl (s6.after0 e07))).trans (Le.pl l8)
                have rs8 := (Le.mof1 (M0 := M0) (D0 := D0) (Le.pl l8)).rs (rs6.ev0 e07)
                have ey : cYes τ8 = some (.ok true, τ8) := rfl
                rw [ey] at e6
                dsimp only at e6
                split at e6
                · rename_i y9 τ9 he
                  split at e6
                  · rename_i hz
                    refine ⟨plus M0 [D0], φ8, τ8, _, _, s8.blk, he, fun v9 H9 q9 => ?_⟩
                    obtain ⟨φ9, s9, r9, l9⟩ := q9
                    have s9 := s9.unblk
                    have hD9 := keepD s8 l9 hD7
                    have rs9 := (le_mof l9).rs rs8
                    have lp := put_le (M := ran φ9) (o' := .lst (xs2 ++ [v9])) hD9 rfl (by simp [kindO]) (by simp [kindO])
                    have back8 : Sim g (plus M0 [D0]) φ9 (wipeT τ9 vs1) σ4 H9 := s9.back len8'.symm fun j hj => (o8' j hj).trans (wipe_out hj)
                    exact ⟨xs2, hD9, by rw [rs9.length]; exact hz, jlt, φ9, wipeT τ9 vs1, acc2 ++ [y9], xs2 ++ [v9], back8.put hD9 rfl (by simp [kindO]) (by simp [kindO]), (l68.trans (Le.pl l9)).trans lp, upd_same, (Le.mof1 lp).rs (rs9.app (.cons r9.unblk .nil)), e6⟩
                  · cases e6
                · cases e6
              · cases e6
            · have e : j = ys.length := by omega
              subst e
              rw [List.drop_of_length_le (Nat.le_refl _)] at e6
              cases e6
              exact .inl ⟨okB.2.1 _ H6 le6, hlt, φ6, wipeT τ6 vs, acc', xs2, back s6, l35.trans l6, hD6, rs6, e3⟩
          · cases e3
        · cases e3
      · cases e3
    · have e : i = items.length := by omega
      subst e
      rw [List.drop_of_length_le (Nat.le_refl _)] at e3
      cases e3
      refine .inl ⟨ok.2.1 _ Hc (ok1 l2), k _ Hc ⟨[D0], φ', s2, .mu hDc rfl rs.ws, List.nodup_cons.mpr ⟨List.not_mem_nil, .nil⟩, fun a m q => ?_, l1.trans l2⟩⟩
      simp at m
      subst m
      exact hs1.al a (.inl q) hD
  · exact ⟨M0, φ, τ, _, _, hs, e1, k⟩
theorem s_lc2 {it it1 : CM (List D)} {vs vs1 ws ws1 : List Nat} {t t1 : TD} {el : CM D} (hw : ∀ i ∈ ws, i ∈ vs) (hw1 : ∀ i ∈ ws1, i ∈ vs1) (h1v : ∀ i ∈ vs1, i ∈ vs) (h : PE X e (tLc2 (rdI g it) (rdG (gB g) ws t) tYes (rdI (gB g) it1) (rdG (gB g) ws1 t1) tYes (rdD (gB g) el) vs vs1)) : PE X e (rdE g (mLc2 vs vs1 it t it1 t1 el)) := pe_le h (le_lc2 hw hw1 h1v)
theorem s_setLc2 {st : Stmt} {i : Nat} {it it1 : CM (List D)} {vs vs1 ws ws1 : List Nat} {t t1 : TD} {el : CM D} (hp : g.pin.contains i = false) (hw : ∀ i ∈ ws, i ∈ vs) (hw1 : ∀ i ∈ ws1, i ∈ vs1) (h1v : ∀ i ∈ vs1, i ∈ vs) (h : PS X st (tAsg (tLc2 (rdI g it) (rdG (gB g) ws t) tYes (rdI (gB g) it1) (rdG (gB g) ws1 t1) tYes (rdD (gB g) el) vs vs1) (gName i))) : PS X st (rdS g (sSet i (mLc2 vs vs1 it t it1 t1 el))) :=
  s_set hp (ps_le h fun E σ H q => le_lc2 hw hw1 h1v _ _ _ q)
end
/-! ### isinstance of a caught error -/
def IsB (te : TE) (a : Addr) (i : Nat) (b : Bool) : Prop := ∀ σ H (Q : VK), σ[i]? = some (some (.ref a)) → Q (.bl b) H → te σ H Q
section
variable {g : Gx} {K : PySem.W.Frag} {a C1 : Addr} {i j : Nat} {b b2 : Bool} {ta tb : TE} {cv : V} {u : Value}
theorem isB_own {C2 : Addr} (C : ExcC K C1) (h : PySem.W.kitOne K (.ref C1) (.ref C2) = some b) : IsB (tCB (rIsEU K (.ref C1) none a) (tCons (tVar i) (tCons (tC (.ref C2)) tNil))) a i b := fun σ H Q hσ q => ⟨_, hσ, y_isE C h q⟩
theorem isB_ty {T : String} (C : ExcC K C1) (h : PySem.W.kitOne K (.ref C1) (.type T) = some b) : IsB (tCB (rIsEU K (.ref C1) none a) (tCons (tVar i) (tCons (tC (.ty T)) tNil))) a i b := fun σ H Q hσ q => ⟨_, hσ, y_isET C h q⟩
theorem isB_and (h1 : IsB ta a i b) (h2 : IsB tb a i b2) : IsB (tAndV ta tb) a i (b && b2) := fun σ H Q hσ q => h1 σ H _ hσ ⟨b, rfl, by
  cases b with
  | true => rw [if_pos rfl]; exact h2 σ H Q hσ q
  | false => rw [if_neg (by decide)]; exact q⟩
theorem isB_not (h1 : IsB ta a i b) : IsB (tNotV ta) a i (!b) := fun σ H Q hσ q => h1 σ H _ hσ ⟨b, rfl, q⟩
def sB (j : Nat) (fb : Nat → Option Bool) (c : Nat) : SC := fun τ => (fb c).map fun b => (.nx, τ.set j (some (.fz (.bl b))))
/-- except C as e: x = a test of e's classes -/
theorem hn_setB {mt : Nat → Option Bool} {fb : Nat → Option Bool} {te : Addr → Value → Option Addr → TE} {cv : Value} (hmt : ∀ c b, mt c = some b → PySem.W.exmOne g.K (.ref (g.cl c)) cv = some b) (hij : i ≠ j) (hp : g.pin.contains i = false) (hpj : g.pin.contains j = false)
    (hte : ∀ c b, fb c = some b → ∀ a, IsB (te a (.ref (g.cl c)) none) a i b) : HnOk g (mt, fun c fs l τ => if i < τ.length ∧ fs = [] then sB j fb c (τ.set i none) else none) (cv, some i, fun a cls d => tAsg (te a cls d) (gName j)) := fun c b hb => ⟨hmt c b hb, fun _ fs l d M0 φ τ τ' σ H E fl a s x ha hm k => by
  dsimp only at hm
  · split at hm
    · rename_i hlt
      obtain ⟨hlt, rfl⟩ := hlt
      unfold sB at hm
      simp only [Option.map_eq_some_iff] at hm
      obtain ⟨b', hb', hm⟩ := hm
      cases hm
      rcases x with ⟨_, rfl, rfl⟩ | ⟨p, fsr, xs, rfl, hp', n, hl, q, r⟩
      · refine hte c b' hb' a _ _ _ (by
          show (σ.set i (some (V.ref a)))[i]? = _
          rw [List.getElem?_set, if_pos rfl, if_pos (by rw [s.len]; exact hlt)]) ?_
        show E.nx (((σ.set i (some (.ref a))).set j (some (.bl b'))).set i none) H
        refine k _ H ⟨⟨upF φ j [], ?_, .up⟩, fun m hm => ?_⟩
        · have e1 : (((σ.set i (some (V.ref a))).set j (some (.bl b'))).set i none) = (σ.set i none).set j (some (.bl b')) := by
            apply List.ext_getElem?
            intro q
            by_cases qi : q = i
            · subst qi
              rw [List.getElem?_set, if_pos rfl, List.length_set, List.length_set, List.getElem?_set_ne (Ne.symm hij), List.getElem?_set, if_pos rfl]
            · rw [List.getElem?_set_ne (Ne.symm qi)]
              by_cases qj : q = j
              · subst qj
                rw [List.getElem?_set, if_pos rfl, List.getElem?_set, if_pos rfl, List.length_set, List.length_set]
              · rw [List.getElem?_set_ne (Ne.symm qj), List.getElem?_set_ne (Ne.symm qj), List.getElem?_set_ne (Ne.symm qi), List.getElem?_set_ne (Ne.symm qi)]
          rw [e1]
          exact (s.drop (i := i) (o := none)).setD (.bl _)
        · have mi : m ≠ i := by rintro rfl; rw [List.contains_iff_mem.mpr hm] at hp; cases hp
          have mj : m ≠ j := by rintro rfl; rw [List.contains_iff_mem.mpr hm] at hpj; cases hpj
          rw [List.getElem?_set_ne (Ne.symm mi), List.getElem?_set_ne (Ne.symm mj), List.getElem?_set_ne (Ne.symm mi)]
      · exact absurd rfl hp'.2
    · cases hm⟩
end
end VS

/-! ## S20: dict comprehensions -/
namespace VS
open PySem PySem.Spec PyProof.Rows L2
def keyK : D → Option Key
  | .int i => some (.inl i)
  | .str z => some (.inr z)
  | _ => none
def putKs (ks : List DK) (k : DK) : List DK := if ks.contains k = true then ks else ks ++ [k]
def dcGo (t : TD) (c : CM Bool) (kx el : CM D) (vs : List Nat) : List D → List DK × List SV → Tau → Option ((List DK × List SV) × Tau)
  | [], acc, τ => some (acc, τ)
  | d :: r, acc, τ => match t d (wipeT τ vs) with
    | some τ1 => match c τ1 with
      | some (.ok true, τ2) => match kx τ2 with
        | some (.ok q, τ3) => match keyK q with
          | some k => match el τ3 with
            | some (.ok y, τ4) => if acc.1.length < sizeLine then dcGo t c kx el vs r (putKs acc.1 (.k k), (putSV acc.1 acc.2 (.k k) y false).2) (wipeT τ4 vs) else none
            | _ => none
          | none => none
        | _ => none
      | some (.ok false, τ2) => dcGo t c kx el vs r acc (wipeT τ2 vs)
      | _ => none
    | none => none
def mDc (vs : List Nat) (it : CM (List D)) (t : TD) (c : CM Bool) (kx el : CM D) : CM SV := bnd it fun l τ => (dcGo t c kx el vs l ([], []) τ).map fun p => (.ok (.mu (.dct false p.1.1) p.1.2), p.2)
section
variable {X : Cx} {g : Gx} {e : Expr} {φ : Nat → List Addr} {τ τ' : Tau} {σ : L2.St} {H H' : Hp}
theorem keyK_some {M : Ad} {v : V} {d : D} {k : Key} (h : keyK d = some k) (r : R g M H v d) : v = kV k := by
  cases d with
  | int i => cases h; exact (RT.of r).int
  | str z => cases h; exact (RT.of r).str
  | _ => cases h
theorem putKs_map {kvs : List (Key × V)} {k : Key} {v : V} : putKs (kvs.map fun p => DK.k p.1) (.k k) = (putK kvs k v).map fun p => DK.k p.1 := by
  have hany : (kvs.map fun p => DK.k p.1).contains (DK.k k) = kvs.any fun kv => decide (kv.1 = k) := by
    rw [Bool.eq_iff_iff, List.contains_iff_mem, List.any_eq_true]
    constructor
    · intro m
      obtain ⟨p, hp, e⟩ := List.mem_map.mp m
      exact ⟨p, hp, by simpa using dk_k_inj _ _ e⟩
    · rintro ⟨p, hp, e⟩
      exact List.mem_map.mpr ⟨p, hp, by rw [of_decide_eq_true e]⟩
  unfold putKs putK
  rw [hany]
  split
  · rw [List.map_map]
    refine List.map_congr_left fun p _ => ?_
    show DK.k p.1 = DK.k (if p.1 = k then (p.1, v) else p).1
    split <;> rfl
  · simp
theorem le_dc {it : CM (List D)} {vs ws : List Nat} {t : TD} {c : CM Bool} {kx el : CM D} {tt : TT} (hw : ∀ i ∈ ws, i ∈ vs) (ht : ∀ σ H Q, rdT (gB g) c σ H Q → tt σ H Q) (σ : L2.St) (H : Hp) (Q : VK) (q : rdE g (mDc vs it t c kx el) σ H Q) :
    tDc (rdI g it) (rdG (gB g) ws t) tt (rdD (gB g) kx) (rdD (gB g) el) vs σ H Q := by
  obtain ⟨M0, φ, τ, rs, τ', hs, hm, k⟩ := q
  rcases bnd_some hm with ⟨items, τ1, e1, e2⟩ | ⟨c', fs, l, e1, rfl⟩
  · simp only [Option.map_eq_some_iff] at e2
    obtain ⟨⟨out, τf⟩, e2, e3⟩ := e2
    cases e3
    refine ⟨M0, φ, τ, _, _, hs, e1, fun J H1 φ1 hs1 l1 ok => ?_⟩
    intro D0 hD
    have ok1 : ∀ {φ' : Nat → List Addr} {H' : Hp}, Le (ran φ1) H1 (plus (ran φ') [D0]) H' → Le (Mof M0 φ1) H1 (Mof (plus M0 [D0]) φ') H' := fun {φ' H'} l =>
      ⟨l.ev.mono fun _ q => .inr q, fun a q => by
        rcases q with (q | q) | q
        · exact .inl (.inl q)
        · exact .inr (by simp at q; rw [q]; exact hD)
        · exact (l.grow a (.inl q)).imp .inr id⟩
    have hlive : upd H1 D0 (.dK []) D0 ≠ none := by rw [upd_same]; exact fun q => nomatch q
    refine ⟨fun i m Hc => m = items.length - i ∧ i ≤ items.length ∧ ∃ φ' τ2 acc kvs, Sim g (plus M0 [D0]) φ' τ2 σ Hc ∧ Le (ran φ1) H1 (plus (ran φ') [D0]) Hc ∧ Hc D0 = some (.dK kvs) ∧ acc.1 = kvs.map (fun p => DK.k p.1) ∧ Ows g (Mof (plus M0 [D0]) φ') Hc (kvs.map (·.2)) acc.2 [] ∧ dcGo t c kx el vs (items.drop i) acc τ2 = some (out, τf), ⟨items.length, by simp, Nat.zero_le _, φ1, τ1, ([], []), [], hs1.more (F := [D0]) (new0 hD) (fun a m => by simp at m; rw [m]; exact hD) (fun a m => by simp at m; rw [m]; exact hlive), .of0 (new0 hD) fun a q => (plus1 q).imp id fun e => by rw [e]; exact hD, upd_same, rfl, .nil, e2⟩, ?_⟩
    rintro i m Hc ⟨rfl, hi, φ', τ2, acc, kvs, s2, l2, hDc, hks, rs, e3⟩
    by_cases hlt : i < items.length
    · refine .inr ⟨ok.1 i _ Hc (ok1 l2) hlt, fun H3 => i + 1 ≤ items.length ∧ ∃ φ3 τ3 acc kvs, Sim g (plus M0 [D0]) φ3 τ3 σ H3 ∧ Le (ran φ1) H1 (plus (ran φ3) [D0]) H3 ∧ H3 D0 = some (.dK kvs) ∧ acc.1 = kvs.map (fun p => DK.k p.1) ∧ Ows g (Mof (plus M0 [D0]) φ3) H3 (kvs.map (·.2)) acc.2 [] ∧ dcGo t c kx el vs (items.drop (i + 1)) acc τ3 = some (out, τf), fun H3 n => ⟨_, by omega, rfl, n⟩, fun x H3 y => ?_⟩
      obtain ⟨e0, d, hd, rx⟩ := ok.2.2 i _ Hc x H3 (ok1 l2) hlt y
      have hdrop : items.drop i = d :: items.drop (i + 1) := by
        rw [List.drop_eq_getElem_cons hlt]
        congr 1
        rw [List.getElem?_eq_getElem hlt] at hd
        exact Option.some.inj hd
      rw [hdrop] at e3
      unfold dcGo at e3
      have sub0 : ∀ a ∈ ([] : List Addr), ∀ S : Ad, ¬ S a := fun a m => nomatch m
      split at e3
      · rename_i τ3 ht'
        have s3 := (s2.ev0 e0).wipe vs
        have l3 : Le (ran φ1) H1 (plus (ran φ') [D0]) H3 := l2.trans (.of0 e0 fun _ q => .inl q)
        have hD3 := e0.keep _ _ hDc id
        have rs3 := rs.keep' (M1 := Mof (plus M0 [D0]) φ') e0 (fun _ q => q.elim) (fun _ q => .inl q) (fun _ m => absurd m List.not_mem_nil)
        refine ⟨plus M0 [D0], φ', wipeT τ2 vs, d, τ3, s3.blk, rx.blk, ht', fun σ4 φ4 s4 l4 len4 o4 => ?_⟩
        have s4 := s4.unblk
        have o4' : ∀ j, j ∉ vs → σ4[j]? = (wipe σ vs)[j]? := fun j hj => o4 j fun m => hj (hw j m)
        have len4' : σ4.length = σ.length := by rw [len4, wipe_length]
        refine ⟨wipe_eq len4' o4', ht _ _ _ ?_⟩
        have back : ∀ {τ5 : Tau} {φ5 : Nat → List Addr} {H5 : Hp}, Sim g (plus M0 [D0]) φ5 τ5 σ4 H5 → Sim g (plus M0 [D0]) φ5 (wipeT τ5 vs) σ H5 := fun s5 => s5.back len4'.symm fun j hj => (o4' j hj).trans (wipe_out hj)
        have l34 : Le (ran φ1) H1 (plus (ran φ4) [D0]) H3 := l3.trans (Le.pl l4)
        have mv : ∀ {M1 M2 : Ad} {Ha Hb : Hp} {vs : List V} {l : List SV}, Le M1 Ha M2 Hb → Ows g M1 Ha vs l [] → Ows g M2 Hb vs l [] := fun le w => w.keep' (S := fun a => False ∨ _) (le.ev.mono fun a q => .inr q) (fun a q => q.elim False.elim id) le.grow fun _ m => absurd m List.not_mem_nil
        have rs4 := mv (Le.mof1 (M0 := M0) (D0 := D0) (Le.pl l4)) rs3
        have keepD : ∀ {φ5 φ6 : Nat → List Addr} {τ5 : Tau} {H5 H6 : Hp} {u : HO}, Sim g (plus M0 [D0]) φ5 τ5 σ4 H5 → Le (ran φ5) H5 (ran φ6) H6 → H5 D0 = some u → H6 D0 = some u := fun {φ5 φ6 τ5 H5 H6 u} s5 l5 h5 => l5.ev.keep _ _ h5 fun q => by
          obtain ⟨j, q⟩ := q
          exact s5.d0 j D0 q (.inr (by simp))
        split at e3
        · rename_i τ5 hc
          refine ⟨plus M0 [D0], φ4, τ3, _, _, s4.blk, hc, fun H5 q5 => ?_⟩
          obtain ⟨φ5, s5, l5⟩ := q5
          have s5 := s5.unblk
          rw [if_pos rfl]
          split at e3
          · rename_i qd τ6 hq
            split at e3
            · rename_i kk hkk
              split at e3
              · rename_i y τ7 he
                split at e3
                · rename_i hz
                  refine ⟨plus M0 [D0], φ5, τ5, _, _, s5.blk, hq, fun v6 H6 q6 => ?_⟩
                  obtain ⟨φ6, s6, r6, l6⟩ := q6
                  have s6 := s6.unblk
                  refine ⟨plus M0 [D0], φ6, τ6, _, _, s6.blk, he, fun v7 H7 q7 => ?_⟩
                  obtain ⟨φ7, s7, r7, l7⟩ := q7
                  have s7 := s7.unblk
                  have hD7 := keepD s6 l7 (keepD s5 l6 (keepD s4 l5 hD3))
                  have rs7 := mv (le_mof l7) (mv (le_mof l6) (mv (le_mof l5) rs4))
                  have lp := put_le (M := ran φ7) (o' := .dK (putK kvs kk v7)) hD7 rfl (by simp [kindO]) (by simp [kindO])
                  obtain ⟨F', b0, b1, b2, b3⟩ := Ows.put DK.k dk_k_inj false kk r7.unblk rs7
                  have hF : F' = [] := List.eq_nil_iff_forall_not_mem.mpr fun a m => nomatch b2 a m
                  subst hF
                  rw [← hks] at b1
                  refine ⟨kvs, kk, keyK_some hkk r6.unblk, hD7, by rw [hks, List.length_map] at hz; exact hz, hlt, φ7, wipeT τ7 vs, _, _, (back s7).put hD7 rfl (by simp [kindO]) (by simp [kindO]), (((l34.trans (Le.pl l5)).trans (Le.pl l6)).trans (Le.pl l7)).trans lp, upd_same, by rw [hks]; exact putKs_map, mv (Le.mof1 lp) b1, e3⟩
                · cases e3
              · cases e3
            · cases e3
          · cases e3
        · rename_i τ5 hc
          refine ⟨plus M0 [D0], φ4, τ3, _, _, s4.blk, hc, fun H5 q5 => ?_⟩
          obtain ⟨φ5, s5, l5⟩ := q5
          have s5 := s5.unblk
          rw [if_neg (by decide)]
          exact ⟨hlt, φ5, wipeT τ5 vs, acc, kvs, back s5, l34.trans (Le.pl l5), keepD s4 l5 hD3, hks, mv (le_mof l5) rs4, e3⟩
        · cases e3
      · cases e3
    · have e : i = items.length := by omega
      subst e
      rw [List.drop_of_length_le (Nat.le_refl _)] at e3
      cases e3
      refine .inl ⟨ok.2.1 _ Hc (ok1 l2), k _ Hc ⟨[D0], φ', s2, .mu hDc ⟨kvs, rfl, hks, rfl⟩ rs, List.nodup_cons.mpr ⟨List.not_mem_nil, .nil⟩, fun a m q => ?_, l1.trans l2⟩⟩
      simp at m
      subst m
      exact hs1.al a (.inl q) hD
  · exact ⟨M0, φ, τ, _, _, hs, e1, k⟩
theorem s_dc {it : CM (List D)} {vs ws : List Nat} {t : TD} {kx el : CM D} (hw : ∀ i ∈ ws, i ∈ vs) (h : PE X e (tDc (rdI g it) (rdG (gB g) ws t) tYes (rdD (gB g) kx) (rdD (gB g) el) vs)) : PE X e (rdE g (mDc vs it t cYes kx el)) := pe_le h (le_dc hw t_yes)
theorem s_dcIf {it : CM (List D)} {vs ws : List Nat} {t : TD} {c : CM Bool} {kx el : CM D} (hw : ∀ i ∈ ws, i ∈ vs) (h : PE X e (tDc (rdI g it) (rdG (gB g) ws t) (rdT (gB g) c) (rdD (gB g) kx) (rdD (gB g) el) vs)) : PE X e (rdE g (mDc vs it t c kx el)) := pe_le h (le_dc hw fun _ _ _ q => q)
end
end VS

/-! ## S21: the end of a law -/
namespace VS
open PySem PySem.Spec PyProof.Rows L2
/-- the script as data -/
def scr (ns : List Int) : SV := .fz (.fro (ns.map .int))
/-- what a law's def promises -/
def spL (K : PySem.W.Frag) : Sp := fun vs H Q _ => ∃ (a : Addr) (ns : List Int), vs = [.ref a] ∧ ns.length ≤ 63 ∧ Only H ∧ SqL K H a (ns.map V.int) ∧ ∀ H', Q (.bl true) H'
theorem spL_of {K : PySem.W.Frag} {cl : Nat → Addr} {F : Fn} (pure : ∀ ns : List Int, ns.length ≤ 63 → ∃ o, F [scr ns] = some (.ok (.fz (.bl true)), o)) {vs : List V} {H : Hp} {Q : VK} {E : XK} (h : spL K vs H Q E) : spF (gK K cl hid0) F vs H Q E := by
  obtain ⟨a, ns, rfl, hl, hO, hS, k⟩ := h
  obtain ⟨o, h⟩ := pure ns hl
  have hf : Fro K H a (ns.map V.int) := by
    rcases hS with (q | ⟨u, q⟩) | q
    · rcases hO a with e | ⟨o', xs, e⟩
      · rw [e] at q; cases q
      · rw [e] at q; cases q
    · exact .inl ⟨u, q⟩
    · exact .inr q
  refine ⟨fun _ => False, fun _ => [], [scr ns], _, o, ⟨rfl, fun i s q => ?_, fun _ => .nil, fun _ _ _ m => (nomatch m), fun _ _ m => (nomatch m), fun x q => ?_⟩, h, ?_⟩
  · cases i with
    | zero =>
      simp at q
      subst q
      exact ⟨.ref a, rfl, .fz (.fro hf (rs_ints ns))⟩
    | succ i => simp at q
  · rcases q with q | ⟨i, q⟩
    · exact q.elim
    · cases q
  · intro v H' q
    obtain ⟨φ', s, r, l⟩ := q.frz
    have hv : v = .bl true := (RT.of r).bl
    rw [hv]
    exact k H'
theorem law_cx {P : Program} {w : World} {H : Hp} {s : Shared} {e : Value} {s' : Shared} (h : L2.CX P w [] H s (fun _ _ _ => False) e s') : False := by
  obtain ⟨_, _, _, _, _, _, _, _, _, _, _, _, z⟩ := h
  exact z
end VS

/-! ## S22: isinstance of a place, which stays what it is -/
namespace VS
open PySem PySem.Spec PyProof.Rows L2
def blOnly : SV → Option Bool
  | .fz (.bl b) => some b
  | _ => none
def mIsi (f : D → Option SV) (p : PB) : CM SV := fun τ => (p τ).bind fun s => (f s.toD).bind fun r => (blOnly r).map fun b => (.ok (.fz (.bl b)), τ)
section
variable {X : Cx} {g : Gx} {e : Expr}
theorem s_isiP {r : List V → Hp → VK → Prop} {f : D → Option SV} {a : PB} {c : V} (ho : OpC g f r [c]) (h : PE X e (tCB r (tCons (rdB g a) (tCons (tC c) tNil)))) : PE X e (rdE g (mIsi f a)) := pe_le h fun σ H Q q => by
  obtain ⟨M0, φ, τ, rs, τ', hs, hm, k⟩ := q
  simp only [mIsi, Option.bind_eq_some_iff, Option.map_eq_some_iff] at hm
  obtain ⟨sx, hx, s, es, b, hb, e⟩ := hm
  cases e
  have hs' : s = .fz (.bl b) := by
    unfold blOnly at hb
    split at hb
    · cases hb; rfl
    · cases hb
  subst hs'
  refine ⟨M0, φ, τ, _, hs, hx, fun v1 H1 e1 w1 => ?_⟩
  obtain ⟨F1, w1⟩ := w1
  have r1 : R g (fun _ => False) H1 v1 sx.toD := Ow.freeze (fun _ q => q.elim) sx v1 F1 (fun _ _ q => q) w1
  refine ho (.of r1) es fun v3 H3 p => ?_
  obtain ⟨F, e3, w3, _, _⟩ := p
  cases w3 with
  | fz r3 =>
    cases r3
    exact k _ H3 (EOk.after (hs.after0 e1) (.of (hs.ev0 e1) (.fz e3 (.bl b))))
end
end VS

/-! ## S23: an own object within a slot's own object is changed -/
namespace VS
open PySem PySem.Spec PyProof.Rows L2
/-- the part at a path -/
def subAt : List Nat → SV → Option SV
  | [], s => some s
  | n :: π, .mu _ l => (l[n]?).bind (subAt π)
  | _ :: _, .fz _ => none
def putAt : List Nat → SV → SV → SV
  | [], x, _ => x
  | n :: π, x, .mu h l => match l[n]? with
    | some s => .mu h (l.set n (putAt π x s))
    | none => .mu h l
  | _ :: _, _, s => s
theorem HOf.same {cl : Nat → Addr} {h h' : Hd} {xs xs' : List V} {o : HO} (a : HOf cl h xs o) (b : HOf cl h' xs' o) : xs = xs' := by
  cases h with
  | lst =>
    cases a
    cases h' with
    | lst => cases b; rfl
    | dct t ks => cases t <;> obtain ⟨_, e, _⟩ := b <;> cases e
    | ins c fs => obtain ⟨_, _, e, _⟩ := b; cases e
  | dct t ks =>
    cases t
    · obtain ⟨kvs, rfl, _, rfl⟩ := a
      cases h' with
      | lst => cases b
      | dct t' ks' => cases t' <;> obtain ⟨_, e, _, rfl⟩ := b <;> cases e; rfl
      | ins c fs => obtain ⟨_, _, e, _⟩ := b; cases e
    · obtain ⟨kvs, rfl, _, rfl⟩ := a
      cases h' with
      | lst => cases b
      | dct t' ks' => cases t' <;> obtain ⟨_, e, _, rfl⟩ := b <;> cases e; rfl
      | ins c fs => obtain ⟨_, _, e, _⟩ := b; cases e
  | ins c fs =>
    obtain ⟨dx, fsr, rfl, _, rfl, _⟩ := a
    cases h' with
    | lst => cases b
    | dct t' ks' => cases t' <;> obtain ⟨_, e, _⟩ := b <;> cases e
    | ins c' fs' => obtain ⟨_, _, e, _, rfl, _⟩ := b; injection e with e1 e2 e3; rw [e3]
/-- from v by a path to u -/
inductive PathV (g : Gx) (H : Hp) : V → List Nat → V → Prop
  | nil {v : V} : PathV g H v [] v
  | cons {a : Addr} {o : HO} {h : Hd} {xs : List V} {n : Nat} {w u : V} {π : List Nat} : H a = some o → HOf g.cl h xs o → xs[n]? = some w → PathV g H w π u → PathV g H (.ref a) (n :: π) u
section
variable {X : Cx} {g : Gx} {M M0 M1 : Ad} {φ φ1 φ' : Nat → List Addr} {τ τ' : Tau} {σ σ1 : L2.St} {H H' H1 : Hp} {u v w x y : V} {vs xs : List V} {d : D} {ds : List D} {s s' : SV} {h h' : Hd} {l : List SV} {F Fn : List Addr} {a : Addr} {o : HO} {π : List Nat} {n : Nat}
theorem PathV.fn (p : PathV g H v π u) : ∀ {w : V}, PathV g H v π w → u = w := by
  induction p with
  | nil => intro w q; cases q; rfl
  | cons h1 h2 h3 _ ih =>
    intro w q
    cases q with
    | cons k1 k2 k3 k4 =>
      rw [h1] at k1
      cases k1
      rw [h2.same k2] at h3
      rw [h3] at k3
      cases k3
      exact ih k4
theorem PathV.ev0 (e : Ev0 H H1) (p : PathV g H v π u) : PathV g H1 v π u := by
  induction p with
  | nil => exact .nil
  | cons h1 h2 h3 _ ih => exact .cons (e.keep _ _ h1 id) h2 h3 ih
theorem PathV.snoc (p : PathV g H v π (.ref a)) (h1 : H a = some o) (h2 : HOf g.cl h xs o) (h3 : xs[n]? = some w) : PathV g H v (π ++ [n]) w := by
  generalize e : V.ref a = b at p
  induction p with
  | nil => subst e; exact .cons h1 h2 h3 .nil
  | cons k1 k2 k3 _ ih => exact .cons k1 k2 k3 (ih e)
mutual
/-- what is owned is told by the heap -/
theorem Ow.foot {M2 : Ad} : ∀ {s : SV} {v : V} {F F2 : List Addr}, Ow g M H v s F → Ow g M2 H v s F2 → F = F2
  | .fz d, _, _, _, h, h2 => by cases h; cases h2; rfl
  | .mu hd l, _, _, _, h, h2 => by
    cases h with
    | mu q1 q2 q3 =>
      cases h2 with
      | mu k1 k2 k3 =>
        rw [q1] at k1
        cases k1
        have e := q2.same k2
        subst e
        rw [Ows.foot q3 k3]
theorem Ows.foot {M2 : Ad} : ∀ {l : List SV} {vs : List V} {F F2 : List Addr}, Ows g M H vs l F → Ows g M2 H vs l F2 → F = F2
  | [], _, _, _, h, h2 => by cases h; cases h2; rfl
  | s :: l, _, _, _, h, h2 => by
    cases h with
    | cons p q =>
      cases h2 with
      | cons p2 q2 => rw [Ow.foot p p2, Ows.foot q q2]
end
theorem Ows.nth {i : Nat} (h : Ows g M H vs l F) (e : l[i]? = some s) : ∃ v F', vs[i]? = some v ∧ Ow g M H v s F' ∧ (∀ x ∈ F', x ∈ F) ∧ (F.Nodup → F'.Nodup) := by
  induction i generalizing vs l F with
  | zero => cases h with
    | nil => cases e
    | cons p q => cases e; exact ⟨_, _, rfl, p, fun x m => List.mem_append_left _ m, fun n => (List.nodup_append.mp n).1⟩
  | succ i ih => cases h with
    | nil => cases e
    | cons p q =>
      obtain ⟨v, F', a, b, c, d⟩ := ih q e
      exact ⟨v, F', a, b, fun x m => List.mem_append_right _ (c x m), fun n => d (List.nodup_append.mp n).2.1⟩
theorem Ow.sub_at : ∀ (π : List Nat) {s s' : SV} {v : V} {F : List Addr}, Ow g M H v s F → subAt π s = some s' → ∃ v' F', PathV g H v π v' ∧ Ow g M H v' s' F' ∧ (∀ x ∈ F', x ∈ F) ∧ (F.Nodup → F'.Nodup)
  | [], s, s', v, F, h, e => by cases e; exact ⟨v, F, .nil, h, fun _ m => m, id⟩
  | n :: π, s, s', v, F, h, e => by
    cases h with
    | fz r => cases e
    | @mu a o hd xs l F h1 h2 h3 =>
      simp only [subAt, Option.bind_eq_some_iff] at e
      obtain ⟨t, e1, e2⟩ := e
      obtain ⟨v1, F1, i1, i2, i3, i4⟩ := h3.nth e1
      obtain ⟨v2, F2, j1, j2, j3, j4⟩ := Ow.sub_at π i2 e2
      exact ⟨v2, F2, .cons h1 h2 i1 j1, j2, fun x m => List.mem_cons_of_mem _ (i3 x (j3 x m)), fun nd => j4 (i4 (List.nodup_cons.mp nd).2)⟩
/-- the part at a path may be another one -/
def PutOk (g : Gx) (M : Ad) (H : Hp) (h : Hd) (l : List SV) (P : Addr → Prop) (F : List Addr) (T : Ad → Hp → Hd → List SV → List Addr → Prop) : Prop :=
  ∃ a o xs Fl, P a ∧ H a = some o ∧ HOf g.cl h xs o ∧ Ows g M H xs l Fl ∧ Fl.Nodup ∧ a ∈ F ∧ a ∉ Fl ∧ (∀ x ∈ Fl, x ∈ F) ∧
    ∀ (M1 : Ad) (o' : HO) (h' : Hd) (xs' : List V) (l' : List SV) (Fl' : List Addr), HOf g.cl h' xs' o' → kindO o' = kindO o → Ows g M1 (upd H a o') xs' l' Fl' → Fl'.Nodup → (∀ x ∈ Fl', x ∈ Fl ∨ x ∉ F) → (∀ x, M1 x → M x ∨ H x = none) →
      ∃ F', T M1 (upd H a o') h' l' F' ∧ F'.Nodup ∧ (∀ x ∈ F', x ∈ Fl' ∨ (x ∈ F ∧ x ∉ Fl))
theorem Ows.put_of (ih : ∀ {s : SV} {v : V} {F : List Addr}, Ow g M H v s F → F.Nodup → (∀ x ∈ F, M x) → subAt π s = some (.mu h l) → PutOk g M H h l (fun a => PathV g H v π (.ref a)) F fun M1 H1 h' l' F' => Ow g M1 H1 v (putAt π (.mu h' l') s) F') :
    ∀ {n : Nat} {vs : List V} {ls : List SV} {F : List Addr}, Ows g M H vs ls F → F.Nodup → (∀ x ∈ F, M x) → ls[n]? = some s → subAt π s = some (.mu h l) →
      PutOk g M H h l (fun a => ∃ w, vs[n]? = some w ∧ PathV g H w π (.ref a)) F fun M1 H1 h' l' F' => Ows g M1 H1 vs (ls.set n (putAt π (.mu h' l') s)) F'
  | _, _, _, _, .nil, _, _, e, _ => by cases e
  | 0, _, _, _, .cons (F := Fa) (F' := Fb) p q, nd, hM, e, e2 => by
    cases e
    obtain ⟨n1, n2, n3⟩ := List.nodup_append.mp nd
    obtain ⟨a, o, xs, Fl, p1, p2, p3, p4, p5, p6, p7, p8, p9⟩ := ih p n1 (fun x m => hM x (List.mem_append_left _ m)) e2
    refine ⟨a, o, xs, Fl, ⟨_, rfl, p1⟩, p2, p3, p4, p5, List.mem_append_left _ p6, p7, fun x m => List.mem_append_left _ (p8 x m), fun M1 o' h' xs' l' Fl' k1 k2 k3 k4 k5 k6 => ?_⟩
    obtain ⟨F', b1, b2, b3⟩ := p9 M1 o' h' xs' l' Fl' k1 k2 k3 k4 (fun x m => (k5 x m).imp id fun r m => r (List.mem_append_left _ m)) k6
    have ev := put_ev (o' := o') p2 k2 p3.kind.1 p3.kind.2
    refine ⟨F' ++ Fb, .cons b1 (q.keep' ev (fun x e => by rw [e]; exact hM a (List.mem_append_left _ p6)) k6 fun x m e => by subst e; exact n3 _ p6 _ m rfl), List.nodup_append.mpr ⟨b2, n2, fun x m y m2 e => ?_⟩, fun x m => ?_⟩
    · subst e
      rcases b3 x m with r | r
      · rcases k5 x r with r | r
        · exact n3 x (p8 x r) x m2 rfl
        · exact r (List.mem_append_right _ m2)
      · exact n3 x r.1 x m2 rfl
    · rcases List.mem_append.mp m with r | r
      · exact (b3 x r).imp id fun r => ⟨List.mem_append_left _ r.1, r.2⟩
      · exact .inr ⟨List.mem_append_right _ r, fun r2 => n3 x (p8 x r2) x r rfl⟩
  | n + 1, _, _, _, .cons (F := Fa) (F' := Fb) p q, nd, hM, e, e2 => by
    obtain ⟨n1, n2, n3⟩ := List.nodup_append.mp nd
    obtain ⟨a, o, xs, Fl, ⟨w, pw, p1⟩, p2, p3, p4, p5, p6, p7, p8, p9⟩ := Ows.put_of ih (n := n) q n2 (fun x m => hM x (List.mem_append_right _ m)) (by simpa using e) e2
    refine ⟨a, o, xs, Fl, ⟨w, by simpa using pw, p1⟩, p2, p3, p4, p5, List.mem_append_right _ p6, p7, fun x m => List.mem_append_right _ (p8 x m), fun M1 o' h' xs' l' Fl' k1 k2 k3 k4 k5 k6 => ?_⟩
    obtain ⟨F', b1, b2, b3⟩ := p9 M1 o' h' xs' l' Fl' k1 k2 k3 k4 (fun x m => (k5 x m).imp id fun r m => r (List.mem_append_right _ m)) k6
    have ev := put_ev (o' := o') p2 k2 p3.kind.1 p3.kind.2
    refine ⟨Fa ++ F', .cons (p.keep' ev (fun x e => by rw [e]; exact hM a (List.mem_append_right _ p6)) k6 fun x m e => by subst e; exact n3 _ m _ p6 rfl) b1, List.nodup_append.mpr ⟨n1, b2, fun x m y m2 e => ?_⟩, fun x m => ?_⟩
    · subst e
      rcases b3 x m2 with r | r
      · rcases k5 x r with r | r
        · exact n3 x m x (p8 x r) rfl
        · exact r (List.mem_append_left _ m)
      · exact n3 x m x r.1 rfl
    · rcases List.mem_append.mp m with r | r
      · exact .inr ⟨List.mem_append_left _ r, fun r2 => n3 x r x (p8 x r2) rfl⟩
      · exact (b3 x r).imp id fun r => ⟨List.mem_append_right _ r.1, r.2⟩
theorem Ow.put_at : ∀ (π : List Nat) {s : SV} {v : V} {F : List Addr}, Ow g M H v s F → F.Nodup → (∀ x ∈ F, M x) → subAt π s = some (.mu h l) →
    PutOk g M H h l (fun a => PathV g H v π (.ref a)) F fun M1 H1 h' l' F' => Ow g M1 H1 v (putAt π (.mu h' l') s) F'
  | [], s, v, F, hw, nd, hM, e => by
    cases e
    cases hw with
    | @mu a o hd xs l F h1 h2 h3 =>
      obtain ⟨n1, n2⟩ := List.nodup_cons.mp nd
      refine ⟨a, o, xs, F, .nil, h1, h2, h3, n2, List.mem_cons_self, n1, fun x m => List.mem_cons_of_mem _ m, fun M1 o' h' xs' l' Fl' k1 k2 k3 k4 k5 k6 => ⟨a :: Fl', .mu upd_same k1 k3, List.nodup_cons.mpr ⟨fun m => ?_, k4⟩, fun x m => ?_⟩⟩
      · rcases k5 a m with r | r
        · exact n1 r
        · exact r List.mem_cons_self
      · rcases List.mem_cons.mp m with r | r
        · subst r; exact .inr ⟨List.mem_cons_self, n1⟩
        · exact .inl r
  | n :: π, s, v, F, hw, nd, hM, e => by
    cases hw with
    | fz r => cases e
    | @mu a0 o0 hd xs0 l0 F0 h1 h2 h3 =>
      simp only [subAt, Option.bind_eq_some_iff] at e
      obtain ⟨t, e1, e2⟩ := e
      obtain ⟨n1, n2⟩ := List.nodup_cons.mp nd
      obtain ⟨a, o, xs, Fl, ⟨w, pw, p1⟩, p2, p3, p4, p5, p6, p7, p8, p9⟩ := Ows.put_of (Ow.put_at π) h3 n2 (fun x m => hM x (List.mem_cons_of_mem _ m)) e1 e2
      have hne : a0 ≠ a := fun e => n1 (by rw [e]; exact p6)
      refine ⟨a, o, xs, Fl, .cons h1 h2 pw p1, p2, p3, p4, p5, List.mem_cons_of_mem _ p6, p7, fun x m => List.mem_cons_of_mem _ (p8 x m), fun M1 o' h' xs' l' Fl' k1 k2 k3 k4 k5 k6 => ?_⟩
      obtain ⟨F', b1, b2, b3⟩ := p9 M1 o' h' xs' l' Fl' k1 k2 k3 k4 (fun x m => (k5 x m).imp id fun r m => r (List.mem_cons_of_mem _ m)) k6
      have e3 : putAt (n :: π) (.mu h' l') (.mu hd l0) = .mu hd (l0.set n (putAt π (.mu h' l') t)) := by
        show (match l0[n]? with | some s => _ | none => _) = _
        rw [e1]
      show ∃ F', Ow g M1 (upd H a o') (.ref a0) (putAt (n :: π) (.mu h' l') (.mu hd l0)) F' ∧ _
      rw [e3]
      refine ⟨a0 :: F', .mu ((upd_ne hne).trans h1) h2 b1, List.nodup_cons.mpr ⟨fun m => ?_, b2⟩, fun x m => ?_⟩
      · rcases b3 a0 m with r | r
        · rcases k5 a0 r with r | r
          · exact n1 (p8 a0 r)
          · exact r List.mem_cons_self
        · exact n1 r.1
      · rcases List.mem_cons.mp m with r | r
        · subst r; exact .inr ⟨List.mem_cons_self, fun m => n1 (p8 _ m)⟩
        · exact (b3 x r).imp id fun r => ⟨List.mem_cons_of_mem _ r.1, r.2⟩
/-- an own object within a slot's own is changed: it may take in what Fn owns, and give out what Fr owns -/
theorem Sim.changeAt {i : Nat} (hs : Sim g (plus M0 Fn) φ τ σ H) (ndn : Fn.Nodup) (n0 : ∀ x ∈ Fn, ¬ M0 x) (e : τ[i]? = some (some s)) (sub : subAt π s = some (.mu h l)) :
    ∃ v a o xs Fl, σ[i]? = some (some v) ∧ PathV g H v π (.ref a) ∧ H a = some o ∧ HOf g.cl h xs o ∧ Ows g (Mof (plus M0 Fn) φ) H xs l Fl ∧ Fl.Nodup ∧ a ∉ Fl ∧ a ∉ Fn ∧ (∀ x ∈ Fl, x ∉ Fn) ∧
      ∀ (o' : HO) (h' : Hd) (xs' : List V) (l' : List SV) (Fl' Fr : List Addr), HOf g.cl h' xs' o' → kindO o' = kindO o → Ows g (Mof (plus M0 Fn) φ) H xs' l' Fl' → (Fl' ++ Fr).Nodup → (∀ x ∈ Fl' ++ Fr, x ∈ Fl ∨ x ∈ Fn) →
        ∃ φ', Sim g (plus M0 Fr) φ' (τ.set i (some (putAt π (.mu h' l') s))) σ (upd H a o') ∧ Le (plus (ran φ) Fn) H (plus (ran φ') Fr) (upd H a o') ∧ (∀ x ∈ Fr, ¬ M0 x) ∧
          (∀ {v : V} {s : SV} {F : List Addr}, Ow g (Mof (plus M0 Fn) φ) H v s F → (∀ x ∈ F, x ∈ Fr) → Ow g (Mof (plus M0 Fr) φ') (upd H a o') v s F) ∧ Le (Mof (plus M0 Fn) φ) H (Mof (plus M0 Fr) φ') (upd H a o') := by
  obtain ⟨v, hv, w⟩ := hs.at_ i s e
  have hM : ∀ x ∈ φ i, Mof (plus M0 Fn) φ x := fun x m => .inr ⟨i, m⟩
  obtain ⟨a, o, xs, Fl, p1, p2, p3, p4, p5, p6, p7, p8, p9⟩ := Ow.put_at π w (hs.nd i) hM sub
  have aFn : a ∉ Fn := fun m => hs.d0 i a p6 (.inr m)
  have lFn : ∀ x ∈ Fl, x ∉ Fn := fun x m m2 => hs.d0 i x (p8 x m) (.inr m2)
  refine ⟨v, a, o, xs, Fl, hv, p1, p2, p3, p4, p5, p7, aFn, lFn, fun o' h' xs' l' Fl' Fr k1 k2 k3 k4 k5 => ?_⟩
  obtain ⟨m1, m2, m3⟩ := List.nodup_append.mp k4
  have ev := put_ev (o' := o') p2 k2 p3.kind.1 p3.kind.2
  have nAl : a ∉ Fl' ++ Fr := fun m => by
    rcases k5 a m with r | r
    · exact p7 r
    · exact aFn r
  -- the owners behind
  have hiF : ∀ x ∈ Fl', x ∈ Fl ∨ x ∉ φ i := fun x m => by
    rcases k5 x (List.mem_append_left _ m) with r | r
    · exact .inl r
    · exact .inr fun q => hs.d0 i x q (.inr r)
  have hil : i < τ.length := (List.getElem?_eq_some_iff.mp e).1
  obtain ⟨F', b1', b2, b3⟩ := p9 (fun x => False) o' h' xs' l' Fl' k1 k2 (k3.keep' ev (fun x q => by rw [q]; exact hM a p6) (fun x q => q.elim) fun x m q => by subst q; exact nAl (List.mem_append_left _ m)) m1 hiF (fun x q => q.elim)
  -- where F' lies
  have sub1 : ∀ x ∈ F', x ∈ φ i ∨ x ∈ Fn := fun x m => by
    rcases b3 x m with r | r
    · rcases k5 x (List.mem_append_left _ r) with r | r
      · exact .inl (p8 x r)
      · exact .inr r
    · exact .inl r.1
  have up : ∀ x j, x ∈ upF φ i F' j → x ∈ φ j ∨ (x ∈ Fn ∧ j = i) := fun x j q => by
    by_cases ee : j = i
    · subst ee
      rw [upF_same] at q
      exact (sub1 x q).imp id fun r => ⟨r, rfl⟩
    · rw [upF_ne ee] at q; exact .inl q
  have frs : ∀ x ∈ Fr, x ∈ φ i ∨ x ∈ Fn := fun x m => (k5 x (List.mem_append_right _ m)).imp (p8 x) id
  have subM : ∀ x, Mof (plus M0 Fr) (upF φ i F') x → Mof (plus M0 Fn) φ x := fun x q => by
    rcases q with (q | q) | ⟨j, q⟩
    · exact .inl (.inl q)
    · rcases frs x q with r | r
      · exact .inr ⟨i, r⟩
      · exact .inl (.inr r)
    · rcases up x j q with r | r
      · exact .inr ⟨j, r⟩
      · exact .inl (.inr r.1)
  have hS : ∀ x, x = a → Mof (plus M0 Fn) φ x := fun x q => by rw [q]; exact hM a p6
  have fr0 : ∀ x ∈ Fr, ¬ M0 x := fun x m q => by
    rcases frs x m with r | r
    · exact hs.d0 i x r (.inl q)
    · exact n0 x r q
  obtain ⟨F2, c1, c2, c3⟩ := p9 (Mof (plus M0 Fr) (upF φ i F')) o' h' xs' l' Fl' k1 k2 (k3.keep' ev hS (fun x q => .inl (subM x q)) fun x m q => by subst q; exact nAl (List.mem_append_left _ m)) m1 hiF (fun x q => .inl (subM x q))
  have eF : F2 = F' := Ow.foot c1 b1'
  subst eF
  refine ⟨upF φ i F2, ⟨by rw [List.length_set]; exact hs.len, fun j s' q => ?_, fun j => ?_, fun j k x p q => ?_, fun j x p q => ?_, fun x q => ev.live (hs.al x (subM x q))⟩, ⟨ev.mono fun x q => .inl ⟨i, by rw [q]; exact p6⟩, fun x q => .inl ?_⟩, fr0, fun {v s F} w hF => w.keep' ev hS (fun x q => .inl (subM x q)) fun x m q => by subst q; exact nAl (List.mem_append_right _ (hF _ m)), ⟨ev.mono hS, fun x q => .inl (subM x q)⟩⟩
  · by_cases ee : j = i
    · subst ee
      rw [List.getElem?_set, if_pos rfl, if_pos hil] at q
      cases q
      refine ⟨v, hv, ?_⟩
      rw [upF_same]
      exact c1
    · rw [List.getElem?_set_ne (Ne.symm ee)] at q
      obtain ⟨v', q1, q2⟩ := hs.at_ j s' q
      rw [upF_ne ee]
      exact ⟨v', q1, q2.keep' ev hS (fun x q => .inl (subM x q)) fun x m q => by subst q; exact ee (hs.dj j i _ m p6)⟩
  · by_cases ee : j = i
    · subst ee; rw [upF_same]; exact c2
    · rw [upF_ne ee]; exact hs.nd j
  · rcases up x j p with r | r
    · rcases up x k q with r2 | r2
      · exact hs.dj j k x r r2
      · exact absurd (.inr r2.1) (hs.d0 j x r)
    · rcases up x k q with r2 | r2
      · exact absurd (.inr r.1) (hs.d0 k x r2)
      · rw [r.2, r2.2]
  · have hx : ¬ M0 x := fun m0 => by
      rcases up x j p with r | r
      · exact hs.d0 j x r (.inl m0)
      · exact n0 x r.1 m0
    rcases q with q | q
    · exact hx q
    · by_cases ee : j = i
      · subst ee
        rw [upF_same] at p
        rcases c3 x p with r | r
        · exact m3 x r x q rfl
        · rcases k5 x (List.mem_append_right _ q) with r2 | r2
          · exact r.2 r2
          · exact hs.d0 j x r.1 (.inr r2)
      · rw [upF_ne ee] at p
        rcases frs x q with r | r
        · exact ee (hs.dj j i x p r)
        · exact hs.d0 j x p (.inr r)
  · rcases q with ⟨j, q⟩ | q
    · rcases up x j q with r | r
      · exact .inl ⟨j, r⟩
      · exact .inr r.1
    · rcases frs x q with r | r
      · exact .inl ⟨i, r⟩
      · exact .inr r
end
end VS

/-! ## S24: an own object within a slot's own object, told by a place; stores there; methods that change it -/
namespace VS
open PySem PySem.Spec PyProof.Rows L2
/-- where an own object stands: a slot and a path -/
abbrev PO := Tau → Option (Nat × List Nat)
def slotS (τ : Tau) (i : Nat) : Option SV := (τ[i]?).join
theorem slotS_some {τ : Tau} {i : Nat} {s : SV} (h : slotS τ i = some s) : τ[i]? = some (some s) := by
  unfold slotS at h
  exact Option.join_eq_some_iff.mp h
def rdOb (g : Gx) (m : PO) : TE := fun σ H Q => ∃ M0 φ τ i π s h l, Sim g M0 φ τ σ H ∧ m τ = some (i, π) ∧ slotS τ i = some s ∧ subAt π s = some (.mu h l) ∧
  ∀ v a H', Ev0 H H' → σ[i]? = some (some v) → PathV g H' v π (.ref a) → Q (.ref a) H'
def fIdx : List Str → Str → Option Nat
  | [], _ => none
  | f :: fs, q => if f = q then some 0 else (fIdx fs q).map (· + 1)
theorem fIdx_at : ∀ (fs : List Str) {q : Str} {n : Nat}, fIdx fs q = some n → fs[n]? = some q
  | [], _, _, h => by cases h
  | f :: fs, q, n, h => by
    unfold fIdx at h
    split at h
    · rename_i e; cases h; rw [e]; rfl
    · simp only [Option.map_eq_some_iff] at h
      obtain ⟨m, h, rfl⟩ := h
      exact (fIdx_at fs h : fs[m]? = some q)
def oVar (i : Nat) : PO := fun _ => some (i, [])
def oFld (cs : List Nat) (f : Str) (o : PO) : PO := fun τ => (o τ).bind fun p => (slotS τ p.1).bind fun s => match subAt p.2 s with
  | some (.mu (.ins c fs) _) => if c ∈ cs then (fIdx fs f).map fun n => (p.1, p.2 ++ [n]) else none
  | _ => none
def oIx (o : PO) (k : PB) : PO := fun τ => (o τ).bind fun p => (slotS τ p.1).bind fun s => match subAt p.2 s, k τ with
  | some (.mu .lst l), some (.fz (.int j)) => (ixN l.length j).map fun n => (p.1, p.2 ++ [n])
  | _, _ => none
theorem subAt_snoc : ∀ (π : List Nat) (n : Nat) (s : SV), subAt (π ++ [n]) s = (subAt π s).bind (subAt [n])
  | [], n, s => rfl
  | m :: π, n, .fz d => rfl
  | m :: π, n, .mu h l => by
    show (l[m]?).bind (subAt (π ++ [n])) = ((l[m]?).bind (subAt π)).bind (subAt [n])
    cases l[m]? with
    | none => rfl
    | some t => exact subAt_snoc π n t
theorem sub_one {n : Nat} {h : Hd} {l : List SV} {s : SV} (e : subAt [n] (.mu h l) = some s) : l[n]? = some s := by
  simp only [subAt, Option.bind_eq_some_iff] at e
  obtain ⟨t, e1, e2⟩ := e
  cases e2
  exact e1
section
variable {X : Cx} {g : Gx} {st : Stmt} {e : Expr} {es : List Expr} {M M0 M1 : Ad} {φ φ1 φ' : Nat → List Addr} {τ τ' : Tau} {σ σ1 : L2.St} {H H' H1 : Hp} {u v w x y : V} {vs xs : List V} {d : D} {ds : List D} {s s' : SV} {h h' : Hd} {l : List SV} {F Fn : List Addr} {a : Addr} {o : HO} {π : List Nat} {n i : Nat}
/-- what stands at a path -/
theorem Sim.look (hs : Sim g M0 φ τ σ H) (e : slotS τ i = some s) (sub : subAt π s = some (.mu h l)) : ∃ v a o xs F, σ[i]? = some (some v) ∧ PathV g H v π (.ref a) ∧ H a = some o ∧ HOf g.cl h xs o ∧ Ows g (Mof M0 φ) H xs l F := by
  obtain ⟨v, hv, w⟩ := hs.at_ i s (slotS_some e)
  obtain ⟨v', F', p, w', _, _⟩ := w.sub_at π sub
  cases w' with
  | mu h1 h2 h3 => exact ⟨v, _, _, _, _, hv, p, h1, h2, h3⟩
theorem ob_var (h : PE X e (tVar i)) : PE X e (rdOb g (oVar i)) := pe_le h fun σ H Q q => by
  obtain ⟨M0, φ, τ, j, π, s, h, l, hs, hm, e, sub, k⟩ := q
  cases hm
  obtain ⟨v, a, o, xs, F, hv, p, h1, h2, h3⟩ := hs.look e sub
  cases p
  exact ⟨_, hv, k _ a H .refl hv .nil⟩
theorem ob_fld {cs : List Nat} {f : Str} {o : PO} (hc : ∀ c ∈ cs, Cls g.K (g.cl c) ∧ NoAttr g.K (g.cl c) f) (h : PE X e (tFld g.K (rdOb g o) f)) : PE X e (rdOb g (oFld cs f o)) := pe_le h fun σ H Q q => by
  obtain ⟨M0, φ, τ, i, π, s, h, l, hs, hm, e, sub, k⟩ := q
  simp only [oFld, Option.bind_eq_some_iff] at hm
  obtain ⟨⟨j, π0⟩, ho, s1, e1, hm⟩ := hm
  split at hm
  · rename_i c fs l0 sub0
    split at hm
    · rename_i hcc
      simp only [Option.map_eq_some_iff] at hm
      obtain ⟨n, hn, hm⟩ := hm
      cases hm
      have e1 : slotS τ i = some s1 := e1
      rw [e] at e1
      cases e1
      have sub0 : subAt π0 s = some (.mu (.ins c fs) l0) := sub0
      rw [subAt_snoc, sub0] at sub
      have hl := sub_one (h := .ins c fs) sub
      obtain ⟨t1, t2⟩ := hc c hcc
      refine ⟨M0, φ, τ, i, π0, s, _, _, hs, ho, e, sub0, fun v a H1 ev hv p => ?_⟩
      obtain ⟨v', a', o', xs, F, hv', p', h1, h2, h3⟩ := (hs.ev0 ev).look e sub0
      rw [hv] at hv'
      cases hv'
      cases p.fn p'
      obtain ⟨w, F', i1, i2, _, _⟩ := h3.nth hl
      have h2' := h2
      obtain ⟨dx, fsr, rfl, rfl, rfl, nd⟩ := h2
      cases i2 with
      | @mu b o2 _ xs2 _ F2 q1 q2 q3 =>
        have hf := fIdx_at _ hn
        rw [List.getElem?_map] at i1 hf
        cases hq : fsr[n]? with
        | none => rw [hq] at i1; cases i1
        | some pr =>
          rw [hq] at i1 hf
          have e1 : pr.2 = V.ref b := Option.some.inj i1
          have e2 : pr.1 = f := Option.some.inj hf
          refine ⟨a, _, dx, fsr, .ref b, rfl, h1, t1, t2, ?_, k v b H1 ev hv (p.snoc h1 h2' (n := n) ?_)⟩
          · rw [← e2, ← e1]; exact lookup_nodup nd hq
          · rw [List.getElem?_map, hq, ← e1]; rfl
    · cases hm
  · cases hm
theorem ob_ix {o : PO} {kk : PB} (h : PE X e (tOp (rIxS2 g.K) (rdOb g o) (rdB g kk))) : PE X e (rdOb g (oIx o kk)) := pe_le h fun σ H Q q => by
  obtain ⟨M0, φ, τ, i, π, s, h, l, hs, hm, e, sub, k⟩ := q
  simp only [oIx, Option.bind_eq_some_iff] at hm
  obtain ⟨⟨j, π0⟩, ho, s1, e1, hm⟩ := hm
  split at hm
  · rename_i l0 z sub0 hk
    simp only [Option.map_eq_some_iff] at hm
    obtain ⟨n, hn, hm⟩ := hm
    cases hm
    have e1 : slotS τ i = some s1 := e1
    rw [e] at e1
    cases e1
    have sub0 : subAt π0 s = some (.mu .lst l0) := sub0
    rw [subAt_snoc, sub0] at sub
    have hl := sub_one (h := .lst) sub
    refine ⟨M0, φ, τ, i, π0, s, _, _, hs, ho, e, sub0, fun v a H1 ev hv p => ?_⟩
    refine ⟨M0, φ, τ, _, hs.ev0 ev, hk, fun v2 H2 ev2 w2 => ?_⟩
    obtain ⟨F2, w2⟩ := w2
    cases (RT.of (ow_fz w2).1).int
    obtain ⟨v', a', o', xs, F, hv', p', h1, h2, h3⟩ := ((hs.ev0 ev).ev0 ev2).look e sub0
    rw [hv] at hv'
    cases hv'
    have p2 := p.ev0 ev2
    cases p2.fn p'
    obtain ⟨w, F', i1, i2, _, _⟩ := h3.nth hl
    have h2' := h2
    cases h2
    cases i2 with
    | @mu b o2 _ xs2 _ F2 q1 q2 q3 =>
      refine .inl (.inl ⟨a, xs, z, .ref b, rfl, rfl, SqL.of h1, ?_, k v b H2 (ev.trans ev2) hv (p2.snoc h1 h2' (n := n) i1)⟩)
      unfold L2.atI
      rw [h3.length, hn]
      exact i1
  · cases hm
/-! ### keys of stores -/
/-- a value that may be a key as it is: an int, a text, a tuple laid here of such -/
def KyR (H : Hp) (v : V) : D → Prop
  | .int i => v = .int i
  | .str z => v = .str z
  | .tup l => ∃ b ks, v = .ref b ∧ keyOf.flatsK l = some ks ∧ H b = some (.tup (ks.map kV))
  | _ => False
abbrev KM := Tau → Option D
def rdKy (g : Gx) (m : KM) : TE := fun σ H Q => ∃ M0 φ τ d, Sim g M0 φ τ σ H ∧ m τ = some d ∧ ∀ v H', Ev0 H H' → KyR H' v d → Q v H'
def kFlat (p : PB) : KM := fun τ => match p τ with
  | some (.fz (.int i)) => some (.int i)
  | some (.fz (.str z)) => some (.str z)
  | _ => none
def kTup (a : PBs) : KM := fun τ => (a τ).bind fun l => if l.length ≤ sizeLine ∧ (keyOf.flatsK l).isSome = true then some (.tup l) else none
theorem k_flat {p : PB} (h : PE X e (rdB g p)) : PE X e (rdKy g (kFlat p)) := pe_le h fun σ H Q q => by
  obtain ⟨M0, φ, τ, d, hs, hm, k⟩ := q
  unfold kFlat at hm
  split at hm
  · rename_i i hp
    cases hm
    refine ⟨M0, φ, τ, _, hs, hp, fun v H1 ev w => ?_⟩
    obtain ⟨F, w⟩ := w
    exact k v H1 ev (RT.of (ow_fz w).1).int
  · rename_i i hp
    cases hm
    refine ⟨M0, φ, τ, _, hs, hp, fun v H1 ev w => ?_⟩
    obtain ⟨F, w⟩ := w
    exact k v H1 ev (RT.of (ow_fz w).1).str
  · cases hm
theorem k_tup {a : PBs} (h : PE X e (tTup (rdBs g a))) : PE X e (rdKy g (kTup a)) := pe_le h fun σ H Q q => by
  obtain ⟨M0, φ, τ, d, hs, hm, k⟩ := q
  simp only [kTup, Option.bind_eq_some_iff] at hm
  obtain ⟨l, hl, hm⟩ := hm
  split at hm
  · rename_i hz
    cases hm
    obtain ⟨ks, hk⟩ := Option.isSome_iff_exists.mp hz.2
    refine ⟨M0, φ, τ, _, hs, hl, fun vs H1 e1 r1 => ⟨by rw [r1.length]; exact hz.1, fun p hp => k _ _ (e1.trans (new0 hp)) ⟨p, ks, rfl, hk, ?_⟩⟩⟩
    rw [upd_same, keys_tup r1 hk]
  · cases hm
/-! ### P[k] = e -/
/-- .. one item is another one, with what it owns -/
theorem Ows.setS {F2 : List Addr} (r : Ow g M H v s F2) (n2 : F2.Nodup) : ∀ {i : Nat} {vs : List V} {l : List SV} {F : List Addr}, Ows g M H vs l F → F.Nodup → (∀ x ∈ F2, x ∉ F) → ∃ F', Ows g M H (vs.set i v) (l.set i s) F' ∧ (∀ x ∈ F', x ∈ F ∨ x ∈ F2) ∧ F'.Nodup
  | _, _, _, _, .nil, nd, dj => ⟨[], .nil, fun _ m => (nomatch m), .nil⟩
  | 0, _, _, _, .cons (F := Fa) (F' := Fb) p q, nd, dj => by
    obtain ⟨m1, m2, m3⟩ := List.nodup_append.mp nd
    refine ⟨F2 ++ Fb, .cons r q, fun x m => (List.mem_append.mp m).elim .inr fun m => .inl (List.mem_append_right _ m), List.nodup_append.mpr ⟨n2, m2, fun x m y my e => dj x m (List.mem_append_right _ (e ▸ my))⟩⟩
  | i + 1, _, _, _, .cons (F := Fa) (F' := Fb) p q, nd, dj => by
    obtain ⟨m1, m2, m3⟩ := List.nodup_append.mp nd
    obtain ⟨F', a, b, c⟩ := Ows.setS r n2 (i := i) q m2 fun x m m2 => dj x m (List.mem_append_right _ m2)
    refine ⟨Fa ++ F', .cons p a, fun x m => ?_, List.nodup_append.mpr ⟨m1, c, fun x m y my e => ?_⟩⟩
    · rcases List.mem_append.mp m with m | m
      · exact .inl (List.mem_append_left _ m)
      · exact (b x m).imp (List.mem_append_right _) id
    · subst e
      rcases b x my with r | r
      · exact m3 x m x r rfl
      · exact dj x r (List.mem_append_left _ m)
def putOwn (ks : List DK) (l : List SV) (k : DK) (t : Bool) : SV → Option (Hd × List SV)
  | .fz d => some (putSV ks l k d t)
  | .mu h sl => if ks.contains k = true then none else some (.dct t (ks ++ [k]), l ++ [.mu h sl])
def setSVO (h : Hd) (l : List SV) (k : D) (s : SV) : Option (Hd × List SV) := match h, k with
  | .lst, .int i => (ixN l.length i).map fun j => (.lst, l.set j s)
  | .dct false ks, .int i => if ks.length < sizeLine then putOwn ks l (.k (.inl i)) false s else none
  | .dct false ks, .str z => if ks.length < sizeLine then putOwn ks l (.k (.inr z)) false s else none
  | .dct true ks, .tup kl => (keyOf.flatsK kl).bind fun kk => if ks.length < sizeLine then putOwn ks l (.tup kk) true s else none
  | _, _ => none
def sPutO (o : PO) (k : KM) (m : CM SV) : SC := sE m fun s τ1 => (o τ1).bind fun p => (slotS τ1 p.1).bind fun s0 => match subAt p.2 s0 with
  | some (.mu h l) => (k τ1).bind fun kd => (setSVO h l kd s).map fun q => (.nx, τ1.set p.1 (some (putAt p.2 (.mu q.1 q.2) s0)))
  | _ => none
theorem cont_any {κ : Type} [DecidableEq κ] (f : κ → DK) (hf : ∀ a b, f a = f b → a = b) (kvs : List (κ × V)) (k : κ) : (kvs.map fun p => f p.1).contains (f k) = kvs.any fun kv => decide (kv.1 = k) := by
  rw [Bool.eq_iff_iff, List.contains_iff_mem, List.any_eq_true]
  constructor
  · intro m
    obtain ⟨p, hp, e⟩ := List.mem_map.mp m
    exact ⟨p, hp, by simpa using hf _ _ e⟩
  · rintro ⟨p, hp, e⟩
    exact List.mem_map.mpr ⟨p, hp, by rw [of_decide_eq_true e]⟩
/-- a store in a dict of one's own -/
theorem put_own {κ : Type} [DecidableEq κ] (f : κ → DK) (hf : ∀ a b, f a = f b → a = b) (t : Bool) (k : κ) {kvs : List (κ × V)} {q : Hd × List SV} (w : Ows g M H (kvs.map (·.2)) l F) (nd : F.Nodup) (r : Ow g M H v s Fn) (nn : Fn.Nodup) (dj : ∀ x ∈ Fn, x ∉ F)
    (e : putOwn (kvs.map fun p => f p.1) l (f k) t s = some q) :
    ∃ F', q.1 = .dct t ((putK kvs k v).map fun p => f p.1) ∧ Ows g M H ((putK kvs k v).map (·.2)) q.2 F' ∧ (∀ x ∈ F', x ∈ F ∨ x ∈ Fn) ∧ F'.Nodup := by
  cases s with
  | fz d =>
    have e := Option.some.inj e
    obtain ⟨rr, rfl⟩ := ow_fz r
    obtain ⟨F', b0, b1, b2, b3⟩ := Ows.put f hf t k rr w
    have e : putSV (kvs.map fun p => f p.1) l (f k) d t = q := e
    rw [e] at b0 b1
    exact ⟨F', b0, b1, fun x m => .inl (b2 x m), b3 nd⟩
  | mu hd sl =>
    have e : (if (kvs.map fun p => f p.1).contains (f k) = true then none else some (Hd.dct t ((kvs.map fun p => f p.1) ++ [f k]), l ++ [SV.mu hd sl])) = some q := e
    split at e
    · cases e
    · rename_i hc
      cases e
      rw [cont_any f hf] at hc
      refine ⟨F ++ (Fn ++ []), ?_, ?_, fun x m => by simpa using m, List.nodup_append.mpr ⟨nd, by simpa using nn, fun x m y my e => dj y (by simpa using my) (e ▸ m)⟩⟩
      · unfold putK
        rw [if_neg hc]
        simp
      · unfold putK
        rw [if_neg hc, List.map_append]
        exact w.app (.cons r .nil)
theorem s_putO {o : PO} {kk : KM} {m : CM SV} {cs : TSet} (hcs : cs = rSetU) (h : PS X st (tAsg (rdE g m) (gSub (rdOb g o) (rdKy g kk) cs))) : PS X st (rdS g (sPutO o kk m)) := ps_le h fun E σ H q => by
  subst hcs
  obtain ⟨M0, φ, τ, fl, τ', hs, hm, k⟩ := rdS_iff.mp q
  rcases sE_some hm with ⟨s, τ1, e1, e2⟩ | ⟨c, fs, l, e1, rfl⟩
  · refine ⟨M0, φ, τ, _, _, hs, e1, fun v1 H1 q1 => ?_⟩
    obtain ⟨Fn, φ1, hs1, w1, nd1, n01, l1⟩ := q1
    simp only [Option.bind_eq_some_iff] at e2
    obtain ⟨⟨i, π⟩, ho, s0, es, e2⟩ := e2
    split at e2
    · rename_i hd l sub
      simp only [Option.bind_eq_some_iff, Option.map_eq_some_iff] at e2
      obtain ⟨kd, hk, q, hq, e2⟩ := e2
      cases e2
      refine ⟨plus M0 Fn, φ1, τ1, i, π, s0, hd, l, hs1, ho, es, sub, fun v a H2 ev2 hv p2 => ?_⟩
      refine ⟨plus M0 Fn, φ1, τ1, kd, hs1.ev0 ev2, hk, fun vk H3 ev3 hky => ?_⟩
      have hs3 := (hs1.ev0 ev2).ev0 ev3
      have p3 := p2.ev0 ev3
      obtain ⟨v', a', o', xs, Fl, hv', p', h1, h2, h3, nl, naf, nan, dj, ch⟩ := hs3.changeAt nd1 n01 (slotS_some es) sub
      rw [hv] at hv'
      cases hv'
      cases p3.fn p'
      have w3 := (w1.ev0 ev2).ev0 ev3
      have fin : ∀ {o2 : HO} {h' : Hd} {xs' : List V} {l' : List SV} {F' : List Addr}, q = (h', l') → HOf g.cl h' xs' o2 → kindO o2 = kindO o' → Ows g (Mof (plus M0 Fn) φ1) H3 xs' l' F' → (∀ x ∈ F', x ∈ Fl ∨ x ∈ Fn) → F'.Nodup → E.nx σ (upd H3 a o2) := fun {o2 h' xs' l' F'} eq k1 k2 k3 k4 k5 => by
        subst eq
        obtain ⟨φ2, s2, l2, _, _, _⟩ := ch o2 h' xs' l' F' [] k1 k2 k3 (by simpa using k5) (by simpa using k4)
        refine k σ _ ⟨⟨φ2, s2.less1, ?_⟩, fun _ _ => rfl⟩
        have l3 : Le (ran φ) H (plus (ran φ1) Fn) H3 := (l1.trans (.of0 ev2 fun _ q => .inl q)).trans (.of0 ev3 fun _ q => .inl q)
        have l4 := l3.trans l2
        rw [plus_nil] at l4
        exact l4
      have dj2 : ∀ x ∈ Fn, x ∉ Fl := fun x m m2 => dj x m2 m
      unfold setSVO at hq
      split at hq
      · rename_i z
        simp only [Option.map_eq_some_iff] at hq
        obtain ⟨j, hj, hq⟩ := hq
        have hky : vk = .int z := hky
        subst hky
        cases h2
        obtain ⟨F', b1, b2, b3⟩ := Ows.setS (i := j) w3 nd1 h3 nl dj2
        exact .inl ⟨a, xs, z, j, rfl, rfl, h1, by rw [h3.length]; exact hj, fin hq.symm rfl rfl b1 b2 b3⟩
      · rename_i ks z
        split at hq
        · rename_i hz
          have hky : vk = .int z := hky
          subst hky
          obtain ⟨kvs, rfl, rfl, rfl⟩ := h2
          obtain ⟨F', b0, b1, b2, b3⟩ := put_own DK.k dk_k_inj false (.inl z) h3 nl w3 nd1 dj2 hq
          exact .inr ⟨a, _, rfl, .inl ⟨kvs, .inl z, h1, rfl, by simpa using hz, rfl⟩, fin (xs' := (putK kvs (.inl z) v1).map (·.2)) (Prod.ext b0 rfl) ⟨_, rfl, rfl, rfl⟩ rfl b1 b2 b3⟩
        · cases hq
      · rename_i ks z
        split at hq
        · rename_i hz
          have hky : vk = .str z := hky
          subst hky
          obtain ⟨kvs, rfl, rfl, rfl⟩ := h2
          obtain ⟨F', b0, b1, b2, b3⟩ := put_own DK.k dk_k_inj false (.inr z) h3 nl w3 nd1 dj2 hq
          exact .inr ⟨a, _, rfl, .inl ⟨kvs, .inr z, h1, rfl, by simpa using hz, rfl⟩, fin (xs' := (putK kvs (.inr z) v1).map (·.2)) (Prod.ext b0 rfl) ⟨_, rfl, rfl, rfl⟩ rfl b1 b2 b3⟩
        · cases hq
      · rename_i ks kl
        simp only [Option.bind_eq_some_iff] at hq
        obtain ⟨kk, hkk, hq⟩ := hq
        split at hq
        · rename_i hz
          obtain ⟨b, ks2, rfl, hk2, hb⟩ := hky
          rw [hkk] at hk2
          cases hk2
          obtain ⟨kvs, rfl, rfl, rfl⟩ := h2
          obtain ⟨F', b0, b1, b2, b3⟩ := put_own DK.tup dk_t_inj true kk h3 nl w3 nd1 dj2 hq
          exact .inr ⟨a, _, rfl, .inr ⟨kvs, kk, b, h1, rfl, hb, by simpa using hz, rfl⟩, fin (xs' := (putK kvs kk v1).map (·.2)) (Prod.ext b0 rfl) ⟨_, rfl, rfl, rfl⟩ rfl b1 b2 b3⟩
        · cases hq
      · cases hq
    · cases e2
  · exact ⟨M0, φ, τ, _, _, hs, e1, k.xk⟩
end
end VS

/-! ## S25: methods that change an own object, wherever it stands within a slot's own -/
namespace VS
open PySem PySem.Spec PyProof.Rows L2
/-- what a method does to an own object: it may take in what its arguments own, and give out a part -/
def MuO (g : Gx) (f : Hd → List SV → List SV → Option (Hd × List SV × SV)) (r : V → List V → Hp → VK → Prop) : Prop :=
  ∀ {M : Ad} {H : Hp} {a : Addr} {o : HO} {h : Hd} {xs : List V} {l : List SV} {F Fn : List Addr} {vs : List V} {as : List SV} {h' : Hd} {l' : List SV} {s : SV} {Q : VK},
    H a = some o → HOf g.cl h xs o → Ows g M H xs l F → F.Nodup → Ows g M H vs as Fn → Fn.Nodup → (∀ x ∈ Fn, x ∉ F) → f h l as = some (h', l', s) →
    (∀ o' xs' v F' Fr, HOf g.cl h' xs' o' → kindO o' = kindO o → Ows g M H xs' l' F' → Ow g M H v s Fr → (F' ++ Fr).Nodup → (∀ x ∈ F' ++ Fr, x ∈ F ∨ x ∈ Fn) → Q v (upd H a o')) → r (.ref a) vs H Q
def mMutP (T : String) (f : Hd → List SV → List SV → Option (Hd × List SV × SV)) (o : PO) (as : PBs) : CM SV := fun τ => (o τ).bind fun p => (slotS τ p.1).bind fun s0 => match subAt p.2 s0 with
  | some (.mu h l) => if hdTy h = T then (as τ).bind fun ds => (f h l (ds.map .fz)).map fun q => (.ok q.2.2, τ.set p.1 (some (putAt p.2 (.mu q.1 q.2.1) s0))) else none
  | _ => none
def mMutV (T : String) (f : Hd → List SV → List SV → Option (Hd × List SV × SV)) (i : Nat) (m : CM SV) : CM SV := fun τ => match τ[i]? with
  | some (some (.mu h _)) => if hdTy h = T then bnd m (fun s τ1 => match τ1[i]? with
      | some (some (.mu h1 l1)) => (f h1 l1 [s]).map fun q => (.ok q.2.2, τ1.set i (some (.mu q.1 q.2.1)))
      | _ => none) τ else none
  | _ => none
section
variable {X : Cx} {g : Gx} {st : Stmt} {e : Expr} {es : List Expr} {M M0 M1 : Ad} {φ φ1 φ' : Nat → List Addr} {τ τ' : Tau} {σ σ1 : L2.St} {H H' H1 : Hp} {u v w x y : V} {vs xs : List V} {d : D} {ds : List D} {s s' : SV} {h h' : Hd} {l : List SV} {F Fn : List Addr} {a : Addr} {o : HO} {π : List Nat} {n i : Nat} {T : String} {f : Hd → List SV → List SV → Option (Hd × List SV × SV)} {r : V → List V → Hp → VK → Prop}
theorem hdTy_ty (hT : hdTy h = T) (hne : T = "list" ∨ T = "dict") (ha : H a = some o) (hk : HOf g.cl h xs o) : tyV g.K T (.ref a) H := by
  cases h with
  | lst => cases hk; subst hT; exact .inl ⟨rfl, xs, SqL.of ha⟩
  | dct t ks =>
    subst hT
    cases t
    · obtain ⟨kvs, rfl, _⟩ := hk; exact .inr (.inr (.inl ⟨rfl, .inl ⟨kvs, ha⟩⟩))
    · obtain ⟨kvs, rfl, _⟩ := hk; exact .inr (.inr (.inl ⟨rfl, .inr ⟨kvs, ha⟩⟩))
  | ins c fs =>
    subst hT
    rcases hne with hne | hne
    · exact absurd hne (show ¬ ("" = "list") by decide)
    · exact absurd hne (show ¬ ("" = "dict") by decide)
theorem s_mutP {oo : PO} {as : PBs} (hne : T = "list" ∨ T = "dict") (ho : MuO g f r) (h : PE X e (tBM g.K T r (rdOb g oo) (rdBs g as))) : PE X e (rdE g (mMutP T f oo as)) := pe_le h fun σ H Q q => by
  obtain ⟨M0, φ, τ, rs, τ', hs, hm, k⟩ := q
  simp only [mMutP, Option.bind_eq_some_iff] at hm
  obtain ⟨⟨i, π⟩, hO, s0, es, hm⟩ := hm
  split at hm
  · rename_i hd l sub
    split at hm
    · rename_i ht
      simp only [Option.bind_eq_some_iff, Option.map_eq_some_iff] at hm
      obtain ⟨ds, hds, q, hf, hm⟩ := hm
      cases hm
      refine ⟨M0, φ, τ, i, π, s0, hd, l, hs, hO, es, sub, fun v a H1 ev hv p => ?_⟩
      obtain ⟨v1, a1, o1, xs1, F1, hv1, p1, h1, h2, h3⟩ := (hs.ev0 ev).look es sub
      rw [hv] at hv1
      cases hv1
      cases p.fn p1
      refine ⟨hdTy_ty ht hne h1 h2, M0, φ, τ, ds, hs.ev0 ev, hds, fun vs H2 ev2 rs2 => ?_⟩
      have hs2 : Sim g (plus M0 []) φ τ σ H2 := by rw [plus_nil]; exact (hs.ev0 ev).ev0 ev2
      obtain ⟨v2, a2, o2, xs2, Fl, hv2, p2, k1, k2, k3, nl, naf, nan, dj, ch⟩ := hs2.changeAt .nil (fun _ m => nomatch m) (slotS_some es) sub
      rw [hv] at hv2
      cases hv2
      cases (p.ev0 ev2).fn p2
      obtain ⟨h', l', s⟩ := q
      rw [plus_nil] at k3 ch
      refine ho k1 k2 k3 nl rs2.ws .nil (fun _ m => nomatch m) hf fun o' xs' v' F' Fr m1 m2 m3 m4 m5 m6 => ?_
      obtain ⟨φ2, s2, l2, fr0, tr, _⟩ := ch o' h' xs' l' F' Fr m1 m2 m3 m5 m6
      refine k v' _ ⟨Fr, φ2, s2, tr m4 fun _ m => m, (List.nodup_append.mp m5).2.1, fr0, ?_⟩
      rw [plus_nil] at l2
      exact ((Le.of0 ev fun _ q => .inl q).trans (.of0 ev2 fun _ q => .inl q)).trans l2
    · cases hm
  · cases hm
theorem s_mutV {i : Nat} {m : CM SV} (hne : T = "list" ∨ T = "dict") (ho : MuO g f r) (h : PE X e (tBM g.K T r (tVar i) (tCons (rdE g m) tNil))) : PE X e (rdE g (mMutV T f i m)) := pe_le h fun σ H Q q => by
  obtain ⟨M0, φ, τ, rs, τ', hs, hm, k⟩ := q
  unfold mMutV at hm
  split at hm
  · rename_i h0 l0 hi
    split at hm
    · rename_i ht
      obtain ⟨a, o, xs, F, hv, hF, ha, hk, w, nd, hl⟩ := hs.own hi
      refine ⟨.ref a, hv, hdTy_ty ht hne ha hk, ?_⟩
      rcases bnd_some hm with ⟨s, τ1, e1, e2⟩ | ⟨c, fs, l, e1, rfl⟩
      · refine ⟨M0, φ, τ, _, _, hs, e1, fun v1 H1 q1 => ?_⟩
        obtain ⟨Fn, φ1, hs1, w1, nd1, n01, l1⟩ := q1
        split at e2
        · rename_i h1 ls1 hi1
          simp only [Option.map_eq_some_iff] at e2
          obtain ⟨⟨h', l', s'⟩, hf, e2⟩ := e2
          cases e2
          obtain ⟨v2, a2, o2, xs2, Fl, hv2, p2, k1, k2, k3, nl, naf, nan, dj, ch⟩ := hs1.changeAt (π := []) nd1 n01 hi1 rfl
          rw [hv] at hv2
          cases hv2
          cases p2
          refine ho k1 k2 k3 nl (.cons w1 .nil) (by simpa using nd1) (fun x m m2 => dj x m2 (by simpa using m)) hf fun o' xs' v' F' Fr m1 m2 m3 m4 m5 m6 => ?_
          obtain ⟨φ2, s2, l2, fr0, tr, _⟩ := ch o' h' xs' l' F' Fr m1 m2 m3 m5 (fun x m => by simpa using m6 x m)
          exact k v' _ ⟨Fr, φ2, s2, tr m4 fun _ m => m, (List.nodup_append.mp m5).2.1, fr0, l1.trans l2⟩
        · cases e2
      · exact ⟨M0, φ, τ, _, _, hs, e1, k⟩
    · cases hm
  · cases hm
/-! ### the methods -/
theorem nd_nil {F : List Addr} (n : F.Nodup) : (F ++ []).Nodup := by simpa using n
def appendO : Hd → List SV → List SV → Option (Hd × List SV × SV)
  | .lst, l, [s] => if l.length < sizeLine then some (.lst, l ++ [s], .fz .non) else none
  | _, _, _ => none
theorem uo_append : MuO g appendO rAppend := by
  intro M H a o h xs l F Fn vs as h' l' s Q ha hk w nd wa na dj hf k
  unfold appendO at hf
  split at hf
  · split at hf
    · rename_i s1 hz
      cases hf
      cases hk
      cases wa with
      | @cons v1 _ _ _ F1 F2 r rs =>
        cases rs
        refine ⟨a, xs, _, rfl, rfl, ha, by rw [w.length]; exact hz, k _ _ _ (F ++ (F1 ++ [])) [] rfl rfl (w.app (.cons r .nil)) (.fz .non) (nd_nil (List.nodup_append.mpr ⟨nd, na, fun x m y my e => dj y my (e ▸ m)⟩)) (fun x m => by simpa using m)⟩
    · cases hf
  · cases hf
def extendO : Hd → List SV → List SV → Option (Hd × List SV × SV)
  | .lst, l, [.fz (.ob .lst m)] => if l.length + m.length ≤ sizeLine then some (.lst, l ++ m.map .fz, .fz .non) else none
  | _, _, _ => none
theorem uo_extend : MuO g extendO rExtend := by
  intro M H a o h xs l F Fn vs as h' l' s Q ha hk w nd wa na dj hf k
  unfold extendO at hf
  split at hf
  · split at hf
    · rename_i m hz
      cases hf
      cases hk
      cases wa with
      | @cons v1 _ _ _ F1 F2 r rs =>
        cases rs
        obtain ⟨r', rfl⟩ := ow_fz r
        obtain ⟨b, ys, rfl, hb, rs2⟩ := (RT.of r').lst
        exact ⟨a, b, xs, ys, rfl, rfl, ha, hb, by rw [w.length, rs2.length]; exact hz, k _ _ _ (F ++ []) [] rfl rfl (w.app rs2.ws) (.fz .non) (nd_nil (nd_nil nd)) (fun x m => .inl (by simpa using m))⟩
    · cases hf
  · cases hf
/-- what a list of parts is, but for one of them -/
theorem Ows.erase : ∀ {i : Nat} {vs : List V} {l : List SV} {F : List Addr} {s : SV}, Ows g M H vs l F → F.Nodup → l[i]? = some s → ∃ v F1 F2, vs[i]? = some v ∧ Ow g M H v s F1 ∧ Ows g M H (vs.eraseIdx i) (l.eraseIdx i) F2 ∧ (F2 ++ F1).Nodup ∧ ∀ x ∈ F2 ++ F1, x ∈ F
  | _, _, _, _, _, .nil, _, e => by cases e
  | 0, _, _, _, _, .cons (F := Fa) (F' := Fb) p q, nd, e => by
    cases e
    obtain ⟨m1, m2, m3⟩ := List.nodup_append.mp nd
    exact ⟨_, Fa, Fb, rfl, p, q, List.nodup_append.mpr ⟨m2, m1, fun x m y my e => m3 y my x m e.symm⟩, fun x m => by
      rcases List.mem_append.mp m with m | m
      · exact List.mem_append_right _ m
      · exact List.mem_append_left _ m⟩
  | i + 1, _, _, _, _, .cons (F := Fa) (F' := Fb) p q, nd, e => by
    obtain ⟨m1, m2, m3⟩ := List.nodup_append.mp nd
    obtain ⟨v, F1, F2, a1, a2, a3, a4, a5⟩ := Ows.erase (i := i) q m2 (by simpa using e)
    refine ⟨v, F1, Fa ++ F2, by simpa using a1, a2, .cons p a3, ?_, fun x m => ?_⟩
    · rw [List.append_assoc]
      exact List.nodup_append.mpr ⟨m1, a4, fun x m y my e => m3 x m y (a5 y my) e⟩
    · rw [List.append_assoc] at m
      rcases List.mem_append.mp m with m | m
      · exact List.mem_append_left _ m
      · exact List.mem_append_right _ (a5 x m)
def popO : Hd → List SV → List SV → Option (Hd × List SV × SV)
  | .lst, l, [] => (l[l.length - 1]?).map fun s => (.lst, l.dropLast, s)
  | _, _, _ => none
theorem uo_pop : MuO g popO rPop := by
  intro M H a o h xs l F Fn vs as h' l' s Q ha hk w nd wa na dj hf k
  unfold popO at hf
  split at hf
  · simp only [Option.map_eq_some_iff] at hf
    obtain ⟨s1, hs1, hf⟩ := hf
    cases hf
    cases hk
    cases wa
    obtain ⟨v, F1, F2, a1, a2, a3, a4, a5⟩ := w.erase nd hs1
    have hlt := (List.getElem?_eq_some_iff.mp hs1).1
    have e1 : l.eraseIdx (l.length - 1) = l.dropLast := by rw [List.dropLast_eq_take, List.eraseIdx_eq_take_drop_succ, show l.length - 1 + 1 = l.length by omega, List.drop_length, List.append_nil]
    have e2 : xs.eraseIdx (l.length - 1) = xs.dropLast := by rw [← w.length, List.dropLast_eq_take, List.eraseIdx_eq_take_drop_succ, show xs.length - 1 + 1 = xs.length by rw [w.length]; omega, List.drop_length, List.append_nil]
    rw [e1, e2] at a3
    exact ⟨a, xs, v, rfl, rfl, ha, by rw [w.length]; exact a1, k _ _ _ F2 F1 rfl rfl a3 a2 a4 fun x m => .inl (a5 x m)⟩
  · cases hf
def popAtO : Hd → List SV → List SV → Option (Hd × List SV × SV)
  | .lst, l, [.fz (.int i)] => (ixN l.length i).bind fun j => if l.length < 2 ^ 63 then (l[j]?).map fun s => (.lst, l.eraseIdx j, s) else none
  | _, _, _ => none
theorem uo_popAt : MuO g popAtO rPopAt := by
  intro M H a o h xs l F Fn vs as h' l' s Q ha hk w nd wa na dj hf k
  unfold popAtO at hf
  split at hf
  · rename_i i
    simp only [Option.bind_eq_some_iff] at hf
    obtain ⟨j, hj, hf⟩ := hf
    split at hf
    · rename_i hz
      simp only [Option.map_eq_some_iff] at hf
      obtain ⟨s1, hs1, hf⟩ := hf
      cases hf
      cases hk
      cases wa with
      | @cons v1 _ _ _ F1 F2 r rs =>
        cases rs
        obtain ⟨r', rfl⟩ := ow_fz r
        cases (RT.of r').int
        obtain ⟨v, F1, F2, a1, a2, a3, a4, a5⟩ := w.erase nd hs1
        obtain ⟨b1, b2, b3, b4⟩ := ixN_seq hj
        have hz' : (l.length : Int) < 2 ^ 63 := by exact_mod_cast hz
        exact ⟨a, xs, i, j, v, rfl, rfl, ha, by omega, by omega, by rw [w.length]; exact b1, a1, k _ _ _ F2 F1 rfl rfl a3 a2 a4 fun x m => .inl (a5 x m)⟩
    · cases hf
  · cases hf
def reverseO : Hd → List SV → List SV → Option (Hd × List SV × SV)
  | .lst, l, [] => (allFz l).map fun ds => (.lst, (ds.reverse).map .fz, .fz .non)
  | _, _, _ => none
theorem Rs.rev : ∀ {vs : List V} {ds : List D}, Rs g M H vs ds → Rs g M H vs.reverse ds.reverse
  | _, _, .nil => .nil
  | _, _, .cons p q => by
    rw [List.reverse_cons, List.reverse_cons]
    exact q.rev.app (.cons p .nil)
theorem uo_reverse : MuO g reverseO rReverse := by
  intro M H a o h xs l F Fn vs as h' l' s Q ha hk w nd wa na dj hf k
  unfold reverseO at hf
  split at hf
  · simp only [Option.map_eq_some_iff] at hf
    obtain ⟨ds, hds, hf⟩ := hf
    cases hf
    cases hk
    cases wa
    rw [allFz_eq hds] at w
    obtain ⟨rs, rfl⟩ := w.rs
    exact ⟨a, xs, rfl, rfl, ha, k _ _ _ [] [] rfl rfl rs.rev.ws (.fz .non) .nil fun x m => nomatch m⟩
  · cases hf
def clearO : Hd → List SV → List SV → Option (Hd × List SV × SV)
  | .lst, _, [] => some (.lst, [], .fz .non)
  | _, _, _ => none
theorem uo_clear : MuO g clearO rClear := by
  intro M H a o h xs l F Fn vs as h' l' s Q ha hk w nd wa na dj hf k
  unfold clearO at hf
  split at hf
  · cases hf
    cases hk
    cases wa
    exact ⟨a, xs, rfl, rfl, ha, k _ _ _ [] [] rfl rfl .nil (.fz .non) .nil fun x m => nomatch m⟩
  · cases hf
def dclearO : Hd → List SV → List SV → Option (Hd × List SV × SV)
  | .dct false _, _, [] => some (.dct false [], [], .fz .non)
  | _, _, _ => none
theorem uo_dclear : MuO g dclearO rDClear := by
  intro M H a o h xs l F Fn vs as h' l' s Q ha hk w nd wa na dj hf k
  unfold dclearO at hf
  split at hf
  · cases hf
    obtain ⟨kvs, rfl, _, _⟩ := hk
    cases wa
    exact show rDClear (V.ref a) [] H Q from ⟨a, kvs, rfl, rfl, ha, k _ _ _ [] [] ⟨[], rfl, rfl, rfl⟩ rfl .nil (.fz .non) .nil fun x m => nomatch m⟩
  · cases hf
/-- a method without arguments -/
theorem s_mutP0 {oo : PO} (hne : T = "list" ∨ T = "dict") (ho : MuO g f r) (h : PE X e (tBM0 g.K T r (rdOb g oo))) : PE X e (rdE g (mMutP T f oo pbNil)) := pe_le h fun σ H Q q => by
  obtain ⟨M0, φ, τ, rs, τ', hs, hm, k⟩ := q
  simp only [mMutP, Option.bind_eq_some_iff] at hm
  obtain ⟨⟨i, π⟩, hO, s0, es, hm⟩ := hm
  split at hm
  · rename_i hd l sub
    split at hm
    · rename_i ht
      simp only [Option.bind_eq_some_iff, Option.map_eq_some_iff] at hm
      obtain ⟨ds, hds, q, hf, hm⟩ := hm
      cases hm
      cases hds
      refine ⟨M0, φ, τ, i, π, s0, hd, l, hs, hO, es, sub, fun v a H1 ev hv p => ?_⟩
      have hs2 : Sim g (plus M0 []) φ τ σ H1 := by rw [plus_nil]; exact hs.ev0 ev
      obtain ⟨v2, a2, o2, xs2, Fl, hv2, p2, k1, k2, k3, nl, naf, nan, dj, ch⟩ := hs2.changeAt .nil (fun _ m => nomatch m) (slotS_some es) sub
      rw [hv] at hv2
      cases hv2
      cases p.fn p2
      obtain ⟨h', l', s⟩ := q
      rw [plus_nil] at k3 ch
      refine ⟨hdTy_ty ht hne k1 k2, ho k1 k2 k3 nl .nil .nil (fun _ m => nomatch m) hf fun o' xs' v' F' Fr m1 m2 m3 m4 m5 m6 => ?_⟩
      obtain ⟨φ2, s2, l2, fr0, tr, _⟩ := ch o' h' xs' l' F' Fr m1 m2 m3 m5 m6
      refine k v' _ ⟨Fr, φ2, s2, tr m4 fun _ m => m, (List.nodup_append.mp m5).2.1, fr0, ?_⟩
      rw [plus_nil] at l2
      exact (Le.of0 ev fun _ q => .inl q).trans l2
    · cases hm
  · cases hm
end
end VS

/-! ## S26: walks over a dict that a slot holds: locked meanwhile -/
namespace VS
open PySem PySem.Spec PyProof.Rows L2
/-- the slot's own object becomes data -/
def frzT (i : Nat) (τ : Tau) : Tau := match τ[i]? with
  | some (some s) => τ.set i (some (.fz s.toD))
  | _ => τ
def kD : Key → D
  | .inl i => .int i
  | .inr x => .str x
def dkD : DK → D
  | .k k => kD k
  | .tup l => .tup (l.map kD)
def isK : DK → Bool
  | .k _ => true
  | .tup _ => false
/-- what a walk over a dict yields: 0 keys, 1 items, 2 values -/
def walkD (kd : Nat) (t : Bool) (ks : List DK) (l : List D) : Option (List D) := match kd, t with
  | 0, false => some (ks.map dkD)
  | 0, true => some (ks.map dkD)
  | 1, false => some ((ks.zip l).map fun p => .tup [dkD p.1, p.2])
  | 2, false => some l
  | _, _ => none
def itN (kd i : Nat) : CM (List D) := fun τ => match τ[i]? with
  | some (some (.fz (.ob (.dct t ks) l))) => (walkD kd t ks l).map fun x => (.ok x, τ)
  | _ => none
def LOCK (i : Nat) (σ : L2.St) (H : Hp) : Prop := ∃ a od u, σ[i]? = some (some (.ref a)) ∧ H a = some (.frz od u)
def rdIL (g : Gx) (i : Nat) (m : CM (List D)) : TI := fun σ H Rr => LOCK i σ H ∧ rdI g m σ H Rr
section
variable {X : Cx} {g : Gx} {st : Stmt} {e tg : Expr} {es : List Expr} {M M0 M1 : Ad} {φ φ1 φ2 φ' : Nat → List Addr} {τ τ' : Tau} {σ σ1 σ' : L2.St} {H H' H1 : Hp} {u v w x y : V} {vs xs : List V} {d : D} {ds : List D} {s s' : SV} {h h' : Hd} {l : List SV} {F Fn : List Addr} {a b : Addr} {o : HO} {od : Obj} {n i kd : Nat}
theorem kD_r (k : Key) : R g M H (kV k) (kD k) := by
  cases k with
  | inl i => exact .int i
  | inr z => exact .str z
theorem kDs_r : ∀ l : List Key, Rs g M H (l.map kV) (l.map kD)
  | [] => .nil
  | k :: r => .cons (kD_r k) (kDs_r r)
/-- what is a dict -/
def isDct : HO → Prop
  | .dK _ => True
  | .dT _ => True
  | _ => False
theorem HOr.dct {cl : Nat → Addr} {hid : Nat → List Str} {t : Bool} {ks : List DK} (h : HOr cl hid (.dct t ks) xs o) : isDct o := by
  cases t <;> obtain ⟨kvs, rfl, _⟩ := h <;> trivial
/-! a dict that nobody changes is locked, and unlocked -/
mutual
theorem R.lock (ho : H a = some o) (hd : isDct o) : ∀ (d : D) (v : V), R g M H v d → R g M (upd H a (.frz od o)) v d
  | .non, _, h => by cases h; exact .non
  | .bl b, _, h => by cases h; exact .bl b
  | .int i, _, h => by cases h; exact .int i
  | .str x, _, h => by cases h; exact .str x
  | .tup ds, _, h => by
    cases h with
    | @tup b xs _ q r =>
      refine .tup ?_ (Rs.lock ho hd ds _ r)
      rcases q with (q | ⟨u, q⟩) | q
      · exact .inl (.inl (by rw [upd_ne (fun e => by rw [e, ho] at q; have q := Option.some.inj q; rw [q] at hd; exact hd)]; exact q))
      · exact .inl (.inr ⟨u, by rw [upd_ne (fun e => by rw [e, ho] at q; have q := Option.some.inj q; rw [q] at hd; exact hd)]; exact q⟩)
      · exact .inr q
  | .ob h0 ds, _, h => by
    cases h with
    | @ob b o2 _ xs _ q qi n p r =>
      by_cases e : b = a
      · have e2 : o2 = o := by
          rw [e] at q
          rcases q with q | ⟨u, q⟩
          · rw [ho] at q; exact (Option.some.inj q).symm
          · rw [ho] at q; have q := Option.some.inj q; rw [q] at hd; exact hd.elim
        refine .ob (.inr ⟨od, by rw [e, e2]; exact upd_same⟩) (fun nd => ?_) n p (Rs.lock ho hd ds _ r)
        exfalso
        rw [e2] at p
        cases h0 with
        | lst => have p : o = .lst xs := p; rw [p] at hd; exact hd
        | dct t ks => exact nd t ks rfl
        | ins c fs => obtain ⟨dx, fsr, p, _⟩ := p; rw [p] at hd; exact hd
      · exact .ob (q.imp (fun q => (upd_ne e).trans q) fun ⟨u, q⟩ => ⟨u, (upd_ne e).trans q⟩) (fun nd => (upd_ne e).trans (qi nd)) n p (Rs.lock ho hd ds _ r)
  | .fro ds, _, h => by
    cases h with
    | @fro b xs _ q r =>
      refine .fro ?_ (Rs.lock ho hd ds _ r)
      rcases q with ⟨u, q⟩ | q
      · exact .inl ⟨u, by rw [upd_ne (fun e => by rw [e, ho] at q; have q := Option.some.inj q; rw [q] at hd; exact hd)]; exact q⟩
      · exact .inr q
theorem Rs.lock (ho : H a = some o) (hd : isDct o) : ∀ (ds : List D) (vs : List V), Rs g M H vs ds → Rs g M (upd H a (.frz od o)) vs ds
  | [], _, h => by cases h; exact .nil
  | d :: ds, _, h => by
    cases h with
    | cons p q => exact .cons (R.lock ho hd d _ p) (Rs.lock ho hd ds _ q)
end
mutual
theorem R.unlock (ho : H a = some (.frz od o)) (hd : isDct o) : ∀ (d : D) (v : V), R g M H v d → R g M (upd H a o) v d
  | .non, _, h => by cases h; exact .non
  | .bl b, _, h => by cases h; exact .bl b
  | .int i, _, h => by cases h; exact .int i
  | .str x, _, h => by cases h; exact .str x
  | .tup ds, _, h => by
    cases h with
    | @tup b xs _ q r =>
      refine .tup ?_ (Rs.unlock ho hd ds _ r)
      rcases q with (q | ⟨u, q⟩) | q
      · exact .inl (.inl (by rw [upd_ne (fun e => by rw [e, ho] at q; have q := Option.some.inj q; cases q)]; exact q))
      · exact .inl (.inr ⟨u, by rw [upd_ne (fun e => by rw [e, ho] at q; have q := Option.some.inj q; injection q with q1 q2; rw [q2] at hd; exact hd)]; exact q⟩)
      · exact .inr q
  | .ob h0 ds, _, h => by
    cases h with
    | @ob b o2 _ xs _ q qi n p r =>
      by_cases e : b = a
      · have e2 : o2 = o := by
          rw [e] at q
          rcases q with q | ⟨u, q⟩
          · rw [ho] at q
            exfalso
            have q := Option.some.inj q
            rw [← q] at p
            cases h0 with
            | lst => cases p
            | dct t ks => exact (HOr.dct p).elim
            | ins c fs => obtain ⟨dx, fsr, e, _⟩ := p; cases e
          · rw [ho] at q; have q := Option.some.inj q; injection q with q1 q2; exact q2.symm
        exact .ob (.inl (by rw [e, e2]; exact upd_same)) (fun nd => by rw [e, e2]; exact upd_same) n p (Rs.unlock ho hd ds _ r)
      · exact .ob (q.imp (fun q => (upd_ne e).trans q) fun ⟨u, q⟩ => ⟨u, (upd_ne e).trans q⟩) (fun nd => (upd_ne e).trans (qi nd)) n p (Rs.unlock ho hd ds _ r)
  | .fro ds, _, h => by
    cases h with
    | @fro b xs _ q r =>
      refine .fro ?_ (Rs.unlock ho hd ds _ r)
      rcases q with ⟨u, q⟩ | q
      · exact .inl ⟨u, by rw [upd_ne (fun e => by rw [e, ho] at q; have q := Option.some.inj q; injection q with q1 q2; rw [q2] at hd; exact hd)]; exact q⟩
      · exact .inr q
theorem Rs.unlock (ho : H a = some (.frz od o)) (hd : isDct o) : ∀ (ds : List D) (vs : List V), Rs g M H vs ds → Rs g M (upd H a o) vs ds
  | [], _, h => by cases h; exact .nil
  | d :: ds, _, h => by
    cases h with
    | cons p q => exact .cons (R.unlock ho hd d _ p) (Rs.unlock ho hd ds _ q)
end
/-- a change at one address that keeps what is data -/
theorem Ow.at1 {H2 : Hp} (hr : ∀ d v, R g M H v d → R g M H2 v d) (hk : ∀ c, c ≠ a → H2 c = H c) : (∀ (s : SV) (v : V) (F : List Addr), (a ∉ F) → Ow g M H v s F → Ow g M H2 v s F) ∧ (∀ (l : List SV) (vs : List V) (F : List Addr), (a ∉ F) → Ows g M H vs l F → Ows g M H2 vs l F) := by
  have key : ∀ n : Nat, (∀ (s : SV) (v : V) (F : List Addr), sizeOf s < n → (a ∉ F) → Ow g M H v s F → Ow g M H2 v s F) ∧ (∀ (l : List SV) (vs : List V) (F : List Addr), sizeOf l < n → (a ∉ F) → Ows g M H vs l F → Ows g M H2 vs l F) := by
    intro n
    induction n with
    | zero => exact ⟨fun _ _ _ h => absurd h (Nat.not_lt_zero _), fun _ _ _ h => absurd h (Nat.not_lt_zero _)⟩
    | succ n ih =>
      refine ⟨fun s v F hz hF w => ?_, fun l vs F hz hF w => ?_⟩
      · cases w with
        | fz r => exact .fz (hr _ _ r)
        | mu q1 q2 q3 =>
          refine .mu ((hk _ fun e => hF (by rw [e]; exact List.mem_cons_self)).trans q1) q2 (ih.2 _ _ _ (by simp at hz; omega) (fun m => hF (List.mem_cons_of_mem _ m)) q3)
      · cases w with
        | nil => exact .nil
        | cons p q =>
          have h1 := (show ∀ (x : SV) (y : List SV), sizeOf (x :: y) = 1 + sizeOf x + sizeOf y from fun _ _ => rfl)
          rw [h1] at hz
          exact .cons (ih.1 _ _ _ (by omega) (fun m => hF (List.mem_append_left _ m)) p) (ih.2 _ _ _ (by omega) (fun m => hF (List.mem_append_right _ m)) q)
  exact ⟨fun s v F => (key (sizeOf s + 1)).1 s v F (Nat.lt_succ_self _), fun l vs F => (key (sizeOf l + 1)).2 l vs F (Nat.lt_succ_self _)⟩
theorem Sim.at1 {H2 : Hp} (hs : Sim g M0 φ τ σ H) (hr : ∀ d v, R g (Mof M0 φ) H v d → R g (Mof M0 φ) H2 v d) (hk : ∀ c, c ≠ a → H2 c = H c) (na : ¬ Mof M0 φ a) : Sim g M0 φ τ σ H2 :=
  ⟨hs.len, fun i s q => by
    obtain ⟨v, h1, h2⟩ := hs.at_ i s q
    exact ⟨v, h1, (Ow.at1 hr hk).1 s v _ (fun m => na (.inr ⟨i, m⟩)) h2⟩, hs.nd, hs.dj, hs.d0, fun x m => by
    rw [hk x fun e => na (by rw [← e]; exact m)]
    exact hs.al x m⟩
theorem Sim.lock (hs : Sim g M0 φ τ σ H) (ho : H a = some o) (hd : isDct o) (na : ¬ Mof M0 φ a) : Sim g M0 φ τ σ (upd H a (.frz od o)) :=
  hs.at1 (fun d v r => R.lock ho hd d v r) (fun c hc => upd_ne hc) na
theorem Sim.unlock (hs : Sim g M0 φ τ σ H) (ho : H a = some (.frz od o)) (hd : isDct o) (na : ¬ Mof M0 φ a) : Sim g M0 φ τ σ (upd H a o) :=
  hs.at1 (fun d v r => R.unlock ho hd d v r) (fun c hc => upd_ne hc) na
/-- a step with the lock is a step -/
theorem Le.unlock (ho : H a = some o) (hd : isDct o) (na : ¬ M a) (l : Le M (upd H a (.frz od o)) M1 H1) : H1 a = some (.frz od o) ∧ ¬ M1 a ∧ Le M H M1 (upd H1 a o) := by
  have h1 : H1 a = some (.frz od o) := l.ev.frzs a od o upd_same
  have n1 : ¬ M1 a := fun m => by
    rcases l.grow a m with q | q
    · exact na q
    · rw [upd_same] at q; cases q
  refine ⟨h1, n1, ⟨⟨fun b ob hb nb => ?_, fun b xs hb => ?_, fun b ob u hb => ?_, fun b ob hb => ?_⟩, fun x m => ?_⟩⟩
  · by_cases e : b = a
    · subst e; rw [upd_same, ← hb, ho]
    · rw [upd_ne e]; exact l.ev.keep b ob (by rw [upd_ne e]; exact hb) nb
  · by_cases e : b = a
    · subst e; rw [ho] at hb; cases hb; exact hd.elim
    · rw [upd_ne e]; exact l.ev.tups b xs (by rw [upd_ne e]; exact hb)
  · by_cases e : b = a
    · subst e; rw [ho] at hb; cases hb; exact hd.elim
    · rw [upd_ne e]; exact l.ev.frzs b ob u (by rw [upd_ne e]; exact hb)
  · by_cases e : b = a
    · subst e; rw [ho] at hb; cases hb; exact ⟨o, upd_same, rfl⟩
    · rw [upd_ne e]; exact l.ev.kind b ob (by rw [upd_ne e]; exact hb)
  · rcases l.grow x m with q | q
    · exact .inl q
    · by_cases e : x = a
      · subst e; rw [upd_same] at q; cases q
      · rw [upd_ne e] at q; exact .inr q
/-! the iterators -/
theorem ks_at {κ : Type} {f : κ → DK} {kvs : List (κ × V)} {j : Nat} {k : κ} {v : V} (h : kvs[j]? = some (k, v)) : ((kvs.map fun p => f p.1).map dkD)[j]? = some (dkD (f k)) := by
  rw [List.getElem?_map, List.getElem?_map, h]; rfl
theorem i_keysN (h : PI X tg e (iKeys (tVar i))) : PI X tg e (rdIL g i (itN 0 i)) := pi_le h fun σ H Rr q => by
  obtain ⟨⟨a, od, u, hv, ha⟩, M0, φ, τ, r, τ', hs, hm, k⟩ := q
  unfold itN at hm
  split at hm
  · rename_i t ks l hi
    simp only [Option.map_eq_some_iff] at hm
    obtain ⟨x, hx, hm⟩ := hm
    cases hm
    obtain ⟨v', hv', rv⟩ := hs.fz hi
    rw [hv] at hv'
    cases hv'
    obtain ⟨a', o, xs, e, q, p, rs⟩ := (RT.of rv).dct
    cases e
    have eo : o = u := by
      rcases q with q | ⟨u', q⟩
      · rw [ha] at q; cases q; exact (HOr.dct p).elim
      · rw [ha] at q; cases q; rfl
    subst eo
    refine ⟨_, hv, a, od, rfl, ?_⟩
    cases t
    · obtain ⟨kvs, rfl, e1, e2⟩ := p
      cases hx
      refine .inl ⟨kvs, ha, k _ H φ hs .refl ⟨fun j M1 H1 l hj => ⟨l.ev.frzs _ _ _ ha, by rw [e1] at hj; simpa using hj⟩, fun M1 H1 l => ⟨l.ev.frzs _ _ _ ha, by rw [e1]; simp⟩, fun j M1 H1 x H2 l hj y => ?_⟩⟩
      obtain ⟨rfl, kk, vv, hkv, rfl⟩ := y
      refine ⟨.refl, kD kk, ?_, kD_r kk⟩
      rw [e1]
      exact ks_at (f := DK.k) hkv
    · obtain ⟨kvs, rfl, e1, e2⟩ := p
      cases hx
      refine .inr ⟨kvs, ha, k _ H φ hs .refl ⟨fun j M1 H1 l hj => ⟨l.ev.frzs _ _ _ ha, by rw [e1] at hj; simpa using hj⟩, fun M1 H1 l => ⟨l.ev.frzs _ _ _ ha, by rw [e1]; simp⟩, fun j M1 H1 x H2 l hj y => ?_⟩⟩
      obtain ⟨rfl, kk, vv, qq, hkv, rfl, hq⟩ := y
      refine ⟨.refl, .tup (kk.map kD), ?_, .tup (SqT.of hq) (kDs_r kk)⟩
      rw [e1]
      exact ks_at (f := DK.tup) hkv
  · cases hm
theorem i_itemsN {elts : List Expr} {kk : Nat} {tpos : Pos} (h : PI X (.Tuple elts kk tpos) e (iItems (tVar i))) : PI X (.Tuple elts kk tpos) e (rdIL g i (itN 1 i)) := pi_le h fun σ H Rr q => by
  obtain ⟨⟨a, od, u, hv, ha⟩, M0, φ, τ, r, τ', hs, hm, k⟩ := q
  unfold itN at hm
  split at hm
  · rename_i t ks l hi
    simp only [Option.map_eq_some_iff] at hm
    obtain ⟨x, hx, hm⟩ := hm
    cases hm
    obtain ⟨v', hv', rv⟩ := hs.fz hi
    rw [hv] at hv'
    cases hv'
    obtain ⟨a', o, xs, e, q, p, rs⟩ := (RT.of rv).dct
    cases e
    have eo : o = u := by
      rcases q with q | ⟨u', q⟩
      · rw [ha] at q; cases q; exact (HOr.dct p).elim
      · rw [ha] at q; cases q; rfl
    subst eo
    cases t
    · obtain ⟨kvs, rfl, e1, e2⟩ := p
      cases hx
      have hlen : l.length = kvs.length := by rw [← rs.length, e2, List.length_map]
      have hz : ((ks.zip l).map fun p => D.tup [dkD p.1, p.2]).length = kvs.length := by rw [List.length_map, List.length_zip, hlen, e1, List.length_map, Nat.min_self]
      refine ⟨_, hv, a, od, kvs, rfl, ha, k _ H φ hs .refl ⟨fun j M1 H1 l hj => ⟨l.ev.frzs _ _ _ ha, by rw [hz] at hj; exact hj⟩, fun M1 H1 l => ⟨l.ev.frzs _ _ _ ha, by rw [hz]; exact Nat.le_refl _⟩, fun j M1 H1 x H2 l1 hj y => ?_⟩⟩
      obtain ⟨T, kk, vv, hkv, rfl, hT, rfl⟩ := y
      have rs1 := l1.rs rs
      obtain ⟨dd, hd, rd⟩ := rs1.getV (i := j) (v := vv) (by rw [e2, List.getElem?_map, hkv]; rfl)
      have e0 := new0 (o := .tup [kV kk, vv]) hT
      refine ⟨e0, .tup [dkD (.k kk), dd], ?_, .tup (SqT.of upd_same) (.cons (kD_r kk) (.cons (rd.ev0 e0) .nil))⟩
      rw [List.getElem?_map]
      have : (ks.zip l)[j]? = some (.k kk, dd) := List.getElem?_zip_eq_some.mpr ⟨by rw [e1, List.getElem?_map, hkv]; rfl, hd⟩
      rw [this]; rfl
    · cases hx
  · cases hm
theorem i_valsN (h : PI X tg e (iVals (tVar i))) : PI X tg e (rdIL g i (itN 2 i)) := pi_le h fun σ H Rr q => by
  obtain ⟨⟨a, od, u, hv, ha⟩, M0, φ, τ, r, τ', hs, hm, k⟩ := q
  unfold itN at hm
  split at hm
  · rename_i t ks l hi
    simp only [Option.map_eq_some_iff] at hm
    obtain ⟨x, hx, hm⟩ := hm
    cases hm
    obtain ⟨v', hv', rv⟩ := hs.fz hi
    rw [hv] at hv'
    cases hv'
    obtain ⟨a', o, xs, e, q, p, rs⟩ := (RT.of rv).dct
    cases e
    have eo : o = u := by
      rcases q with q | ⟨u', q⟩
      · rw [ha] at q; cases q; exact (HOr.dct p).elim
      · rw [ha] at q; cases q; rfl
    subst eo
    cases t
    · obtain ⟨kvs, rfl, e1, e2⟩ := p
      cases hx
      have hlen : l.length = kvs.length := by rw [← rs.length, e2, List.length_map]
      refine ⟨_, hv, a, od, kvs, rfl, ha, k _ H φ hs .refl ⟨fun j M1 H1 l1 hj => ⟨l1.ev.frzs _ _ _ ha, by rw [hlen] at hj; exact hj⟩, fun M1 H1 l1 => ⟨l1.ev.frzs _ _ _ ha, by rw [hlen]; exact Nat.le_refl _⟩, fun j M1 H1 x H2 l1 hj y => ?_⟩⟩
      obtain ⟨rfl, kk, hkv⟩ := y
      obtain ⟨dd, hd, rd⟩ := (l1.rs rs).getV (i := j) (v := x) (by rw [e2, List.getElem?_map, hkv]; rfl)
      exact ⟨.refl, dd, hd, rd⟩
    · cases hx
  · cases hm
/-! loops and comprehensions -/
theorem ps_lockOr {t : TS} (h : PS X st t) : PS X st (fun D σ H => t D σ H ∨ tLock t D σ H) :=
  ⟨fun pins s σ H D I w => w.elim (h.run pins s σ H D I) ((ps_lock h).run pins s σ H D I)⟩
theorem pe_lockOr {t : TE} (h : PE X e t) : PE X e (fun σ H Q => t σ H Q ∨ tLockE t σ H Q) :=
  ⟨fun pins s σ H D I w => w.elim (h.run pins s σ H D I) ((pe_lock h).run pins s σ H D I)⟩
/-- the slot frozen -/
theorem Sim.frzT (hs : Sim g M0 φ τ σ H) (i : Nat) : ∃ φ2, Sim g M0 φ2 (frzT i τ) σ H ∧ Le (ran φ) H (ran φ2) H := by
  unfold VS.frzT
  split
  · rename_i s hi
    obtain ⟨v, hv, s2, r⟩ := hs.frz hi
    exact ⟨_, s2, .up⟩
  · exact ⟨φ, hs, .refl⟩
/-- the dict of the slot, locked or not -/
theorem Sim.dctAt (hs : Sim g M0 φ τ σ H) {t : Bool} {ks : List DK} {l : List D} (hi : τ[i]? = some (some (.fz (.ob (.dct t ks) l)))) : ∃ a o, σ[i]? = some (some (.ref a)) ∧ isDct o ∧ ¬ Mof M0 φ a ∧ Rd H a o := by
  obtain ⟨v, hv, rv⟩ := hs.fz hi
  cases rv with
  | ob q qi n p r => exact ⟨_, _, hv, HOr.dct p, n, q⟩
theorem isDct.mut (hd : isDct o) : Mut (some o) := by
  cases o <;> first | trivial | exact hd.elim
def sForN (kd i : Nat) (t : TD) (b : SC) : SC := fun τ => match sFor (itN kd i) t b (frzT i τ) with
  | some (.ex _ _ _, _) => none
  | r => r
def mN (i : Nat) (m : CM SV) : CM SV := fun τ => match τ[i]? with
  | some (some s) => match s.toD with
    | .ob (.dct _ _) _ => match m (frzT i τ) with
      | some (.ok s, τ') => some (.ok s, τ')
      | _ => none
    | _ => none
  | _ => none
theorem frzT_at {s : SV} (hi : τ[i]? = some (some s)) : (frzT i τ)[i]? = some (some (.fz s.toD)) := by
  unfold frzT
  rw [hi]
  dsimp only
  rw [List.getElem?_set, if_pos rfl, if_pos (List.getElem?_eq_some_iff.mp hi).1]
theorem SOk.unlock (ho : H a = some o) (hd : isDct o) (na : ¬ Mof M0 φ a) (q : SOk g M0 φ (upd H a (.frz od o)) σ τ' σ' H') : H' a = some (.frz od o) ∧ SOk g M0 φ H σ τ' σ' (upd H' a o) := by
  obtain ⟨⟨φ', s1, l1⟩, hp⟩ := q
  obtain ⟨h1, n1, l2⟩ := Le.unlock ho hd (fun m => na (.inr m)) l1
  refine ⟨h1, ⟨φ', s1.unlock h1 hd fun m => ?_, l2⟩, hp⟩
  rcases m with m | m
  · exact na (.inl m)
  · exact n1 m
theorem EOk.unlock (ho : H a = some o) (hd : isDct o) (na : ¬ Mof M0 φ a) (q : EOk g M0 φ (upd H a (.frz od o)) σ s τ' v H') : H' a = some (.frz od o) ∧ EOk g M0 φ H σ s τ' v (upd H' a o) := by
  obtain ⟨F, φ', s1, w1, nd, n0, l1⟩ := q
  obtain ⟨h1, n1, l2⟩ := Le.unlock ho hd (fun m => na (.inr m)) l1
  have na' : ¬ Mof (plus M0 F) φ' a := fun m => by
    rcases m with (m | m) | m
    · exact na (.inl m)
    · exact n1 (.inr m)
    · exact n1 (.inl m)
  exact ⟨h1, F, φ', s1.unlock h1 hd na', (Ow.at1 (fun d v r => R.unlock h1 hd d v r) fun c hc => upd_ne hc).1 _ _ _ (fun m => n1 (.inr m)) w1, nd, n0, l2⟩
theorem s_forN {vs : List Nat} {t : TD} {b : SC} (hp : (g.pin.any vs.contains) = false) (h : PS X st (tFor (rdIL g i (itN kd i)) (rdG g vs t) (rdS g b))) : PS X st (rdS g (sForN kd i t b)) := ps_le (ps_lockOr h) fun E σ H q => by
  obtain ⟨M0, φ, τ, fl, τ', hs, hm, k⟩ := rdS_iff.mp q
  obtain ⟨φ2, hs2, l2⟩ := hs.frzT i
  unfold sForN at hm
  have hm2 : sFor (itN kd i) t b (VS.frzT i τ) = some (fl, τ') ∧ ∀ c fs l, fl ≠ .ex c fs l := by
    split at hm
    · cases hm
    · rename_i hne
      exact ⟨hm, fun c fs l e => by subst e; exact hne c fs l τ' hm⟩
  obtain ⟨hm2, nex⟩ := hm2
  obtain ⟨t2, ks, l0, hi⟩ : ∃ t2 ks l0, (VS.frzT i τ)[i]? = some (some (.fz (.ob (.dct t2 ks) l0))) := by
    unfold sFor at hm2
    rcases sE_some hm2 with ⟨x, τ1, e1, _⟩ | ⟨c, fs, l, e1, _⟩
    · unfold itN at e1
      split at e1
      · exact ⟨_, _, _, by assumption⟩
      · cases e1
    · unfold itN at e1
      split at e1
      · exact ⟨_, _, _, by assumption⟩
      · cases e1
  obtain ⟨a, o, hv, hd, na, hrd⟩ := hs2.dctAt hi
  rcases hrd with ho | ⟨od, ho⟩
  · refine .inr ⟨a, o, ho, hd.mut, fun od => ⟨⟨a, od, o, hv, upd_same⟩, ?_⟩⟩
    refine le_for hp _ σ _ (rdS_iff.mpr ⟨M0, φ2, _, fl, τ', hs2.lock ho hd na, hm2, ?_⟩)
    have k2 := Fin.after l2 (fun _ _ => rfl) k
    cases fl with
    | nx =>
      intro σ' H' q
      obtain ⟨h1, q1⟩ := SOk.unlock ho hd na q
      exact ⟨h1, k2 σ' _ q1⟩
    | bk =>
      intro σ' H' q
      obtain ⟨h1, q1⟩ := SOk.unlock ho hd na q
      exact ⟨h1, k2 σ' _ q1⟩
    | ct =>
      intro σ' H' q
      obtain ⟨h1, q1⟩ := SOk.unlock ho hd na q
      exact ⟨h1, k2 σ' _ q1⟩
    | rt s =>
      intro σ' v H' q
      obtain ⟨h1, q1⟩ := EOk.unlock ho hd na q.1
      exact ⟨h1, k2 σ' v _ ⟨q1, q.2⟩⟩
    | ex c fs l => exact absurd rfl (nex c fs l)
  · refine .inl ⟨⟨a, od, o, hv, ho⟩, ?_⟩
    exact le_for hp _ σ _ (rdS_iff.mpr ⟨M0, φ2, _, fl, τ', hs2, hm2, Fin.after l2 (fun _ _ => rfl) k⟩)
/-- an expression that walks over the slot's dict -/
theorem le_N {m : CM SV} {t : TE} (le : ∀ σ H Q, rdE g m σ H Q → t σ H Q) (h : PE X e (fun σ H Q => LOCK i σ H ∧ t σ H Q)) : PE X e (rdE g (mN i m)) := pe_le (pe_lockOr h) fun σ H Q q => by
  obtain ⟨M0, φ, τ, r, τ', hs, hm, k⟩ := q
  obtain ⟨φ2, hs2, l2⟩ := hs.frzT i
  unfold mN at hm
  split at hm
  · rename_i s0 hi0
    split at hm
    · rename_i t2 ks l0 he
      split at hm
      · rename_i s τ1 hm2
        cases hm
        have hi := frzT_at hi0
        rw [he] at hi
        obtain ⟨a, o, hv, hd, na, hrd⟩ := hs2.dctAt hi
        rcases hrd with ho | ⟨od, ho⟩
        · refine .inr ⟨a, o, ho, hd.mut, fun od => ⟨⟨a, od, o, hv, upd_same⟩, le σ _ _ ⟨M0, φ2, _, _, _, hs2.lock ho hd na, hm2, fun v H' q => ?_⟩⟩⟩
          obtain ⟨h1, q1⟩ := EOk.unlock ho hd na q
          exact ⟨h1, k v _ (q1.after l2)⟩
        · exact .inl ⟨⟨a, od, o, hv, ho⟩, le σ _ _ ⟨M0, φ2, _, _, _, hs2, hm2, fun v H' q => k v _ (q.after l2)⟩⟩
      · cases hm
    · cases hm
  · cases hm
theorem s_lcN {vs ws : List Nat} {t : TD} {el : CM D} (hw : ∀ i ∈ ws, i ∈ vs) (h : PE X e (tLc (rdIL g i (itN kd i)) (rdG (gB g) ws t) tYes (rdD (gB g) el) vs)) : PE X e (rdE g (mN i (mLc vs (itN kd i) t cYes el))) := le_N (le_lc hw t_yes) h
theorem s_lcIfN {vs ws : List Nat} {t : TD} {c : CM Bool} {el : CM D} (hw : ∀ i ∈ ws, i ∈ vs) (h : PE X e (tLc (rdIL g i (itN kd i)) (rdG (gB g) ws t) (rdT (gB g) c) (rdD (gB g) el) vs)) : PE X e (rdE g (mN i (mLc vs (itN kd i) t c el))) := le_N (le_lc hw fun _ _ _ q => q) h
theorem s_dcN {vs ws : List Nat} {t : TD} {kx el : CM D} (hw : ∀ i ∈ ws, i ∈ vs) (h : PE X e (tDc (rdIL g i (itN kd i)) (rdG (gB g) ws t) tYes (rdD (gB g) kx) (rdD (gB g) el) vs)) : PE X e (rdE g (mN i (mDc vs (itN kd i) t cYes kx el))) := le_N (le_dc hw t_yes) h
theorem s_dcIfN {vs ws : List Nat} {t : TD} {c : CM Bool} {kx el : CM D} (hw : ∀ i ∈ ws, i ∈ vs) (h : PE X e (tDc (rdIL g i (itN kd i)) (rdG (gB g) ws t) (rdT (gB g) c) (rdD (gB g) kx) (rdD (gB g) el) vs)) : PE X e (rdE g (mN i (mDc vs (itN kd i) t c kx el))) := le_N (le_dc hw fun _ _ _ q => q) h
end
end VS

/-! ## S27: more of expressions: index, max, min, sorted of ints, get, displays, dict() -/
namespace VS
open PySem PySem.Spec PyProof.Rows L2
section
variable {X : Cx} {g : Gx} {st : Stmt} {e tg : Expr} {es : List Expr} {M M0 M1 : Ad} {φ φ1 φ2 φ' : Nat → List Addr} {τ τ' : Tau} {σ σ1 σ' : L2.St} {H H' H1 : Hp} {u v w x y : V} {vs xs : List V} {d : D} {ds : List D} {s s' : SV} {l : List SV} {a b : Addr} {o : HO} {n i : Nat} {Q : VK}
/-! s.index(t) -/
def sIndex (a b : Str) : Option Nat := (Builtin.Str.occurrences a b 0 a.length 1).head?
def sindexF : D → D → Option SV
  | .str a, .str b => (sIndex a b).map fun n => .fz (.int (n : Nat))
  | _, _ => none
theorem sindexF_str (d e : D) (s : SV) (h : sindexF d e = some s) : ∃ z, d = .str z := by
  unfold sindexF at h; split at h
  · exact ⟨_, rfl⟩
  · cases h
abbrev rSIndexU : V → List V → Hp → VK → Prop := fun x xs H Q => ∃ a b i rest, x = .str a ∧ xs = [.str b] ∧ Builtin.Str.occurrences a b 0 a.length 1 = i :: rest ∧ Q (.int (i : Nat)) H
theorem o_sindex : OpM g sindexF rSIndexU := by
  intro M H x y d e s Q h1 h2 hf k
  unfold sindexF at hf
  split at hf
  · cases h1.str; cases h2.str
    simp only [Option.map_eq_some_iff] at hf
    obtain ⟨n, hn, rfl⟩ := hf
    obtain ⟨rest, e⟩ := List.head?_eq_some_iff.mp hn
    exact ⟨_, _, n, rest, rfl, rfl, e, k _ _ (.int _)⟩
  · cases hf
theorem mt_sindexU : MtR X "str.index" rSIndexU := mt_sindex
/-! calls with two arguments -/
def Op2C (g : Gx) (f : D → D → Option SV) (r : List V → Hp → VK → Prop) : Prop := ∀ {M : Ad} {H : Hp} {x y : V} {d e : D} {s : SV} {Q : VK}, R g M H x d → R g M H y e → f d e = some s → (∀ v H', POk g M H s v H' → Q v H') → r [x, y] H Q
theorem s_call2 {r : List V → Hp → VK → Prop} {f : D → D → Option SV} {a b : CM D} (ho : Op2C g f r) (h : PE X e (tCB r (tCons (rdD g a) (tCons (rdD g b) tNil)))) : PE X e (rdE g (mOp2 f a b)) := pe_le h fun σ H Q q => by
  obtain ⟨M0, φ, τ, rs, τ', hs, hm, k⟩ := q
  rcases bnd_some hm with ⟨x, τ1, e1, e2⟩ | ⟨c, fs, l, e1, rfl⟩
  · refine ⟨M0, φ, τ, _, _, hs, e1, fun v1 H1 q1 => ?_⟩
    obtain ⟨φ1, hs1, r1, l1⟩ := q1
    rcases bnd_some e2 with ⟨y, τ2, e3, e4⟩ | ⟨c, fs, l, e3, rfl⟩
    · refine ⟨M0, φ1, τ1, _, _, hs1, e3, fun v2 H2 q2 => ?_⟩
      obtain ⟨φ2, hs2, r2, l2⟩ := q2
      obtain ⟨s, es, rfl, rfl⟩ := ret_some e4
      exact ho ((le_mof l2).r r1) r2 es fun v3 H3 p => k v3 H3 (EOk.after (l1.trans l2) (.of hs2 p))
    · exact ⟨M0, φ1, τ1, _, _, hs1, e3, fun d H' q => k d H' (q.after l1)⟩
  · exact ⟨M0, φ, τ, _, _, hs, e1, k⟩
def maxF : D → D → Option SV
  | .int i, .int j => some (.fz (.int (if j > i then j else i)))
  | _, _ => none
def minF : D → D → Option SV
  | .int i, .int j => some (.fz (.int (if j < i then j else i)))
  | _, _ => none
abbrev rMax2U : List V → Hp → VK → Prop := fun xs H Q => ∃ i j, xs = [.int i, .int j] ∧ Q (.int (if j > i then j else i)) H
abbrev rMin2U : List V → Hp → VK → Prop := fun xs H Q => ∃ i j, xs = [.int i, .int j] ∧ Q (.int (if j < i then j else i)) H
theorem o_max2 : Op2C g maxF rMax2U := by
  intro M H x y d e s Q h1 h2 hf k
  unfold maxF at hf
  split at hf
  · cases (RT.of h1).int; cases (RT.of h2).int; cases hf
    exact ⟨_, _, rfl, k _ _ (.int _)⟩
  · cases hf
theorem o_min2 : Op2C g minF rMin2U := by
  intro M H x y d e s Q h1 h2 hf k
  unfold minF at hf
  split at hf
  · cases (RT.of h1).int; cases (RT.of h2).int; cases hf
    exact ⟨_, _, rfl, k _ _ (.int _)⟩
  · cases hf
theorem cr_max2U (hc : X.calm = true := by rfl) : CallR X (.builtin "max") rMax2U := call_max2 hc
theorem cr_min2U (hc : X.calm = true := by rfl) : CallR X (.builtin "min") rMin2U := call_min2 hc
/-! max, min of a list of ints -/
def maxL : List Int → Int
  | [] => 0
  | [x] => x
  | x :: r => max x (maxL r)
def minL : List Int → Int
  | [] => 0
  | [x] => x
  | x :: r => min x (minL r)
theorem maxL_mem : ∀ {l : List Int}, l ≠ [] → maxL l ∈ l
  | [x], _ => by simp [maxL]
  | x :: y :: r, _ => by
    have ih := maxL_mem (l := y :: r) (by simp)
    show max x (maxL (y :: r)) ∈ _
    rw [Int.max_def]
    split
    · exact List.mem_cons_of_mem _ ih
    · exact List.mem_cons_self
theorem maxL_le : ∀ {l : List Int} {y : Int}, y ∈ l → y ≤ maxL l
  | [x], y, h => by simp at h; rw [h]; exact Int.le_refl _
  | x :: z :: r, y, h => by
    show y ≤ max x (maxL (z :: r))
    rcases List.mem_cons.mp h with h | h
    · rw [h]; exact Int.le_max_left _ _
    · exact Int.le_trans (maxL_le h) (Int.le_max_right _ _)
theorem minL_mem : ∀ {l : List Int}, l ≠ [] → minL l ∈ l
  | [x], _ => by simp [minL]
  | x :: y :: r, _ => by
    have ih := minL_mem (l := y :: r) (by simp)
    show min x (minL (y :: r)) ∈ _
    rw [Int.min_def]
    split
    · exact List.mem_cons_self
    · exact List.mem_cons_of_mem _ ih
theorem minL_le : ∀ {l : List Int} {y : Int}, y ∈ l → minL l ≤ y
  | [x], y, h => by simp at h; rw [h]; exact Int.le_refl _
  | x :: z :: r, y, h => by
    show min x (minL (z :: r)) ≤ y
    rcases List.mem_cons.mp h with h | h
    · rw [h]; exact Int.min_le_left _ _
    · exact Int.le_trans (Int.min_le_right _ _) (minL_le h)
def maxLF (d : D) : Option SV := (lstD d).bind fun l => (intsD l).bind fun ns => if ns = [] then none else some (.fz (.int (maxL ns)))
def minLF (d : D) : Option SV := (lstD d).bind fun l => (intsD l).bind fun ns => if ns = [] then none else some (.fz (.int (minL ns)))
theorem o_maxL : OpC g maxLF (rMax g.K) [] := by
  intro M H x d s Q h1 hf k
  simp only [maxLF, Option.bind_eq_some_iff] at hf
  obtain ⟨l, hl, ns, hn, hf⟩ := hf
  split at hf
  · cases hf
  · rename_i hne
    cases hf
    obtain ⟨a, xs, rfl, hs, rs⟩ := h1.lstD hl
    rw [rs.ints hn] at hs
    refine ⟨a, ns, rfl, hs, List.length_pos_iff.mpr hne, fun m hm hle => ?_⟩
    have e : m = maxL ns := Int.le_antisymm (maxL_le hm) (hle _ (maxL_mem hne))
    subst e
    exact k _ _ (.int _)
theorem o_minL : OpC g minLF (rMin g.K) [] := by
  intro M H x d s Q h1 hf k
  simp only [minLF, Option.bind_eq_some_iff] at hf
  obtain ⟨l, hl, ns, hn, hf⟩ := hf
  split at hf
  · cases hf
  · rename_i hne
    cases hf
    obtain ⟨a, xs, rfl, hs, rs⟩ := h1.lstD hl
    rw [rs.ints hn] at hs
    refine ⟨a, ns, rfl, hs, List.length_pos_iff.mpr hne, fun m hm hle => ?_⟩
    have e : m = minL ns := Int.le_antisymm (hle _ (minL_mem hne)) (minL_le hm)
    subst e
    exact k _ _ (.int _)
theorem cr_maxLU {K : PySem.W.Frag} (hK : X.K = K := by rfl) (hc : X.calm = true := by rfl) : CallR X (.builtin "max") (rMax K) := hK ▸ cr_max hc
theorem cr_minLU {K : PySem.W.Frag} (hK : X.K = K := by rfl) (hc : X.calm = true := by rfl) : CallR X (.builtin "min") (rMin K) := hK ▸ cr_min hc
/-! sorted: texts or ints -/
def insI (x : Int) : List Int → List Int
  | [] => [x]
  | y :: r => if x ≤ y then x :: y :: r else y :: insI x r
def sortI : List Int → List Int
  | [] => []
  | x :: r => insI x (sortI r)
theorem insI_perm (x : Int) : ∀ l : List Int, (insI x l).Perm (x :: l)
  | [] => .refl _
  | y :: r => by
    unfold insI
    split
    · exact .refl _
    · exact ((insI_perm x r).cons y).trans (.swap x y r)
theorem sortI_perm : ∀ l : List Int, (sortI l).Perm l
  | [] => .refl _
  | x :: r => (insI_perm x _).trans ((sortI_perm r).cons x)
theorem insI_pw (x : Int) : ∀ {l : List Int}, (l.Pairwise (· ≤ ·)) → (insI x l).Pairwise (· ≤ ·)
  | [], _ => by simp [insI]
  | y :: r, h => by
    obtain ⟨h1, h2⟩ := List.pairwise_cons.mp h
    unfold insI
    split
    · rename_i hle
      refine List.pairwise_cons.mpr ⟨fun z hz => ?_, h⟩
      rcases List.mem_cons.mp hz with e | e
      · subst e; exact hle
      · exact Int.le_trans hle (h1 z e)
    · rename_i hle
      refine List.pairwise_cons.mpr ⟨fun z hz => ?_, insI_pw x h2⟩
      rcases List.mem_cons.mp ((insI_perm x r).mem_iff.mp hz) with e | e
      · subst e; omega
      · exact h1 z e
theorem sortI_pw : ∀ l : List Int, (sortI l).Pairwise (· ≤ ·)
  | [] => .nil
  | x :: r => insI_pw x (sortI_pw r)
theorem sortI_eq {l m : List Int} (hp : m.Perm l) (hs : m.Pairwise (· ≤ ·)) : m = sortI l :=
  List.Perm.eq_of_pairwise (fun a b _ _ h1 h2 => Int.le_antisymm h1 h2) hs (sortI_pw l) (hp.trans (sortI_perm l).symm)
def sorted2F (d : D) : Option SV := (lstD d).bind fun l => match intsD l with
  | some ns => some (.mu .lst (((sortI ns).map D.int).map .fz))
  | none => (strsD l).map fun ns => .mu .lst (((sortS ns).map D.str).map .fz)
def rSorted2 (K : PySem.W.Frag) : List V → Hp → VK → Prop := fun vs H Q => rSortedI K vs H Q ∨ rSortedU K vs H Q
theorem cr_sorted2 {K : PySem.W.Frag} (hK : X.K = K := by rfl) : CallR X (.builtin "sorted") (rSorted2 K) := (hK ▸ cr_sortedI).or (cr_sortedU hK)
theorem o_sorted2 : OpC g sorted2F (rSorted2 g.K) [] := by
  intro M H x d s Q h1 hf k
  simp only [sorted2F, Option.bind_eq_some_iff] at hf
  obtain ⟨l, hl, hf⟩ := hf
  split at hf
  · rename_i ns hn
    cases hf
    obtain ⟨a, xs, rfl, hs, rs⟩ := h1.lstD hl
    rw [rs.ints hn] at hs
    refine .inl ⟨a, ns, rfl, hs, fun ys p pm so hp => ?_⟩
    rw [sortI_eq pm so]
    exact k _ _ (.lst hp (rs_ints _))
  · simp only [Option.map_eq_some_iff] at hf
    obtain ⟨ns, hn, rfl⟩ := hf
    exact .inr (o_sorted h1 (by simp only [sortedF, hl, Option.bind_some, hn, Option.map_some]) k)
/-! xs[::-1], s[::-1] -/
def revS (z : Str) : Str := ⟨z.cps.reverse⟩
theorem made_rev {X : Cx} {pins : List (Addr × Obj)} {σ : L2.St} {H : Hp} {s : Shared} {z : Str} {t : Tok} {l u st : Option (Int × Tok)} {Q : VK} (I : Inv X pins σ H s) (hl : l.map (·.1) = none) (hu : u.map (·.1) = none) (hst : st.map (·.1) = some (-1)) (hz : z.length ≤ sizeLine) (q : Q (.str (revS z)) H) :
    (sliceMade z t l u st).post (EP X pins σ Q) s := by
  unfold sliceMade slicePicked
  rw [hl, hu, hst]
  have e1 : Builtin.Str.strSliceIndices none none (-1) z.length = (List.range z.length).reverse := by
    unfold Builtin.Str.strSliceIndices
    show sliceRange ((z.length : Int) - 1) (-1) (-1) = _
    rw [PySem.W.krv_sliceRange, PySem.W.krv_range]
  have e2 : ((((List.range z.length).reverse).filterMap (z.cps[·]?)).toArray : Array Nat) = z.cps.reverse := by
    rw [List.filterMap_reverse]
    show (((List.range z.cps.size).filterMap (z.cps[·]?)).reverse).toArray = _
    rw [PySem.W.krv_all]
    apply Array.toList_inj.mp
    simp
  show Made.post (if ((-1 : Int) == 1 && (Builtin.Str.strSliceIndices none none (-1) z.length).length == z.length) = true then Made.val (.str z t) else Made.str ⟨((Builtin.Str.strSliceIndices none none (-1) z.length).filterMap (z.cps[·]?)).toArray⟩) (EP X pins σ Q) s
  rw [if_neg (by simp), e1, e2]
  exact ⟨by show z.cps.reverse.size ≤ sizeLine; rw [Array.size_reverse]; exact hz, .str _, H, I.tok _, ⟨_, rfl⟩, q⟩
def tRevU (K : PySem.W.Frag) (te : TE) : TE := fun σ H Q => te σ H fun x H1 => (∃ a xs, x = .ref a ∧ SqL K H1 a xs ∧ ∀ p, H1 p = none → Q (.ref p) (upd H1 p (.lst xs.reverse))) ∨ ∃ z, x = .str z ∧ z.length ≤ sizeLine ∧ Q (.str (revS z)) H1
theorem pe_revU {K : PySem.W.Frag} {e : Expr} {te : TE} {k : Nat} {p1 p2 p3 pos : Pos} (he : PE X e te) (hK : X.K = K := by rfl) : PE X (.Subscript e (.Slice none none (some (.UnaryOp .USub (.Constant (.int 1) k p1) p2)) p3) pos) (tRevU K te) := by
  subst hK
  refine ⟨fun pins s σ H Q I h => ?_⟩
  refine Subscript_ (thn (he.run pins s σ H _ I h) fun v s1 ⟨x, H1, I1, r1, q1⟩ => ?_)
  have hst : L2.PO X (some (.UnaryOp .USub (.Constant (.int 1) k p1) p2)) (tPart (tUn (rU fun i => .int (-i)) (tC (.int 1)))) := po_some (pe_un un_neg pe_int)
  refine wpAny_Slice (thn (po_none.run pins s1 σ H1 (fun o H2 => o = none ∧ H2 = H1) I1 ⟨rfl, rfl⟩) fun vl s2 ⟨l, H2, I2, pl, el, e2⟩ => ?_)
  subst el e2
  refine thn (po_none.run pins s2 σ H2 (fun o H3 => o = none ∧ H3 = H2) I2 ⟨rfl, rfl⟩) fun vu s3 ⟨u, H3, I3, pu, eu, e3⟩ => ?_
  subst eu e3
  refine thn (hst.run pins s3 σ H3 (fun o H4 => o = some (-1) ∧ H4 = H3) I3 ⟨1, rfl, -1, rfl, rfl, rfl⟩) fun vs s4 ⟨o, H4, I4, ps, eo, e4⟩ => ?_
  subst eo e4
  have I5 : Inv X pins σ H4 { s4 with heap := s4.heap.push { cls := .type "slice", data := .fields #[vl, vu, vs] } } := I4.kept (t' := s4.toks) fun b ob q => Heap.get?_push_of_some _ q
  rcases q1 with ⟨a, xs, ex, hx, q⟩ | ⟨z, ex, hz, q⟩
  · subst ex
    cases r1
    obtain ⟨its, r, ht, hz⟩ := I5.list hx
    have hlen := r.length
    show wpAny (model X.prog X.w) X.A (subscriptTail e (.Slice none none (some (.UnaryOp .USub (.Constant (.int 1) k p1) p2)) p3) (.ref a) (.ref s4.heap.objs.size)) (EP X pins σ Q) X.xe { s4 with heap := s4.heap.push { cls := .type "slice", data := .fields #[vl, vu, vs] } }
    refine tail_any (ops := [.ref a, .ref s4.heap.objs.size]) ht.isList.typeIs (PySem.slot_list_getitem.lookup) ?_ (by with_unfolding_all rfl)
    refine wpAny_getItem_list_slice ht.isList (Heap.IsSliceOf.new _ vl vu vs) pl pu ps (by decide) ?_ (by rw [List.size_toArray]; omega)
    rw [PySem.W.krv_pick]
    refine ⟨.ref _, _, I5.laid (t' := s4.toks) (o := .lst xs.reverse) (fun b ob q => Heap.get?_push_of_some _ q) (Nat.le_refl _) ?_, rfl, q _ (I5.hok.fresh (Nat.le_refl _))⟩
    exact ⟨by rw [List.length_reverse]; exact hz, _, 0, r.reverse, Heap.get?_push_size _ rfl⟩
  · subst ex
    obtain ⟨t, rfl⟩ := r1
    obtain ⟨l, rfl, hl⟩ := IsPart.raw pl
    obtain ⟨u, rfl, hu⟩ := IsPart.raw pu
    obtain ⟨st, rfl, hs⟩ := IsPart.raw ps
    show wpAny (model X.prog X.w) X.A (subscriptTail e (.Slice none none (some (.UnaryOp .USub (.Constant (.int 1) k p1) p2)) p3) (.str z t) (.ref s4.heap.objs.size)) (EP X pins σ Q) X.xe _
    refine tail_any (ops := [.str z t, .ref s4.heap.objs.size]) (typeIs_str _ z t) F.slot_str_getitem.lookup ?_ (by with_unfolding_all rfl)
    exact wpAny_getItem_str_slice (l := l) (u := u) (st := st) ⟨_, Heap.get?_push_size _ rfl, rfl, rfl⟩ (by rw [hs]; rfl) (made_rev I5 hl hu hs hz q)
def revF : D → Option SV
  | .ob .lst l => some (.mu .lst (l.reverse.map .fz))
  | .fro l => some (.mu .lst (l.reverse.map .fz))
  | .str z => if z.length ≤ sizeLine then some (.fz (.str (revS z))) else none
  | _ => none
theorem s_revU {m : CM D} (h : PE X e (tRevU g.K (rdD g m))) : PE X e (rdE g (mOp1 revF m)) := pe_le h fun σ H Q q => by
  obtain ⟨M0, φ, τ, rs, τ', hs, hm, k⟩ := q
  rcases bnd_some hm with ⟨x, τ1, e1, e2⟩ | ⟨c, fs, l, e1, rfl⟩
  · refine ⟨M0, φ, τ, _, _, hs, e1, fun v1 H1 q1 => ?_⟩
    obtain ⟨φ1, hs1, r1, l1⟩ := q1
    obtain ⟨s, es, rfl, rfl⟩ := ret_some e2
    unfold revF at es
    split at es
    · cases es
      obtain ⟨a, xs, rfl, h, r⟩ := (RT.of r1).lst
      exact .inl ⟨a, xs, rfl, SqL.of h, fun p hp => k _ _ (EOk.after l1 (.of hs1 (.lst hp r.rev)))⟩
    · cases es
      obtain ⟨a, xs, rfl, h, r⟩ := (RT.of r1).fro
      exact .inl ⟨a, xs, rfl, h, fun p hp => k _ _ (EOk.after l1 (.of hs1 (.lst hp r.rev)))⟩
    · cases (RT.of r1).str
      split at es
      · cases es
        exact .inr ⟨_, rfl, by assumption, k _ _ (EOk.after l1 (.of hs1 (.str _)))⟩
      · cases es
    · cases es
  · exact ⟨M0, φ, τ, _, _, hs, e1, k⟩
/-! {k: e}, k a written key -/
def mDispK (k : Key) (a : CM D) : CM SV := bnd a fun d => ret (some (.mu (.dct false [.k k]) [.fz d]))
theorem s_dispK {z : Key} {a : CM D} (h : PE X e (tDisp [(tC (kV z), rdD g a)])) : PE X e (rdE g (mDispK z a)) := pe_le h fun σ H Q q => by
  obtain ⟨M0, φ, τ, rs, τ', hs, hm, k⟩ := q
  intro p hp
  have live : upd H p (.dK []) p ≠ none := by rw [upd_same]; exact fun q => nomatch q
  have s1 : Sim g (plus M0 [p]) φ τ σ (upd H p (.dK [])) := hs.more (F := [p]) (new0 hp) (fun a m => by simp at m; rw [m]; exact hp) (fun a m => by simp at m; rw [m]; exact live)
  rcases bnd_some hm with ⟨x, τ1, e1, e2⟩ | ⟨c, fs, l, e1, rfl⟩
  · obtain ⟨s, es, rfl, rfl⟩ := ret_some e2
    cases es
    show rdD g a σ (upd H p (.dK [])) _
    refine ⟨plus M0 [p], φ, τ, _, _, s1, e1, fun v1 H1 q1 => ?_⟩
    obtain ⟨φ1, hs1, r1, l1⟩ := q1
    have hp1 : H1 p = some (.dK []) := l1.ev.keep _ _ upd_same fun ⟨j, q⟩ => s1.d0 j p q (.inr (by simp))
    refine ⟨hp1, [(z, v1)], rfl, by simp, ?_⟩
    have e3 : mergeK [] [(z, v1)] = [(z, v1)] := rfl
    rw [e3]
    have lp := put_le (M := ran φ1) (o' := .dK [(z, v1)]) hp1 rfl (by simp [kindO]) (by simp [kindO])
    refine k _ _ ⟨[p], φ1, hs1.put hp1 rfl (by simp [kindO]) (by simp [kindO]), .mu upd_same ⟨_, rfl, rfl, rfl⟩ (.cons (.fz ((Le.mof1 (M0 := M0) lp).r r1)) .nil), List.nodup_cons.mpr ⟨List.not_mem_nil, .nil⟩, fun a m q => ?_, ?_⟩
    · simp at m; subst m; exact hs.al a (.inl q) hp
    · have l0 : Le (ran φ) H (plus (ran φ) [p]) (upd H p (.dK [])) := .of0 (new0 hp) fun a q => (plus1 q).imp id fun e => by rw [e]; exact hp
      exact (l0.trans (Le.pl l1)).trans lp
  · show rdD g a σ (upd H p (.dK [])) _
    refine ⟨plus M0 [p], φ, τ, _, _, s1, e1, fun d H' q => k d H' ?_⟩
    obtain ⟨φ', a, b, l⟩ := q
    have l0 : Le (ran φ) H (plus (ran φ) [p]) (upd H p (.dK [])) := .of0 (new0 hp) fun a q => (plus1 q).imp id fun e => by rw [e]; exact hp
    refine ⟨φ', a.less1, ?_, ⟨(l0.trans (Le.pl l)).ev, fun x q => (l0.trans (Le.pl l)).grow x (.inl q)⟩⟩
    rcases b with b | ⟨p', fsr, xs, e, hp', n, hl, q, r⟩
    · exact .inl b
    · exact .inr ⟨p', fsr, xs, e, hp', fun m => n (mof_plus.mpr (.inl m)), hl, q, (Le.sub fun a m => mof_plus.mpr (.inl m)).rs r⟩
/-! dict(pairs), dict(d) -/
def pairD : D → Option (Key × D)
  | .tup [.int i, d] => some (.inl i, d)
  | .tup [.str z, d] => some (.inr z, d)
  | _ => none
def pairsD : List D → Option (List (Key × D))
  | [] => some []
  | d :: r => (pairD d).bind fun p => (pairsD r).map (p :: ·)
/-- d[k] = v, one behind another, data -/
def putKD (acc : List DK × List SV) (p : Key × D) : List DK × List SV := (putKs acc.1 (.k p.1), (putSV acc.1 acc.2 (.k p.1) p.2 false).2)
theorem mergeK_own : ∀ {kvs acc : List (Key × V)} {ps : List (Key × D)} {l : List SV}, Paired (fun (q : Key × V) (p : Key × D) => q.1 = p.1 ∧ R g M H q.2 p.2) kvs ps → Ows g M H (acc.map (·.2)) l [] →
    ∃ l', ps.foldl putKD (acc.map (fun p => DK.k p.1), l) = ((mergeK acc kvs).map (fun p => DK.k p.1), l') ∧ Ows g M H ((mergeK acc kvs).map (·.2)) l' []
  | [], acc, _, l, .nil, w => ⟨l, rfl, w⟩
  | (k, v) :: kvs, acc, (k2, d) :: ps, l, .cons h t, w => by
    obtain ⟨rfl, r⟩ := h
    obtain ⟨F', a1, a2, a3, a4⟩ := Ows.put DK.k dk_k_inj false k r w
    have hF : F' = [] := List.eq_nil_iff_forall_not_mem.mpr fun x m => nomatch a3 x m
    subst hF
    obtain ⟨l', b1, b2⟩ := mergeK_own (acc := putK acc k v) t a2
    refine ⟨l', ?_, b2⟩
    show ps.foldl putKD (putKD (acc.map (fun p => DK.k p.1), l) (k, d)) = _
    unfold putKD
    dsimp only
    rw [putKs_map (v := v)]
    exact b1
theorem pairs_at : ∀ {xs : List V} {ds : List D} {ps : List (Key × D)}, Rs g M H xs ds → pairsD ds = some ps → ∃ (as : List Addr) (kvs : List (Key × V)), xs = as.map V.ref ∧ Paired (fun p kv => SqT g.K H p [kV kv.1, kv.2]) as kvs ∧ Paired (fun (q : Key × V) (p : Key × D) => q.1 = p.1 ∧ R g M H q.2 p.2) kvs ps
  | _, _, _, .nil, e => by cases e; exact ⟨[], [], rfl, .nil, .nil⟩
  | _, d :: r, ps, .cons p q, e => by
    simp only [pairsD, Option.bind_eq_some_iff, Option.map_eq_some_iff] at e
    obtain ⟨⟨k, dd⟩, e1, ps', e2, rfl⟩ := e
    obtain ⟨as, kvs, rfl, h1, h2⟩ := pairs_at q e2
    unfold pairD at e1
    split at e1
    · cases e1
      obtain ⟨a, xs, rfl, hq, rs⟩ := (RT.of p).tup
      cases rs with
      | cons r1 rs => cases rs with
        | cons r2 rs =>
          cases rs; cases (RT.of r1).int
          exact ⟨a :: as, (.inl _, _) :: kvs, rfl, .cons hq h1, .cons ⟨rfl, r2⟩ h2⟩
    · cases e1
      obtain ⟨a, xs, rfl, hq, rs⟩ := (RT.of p).tup
      cases rs with
      | cons r1 rs => cases rs with
        | cons r2 rs =>
          cases rs; cases (RT.of r1).str
          exact ⟨a :: as, (.inr _, _) :: kvs, rfl, .cons hq h1, .cons ⟨rfl, r2⟩ h2⟩
    · cases e1
def dictF : D → Option SV
  | .ob .lst l => (pairsD l).map fun ps => .mu (.dct false (ps.foldl putKD ([], [])).1) (ps.foldl putKD ([], [])).2
  | .ob (.dct false ks) l => some (.mu (.dct false ks) (l.map .fz))
  | _ => none
def rDictU (K : PySem.W.Frag) : List V → Hp → VK → Prop := fun xs H Q => (∃ (a : Addr) (ps : List Addr) (kvs : List (Key × V)), xs = [.ref a] ∧ SqL K H a (ps.map V.ref) ∧ Paired (fun p kv => SqT K H p [kV kv.1, kv.2]) ps kvs ∧ ∀ p, H p = none → Q (.ref p) (upd H p (.dK (mergeK [] kvs)))) ∨
  ∃ (a : Addr) (kvs : List (Key × V)), xs = [.ref a] ∧ Rd H a (.dK kvs) ∧ ∀ p, H p = none → Q (.ref p) (upd H p (.dK kvs))
theorem cr_dictU {K : PySem.W.Frag} (hK : X.K = K := by rfl) (hc : X.calm = true := by rfl) : CallR X (.type "dict") (rDictU K) := (hK ▸ call_dictP hc).or call_dictD
theorem o_dict : OpC g dictF (rDictU g.K) [] := by
  intro M H x d s Q h1 hf k
  unfold dictF at hf
  split at hf
  · simp only [Option.map_eq_some_iff] at hf
    obtain ⟨ps, hps, rfl⟩ := hf
    obtain ⟨a, xs, rfl, hl, rs⟩ := h1.lst
    obtain ⟨as, kvs, rfl, p1, p2⟩ := pairs_at rs hps
    refine .inl ⟨a, as, kvs, rfl, SqL.of hl, p1, fun p hp => ?_⟩
    obtain ⟨l', e1, w⟩ := mergeK_own (acc := []) p2 .nil
    have e1 : ps.foldl putKD ([], []) = _ := e1
    rw [e1] at k
    refine k _ _ ⟨[p], new0 hp, .mu upd_same ⟨_, rfl, rfl, rfl⟩ (w.keep' (new0 hp) (fun _ q => q.elim) (fun a q => ?_) fun _ m => nomatch m), List.nodup_cons.mpr ⟨List.not_mem_nil, .nil⟩, fun a m => by simp at m; rw [m]; exact hp⟩
    rcases q with q | q
    · exact .inl q
    · simp at q; exact .inr (by rw [q]; exact hp)
  · cases hf
    obtain ⟨a, o, xs, rfl, q, p, rs⟩ := h1.dct
    obtain ⟨kvs, rfl, rfl, rfl⟩ := p
    exact .inr ⟨a, kvs, rfl, q, fun p hp => k _ _ (.ob hp ⟨kvs, rfl, rfl, rfl⟩ rs)⟩
  · cases hf
end
end VS

/-! ## S28: == of two dicts with plain values, known to be equal -/
namespace VS
open PySem PySem.Spec PyProof.Rows L2
section
variable {X : Cx} {g : Gx}
def rEqK : R2 := fun x y H Q => ∃ a b ks ls, x = .ref a ∧ y = .ref b ∧ Rd H a (.dK ks) ∧ Rd H b (.dK ls) ∧ ks.length = ls.length ∧ (∀ p ∈ ks, valV ls p.1 = some p.2 ∧ flatB p.2 = true) ∧ Q (.bl true) H
theorem op_eqK (hu : X.A.units < cLine) : OpR X (compareOp .Eq) rEqK := by
  intro pins s σ H x y v u Q I rx ry h
  obtain ⟨a, b, ks, ls, rfl, rfl, ea, eb, hlen, hp, q⟩ := h
  obtain rfl : v = Value.ref a := rx
  obtain rfl : u = Value.ref b := ry
  obtain ⟨_, ya, va, ra, da⟩ := (show ObjOk X.prog X.w H s.heap a (.dK ks) from ea.ok I.hok)
  obtain ⟨_, yb, vb, rb, db⟩ := (show ObjOk X.prog X.w H s.heap b (.dK ls) from eb.ok I.hok)
  have hl : va.length = vb.length := by rw [← ra.length, ← rb.length]; exact hlen
  exact PySem.W.keq_eq (knd := mixKind X.prog X.w) (r := true) ya yb da db hu (fun _ => hits_all rb ra hp) (fin_bl I q (by simp [hl]))
/-- each key of the one has in the other the same plain value -/
def sameKs (ks2 : List DK) (ls2 : List D) : List DK → List D → Bool
  | k :: ks, d :: ls => (flatD d).isSome && decide ((dLook ks2 ls2 k).bind flatD = flatD d) && sameKs ks2 ls2 ks ls
  | [], [] => true
  | _, _ => false
def eqKF : D → D → Option SV
  | .ob (.dct false ks) ls, .ob (.dct false ks2) ls2 => if ks.length = ks2.length ∧ sameKs ks2 ls2 ks ls = true then some (.fz (.bl true)) else none
  | _, _ => none
theorem flatD_B {d : D} {u : V} (e : flatD d = some u) : flatB u = true := by
  cases d <;> first | (cases e; rfl) | cases e
theorem sameKs_hits {M : Ad} {H : Hp} {ls : List (Key × V)} {l2 : List D} (r2 : Rs g M H (ls.map (·.2)) l2) : ∀ {ks : List (Key × V)} {l1 : List D}, Rs g M H (ks.map (·.2)) l1 → sameKs (ls.map fun p => .k p.1) l2 (ks.map fun p => .k p.1) l1 = true → ∀ p ∈ ks, valV ls p.1 = some p.2 ∧ flatB p.2 = true
  | [], _, _, _, p, hp => nomatch hp
  | q :: ks, l1, r1, h, p, hp => by
    cases l1 with
    | nil => cases r1
    | cons d l1 =>
      have r1' : Rs g M H (q.2 :: ks.map (·.2)) (d :: l1) := r1
      cases r1' with
      | cons a b =>
        have h : ((flatD d).isSome && decide ((dLook (ls.map fun p => DK.k p.1) l2 (.k q.1)).bind flatD = flatD d) && sameKs (ls.map fun p => .k p.1) l2 (ks.map fun p => .k p.1) l1) = true := h
        rw [Bool.and_eq_true, Bool.and_eq_true, decide_eq_true_eq] at h
        obtain ⟨⟨h1, h2⟩, h3⟩ := h
        rcases List.mem_cons.mp hp with rfl | hp
        · obtain ⟨u, hu⟩ := Option.isSome_iff_exists.mp h1
          obtain ⟨e1, -⟩ := a.flat hu
          rw [hu] at h2
          obtain ⟨d2, e2, e3⟩ := Option.bind_eq_some_iff.mp h2
          have lk := look_k DK.k (fun _ _ e => by cases e; rfl) p.1 r2
          rw [e2] at lk
          cases hv : valV ls p.1 with
          | none => rw [hv] at lk; exact lk.elim
          | some v =>
            rw [hv] at lk
            have lk : R g M H v d2 := lk
            rw [(lk.flat e3).1, e1]
            exact ⟨rfl, flatD_B e3⟩
        · exact sameKs_hits r2 b h3 p hp
theorem o_eqK : Op2 g eqKF rEqK := by
  intro M H x y d e s Q h1 h2 hf k
  unfold eqKF at hf
  split at hf
  · split at hf
    · rename_i hc
      cases hf
      obtain ⟨a, o, xs, rfl, q1, p1, r1⟩ := h1.dct
      obtain ⟨b, o2, ys, rfl, q2, p2, r2⟩ := h2.dct
      obtain ⟨kv1, rfl, rfl, rfl⟩ := p1
      obtain ⟨kv2, rfl, rfl, rfl⟩ := p2
      refine ⟨a, b, kv1, kv2, rfl, rfl, q1, q2, by simpa using hc.1, sameKs_hits r2 r1 hc.2, k _ _ (.bl _)⟩
    · cases hf
  · cases hf
end
end VS

/-! ## S29: in of lists, the items data of any depth -/
namespace VS
open PySem PySem.Spec PyProof.Rows L2
section
variable {X : Cx} {g : Gx}
theorem hu65 {A : Around} {k : Nat} (hr : Room k A) : A.units + 65 < cLine := by
  have := hr.un
  omega
def rInDU (K : PySem.W.Frag) (neg : Bool) : R2 := if neg then rNotInD K else rInD K
theorem op_inDU (hu : X.A.units + 65 < cLine) {K : PySem.W.Frag} (hK : X.K = K := by rfl) : OpR X (compareOp .In) (rInDU K false) := hK ▸ op_inD hu
theorem op_notInDU (hu : X.A.units + 65 < cLine) {K : PySem.W.Frag} (hK : X.K = K := by rfl) : OpR X (compareOp .NotIn) (rInDU K true) := hK ▸ op_notInD hu
def anyD (d : D) (l : List D) : Bool := l.any fun z => eqB z d
def inDF (neg : Bool) (d e : D) : Option SV := (lstD e).bind fun l => if shapeD d && shapeD (.ob .lst l) then some (.fz (.bl (if neg then !anyD d l else anyD d l))) else none
theorem anyD_eq (d : D) (l : List D) : ((toPs l).any fun z => PyData.eqv z (toP d)) = anyD d l := by
  rw [toPs_eq, List.any_map]
  rfl
theorem lstD_toP {e : D} {l : List D} (h : lstD e = some l) : toP e = .list (toPs l) := by
  cases e with
  | ob h2 l2 =>
    cases h2 <;> first | (cases h; rfl) | cases h
  | fro l2 => cases h; rfl
  | _ => cases h
theorem o_inD (neg : Bool) : Op2 g (inDF neg) (rInDU g.K neg) := by
  intro M H x y d e s Q h1 h2 hf k
  unfold inDF at hf
  obtain ⟨l, hl, hf⟩ := Option.bind_eq_some_iff.mp hf
  split at hf
  · rename_i hc
    cases hf
    rw [Bool.and_eq_true] at hc
    have ht := lstD_toP hl
    have sd : SeqAt.shaped (toP d) = true := hc.1
    have se : SeqAt.shaped (.list (toPs l)) = true := hc.2
    have hy : Dp g.K H y (.list (toPs l)) := by
      have := h2.dp (by rw [ht]; exact SeqAt.canLay_of_shaped se)
      rw [ht] at this
      exact this
    have hx := h1.dp (SeqAt.canLay_of_shaped sd)
    cases neg with
    | false =>
      show rInD g.K x y H Q
      exact ⟨_, _, hx, hy, sd, se, by rw [anyD_eq]; exact k _ _ (.bl _)⟩
    | true =>
      show rNotInD g.K x y H Q
      exact ⟨_, _, hx, hy, sd, se, by rw [anyD_eq]; exact k _ _ (.bl _)⟩
  · cases hf
end
end VS

/-! ## S30: an own exception whose __init__ says super().__init__(text) and keeps its argument; a clause that reads it -/
namespace VS
open PySem PySem.Spec PyProof.Rows L2
section
variable {CX : CXT} {P : Program} {w : World} {K : PySem.W.Frag} {mg : Str → Option Value} {base : Heap} {k : Nat} {name qual fl p : Str} {params : Arguments} {body : List Stmt} {scope : Scope} {dV kV doc pm oc ct : Value} {an od : Option Addr} {osl : Array (Option Value)} {f cc cda C : Addr}
def supCx (CX : CXT) (P : Program) (w : World) (K : PySem.W.Frag) (mg : Str → Option Value) (base : Heap) (N : List Str) (qual : Str) (scope : Scope) (f cc : Addr) (cd : Value) (A : Around) (outer : List Env) (s : Shared) (H : Hp) (E : XK) : Cx where
  prog := P
  w := w
  K := K
  mg := mg
  base := base
  N := N
  s_0 := s
  H_0 := H
  outer := outer
  ex := []
  pn := []
  calm := true
  fn := fun _ => false
  A := A.deeper (PySem.W.ksEnv qual scope s.heap.objs.size f cd cc)
  env := PySem.W.ksEnv qual scope s.heap.objs.size f cd cc
  stack := PySem.W.ksEnv qual scope s.heap.objs.size f cd cc :: outer
  xe := fun e s' => wpAny (model P w) (A.deeper (PySem.W.ksEnv qual scope s.heap.objs.size f cd cc)) (leaving (PySem.W.ksEnv qual scope s.heap.objs.size f cd cc) e) (fun _ s2 => CX outer H s E e s2) (fun e2 s2 => CX outer H s E e2 s2) s'
/-- the names of such a def -/
structure SupS (p : Str) (scope : Scope) : Prop where
  kind : scope.kind = .function
  co : scope.isCoroutine = false
  gen : scope.isGenerator = false
  self : scope.names.lookup ("self" : Str) = some .local
  par : scope.names.lookup p = some .local
  cl : scope.names.lookup ("__class__" : Str) = some .free
  sup : scope.names.lookup ("super" : Str) = some .globalImplicit
  fr : ∀ y, scope.names.lookup y = some .cell ∨ scope.names.lookup y = some .free → y = "__class__"
  nc : ∀ y ∈ scope.names, y.2 ≠ .cell
  nd : ([("self" : Str), p] : List Str).Nodup
  db : (p == ("__debug__" : Str)) = false
  cd : (p == ("__classdict__" : Str)) = false
theorem supS_fr {names : List (Str × NameKind)} (h : (names.all fun y => y.2 != .cell && (y.2 != .free || y.1 == "__class__")) = true) : (∀ y, names.lookup y = some .cell ∨ names.lookup y = some .free → y = "__class__") ∧ ∀ y ∈ names, y.2 ≠ .cell := by
  have key : ∀ y ∈ names, y.2 ≠ .cell ∧ (y.2 = .free → y.1 = "__class__") := fun y hy => by
    have q := List.all_eq_true.mp h y hy
    obtain ⟨q1, q2⟩ := Bool.and_eq_true_iff.mp q
    refine ⟨by simpa using q1, fun e => ?_⟩
    rcases Bool.or_eq_true_iff.mp q2 with z | z
    · simp [e] at z
    · simpa using z
  refine ⟨fun y q => ?_, fun y hy => (key y hy).1⟩
  rcases q with q | q
  · exact absurd rfl (key _ (PySem.mem_of_lookup q)).1
  · exact (key _ (PySem.mem_of_lookup q)).2 rfl
theorem inv_sup {A : Around} {outer : List Env} {s : Shared} {H : Hp} {E : XK} {us : List Value} {vs : List V} {h1 : Heap} {tk : Nat} {cdv : Value} {oc : Obj} {vc : Option Value} (S : SupS p scope) (hd : A.handled = none) (e0 : Env0 P w K mg base A outer s H) (hl : vs.length = 2) (r : Vals vs us)
    (hc : K.lookup cc = some oc) (hcv : oc.data = .cell vc) (hns : h1.Ns s.heap.objs.size fun y => ((["self", p] : List Str).zip us).reverse.lookup y) (kp : ∀ b o, s.heap.get? b = some o → h1.get? b = some o) :
    Inv (supCx CX P w K mg base ["self", p] qual scope f cc cdv A outer s H E) [] (vs.map some) H { s with heap := h1, toks := tk } := by
  have noA : ∀ b : Addr, b ∉ (supCx CX P w K mg base ["self", p] qual scope f cc cdv A outer s H E).ex := fun b z => nomatch z
  have hcb := e0.bs _ _ (e0.mod.kin _ _ hc)
  have one : ∀ {y : Str} {c : Addr}, (supCx CX P w K mg base ["self", p] qual scope f cc cdv A outer s H E).env.cells.lookup y = some c → y = "__class__" ∧ c = cc := fun {y c} q => by
    have q : List.lookup y [(("__class__" : Str), cc)] = some c := q
    by_cases e : y = "__class__"
    · subst e
      exact ⟨rfl, (Option.some.inj q).symm⟩
    · have e2 : (y == ("__class__" : Str)) = false := by simpa using e
      simp [List.lookup, e2] at q
  refine ⟨⟨e0.mod, S.kind, rfl, rfl, Nat.le_refl _, fun x y c q1 q2 => (one q1).1.trans (one q2).1.symm, fun y hy => ?_, fun y c z _ => (nomatch (show false = true from z)), fun _ => hd, Around.frames_deeper e0.frames, .inr ⟨rfl, rfl⟩, fun b z => absurd z (noA b), e0.bs, e0.bsz, fun b _ _ => noA b, fun b z => absurd z (noA b), e0.funs, e0.frf⟩,
    rfl, e0.bare, Un.kept kp, ⟨_, hns, fun i y v q1 q2 q3 => ?_⟩, fun y c q => ?_, e0.hok.fresh (Nat.le_refl _), fun y c q => by rw [(one q).2]; exact hcb.2, fun q hq => (nomatch (show q ∈ ([] : List (Addr × Obj)) ++ [] from hq)), e0.hok.kept kp, by rw [List.length_map, hl]; rfl⟩
  · have e := S.fr y hy
    subst e
    exact ⟨cc, rfl⟩
  · have q1 : (["self", p] : List Str)[i]? = some y := q1
    rw [List.getElem?_map] at q2
    have ha : vs[i]? = some v := by
      cases e : vs[i]? with
      | none => rw [e] at q2; cases q2
      | some a => rw [e] at q2; cases q2; rfl
    obtain ⟨u, hu, rv⟩ := r.get ha
    refine ⟨u, rv, .inl ⟨?_, NdefX.zip_look S.nd q1 hu⟩⟩
    match i, q1 with
    | 0, q1 => cases q1; exact S.self
    | 1, q1 => cases q1; exact S.par
  · rw [(one q).2]
    exact ⟨vc, oc, kp _ _ hcb.1, hcv⟩
/-- what is promised: the field is kept -/
def spX (K : PySem.W.Frag) (C : Addr) (fl : Str) : Sp := fun vs H Q _ => ∃ (a : Addr) (y : V), vs = [.ref a, y] ∧ H a = some (exo a C none) ∧ ∀ dx, H dx = none → dx ≠ a → Q .non (upd (upd H dx (exd dx [(fl, y)])) a (exo a C (some dx)))
/-- what of the text is wanted -/
structure SupT (P : Program) (K : PySem.W.Frag) (mg : Str → Option Value) (C cc cda : Addr) (fl : Str) : Prop where
  O : OexC K C
  no : PySem.W.findIn K (.ref C) fl = some none
  cell : ∃ cl cld csl, K.lookup cc = some ⟨cl, cld, .cell (some (.ref C)), csl⟩
  code : ∃ (ccl : Value) (cdd : Option Addr) (vs : Array Value) (ccs : Array (Option Value)) (file : Str) (tf : Tok), K.lookup cda = some ⟨ccl, cdd, .fields vs, ccs⟩ ∧ vs[2]? = some (.str file tf) ∧ ((P.main.file : Str) == file) = true
  up : PySem.W.ks_superIn K C C "__init__" = some (some (.builtin "ValueError.__init__"))
  sub : PySem.W.subIn K (.ref C) (.type "ValueError") = some true
  own : PySem.W.mroIn K C (.ref C) = some true
  stat : PySem.W.nsIn K cStatics "thirdparty.any" = some none
  sup : mg "super" = none
  top : (P.main.scope.names.lookup ("super" : Str)).isSome = false
theorem call_up {A : Around} {E : Value → Shared → Prop} {h : Heap} {g : Array GenState} {d : Drawn} {tk : Nat} {os : OsState} {nm q : Str} {N x u t1 : Addr} {bs bm : List Value} {hdct : Bool} {sn : List Str} {sub : List Value} {ab : Bool} {col : Option Bool} {dd : Option Addr} {k0 k1 k2 k3 k5 : Option Value} {rest : List Value} {Q : Value → Shared → Prop}
    (hC : h.get? C = some (excClassObj nm q C N bs bm hdct sn sub ab col dd k0 k1 k2 k3 k5 "ValueError.__new__")) (hu : h.get? u = some (PySem.W.kxs_mw "ValueError.__init__" x)) (he : h.get? x = some ({ cls := .ref C, dict := none, data := .fields #[.ref t1, .none, .none, .none, .bool false, .none] } : Obj)) (hz : rest.length ≤ sizeLine)
    (hq : ∀ h2 t2, (∀ b o, b ≠ x → h.get? b = some o → h2.get? b = some o) → h2.get? x = some ({ cls := .ref C, dict := none, data := .fields #[.ref t2, .none, .none, .none, .bool false, .none] } : Obj) → Q .none ⟨h2, g, d, tk, os⟩) :
    wpAny (model P w) A (call (.ref u) rest) Q E ⟨h, g, d, tk, os⟩ := by
  refine wpAny_call (codeAny_of_tree ?_); show wpAny (model P w) A.in1 (callAny (.ref u) ⟨rest, []⟩) _ _ _; simp only [callAny]; refine wpAny_bind (wpAny_load hu ?_)
  simp only [PySem.W.kxs_mw, show (Value.type "method-wrapper" == Value.type "method" || Value.type "method-wrapper" == Value.type "builtin_function_or_method" || Value.type "method-wrapper" == Value.type "method-wrapper") = true by decide, if_true]; refine PySem.W.KFB.if_so (by decide) ?_
  refine wpAny_bind (PySem.W.check_bound_init F.excBase_ValueError.toExcCallFacts hC he rfl ?_); refine wpAny_bind (wpAny_pure (wpAny_pure ?_)); refine ⟨plainId_quiet F.excBase_ValueError.init.plain _, codeAny_builtin F.excBase_ValueError.initEntry ?_⟩
  exact PySem.W.exc_init_tree (cls := .ref C) (t0 := t1) (dv := none) (c2 := .none) (c3 := .none) (b4 := .bool false) he hz fun h2 k e _ => hq h2 _ k e
theorem fn_sup {ar : PySem.Arg} {z : Str} {kz : Nat} {p0 p1 p2 p3 p4 p5 p6 p7 p8 p9 : Pos} (lk : K.lookup f = some ⟨oc, od, .func (PySem.W.ksFn name qual params body scope dV kV doc pm an (.ref cda) ct cc), osl⟩) (hcd : PySem.W.codeIn K (.ref cda) qual = true) (S : SupS p scope)
    (hp : (params.posonlyargs ++ params.args).head? = some ar) (har : ar.arg = "self") (hb : body = [.Expr (.Call (.Attribute (.Call (.Name "super" p0) [] [] p1) "__init__" p2) [.Constant (.str z) kz p3] [] p4) p5, .Assign [.Attribute (.Name "self" p6) fl p7] (.Name p p8) p9]) (T : SupT P K mg C cc cda fl)
    (he : ∀ env : Env, ∃ pl : Sem Bool, eval (.Call (.Attribute (.Call (.Name "super" p0) [] [] p1) "__init__" p2) [.Constant (.str z) kz p3] [] p4) env = (do
      let ov ← attributeBase (.Call (.Name "super" p0) [] [] p1) "__init__" env (eval (.Call (.Name "super" p0) [] [] p1) env); standAt p2.atName
      let (f, first) ← holding [ov] (getMethod ov "__init__" pl); callWith p4 f first (backTo p4 (starEach [.Constant (.str z) kz p3] env)) [])) :
    FnOk P w K mg base CX (k + 1) f (PySem.W.ksFn name qual params body scope dV kV doc pm an (.ref cda) ct cc) ["self", p] (spX K C fl) := by
  subst hb
  refine ⟨fun vs H Q E h => by obtain ⟨a, y, rfl, -⟩ := h; rfl, fun A outer s H args us vs Q E hr e0 hbind r hsp => ?_⟩
  obtain ⟨a, y, rfl, ea, q⟩ := hsp
  obtain ⟨cl, cld, csl, hcell⟩ := T.cell
  obtain ⟨ccl, cdd, cvs, ccs, file, tf, hcode, hvs, hfile⟩ := T.code
  obtain ⟨nm, qn, N, bs, bm, sn, sub, ab, col, dd, k0, k1, k2, k3, k5, hC, hbm⟩ := T.O.cls
  have hcl : PySem.W.clsIn K C = some { name := nm, bases := bs, mro := .ref C :: bm, ns := N, qualname := qn, hasDict := true, slotNames := sn, subclasses := sub, abstract := ab, collection := col, hasDel := false } := by unfold PySem.W.clsIn; rw [hC]
  have KX : K.In s.heap := e0.mod.kin.keeps fun b o e => (e0.bs b o e).1
  have lim : s.heap.NoLimit := e0.mod.nolimit.keeps fun b o e => (e0.bs b o e).1
  refine PySem.ks_codeAny_call_defAt (fd := PySem.W.ksFn name qual params _ scope dV kV doc pm an (.ref cda) ct cc) hr.depth (KX _ _ lk) rfl lim (PySem.W.codeRec_of KX hcd) rfl hbind S.nc (fun ⟨n, v⟩ hy => by
    have m := (List.of_mem_zip hy).1
    simp only [List.mem_cons, List.not_mem_nil, or_false] at m
    rcases m with rfl | rfl
    · exact S.self
    · exact S.par) (fun h1 hns kp => ?_) S.co S.gen S.kind
  obtain ⟨u1, ru, rfl⟩ : ∃ u1, RelV y u1 ∧ us = [.ref a, u1] := by
    cases r with
    | cons r0 r1 =>
      cases r1 with
      | cons r2 r3 =>
        cases r3
        exact ⟨_, r2, by rw [show _ = Value.ref a from r0]⟩
  have I : Inv (supCx CX P w K mg base ["self", p] qual scope f cc (.ref cda) A outer s H E) [] ([V.ref a, y].map some) H { s with heap := h1, toks := s.toks + ((["self", p] : List Str).zip [Value.ref a, u1]).length } := inv_sup S hr.hd e0 rfl r hcell rfl hns kp
  refine PySem.ks_wpAt_mono (E := (supCx CX P w K mg base ["self", p] qual scope f cc (.ref cda) A outer s H E).xe) ?_ (fun _ _ h => h) fun e s' hs => hs
  have K1 := I.kIn
  obtain ⟨t1, hx1⟩ := exo_at I.hok ea
  obtain ⟨pl, he⟩ := he (PySem.W.ksEnv qual scope s.heap.objs.size f (.ref cda) cc)
  refine PySem.ks_wpAt_execs_cons (PySem.ks_wpAt_Expr_any (PySem.ks_wpAt_MethodCall ?_ he) I.quiet rfl)
  refine PySem.ks_wpAt_super_base (env := PySem.W.ksEnv qual scope s.heap.objs.size f (.ref cda) cc) S.sup S.cl rfl rfl (K1 _ _ lk) rfl hp rfl (K1 _ _ hcode) rfl hvs hfile T.top ?_
  obtain ⟨mb, b1, b2⟩ := I.mod.blt
  refine PySem.W.ks_loadName_global S.kind S.sup (Calls.loadGlobal_builtin (env := PySem.W.ksEnv qual scope s.heap.objs.size f (.ref cda) cc) (I.mod.glob.keeps I.bk) T.sup (b1.keeps I.bk) ((b2 "super" (by decide)).trans PyProof.Rows.Boot.«super») ⟨rfl, ?_⟩)
  refine wpAny_loadName_free S.kind S.cl rfl ⟨_, K1 _ _ hcell, rfl⟩ ?_
  rw [har]
  refine wpAny_loadName_local S.kind S.self hns (NdefX.zip_look (i := 0) S.nd rfl rfl) ?_
  refine PySem.ks_wpAny_isType_cls (K1 _ _ hC) rfl ⟨rfl, ?_⟩
  refine PySem.ks_wpAny_call_super (K1 _ _ hC) rfl hx1 rfl (fun c e => nomatch e) (PySem.W.looks_mroIn K1 T.own) (fun h2 e2 kk2 => ?_)
  have I2 : Inv (supCx CX P w K mg base ["self", p] qual scope f cc (.ref cda) A outer s H E) [] ([V.ref a, y].map some) H { s with heap := h2, toks := s.toks + ((["self", p] : List Str).zip [Value.ref a, u1]).length } := I.kept (t' := s.toks + ((["self", p] : List Str).zip [Value.ref a, u1]).length) kk2
  have K2 := I2.kIn
  have hx2 := kk2 _ _ hx1
  have J2 : PySem.W.InstAt h2 a _ C none := ⟨hx2, rfl, rfl, trivial⟩
  have hup := T.up
  unfold PySem.W.ks_superIn at hup
  rw [hcl] at hup
  refine PySem.W.kxs_getMethod (K := K) PySem.W.kxs_ValueError e2 (PySem.W.looks_opaque K2 T.stat) (l₀ := .ref C :: bm) (fun A Q E s k q => wpAny_bind ((PySem.W.looks_clsIn K2 hcl) A _ E s k (wpAny_pure q))) rfl K2 hup (J2.type.andThen (PySem.W.looks_subIn K2 T.sub)) (PySem.W.ks_ne K2 J2 hcl) (by decide) ?_
  obtain ⟨m0, F1⟩ := I.fr
  obtain ⟨F2, N2, -⟩ := PySem.W.ks_newsPush (o := PySem.W.ks_superObj C a C) F1 (news := []) (fun q h => nomatch h) rfl e2 kk2
  obtain ⟨F3, N3, -⟩ := PySem.W.ks_newsPush (s := { s with heap := h2 }) (o := PySem.W.kxs_mw "ValueError.__init__" a) F2 N2 rfl (Heap.get?_push_at rfl rfl) (fun b o e => Heap.get?_push_of_some _ e)
  have I3 : Inv (supCx CX P w K mg base ["self", p] qual scope f cc (.ref cda) A outer s H E) [] ([V.ref a, y].map some) H { s with heap := h2.push (PySem.W.kxs_mw "ValueError.__init__" a), toks := s.toks + ((["self", p] : List Str).zip [Value.ref a, u1]).length + 1 } := I2.kept (fun b o e => Heap.get?_push_of_some _ e)
  have hu3 : (h2.push (PySem.W.kxs_mw "ValueError.__init__" a)).get? h2.objs.size = some (PySem.W.kxs_mw "ValueError.__init__" a) := Heap.get?_push_at rfl rfl
  have I4 := I3.pinned (fp := [h2.objs.size]) (fun b hb => by rw [List.mem_singleton] at hb; subst hb; exact I2.fpOk (Nat.le_refl _) (I2.hok.fresh (Nat.le_refl _))) (fun b hb => by rw [List.mem_singleton] at hb; subst hb; exact ⟨_, hu3, fun v e => nomatch e⟩)
  refine PySem.W.kxs_callWith1 N3 List.mem_cons_self (thn ((pa_cons pe_str pa_nil).run p4 _ _ _ H (fun vs H1 => vs.length = 1 ∧ H1 = H) I4 ⟨rfl, rfl⟩) fun us s4 hh => ?_) rfl rfl
  obtain ⟨vs, H4, I5, r4, hvl, rfl⟩ := hh
  have hu5 := (I5.pin (h2.objs.size, PySem.W.kxs_mw "ValueError.__init__" a) (List.mem_append_right _ (mem_pinsAt (List.mem_singleton.mpr rfl) hu3))).1
  have I6 := I5.unpinned
  obtain ⟨t5, hx5⟩ := exo_at I6.hok ea
  obtain ⟨h4, g4, d4, tk4, os4⟩ := s4
  refine ⟨hu5, call_up (I6.kIn _ _ hC) hu5 hx5 (by rw [← Paired.length r4, hvl, sizeLine_eq]; decide) fun h5 t6 k5 e5 => ?_⟩
  have J := I6.write (t' := tk4) (x := a) (e := a) (o := exo a C none) (by rw [ea]; exact True.intro) (.inl rfl) k5 ⟨_, e5⟩ (exo_ok e5)
  have eu : upd H4 a (exo a C none) = H4 := by
    funext b
    by_cases hb : b = a
    · rw [hb, upd_same, ea]
    · rw [upd_ne hb]
  rw [eu] at J
  refine PySem.ks_wpAt_execs_cons (wpAt_of_wpAny (thn ((ps_ost (pe_var (X := supCx CX P w K mg base ["self", p] qual scope f cc (.ref cda) A outer s H4 E) (i := 0) rfl (.inl S.self)) (pe_var (i := 1) rfl (.inl S.par) S.db S.cd)).run [] _ _ H4 { nx := fun _ H' => Q .non H', rt := Q } J ⟨y, rfl, .ref a, rfl, a, C, rfl, T.O, T.no, .inl ⟨ea, q⟩⟩) fun fl s6 hs => ?_))
  cases fl with
  | next =>
    obtain ⟨σ6, H6, J6, q6⟩ := hs
    refine wpAt_of_wpAny ?_
    rw [execs_nil]
    exact wpAny_pure ⟨.non, H6, J6.os, J6.bare, J6.base, J6.hok, rfl, q6⟩
  | ret u =>
    obtain ⟨v, σ6, H6, J6, r6, q6⟩ := hs
    exact ⟨v, H6, J6.os, J6.bare, J6.base, J6.hok, r6, q6⟩
  | brk =>
    obtain ⟨_, _, _, z⟩ := hs
    exact False.elim z
  | cont =>
    obtain ⟨_, _, _, z⟩ := hs
    exact False.elim z
end
abbrev veL : List Value := [.type "ValueError", .type "Exception", .type "BaseException", .type "object"]
theorem refs_tail {l : List Value} (h : PySem.W.excTail veL l = true) : HandSPX.refsVE l = true := by
  induction l with
  | nil => exact h
  | cons v r ih =>
    rcases PySem.W.excTail_cases _ h with ⟨c, r2, e, h2⟩ | e
    · cases e
      exact ih h2
    · rw [e]
      decide
theorem oex_cls {K : PySem.W.Frag} {C : Addr} (q : PySem.W.excInitIn K C veL "ValueError.__new__" = true) (hd : PySem.W.hasDictIn K C = true) : ∃ nm q N bs bm sn sub ab col dd k0 k1 k2 k3 k5, K.lookup C = some (excClassObj nm q C N bs bm true sn sub ab col dd k0 k1 k2 k3 k5 "ValueError.__new__") ∧ HandSPX.refsVE bm = true := by
  unfold PySem.W.hasDictIn PySem.W.clsIn at hd
  unfold PySem.W.excInitIn at q
  split at q
  · rename_i dd cd sl ho
    rw [ho] at hd
    split at q
    · rename_i C' bm k0 k1 k2 k3 n k5 hm hs
      simp only [Bool.and_eq_true, beq_iff_eq, Bool.not_eq_true'] at q
      obtain ⟨⟨⟨rfl, rfl⟩, hdel⟩, ht⟩ := q
      obtain ⟨nm, bs, mro, ns, qn, hdd, sn, sub, ab, col, del⟩ := cd
      have hdd : hdd = true := hd
      dsimp only at hm hdel
      subst hm; subst hdel; subst hdd
      obtain ⟨l⟩ := sl
      have hs : l = [k0, k1, k2, k3, some (.builtin "ValueError.__new__"), k5] := hs
      subst hs
      exact ⟨nm, qn, ns, bs, bm, sn, sub, ab, col, dd, k0, k1, k2, k3, k5, ho, refs_tail ht⟩
    · cases q
  · cases q
/-! ### such a class, as the top has left it; C(e) raised -/
structure XInAt (P : Program) (K : PySem.W.Frag) (mg : Str → Option Value) (x p fl : Str) where
  C : Addr
  f : Addr
  fd : FuncData
  gC : mg x = some (.ref C)
  O : OexC K C
  no : PySem.W.findIn K (.ref C) fl = some none
  iC : PySem.W.findIn K (.ref C) "__init__" = some (some (.ref f))
  tI : PySem.W.typeIn K (.ref f) = some (.type "function")
  F : ∀ (w : World) (base : Heap) (CX : CXT), FnOk P w K mg base CX 1 f fd ["self", p] (spX K C fl)
  bd : Binds K fd ["self", p] []
  xf : XfC K C
theorem passes_never {X : Cx} : Passes (L2.CX X.prog X.w) X (fun _ _ _ => False) := fun pins σ H s e s' I h => by
  obtain ⟨_, _, _, _, _, _, _, _, _, _, _, _, z⟩ := h
  exact z.elim
section
variable {X : Cx} {g : Gx} {st : Stmt} {e : Expr} {es : List Expr} {M M0 M1 : Ad} {φ φ1 φ2 φ' : Nat → List Addr} {τ τ' : Tau} {σ σ1 σ2 : L2.St} {H H' H1 : Hp} {v x y : V} {vs : List V} {d : D} {ds : List D} {s : SV} {l : List SV} {F : List Addr} {c : Nat} {W : WX} {fl nm p : Str} {ta : TA} {q0 pos : Pos}
theorem pmk_sup (T : XInAt X.prog X.K X.mg nm p fl) (hr : Room 2 X.A) (hg : Gl X nm) (ha : PA X (e :: es) ta) (hdb : (nm == ("__debug__" : Str)) = false := by decide) (he : starEach (e :: es) X.env = (false, eval e X.env) :: starEach es X.env := by rfl) (hpl : (backTo pos (starEach es X.env)).any (·.1) = false := by rfl) :
    PMk X (.Call (.Name nm q0) (e :: es) [] pos) (tMkO T.C (spX X.K T.C fl) [] ta) := pmk_oex T.O T.iC T.tI (T.F X.w X.base (L2.CX X.prog X.w)) hr T.bd .nil passes_never hg T.gC ha hdb he hpl
def sRaiseF (c : Nat) (fl : Str) (as : CM (List D)) : SC := sE as fun ds τ => match ds with
  | [d] => some (.ex c [fl] [d], τ)
  | _ => none
theorem s_raiseF {as : CM (List D)} {t : L2.St → Hp → XK → Prop} (h : PS X st (fun W' σ H => t σ H fun cls d H' => W cls d σ H')) (hW : ∀ σ cls d H, g.ex σ cls d H → W cls d σ H) (ht : t = tMkO (g.cl c) (spX g.K (g.cl c) fl) [] (rdA g as)) : PS X st (rdS g (sRaiseF c fl as)) := ps_le h fun E σ H q => by
  subst ht
  obtain ⟨M0, φ, τ, fw, τ', hs, hm, k⟩ := rdS_iff.mp q
  rcases sE_some hm with ⟨ds, τ1, e1, e2⟩ | ⟨c', fs, l, e1, rfl⟩
  · refine ⟨M0, φ, τ, _, _, hs, e1, fun vs H1 ⟨φ1, s1, r1, l1⟩ => ?_⟩
    split at e2
    · rename_i d
      cases e2
      cases r1 with
      | @cons v vs _ _ rv r2 =>
        cases r2
        refine ⟨by show 1 ≤ 1000; decide, fun a na => ⟨a, v, rfl, upd_same, fun dx nx ne => ⟨rfl, dx, [(fl, v)], upd_same, by rw [upd_ne ne, upd_same], by rw [upd_ne ne] at nx; exact nx, hW _ _ _ _ ?_⟩⟩⟩
        have nx : H1 dx = none := by rw [upd_ne ne] at nx; exact nx
        have eH : upd (del (upd (upd (upd H1 a (exo a (g.cl c) none)) dx (exd dx [(fl, v)])) a (exo a (g.cl c) (some dx))) a) dx (.xd [(fl, v)]) = upd H1 dx (.xd [(fl, v)]) := by
          funext b
          by_cases hb : b = dx
          · rw [hb, upd_same, upd_same]
          · rw [upd_ne hb, upd_ne hb]
            by_cases ha : b = a
            · rw [ha, del_same, na]
            · rw [del_ne ha, upd_ne ha, upd_ne hb, upd_ne ha]
        rw [eH]
        have nM : ¬ Mof M0 φ1 dx := fun m => s1.al dx m nx
        refine k.xk (some dx) _ ⟨φ1, s1.ev0 (new0 nx), .inr ⟨dx, [(fl, v)], [v], rfl, ⟨upd_same, by simp⟩, nM, rfl, fun i f x h1 h2 => ?_, .cons (rv.ev0 (new0 nx)) .nil⟩, l1.trans (.of0 (new0 nx) fun _ q => .inl q)⟩
        match i, h1, h2 with
        | 0, h1, h2 => cases h1; cases h2; simp [List.lookup]
    · cases e2
  · exact ⟨M0, φ, τ, _, _, hs, e1, fun d H' q => k.xk d H' q⟩
/-! ### a clause's x = something of the error -/
def XsB (g : Gx) (te : TE) (a : Addr) (i : Nat) (dd : Option Addr) (f : List Str → List D → Option D) : Prop := ∀ (M : Ad) (H : Hp) (σ : L2.St) (fs : List Str) (l : List D) (d : D) (Q : VK), σ[i]? = some (some (.ref a)) → XRel g M H dd fs l → f fs l = some d → (∀ v H', Ev0 H H' → R g M H' v d → Q v H') → te σ H Q
def fldX (n : Str) (fs : List Str) (l : List D) : Option D := (fIdx fs n).bind fun i => l[i]?
theorem xs_fld {a C : Addr} {dd : Option Addr} {i : Nat} {n : Str} : XsB g (tXf a (.ref C) dd C n (tVar i)) a i dd (fldX n) := fun M H σ fs l d Q hσ x hf k => by
  unfold fldX at hf
  rw [Option.bind_eq_some_iff] at hf
  obtain ⟨j, h1, h2⟩ := hf
  have h3 := fIdx_at fs h1
  rcases x with ⟨rfl, _, _⟩ | ⟨p, fsr, xs, rfl, ⟨hp, ne⟩, nM, hl, q, r⟩
  · cases h3
  · obtain ⟨v, hv, rv⟩ := r.get h2
    exact ⟨.ref a, hσ, rfl, rfl, p, fsr, v, rfl, hp, q j n v h3 hv, k v H .refl rv⟩
/-- (a text, e.f) -/
theorem xs_pair {te : TE} {a : Addr} {dd : Option Addr} {i : Nat} {z : Str} {f : List Str → List D → Option D} (h : XsB g te a i dd f) : XsB g (tTup (tCons (tC (.str z)) (tCons te tNil))) a i dd (fun fs l => (f fs l).map fun d => .tup [.str z, d]) := fun M H σ fs l d Q hσ x hf k => by
  rw [Option.map_eq_some_iff] at hf
  obtain ⟨d0, h1, rfl⟩ := hf
  refine h M H σ fs l d0 _ hσ x h1 fun v H1 e rv => ⟨by show 2 ≤ sizeLine; rw [sizeLine_eq]; decide, fun p np => k _ _ (Ev0.trans e (new0 np)) ?_⟩
  exact .tup (SqT.of upd_same) (.cons (.str z) (.cons (rv.ev0 (new0 np)) .nil))
theorem hn_setX {i j : Nat} {mt : Nat → Option Bool} {f : Nat → List Str → List D → Option D} {te : Addr → Value → Option Addr → TE} {cv : Value} (hmt : ∀ c b, mt c = some b → PySem.W.exmOne g.K (.ref (g.cl c)) cv = some b) (hij : i ≠ j) (hp : g.pin.contains i = false) (hpj : g.pin.contains j = false)
    (hte : ∀ c fs l d, f c fs l = some d → ∀ a dd, XsB g (te a (.ref (g.cl c)) dd) a i dd (f c)) : HnOk g (mt, fun c fs l τ => if i < τ.length then (f c fs l).map fun d => (.nx, (τ.set i none).set j (some (.fz d))) else none) (cv, some i, fun a cls d => tAsg (te a cls d) (gName j)) := fun c b hb => ⟨hmt c b hb, fun _ fs l d M0 φ τ τ' σ H E fl a s x ha hm k => by
  dsimp only at hm
  split at hm
  · rename_i hlt
    simp only [Option.map_eq_some_iff] at hm
    obtain ⟨d', hd', hm⟩ := hm
    cases hm
    refine hte c fs l d' hd' a d (Mof M0 φ) H _ fs l d' _ (by
      show (σ.set i (some (V.ref a)))[i]? = _
      rw [List.getElem?_set, if_pos rfl, if_pos (by rw [s.len]; exact hlt)]) x hd' fun v H' e rv => ?_
    show E.nx (((σ.set i (some (.ref a))).set j (some v)).set i none) H'
    refine k _ H' ⟨⟨upF φ j [], ?_, (Le.of0 e fun _ q => .inl q).trans .up⟩, fun m hm => ?_⟩
    · have e1 : (((σ.set i (some (V.ref a))).set j (some v)).set i none) = (σ.set i none).set j (some v) := by
        apply List.ext_getElem?
        intro q
        by_cases qi : q = i
        · subst qi
          rw [List.getElem?_set, if_pos rfl, List.length_set, List.length_set, List.getElem?_set_ne (Ne.symm hij), List.getElem?_set, if_pos rfl]
        · rw [List.getElem?_set_ne (Ne.symm qi)]
          by_cases qj : q = j
          · subst qj
            rw [List.getElem?_set, if_pos rfl, List.getElem?_set, if_pos rfl, List.length_set, List.length_set]
          · rw [List.getElem?_set_ne (Ne.symm qj), List.getElem?_set_ne (Ne.symm qj), List.getElem?_set_ne (Ne.symm qi), List.getElem?_set_ne (Ne.symm qi)]
      rw [e1]
      exact ((s.drop (i := i) (o := none)).ev0 e).setD rv
    · have mi : m ≠ i := by rintro rfl; rw [List.contains_iff_mem.mpr hm] at hp; cases hp
      have mj : m ≠ j := by rintro rfl; rw [List.contains_iff_mem.mpr hm] at hpj; cases hpj
      rw [List.getElem?_set_ne (Ne.symm mi), List.getElem?_set_ne (Ne.symm mj), List.getElem?_set_ne (Ne.symm mi)]
  · cases hm⟩
end
end VS

/-! ## V1: computations run, step by step (no heap, no program) -/
namespace VS
open PySem PySem.Spec PyProof.Rows L2
def RunM {α : Type} (m : CM α) (τ : Tau) (Q : Res α → Tau → Prop) : Prop := ∃ r τ', m τ = some (r, τ') ∧ Q r τ'
def RunS (m : SC) (τ : Tau) (Q : Fl → Tau → Prop) : Prop := ∃ r τ', m τ = some (r, τ') ∧ Q r τ'
def RunF (F : Fn) (args : List SV) (Q : Res SV → List SV → Prop) : Prop := ∃ r os, F args = some (r, os) ∧ Q r os
/-- behind a value; behind an error -/
def onOk {α : Type} (A : α → Tau → Prop) (B : Nat → List Str → List D → Tau → Prop) : Res α → Tau → Prop
  | .ok x, τ => A x τ
  | .ex c fs l, τ => B c fs l τ
def onNx (A : Tau → Prop) (Q : Fl → Tau → Prop) : Fl → Tau → Prop
  | .nx, τ => A τ
  | fl, τ => Q fl τ
section
variable {α β : Type} {m : CM α} {k : α → CM β} {τ τ' τ1 : Tau} {Q : Res α → Tau → Prop} {QB : Res β → Tau → Prop} {QS : Fl → Tau → Prop} {A : α → Tau → Prop} {B : Nat → List Str → List D → Tau → Prop} {AN : Tau → Prop} {x : α} {i j n : Nat} {d : D} {s : SV} {h : Hd} {l : List SV} {c : Nat} {fs : List Str} {ls ds : List D}
theorem v_ok (q : A x τ) : onOk A B (.ok x) τ := q
theorem v_ex (q : B c fs ls τ) : onOk A B (.ex c fs ls) τ := q
theorem v_nx (q : AN τ) : onNx AN QS .nx τ := q
theorem v_rt (q : QS (.rt s) τ) : onNx AN QS (.rt s) τ := q
theorem v_bk (q : QS .bk τ) : onNx AN QS .bk τ := q
theorem v_ct (q : QS .ct τ) : onNx AN QS .ct τ := q
theorem v_xx (q : QS (.ex c fs ls) τ) : onNx AN QS (.ex c fs ls) τ := q
theorem v_bnd (q : RunM m τ (onOk (fun x τ1 => RunM (k x) τ1 QB) fun c fs l τ1 => QB (.ex c fs l) τ1)) : RunM (bnd m k) τ QB := by
  obtain ⟨r, τ', e, q⟩ := q
  cases r with
  | ok x =>
    obtain ⟨r2, τ2, e2, q2⟩ := q
    exact ⟨r2, τ2, by unfold bnd; rw [e]; exact e2, q2⟩
  | ex c fs l => exact ⟨_, _, by unfold bnd; rw [e], q⟩
theorem v_ret (q : Q (.ok x) τ) : RunM (ret (some x)) τ Q := ⟨_, _, rfl, q⟩
theorem v_retE {o : Option α} (e : o = some x) (q : Q (.ok x) τ) : RunM (ret o) τ Q := ⟨_, _, by rw [e]; rfl, q⟩
theorem v_sE {k : α → SC} (q : RunM m τ (onOk (fun x τ1 => RunS (k x) τ1 QS) fun c fs l τ1 => QS (.ex c fs l) τ1)) : RunS (sE m k) τ QS := by
  obtain ⟨r, τ', e, q⟩ := q
  cases r with
  | ok x =>
    obtain ⟨r2, τ2, e2, q2⟩ := q
    exact ⟨r2, τ2, by unfold sE; rw [e]; exact e2, q2⟩
  | ex c fs l => exact ⟨_, _, by unfold sE; rw [e], q⟩
end
section
variable {τ τ' τ1 : Tau} {Q : Res D → Tau → Prop} {QE : Res SV → Tau → Prop} {QL : Res (List D) → Tau → Prop} {QA : Res (List Arg) → Tau → Prop} {QB : Res Bool → Tau → Prop} {QO : Res (Option Int) → Tau → Prop} {QS : Fl → Tau → Prop} {a b cc : CM D} {e1 e2 : CM SV} {la : CM (List D)} {ra : CM (List Arg)} {p p2 : PB} {i j n : Nat} {d : D} {s : SV} {h : Hd} {l : List SV} {c : Nat} {fs : List Str} {ls ds : List D} {f g : D → D → Option SV} {f1 : D → Option SV} {ta tb : CM Bool} {sa sb : SC}
/-! expressions -/
theorem v_C (q : Q (.ok d) τ) : RunM (mC d) τ Q := ⟨_, _, rfl, q⟩
theorem v_var (e : τ[i]? = some (some (.fz d))) (q : Q (.ok d) τ) : RunM (mVar i) τ Q := ⟨_, _, by unfold mVar; rw [e], q⟩
theorem v_varO (e : τ[i]? = some (some (.mu h l))) (q : Q (.ok (SV.toD (.mu h l))) (τ.set i (some (.fz (SV.toD (.mu h l)))))) : RunM (mVar i) τ Q := ⟨_, _, by unfold mVar; rw [e], q⟩
theorem v_move (e : τ[i]? = some (some (.fz d))) (q : QE (.ok (.fz d)) τ) : RunM (mMove i) τ QE := ⟨_, _, by unfold mMove; rw [e], q⟩
theorem v_moveO (e : τ[i]? = some (some (.mu h l))) (q : QE (.ok (.mu h l)) (τ.set i none)) : RunM (mMove i) τ QE := ⟨_, _, by unfold mMove; rw [e], q⟩
theorem v_frz (q : RunM e1 τ (onOk (fun s τ1 => Q (.ok s.toD) τ1) fun c fs l τ1 => Q (.ex c fs l) τ1)) : RunM (frz e1) τ Q := v_bnd (by
  obtain ⟨r, τ', e, q⟩ := q
  refine ⟨r, τ', e, ?_⟩
  cases r with
  | ok x => exact v_ret q
  | ex c fs l => exact q)
theorem v_up (q : RunM a τ (onOk (fun d τ1 => QE (.ok (.fz d)) τ1) fun c fs l τ1 => QE (.ex c fs l) τ1)) : RunM (up a) τ QE := v_bnd (by
  obtain ⟨r, τ', e, q⟩ := q
  refine ⟨r, τ', e, ?_⟩
  cases r with
  | ok x => exact v_ret q
  | ex c fs l => exact q)
theorem v_B (e : p τ = some (.fz d)) (q : Q (.ok d) τ) : RunM (mB p) τ Q := ⟨_, _, by unfold mB; rw [e], q⟩
theorem v_op2 (q : RunM a τ (onOk (fun x τ1 => RunM b τ1 (onOk (fun y τ2 => ∃ s, f x y = some s ∧ QE (.ok s) τ2) fun c fs l τ2 => QE (.ex c fs l) τ2)) fun c fs l τ1 => QE (.ex c fs l) τ1)) : RunM (mOp2 f a b) τ QE := v_bnd (by
  obtain ⟨r, τ', e, q⟩ := q
  refine ⟨r, τ', e, ?_⟩
  cases r with
  | ok x =>
    obtain ⟨r2, τ2, e2, q2⟩ := q
    refine v_bnd ⟨r2, τ2, e2, ?_⟩
    cases r2 with
    | ok y =>
      obtain ⟨s, e3, q3⟩ := q2
      exact v_retE e3 q3
    | ex c fs l => exact q2
  | ex c fs l => exact q)
theorem v_op1 (q : RunM a τ (onOk (fun x τ1 => ∃ s, f1 x = some s ∧ QE (.ok s) τ1) fun c fs l τ1 => QE (.ex c fs l) τ1)) : RunM (mOp1 f1 a) τ QE := v_bnd (by
  obtain ⟨r, τ', e, q⟩ := q
  refine ⟨r, τ', e, ?_⟩
  cases r with
  | ok x =>
    obtain ⟨s, e3, q3⟩ := q
    exact v_retE e3 q3
  | ex c fs l => exact q)
theorem v_op2B {x y : D} (ea : bView p τ = some x) (eb : bView p2 τ = some y) (q : ∃ s, f x y = some s ∧ QE (.ok s) τ) : RunM (mOp2B f p p2) τ QE := by
  obtain ⟨s, e, q⟩ := q
  exact ⟨_, _, by unfold mOp2B; rw [ea, Option.bind_some, eb, Option.bind_some, e, Option.map_some], q⟩
theorem v_op2R (q : RunM a τ (onOk (fun x τ1 => ∃ y s, bView p τ1 = some y ∧ f x y = some s ∧ QE (.ok s) τ1) fun c fs l τ1 => QE (.ex c fs l) τ1)) : RunM (mOp2R f a p) τ QE := v_bnd (by
  obtain ⟨r, τ', e, q⟩ := q
  refine ⟨r, τ', e, ?_⟩
  cases r with
  | ok x =>
    obtain ⟨y, s, e3, e4, q3⟩ := q
    exact ⟨_, _, by dsimp only; rw [e3, Option.bind_some, e4, Option.map_some], q3⟩
  | ex c fs l => exact q)
theorem v_op1B {x : D} (ea : bView p τ = some x) (q : ∃ s, f1 x = some s ∧ QE (.ok s) τ) : RunM (mOp1B f1 p) τ QE := by
  obtain ⟨s, e, q⟩ := q
  exact ⟨_, _, by unfold mOp1B; rw [ea, Option.bind_some, e, Option.map_some], q⟩
theorem v_anil (q : QL (.ok []) τ) : RunM aNil τ QL := v_ret q
theorem v_acons (q : RunM a τ (onOk (fun x τ1 => RunM la τ1 (onOk (fun xs τ2 => QL (.ok (x :: xs)) τ2) fun c fs l τ2 => QL (.ex c fs l) τ2)) fun c fs l τ1 => QL (.ex c fs l) τ1)) : RunM (aCons a la) τ QL := v_bnd (by
  obtain ⟨r, τ', e, q⟩ := q
  refine ⟨r, τ', e, ?_⟩
  cases r with
  | ok x =>
    obtain ⟨r2, τ2, e2, q2⟩ := q
    refine v_bnd ⟨r2, τ2, e2, ?_⟩
    cases r2 with
    | ok y => exact v_ret q2
    | ex c fs l => exact q2
  | ex c fs l => exact q)
theorem v_tup (q : RunM la τ (onOk (fun l τ1 => l.length ≤ sizeLine ∧ Q (.ok (.tup l)) τ1) fun c fs l τ1 => Q (.ex c fs l) τ1)) : RunM (mTup la) τ Q := v_bnd (by
  obtain ⟨r, τ', e, q⟩ := q
  refine ⟨r, τ', e, ?_⟩
  cases r with
  | ok x => exact v_retE (if_pos q.1) q.2
  | ex c fs l => exact q)
theorem v_lst (q : RunM la τ (onOk (fun l τ1 => l.length ≤ sizeLine ∧ QE (.ok (.mu .lst (l.map .fz))) τ1) fun c fs l τ1 => QE (.ex c fs l) τ1)) : RunM (mLst la) τ QE := v_bnd (by
  obtain ⟨r, τ', e, q⟩ := q
  refine ⟨r, τ', e, ?_⟩
  cases r with
  | ok x => exact v_retE (if_pos q.1) q.2
  | ex c fs l => exact q)
theorem v_newK (q : QE (.ok (.mu (.dct false []) [])) τ) : RunM mNewK τ QE := v_ret q
theorem v_newT (q : QE (.ok (.mu (.dct true []) [])) τ) : RunM mNewT τ QE := v_ret q
theorem v_disp1 {z : Str} (q : RunM a τ (onOk (fun d τ1 => QE (.ok (.mu (.dct false [.k (.inr z)]) [.fz d])) τ1) fun c fs l τ1 => QE (.ex c fs l) τ1)) : RunM (mDisp1 z a) τ QE := v_bnd (by
  obtain ⟨r, τ', e, q⟩ := q
  refine ⟨r, τ', e, ?_⟩
  cases r with
  | ok x => exact v_ret q
  | ex c fs l => exact q)
theorem v_oNone (q : QO (.ok none) τ) : RunM oNone τ QO := v_ret q
theorem v_oSome (q : RunM a τ (onOk (fun d τ1 => ∃ k, d = .int k ∧ QO (.ok (some k)) τ1) fun c fs l τ1 => QO (.ex c fs l) τ1)) : RunM (oSome a) τ QO := v_bnd (by
  obtain ⟨r, τ', e, q⟩ := q
  refine ⟨r, τ', e, ?_⟩
  cases r with
  | ok x => obtain ⟨k, rfl, q⟩ := q; exact v_ret q
  | ex c fs l => exact q)
theorem v_slice {lo hi : CM (Option Int)} (q : RunM a τ (onOk (fun x τ1 => RunM lo τ1 (onOk (fun l τ2 => RunM hi τ2 (onOk (fun u τ3 => ∃ s, sliceF l u x = some s ∧ QE (.ok s) τ3) fun c fs l τ3 => QE (.ex c fs l) τ3)) fun c fs l τ2 => QE (.ex c fs l) τ2)) fun c fs l τ1 => QE (.ex c fs l) τ1)) : RunM (mSlice a lo hi) τ QE := v_bnd (by
  obtain ⟨r, τ', e, q⟩ := q
  refine ⟨r, τ', e, ?_⟩
  cases r with
  | ok x =>
    obtain ⟨r2, τ2, e2, q2⟩ := q
    refine v_bnd ⟨r2, τ2, e2, ?_⟩
    cases r2 with
    | ok y =>
      obtain ⟨r3, τ3, e3, q3⟩ := q2
      refine v_bnd ⟨r3, τ3, e3, ?_⟩
      cases r3 with
      | ok z => obtain ⟨s, e4, q4⟩ := q3; exact v_retE e4 q4
      | ex c fs l => exact q3
    | ex c fs l => exact q2
  | ex c fs l => exact q)
theorem v_fld {cs : List Nat} {fl : Str} (q : RunM a τ (onOk (fun x τ1 => ∃ c fs l d, x = .ob (.ins c fs) l ∧ c ∈ cs ∧ fLook fs l fl = some d ∧ Q (.ok d) τ1) fun c fs l τ1 => Q (.ex c fs l) τ1)) : RunM (mFld cs fl a) τ Q := v_bnd (by
  obtain ⟨r, τ', e, q⟩ := q
  refine ⟨r, τ', e, ?_⟩
  cases r with
  | ok x => obtain ⟨c, fs, l, d, rfl, hc, e2, q⟩ := q; exact v_retE (by rw [if_pos hc]; exact e2) q
  | ex c fs l => exact q)
theorem v_bm (q : RunM a τ (onOk (fun x τ1 => ∃ z, x = .str z ∧ RunM b τ1 (onOk (fun y τ2 => ∃ s, f x y = some s ∧ QE (.ok s) τ2) fun c fs l τ2 => QE (.ex c fs l) τ2)) fun c fs l τ1 => QE (.ex c fs l) τ1)) : RunM (mBm f a b) τ QE := v_bnd (by
  obtain ⟨r, τ', e, q⟩ := q
  refine ⟨r, τ', e, ?_⟩
  cases r with
  | ok x =>
    obtain ⟨z, rfl, r2, τ2, e2, q2⟩ := q
    refine v_bnd ⟨r2, τ2, e2, ?_⟩
    cases r2 with
    | ok y => obtain ⟨s, e3, q3⟩ := q2; exact v_retE e3 q3
    | ex c fs l => exact q2
  | ex c fs l => exact q)
theorem v_join (q : RunM a τ (onOk (fun x τ1 => ∃ z, x = .str z ∧ RunM b τ1 (onOk (fun y τ2 => ∃ s, joinF x y = some s ∧ QE (.ok s) τ2) fun c fs l τ2 => QE (.ex c fs l) τ2)) fun c fs l τ1 => QE (.ex c fs l) τ1)) : RunM (mJoin a b) τ QE := v_bnd (by
  obtain ⟨r, τ', e, q⟩ := q
  refine ⟨r, τ', e, ?_⟩
  cases r with
  | ok x =>
    obtain ⟨z, rfl, r2, τ2, e2, q2⟩ := q
    refine v_bnd ⟨r2, τ2, e2, ?_⟩
    cases r2 with
    | ok y => obtain ⟨s, e3, q3⟩ := q2; exact v_retE e3 q3
    | ex c fs l => exact q2
  | ex c fs l => exact q)
/-! tests -/
theorem v_cB (q : RunM a τ (onOk (fun d τ1 => ∃ t, d = .bl t ∧ QB (.ok t) τ1) fun c fs l τ1 => QB (.ex c fs l) τ1)) : RunM (cB a) τ QB := v_bnd (by
  obtain ⟨r, τ', e, q⟩ := q
  refine ⟨r, τ', e, ?_⟩
  cases r with
  | ok x => obtain ⟨t, rfl, q⟩ := q; exact v_ret q
  | ex c fs l => exact q)
theorem v_isbl {t : Bool} {A : Bool → Prop} (q : A t) : ∃ u, D.bl t = .bl u ∧ A u := ⟨t, rfl, q⟩
theorem v_isint {t : Int} {A : Int → Prop} (q : A t) : ∃ u, D.int t = .int u ∧ A u := ⟨t, rfl, q⟩
theorem v_isstr {t : Str} {A : Prop} (q : A) : ∃ u, D.str t = .str u ∧ A := ⟨t, rfl, q⟩
theorem v_cNot (q : RunM ta τ (onOk (fun t τ1 => QB (.ok (!t)) τ1) fun c fs l τ1 => QB (.ex c fs l) τ1)) : RunM (cNot ta) τ QB := v_bnd (by
  obtain ⟨r, τ', e, q⟩ := q
  refine ⟨r, τ', e, ?_⟩
  cases r with
  | ok x => exact v_ret q
  | ex c fs l => exact q)
theorem v_cAnd (q : RunM ta τ (onOk (fun t τ1 => if t = true then RunM tb τ1 QB else QB (.ok false) τ1) fun c fs l τ1 => QB (.ex c fs l) τ1)) : RunM (cAnd ta tb) τ QB := v_bnd (by
  obtain ⟨r, τ', e, q⟩ := q
  refine ⟨r, τ', e, ?_⟩
  cases r with
  | ok x =>
    show RunM (if x = true then tb else ret (some false)) τ' QB
    cases x with
    | true => exact (q : RunM tb τ' QB)
    | false => exact v_ret (q : QB (.ok false) τ')
  | ex c fs l => exact q)
theorem v_cOr (q : RunM ta τ (onOk (fun t τ1 => if t = true then QB (.ok true) τ1 else RunM tb τ1 QB) fun c fs l τ1 => QB (.ex c fs l) τ1)) : RunM (cOr ta tb) τ QB := v_bnd (by
  obtain ⟨r, τ', e, q⟩ := q
  refine ⟨r, τ', e, ?_⟩
  cases r with
  | ok x =>
    show RunM (if x = true then ret (some true) else tb) τ' QB
    cases x with
    | true => exact v_ret (q : QB (.ok true) τ')
    | false => exact (q : RunM tb τ' QB)
  | ex c fs l => exact q)
theorem v_mNot (q : RunM a τ (onOk (fun d τ1 => ∃ t, d = .bl t ∧ Q (.ok (.bl (!t))) τ1) fun c fs l τ1 => Q (.ex c fs l) τ1)) : RunM (mNot a) τ Q := v_bnd (by
  obtain ⟨r, τ', e, q⟩ := q
  refine ⟨r, τ', e, ?_⟩
  cases r with
  | ok x => obtain ⟨t, rfl, q⟩ := q; exact v_ret q
  | ex c fs l => exact q)
theorem v_mAnd (q : RunM a τ (onOk (fun d τ1 => ∃ t, d = .bl t ∧ if t = true then RunM b τ1 Q else Q (.ok (.bl false)) τ1) fun c fs l τ1 => Q (.ex c fs l) τ1)) : RunM (mAnd a b) τ Q := v_bnd (by
  obtain ⟨r, τ', e, q⟩ := q
  refine ⟨r, τ', e, ?_⟩
  cases r with
  | ok x =>
    obtain ⟨t, rfl, q⟩ := q
    cases t with
    | true => exact (q : RunM b τ' Q)
    | false => exact v_ret (q : Q (.ok (.bl false)) τ')
  | ex c fs l => exact q)
theorem v_mOr (q : RunM a τ (onOk (fun d τ1 => ∃ t, d = .bl t ∧ if t = true then Q (.ok (.bl true)) τ1 else RunM b τ1 Q) fun c fs l τ1 => Q (.ex c fs l) τ1)) : RunM (mOr a b) τ Q := v_bnd (by
  obtain ⟨r, τ', e, q⟩ := q
  refine ⟨r, τ', e, ?_⟩
  cases r with
  | ok x =>
    obtain ⟨t, rfl, q⟩ := q
    cases t with
    | true => exact v_ret (q : Q (.ok (.bl true)) τ')
    | false => exact (q : RunM b τ' Q)
  | ex c fs l => exact q)
theorem v_mIf (q : RunM ta τ (onOk (fun t τ1 => if t = true then RunM e1 τ1 QE else RunM e2 τ1 QE) fun c fs l τ1 => QE (.ex c fs l) τ1)) : RunM (mIf ta e1 e2) τ QE := v_bnd (by
  obtain ⟨r, τ', e, q⟩ := q
  refine ⟨r, τ', e, ?_⟩
  cases r with
  | ok x =>
    show RunM (if x = true then e1 else e2) τ' QE
    cases x with
    | true => exact (q : RunM e1 τ' QE)
    | false => exact (q : RunM e2 τ' QE)
  | ex c fs l => exact q)
theorem v_chain (q : RunM a τ (onOk (fun x τ1 => RunM b τ1 (onOk (fun y τ2 => ∃ t, f x y = some (.fz (.bl t)) ∧ if t = true then RunM cc τ2 (onOk (fun z τ3 => ∃ d, g y z = some (.fz d) ∧ Q (.ok d) τ3) fun c fs l τ3 => Q (.ex c fs l) τ3) else Q (.ok (.bl false)) τ2) fun c fs l τ2 => Q (.ex c fs l) τ2)) fun c fs l τ1 => Q (.ex c fs l) τ1)) : RunM (mChain f g a b cc) τ Q := v_bnd (by
  obtain ⟨r, τ', e, q⟩ := q
  refine ⟨r, τ', e, ?_⟩
  cases r with
  | ok x =>
    obtain ⟨r2, τ2, e2, q2⟩ := q
    refine v_bnd ⟨r2, τ2, e2, ?_⟩
    cases r2 with
    | ok y =>
      obtain ⟨t, e3, q3⟩ := q2
      show RunM (match f x y with | some (.fz (.bl true)) => _ | some (.fz (.bl false)) => _ | _ => _) τ2 Q
      rw [e3]
      cases t with
      | true =>
        obtain ⟨r4, τ4, e4, q4⟩ := (q3 : RunM cc τ2 _)
        refine v_bnd ⟨r4, τ4, e4, ?_⟩
        cases r4 with
        | ok z =>
          obtain ⟨d, e5, q5⟩ := q4
          exact v_retE (by rw [e5]) q5
        | ex c fs l => exact q4
      | false => exact v_ret (q3 : Q (.ok (.bl false)) τ2)
    | ex c fs l => exact q2
  | ex c fs l => exact q)
/-! what is walked -/
theorem v_itD (q : RunM a τ (onOk (fun x τ1 => ∃ l, itemsD x = some l ∧ QL (.ok l) τ1) fun c fs l τ1 => QL (.ex c fs l) τ1)) : RunM (itD a) τ QL := v_bnd (by
  obtain ⟨r, τ', e, q⟩ := q
  refine ⟨r, τ', e, ?_⟩
  cases r with
  | ok x => obtain ⟨l, e2, q⟩ := q; exact v_retE e2 q
  | ex c fs l => exact q)
theorem v_itEn (q : RunM a τ (onOk (fun x τ1 => ∃ l, itemsD x = some l ∧ QL (.ok (enumL l)) τ1) fun c fs l τ1 => QL (.ex c fs l) τ1)) : RunM (itEn a) τ QL := v_bnd (by
  obtain ⟨r, τ', e, q⟩ := q
  refine ⟨r, τ', e, ?_⟩
  cases r with
  | ok x => obtain ⟨l, e2, q⟩ := q; exact v_retE (by rw [e2]; rfl) q
  | ex c fs l => exact q)
theorem v_itR1 (q : RunM a τ (onOk (fun x τ1 => ∃ m, x = .int m ∧ (-(2 ^ 62) ≤ m ∧ m < 2 ^ 62) ∧ QL (.ok (rangeL 0 m.toNat)) τ1) fun c fs l τ1 => QL (.ex c fs l) τ1)) : RunM (itR1 a) τ QL := v_bnd (by
  obtain ⟨r, τ', e, q⟩ := q
  refine ⟨r, τ', e, ?_⟩
  cases r with
  | ok x => obtain ⟨m, rfl, hb, q⟩ := q; exact v_retE (if_pos hb) q
  | ex c fs l => exact q)
theorem v_itR2 (q : RunM a τ (onOk (fun x τ1 => RunM b τ1 (onOk (fun y τ2 => ∃ m k, x = .int m ∧ y = .int k ∧ (-(2 ^ 62) ≤ m ∧ m < 2 ^ 62 ∧ -(2 ^ 62) ≤ k ∧ k < 2 ^ 62) ∧ QL (.ok (rangeL m (k - m).toNat)) τ2) fun c fs l τ2 => QL (.ex c fs l) τ2)) fun c fs l τ1 => QL (.ex c fs l) τ1)) : RunM (itR2 a b) τ QL := v_bnd (by
  obtain ⟨r, τ', e, q⟩ := q
  refine ⟨r, τ', e, ?_⟩
  cases r with
  | ok x =>
    obtain ⟨r2, τ2, e2, q2⟩ := q
    refine v_bnd ⟨r2, τ2, e2, ?_⟩
    cases r2 with
    | ok y => obtain ⟨m, k, rfl, rfl, hb, q⟩ := q2; exact v_retE (if_pos hb) q
    | ex c fs l => exact q2
  | ex c fs l => exact q)
theorem v_itZip (q : RunM a τ (onOk (fun x τ1 => RunM b τ1 (onOk (fun y τ2 => ∃ l m, itemsD x = some l ∧ itemsD y = some m ∧ QL (.ok (zipL l m)) τ2) fun c fs l τ2 => QL (.ex c fs l) τ2)) fun c fs l τ1 => QL (.ex c fs l) τ1)) : RunM (itZip a b) τ QL := v_bnd (by
  obtain ⟨r, τ', e, q⟩ := q
  refine ⟨r, τ', e, ?_⟩
  cases r with
  | ok x =>
    obtain ⟨r2, τ2, e2, q2⟩ := q
    refine v_bnd ⟨r2, τ2, e2, ?_⟩
    cases r2 with
    | ok y => obtain ⟨l, m, h1, h2, q⟩ := q2; exact v_retE (by rw [h1, Option.bind_some, h2, Option.map_some]) q
    | ex c fs l => exact q2
  | ex c fs l => exact q)
/-! arguments, calls -/
theorem v_rnil (q : QA (.ok []) τ) : RunM rNil τ QA := v_ret q
theorem v_rD (q : RunM a τ (onOk (fun x τ1 => RunM ra τ1 (onOk (fun xs τ2 => QA (.ok (.d x :: xs)) τ2) fun c fs l τ2 => QA (.ex c fs l) τ2)) fun c fs l τ1 => QA (.ex c fs l) τ1)) : RunM (rD a ra) τ QA := v_bnd (by
  obtain ⟨r, τ', e, q⟩ := q
  refine ⟨r, τ', e, ?_⟩
  cases r with
  | ok x =>
    obtain ⟨r2, τ2, e2, q2⟩ := q
    refine v_bnd ⟨r2, τ2, e2, ?_⟩
    cases r2 with
    | ok y => exact v_ret q2
    | ex c fs l => exact q2
  | ex c fs l => exact q)
theorem v_rN (e : τ[i]? = some (some (.fz d))) (q : RunM ra τ (onOk (fun xs τ2 => QA (.ok (.d d :: xs)) τ2) fun c fs l τ2 => QA (.ex c fs l) τ2)) : RunM (rN i ra) τ QA := by
  have h : RunM (bnd ra fun xs => ret (some (.d d :: xs))) τ QA := v_bnd (by
    obtain ⟨r, τ', e, q⟩ := q
    refine ⟨r, τ', e, ?_⟩
    cases r with
    | ok x => exact v_ret q
    | ex c fs l => exact q)
  obtain ⟨r, τ', e2, q⟩ := h
  exact ⟨r, τ', by unfold rN; rw [e]; exact e2, q⟩
theorem v_rO (e : τ[i]? = some (some (.mu h l))) (q : RunM ra τ (onOk (fun xs τ2 => QA (.ok (.n i :: xs)) τ2) fun c fs l τ2 => QA (.ex c fs l) τ2)) : RunM (rN i ra) τ QA := by
  have h : RunM (bnd ra fun xs => ret (some (.n i :: xs))) τ QA := v_bnd (by
    obtain ⟨r, τ', e, q⟩ := q
    refine ⟨r, τ', e, ?_⟩
    cases r with
    | ok x => exact v_ret q
    | ex c fs l => exact q)
  obtain ⟨r, τ', e2, q⟩ := h
  exact ⟨r, τ', by unfold rN; rw [e]; exact e2, q⟩
def RunC (F : Fn) (args : List Arg) (τ : Tau) (Q : Res SV → Tau → Prop) : Prop := ∃ r τ', callT F args τ = some (r, τ') ∧ Q r τ'
theorem v_call {F : Fn} (q : RunM ra τ (onOk (fun args τ1 => RunC F args τ1 QE) fun c fs l τ1 => QE (.ex c fs l) τ1)) : RunM (mCall F ra) τ QE := v_bnd (by
  obtain ⟨r, τ', e, q⟩ := q
  refine ⟨r, τ', e, ?_⟩
  cases r with
  | ok x => obtain ⟨r, τ2, e2, q⟩ := q; exact ⟨r, τ2, e2, q⟩
  | ex c fs l => exact q)
/-- the callee at its arguments -/
theorem v_callC {F : Fn} {args : List Arg} {svs : List SV} (ho : once (lent args) = true) (hv : svsOf τ args = some svs) (q : RunF F svs fun r os => os.length = args.length ∧ QE r (wb (lent args) os τ)) : RunC F args τ QE := by
  obtain ⟨r, os, e, hl, q⟩ := q
  exact ⟨r, _, by unfold callT; rw [if_pos ho, hv, Option.bind_some, e, Option.bind_some]; dsimp only; rw [if_pos hl], q⟩
def RunK (c : Nat) (F : Fn) (args : List Arg) (τ : Tau) (Q : Res SV → Tau → Prop) : Prop := ∃ r τ', makeT c F args τ = some (r, τ') ∧ Q r τ'
theorem v_make {F : Fn} (q : RunM ra τ (onOk (fun args τ1 => RunK c F args τ1 QE) fun c fs l τ1 => QE (.ex c fs l) τ1)) : RunM (mMake c F ra) τ QE := v_bnd (by
  obtain ⟨r, τ', e, q⟩ := q
  refine ⟨r, τ', e, ?_⟩
  cases r with
  | ok x => obtain ⟨r, τ2, e2, q⟩ := q; exact ⟨r, τ2, e2, q⟩
  | ex c fs l => exact q)
theorem v_makeC {F : Fn} {args : List Arg} {svs : List SV} (ho : once (lent args) = true) (hv : svsOf τ args = some svs) (q : RunF F (.mu (.ins c []) [] :: svs) fun r os => ∃ s0 rest, os = s0 :: rest ∧ rest.length = args.length ∧ ((r = .ok (.fz .non) ∧ QE (.ok s0) (wb (lent args) rest τ)) ∨ ∃ c' fs l, r = .ex c' fs l ∧ QE (.ex c' fs l) (wb (lent args) rest τ))) : RunK c F args τ QE := by
  obtain ⟨r, os, e, s0, rest, rfl, hl, q⟩ := q
  rcases q with ⟨rfl, q⟩ | ⟨c', fs, l, rfl, q⟩
  · exact ⟨_, _, by unfold makeT; rw [if_pos ho, hv, Option.bind_some, e, Option.bind_some]; dsimp only; rw [if_pos hl], q⟩
  · exact ⟨_, _, by unfold makeT; rw [if_pos ho, hv, Option.bind_some, e, Option.bind_some]; dsimp only; rw [if_pos hl], q⟩
/-! statements -/
theorem v_sNx (q : QS .nx τ) : RunS sNx τ QS := ⟨_, _, rfl, q⟩
theorem v_sBk (q : QS .bk τ) : RunS sBk τ QS := ⟨_, _, rfl, q⟩
theorem v_sCt (q : QS .ct τ) : RunS sCt τ QS := ⟨_, _, rfl, q⟩
theorem v_raise (q : QS (.ex c [] []) τ) : RunS (sRaise c) τ QS := ⟨_, _, rfl, q⟩
theorem v_seq (q : RunS sa τ (onNx (fun τ1 => RunS sb τ1 QS) QS)) : RunS (sSeq sa sb) τ QS := by
  obtain ⟨r, τ', e, q⟩ := q
  cases r with
  | nx => obtain ⟨r2, τ2, e2, q2⟩ := q; exact ⟨r2, τ2, by unfold sSeq; rw [e]; exact e2, q2⟩
  | bk => exact ⟨_, _, by unfold sSeq; rw [e], q⟩
  | ct => exact ⟨_, _, by unfold sSeq; rw [e], q⟩
  | rt s => exact ⟨_, _, by unfold sSeq; rw [e], q⟩
  | ex c fs l => exact ⟨_, _, by unfold sSeq; rw [e], q⟩
theorem v_set (q : RunM e1 τ (onOk (fun s τ1 => QS .nx (τ1.set i (some s))) fun c fs l τ1 => QS (.ex c fs l) τ1)) : RunS (sSet i e1) τ QS := v_sE (by
  obtain ⟨r, τ', e, q⟩ := q
  refine ⟨r, τ', e, ?_⟩
  cases r with
  | ok x => exact ⟨_, _, rfl, q⟩
  | ex c fs l => exact q)
theorem v_drop (q : RunM a τ (onOk (fun s τ1 => QS .nx τ1) fun c fs l τ1 => QS (.ex c fs l) τ1)) : RunS (sDrop a) τ QS := v_sE (by
  obtain ⟨r, τ', e, q⟩ := q
  refine ⟨r, τ', e, ?_⟩
  cases r with
  | ok x => exact ⟨_, _, rfl, q⟩
  | ex c fs l => exact q)
theorem v_sret (q : RunM e1 τ (onOk (fun s τ1 => QS (.rt s) τ1) fun c fs l τ1 => QS (.ex c fs l) τ1)) : RunS (sRet e1) τ QS := v_sE (by
  obtain ⟨r, τ', e, q⟩ := q
  refine ⟨r, τ', e, ?_⟩
  cases r with
  | ok x => exact ⟨_, _, rfl, q⟩
  | ex c fs l => exact q)
theorem v_sretN (q : QS (.rt (.fz .non)) τ) : RunS sRetN τ QS := ⟨_, _, rfl, q⟩
theorem v_sif (q : RunM ta τ (onOk (fun t τ1 => if t = true then RunS sa τ1 QS else RunS sb τ1 QS) fun c fs l τ1 => QS (.ex c fs l) τ1)) : RunS (sIf ta sa sb) τ QS := v_sE (by
  obtain ⟨r, τ', e, q⟩ := q
  refine ⟨r, τ', e, ?_⟩
  cases r with
  | ok x =>
    show RunS (if x = true then sa else sb) τ' QS
    cases x with
    | true => exact (q : RunS sa τ' QS)
    | false => exact (q : RunS sb τ' QS)
  | ex c fs l => exact q)
theorem v_par (q : RunM a τ (onOk (fun x τ1 => RunM b τ1 (onOk (fun y τ2 => QS .nx ((τ2.set i (some (.fz x))).set j (some (.fz y)))) fun c fs l τ2 => QS (.ex c fs l) τ2)) fun c fs l τ1 => QS (.ex c fs l) τ1)) : RunS (sPar i j a b) τ QS := v_sE (by
  obtain ⟨r, τ', e, q⟩ := q
  refine ⟨r, τ', e, ?_⟩
  cases r with
  | ok x =>
    obtain ⟨r2, τ2, e2, q2⟩ := q
    refine v_sE ⟨r2, τ2, e2, ?_⟩
    cases r2 with
    | ok y => exact ⟨_, _, rfl, q2⟩
    | ex c fs l => exact q2
  | ex c fs l => exact q)
theorem v_asg {t : TD} (q : RunM a τ (onOk (fun x τ1 => ∃ τ2, t x τ1 = some τ2 ∧ QS .nx τ2) fun c fs l τ1 => QS (.ex c fs l) τ1)) : RunS (sAsg t a) τ QS := v_sE (by
  obtain ⟨r, τ', e, q⟩ := q
  refine ⟨r, τ', e, ?_⟩
  cases r with
  | ok x => obtain ⟨τ2, e2, q⟩ := q; exact ⟨_, _, by dsimp only; rw [e2]; rfl, q⟩
  | ex c fs l => exact q)
theorem v_aug {fi : D → D → Option D} {x : D} (e : τ[i]? = some (some (.fz x))) (q : RunM a τ (onOk (fun y τ1 => ∃ d, fi x y = some d ∧ QS .nx (τ1.set i (some (.fz d)))) fun c fs l τ1 => QS (.ex c fs l) τ1)) : RunS (sAug i fi a) τ QS := by
  have h : RunS (sE a fun y τ1 => (fi x y).map fun d => (.nx, τ1.set i (some (.fz d)))) τ QS := v_sE (by
    obtain ⟨r, τ', e, q⟩ := q
    refine ⟨r, τ', e, ?_⟩
    cases r with
    | ok x => obtain ⟨d, e2, q⟩ := q; exact ⟨_, _, by dsimp only; rw [e2]; rfl, q⟩
    | ex c fs l => exact q)
  obtain ⟨r, τ', e2, q⟩ := h
  exact ⟨r, τ', by unfold sAug; rw [e]; exact e2, q⟩
theorem v_mut {T : String} {fm : Hd → List SV → List D → Option (Hd × List SV × D)} (e : τ[i]? = some (some (.mu h l))) (hT : hdTy h = T) (q : RunM la τ (onOk (fun ds τ1 => ∃ h1 l1 h2 l2 d, τ1[i]? = some (some (.mu h1 l1)) ∧ fm h1 l1 ds = some (h2, l2, d) ∧ Q (.ok d) (τ1.set i (some (.mu h2 l2)))) fun c fs l τ1 => Q (.ex c fs l) τ1)) : RunM (mMut T fm i la) τ Q := by
  have h : RunM (bnd la fun ds τ1 => match τ1[i]? with
      | some (some (.mu h1 l1)) => (fm h1 l1 ds).map fun p => (.ok p.2.2, τ1.set i (some (.mu p.1 p.2.1)))
      | _ => none) τ Q := v_bnd (by
    obtain ⟨r, τ', e, q⟩ := q
    refine ⟨r, τ', e, ?_⟩
    cases r with
    | ok x => obtain ⟨h1, l1, h2, l2, d, e2, e3, q⟩ := q; exact ⟨_, _, by dsimp only; rw [e2]; dsimp only; rw [e3]; rfl, q⟩
    | ex c fs l => exact q)
  obtain ⟨r, τ', e2, q⟩ := h
  exact ⟨r, τ', by unfold mMut; rw [e]; dsimp only; rw [if_pos hT]; exact e2, q⟩
theorem v_put (q : RunM a τ (onOk (fun d τ1 => ∃ h0 l0, τ1[i]? = some (some (.mu h0 l0)) ∧ RunM b τ1 (onOk (fun k τ2 => ∃ h1 l1 h2 l2, τ2[i]? = some (some (.mu h1 l1)) ∧ setSV h1 l1 k d = some (h2, l2) ∧ QS .nx (τ2.set i (some (.mu h2 l2)))) fun c fs l τ2 => QS (.ex c fs l) τ2)) fun c fs l τ1 => QS (.ex c fs l) τ1)) : RunS (mPut i a b) τ QS := v_sE (by
  obtain ⟨r, τ', e, q⟩ := q
  refine ⟨r, τ', e, ?_⟩
  cases r with
  | ok x =>
    obtain ⟨h0, l0, e0, r2, τ2, e2, q2⟩ := q
    have h : RunS (sE b (fun q τ2 => match τ2[i]? with
      | some (some (.mu h l)) => (setSV h l q x).map fun p => (.nx, τ2.set i (some (.mu p.1 p.2)))
      | _ => none)) τ' QS := v_sE (by
      refine ⟨r2, τ2, e2, ?_⟩
      cases r2 with
      | ok y => obtain ⟨h1, l1, h2, l2, e3, e4, q3⟩ := q2; exact ⟨_, _, by dsimp only; rw [e3]; dsimp only; rw [e4]; rfl, q3⟩
      | ex c fs l => exact q2)
    obtain ⟨r3, τ3, e3, q3⟩ := h
    exact ⟨r3, τ3, by dsimp only; rw [e0]; exact e3, q3⟩
  | ex c fs l => exact q)
theorem v_fldS {cs : List Nat} {fl : Str} (q : RunM e1 τ (onOk (fun s τ1 => ∃ c fs l, τ1[i]? = some (some (.mu (.ins c fs) l)) ∧ (c ∈ cs ∧ fs.length < 1000) ∧ QS .nx (τ1.set i (some (.mu (.ins c (putSf fs l fl s).1) (putSf fs l fl s).2)))) fun c fs l τ1 => QS (.ex c fs l) τ1)) : RunS (VS.sFld i cs fl e1) τ QS := v_sE (by
  obtain ⟨r, τ', e, q⟩ := q
  refine ⟨r, τ', e, ?_⟩
  cases r with
  | ok x => obtain ⟨c, fs, l, e2, hc, q⟩ := q; exact ⟨_, _, by dsimp only; rw [e2]; dsimp only; rw [if_pos hc], q⟩
  | ex c fs l => exact q)
theorem v_try {m : SC} {hs : List Hn} (q : RunS m τ fun fl τ1 => match fl with
    | .ex c fs l => RunS (handle hs c fs l) τ1 QS
    | fl => QS fl τ1) : RunS (sTry m hs) τ QS := by
  obtain ⟨r, τ', e, q⟩ := q
  cases r with
  | ex c fs l => obtain ⟨r2, τ2, e2, q2⟩ := q; exact ⟨r2, τ2, by unfold sTry; rw [e]; exact e2, q2⟩
  | nx => exact ⟨_, _, by unfold sTry; rw [e], q⟩
  | bk => exact ⟨_, _, by unfold sTry; rw [e], q⟩
  | ct => exact ⟨_, _, by unfold sTry; rw [e], q⟩
  | rt s => exact ⟨_, _, by unfold sTry; rw [e], q⟩
/-! loops -/
theorem v_for {it : CM (List D)} {t : TD} (q : RunM it τ (onOk (fun l τ1 => RunS (sLoop t sa l) τ1 QS) fun c fs l τ1 => QS (.ex c fs l) τ1)) : RunS (sFor it t sa) τ QS := v_sE q
theorem v_loop {t : TD} {items : List D} (Pv : Nat → Tau → Prop) (h0 : Pv 0 τ) (hs : ∀ i d τ, items[i]? = some d → Pv i τ → ∃ τ1, t d τ = some τ1 ∧ RunS sa τ1 fun fl τ2 => match fl with
    | .nx => Pv (i + 1) τ2
    | .ct => Pv (i + 1) τ2
    | .bk => QS .nx τ2
    | fl => QS fl τ2) (hd : ∀ τ, Pv items.length τ → QS .nx τ) : RunS (sLoop t sa items) τ QS := by
  have key : ∀ (r : List D) (i : Nat) (τ : Tau), items.drop i = r → i ≤ items.length → Pv i τ → RunS (sLoop t sa r) τ QS := by
    intro r
    induction r with
    | nil =>
      intro i τ e hi p
      have : i = items.length := by
        have := congrArg List.length e
        rw [List.length_drop] at this
        simp at this
        omega
      subst this
      exact ⟨_, _, rfl, hd _ p⟩
    | cons d r ih =>
      intro i τ e hi p
      have hi' : i < items.length := by
        have := congrArg List.length e
        rw [List.length_drop] at this
        simp at this
        omega
      have hd' : items[i]? = some d := by
        rw [List.drop_eq_getElem_cons hi'] at e
        rw [List.getElem?_eq_getElem hi']
        exact congrArg some (List.cons.inj e).1
      have e' : items.drop (i + 1) = r := by
        rw [List.drop_eq_getElem_cons hi'] at e
        exact (List.cons.inj e).2
      obtain ⟨τ1, ht, r1, τ2, hb, q⟩ := hs i d τ hd' p
      cases r1 with
      | nx => obtain ⟨r2, τ3, e3, q3⟩ := ih (i + 1) τ2 e' hi' q; exact ⟨r2, τ3, by unfold sLoop; rw [ht]; dsimp only; rw [hb]; exact e3, q3⟩
      | ct => obtain ⟨r2, τ3, e3, q3⟩ := ih (i + 1) τ2 e' hi' q; exact ⟨r2, τ3, by unfold sLoop; rw [ht]; dsimp only; rw [hb]; exact e3, q3⟩
      | bk => exact ⟨_, _, by unfold sLoop; rw [ht]; dsimp only; rw [hb], q⟩
      | rt s => exact ⟨_, _, by unfold sLoop; rw [ht]; dsimp only; rw [hb], q⟩
      | ex c fs l => exact ⟨_, _, by unfold sLoop; rw [ht]; dsimp only; rw [hb], q⟩
  exact key items 0 τ rfl (Nat.zero_le _) h0
/-- while, by an invariant and a measure -/
theorem v_while {fuel : Nat} (Pv : Nat → Tau → Prop) (m0 : Nat) (hm : m0 < fuel) (h0 : Pv m0 τ) (hs : ∀ m τ, Pv m τ → RunM ta τ (onOk (fun t τ1 => if t = true then RunS sa τ1 (fun fl τ2 => match fl with
    | .nx => ∃ m', m' < m ∧ Pv m' τ2
    | .ct => ∃ m', m' < m ∧ Pv m' τ2
    | .bk => QS .nx τ2
    | fl => QS fl τ2) else QS .nx τ1) fun c fs l τ1 => QS (.ex c fs l) τ1)) : RunS (sWhile ta sa fuel) τ QS := by
  have key : ∀ (fuel m : Nat) (τ : Tau), m < fuel → Pv m τ → RunS (sWhile ta sa fuel) τ QS := by
    intro fuel
    induction fuel with
    | zero => intro m τ h; omega
    | succ fuel ih =>
      intro m τ hm p
      obtain ⟨r, τ1, e, q⟩ := hs m τ p
      cases r with
      | ok t =>
        cases t with
        | true =>
          obtain ⟨r1, τ2, hb, q⟩ := (q : RunS sa τ1 _)
          cases r1 with
          | nx =>
            obtain ⟨m', hlt, p'⟩ := q
            obtain ⟨r2, τ3, e3, q3⟩ := ih m' τ2 (by omega) p'
            exact ⟨r2, τ3, by unfold sWhile; rw [e]; dsimp only; rw [hb]; exact e3, q3⟩
          | ct =>
            obtain ⟨m', hlt, p'⟩ := q
            obtain ⟨r2, τ3, e3, q3⟩ := ih m' τ2 (by omega) p'
            exact ⟨r2, τ3, by unfold sWhile; rw [e]; dsimp only; rw [hb]; exact e3, q3⟩
          | bk => exact ⟨_, _, by unfold sWhile; rw [e]; dsimp only; rw [hb], q⟩
          | rt s => exact ⟨_, _, by unfold sWhile; rw [e]; dsimp only; rw [hb], q⟩
          | ex c fs l => exact ⟨_, _, by unfold sWhile; rw [e]; dsimp only; rw [hb], q⟩
        | false => exact ⟨_, _, by unfold sWhile; rw [e], (q : QS .nx τ1)⟩
      | ex c fs l => exact ⟨_, _, by unfold sWhile; rw [e], q⟩
  exact key fuel m0 τ hm h0
theorem v_whileT (Pv : Nat → Tau → Prop) (m0 : Nat) (hm : m0 < fuelT τ) (h0 : Pv m0 τ) (hs : ∀ m τ, Pv m τ → RunM ta τ (onOk (fun t τ1 => if t = true then RunS sa τ1 (fun fl τ2 => match fl with
    | .nx => ∃ m', m' < m ∧ Pv m' τ2
    | .ct => ∃ m', m' < m ∧ Pv m' τ2
    | .bk => QS .nx τ2
    | fl => QS fl τ2) else QS .nx τ1) fun c fs l τ1 => QS (.ex c fs l) τ1)) : RunS (sWhileT ta sa) τ QS := by
  have hm' := hm
  generalize hf : fuelT τ = n at hm'
  obtain ⟨r, τ', e, q⟩ := v_while (fuel := n) Pv m0 hm' h0 hs
  exact ⟨r, τ', by unfold sWhileT; rw [hf]; exact e, q⟩
/-- a comprehension, by an invariant over what is made -/
theorem v_lc {vs : List Nat} {it : CM (List D)} {t : TD} (q : RunM it τ (onOk (fun l τ1 => ∃ out τ2, lcGo t ta a vs l [] τ1 = some (out, τ2) ∧ QE (.ok (.mu .lst (out.map .fz))) τ2) fun c fs l τ1 => QE (.ex c fs l) τ1)) : RunM (mLc vs it t ta a) τ QE := v_bnd (by
  obtain ⟨r, τ', e, q⟩ := q
  refine ⟨r, τ', e, ?_⟩
  cases r with
  | ok x => obtain ⟨out, τ2, e2, q⟩ := q; exact ⟨_, _, by dsimp only; rw [e2]; rfl, q⟩
  | ex c fs l => exact q)
theorem v_lcGo {vs : List Nat} {t : TD} {items : List D} {acc0 : List D} (Pv : Nat → List D → Tau → Prop) (hz : acc0.length + items.length ≤ sizeLine) (h0 : Pv 0 acc0 τ) (hs : ∀ i d acc τ, items[i]? = some d → acc.length ≤ acc0.length + i → Pv i acc τ → ∃ τ1, t d (wipeT τ vs) = some τ1 ∧ RunM ta τ1 (onOk (fun b τ2 => if b = true then RunM a τ2 (onOk (fun y τ3 => Pv (i + 1) (acc ++ [y]) (wipeT τ3 vs)) fun _ _ _ _ => False) else Pv (i + 1) acc (wipeT τ2 vs)) fun _ _ _ _ => False)) :
    ∃ out τ2, lcGo t ta a vs items acc0 τ = some (out, τ2) ∧ Pv items.length out τ2 := by
  have key : ∀ (r : List D) (i : Nat) (acc : List D) (τ : Tau), items.drop i = r → i ≤ items.length → acc.length ≤ acc0.length + i → Pv i acc τ → ∃ out τ2, lcGo t ta a vs r acc τ = some (out, τ2) ∧ Pv items.length out τ2 := by
    intro r
    induction r with
    | nil =>
      intro i acc τ e hi ha p
      have : i = items.length := by
        have := congrArg List.length e
        rw [List.length_drop] at this
        simp at this
        omega
      subst this
      exact ⟨_, _, rfl, p⟩
    | cons d r ih =>
      intro i acc τ e hi ha p
      have hi' : i < items.length := by
        have := congrArg List.length e
        rw [List.length_drop] at this
        simp at this
        omega
      have hd' : items[i]? = some d := by
        rw [List.drop_eq_getElem_cons hi'] at e
        rw [List.getElem?_eq_getElem hi']
        exact congrArg some (List.cons.inj e).1
      have e' : items.drop (i + 1) = r := by
        rw [List.drop_eq_getElem_cons hi'] at e
        exact (List.cons.inj e).2
      obtain ⟨τ1, ht, r1, τ2, hc, q⟩ := hs i d acc τ hd' ha p
      cases r1 with
      | ok b =>
        cases b with
        | true =>
          obtain ⟨r2, τ3, hb, q⟩ := (q : RunM a τ2 _)
          cases r2 with
          | ok y =>
            obtain ⟨out, τ4, e4, q4⟩ := ih (i + 1) (acc ++ [y]) _ e' hi' (by simp; omega) q
            exact ⟨out, τ4, by unfold lcGo; rw [ht]; dsimp only; rw [hc]; dsimp only; rw [hb]; dsimp only; rw [if_pos (by omega)]; exact e4, q4⟩
          | ex c fs l => exact False.elim q
        | false =>
          obtain ⟨out, τ4, e4, q4⟩ := ih (i + 1) acc _ e' hi' (by omega) (q : Pv (i + 1) acc (wipeT τ2 vs))
          exact ⟨out, τ4, by unfold lcGo; rw [ht]; dsimp only; rw [hc]; exact e4, q4⟩
      | ex c fs l => exact False.elim q
  exact key items 0 acc0 τ rfl (Nat.zero_le _) (Nat.le_refl _) h0
/-! defs -/
theorem v_fn {na n : Nat} {pin : List Nat} {m : SC} {args : List SV} {QF : Res SV → List SV → Prop} (hl : args.length = na) (q : RunS m (args.map some ++ List.replicate (n - args.length) none) fun fl τ' => ∃ o, outs pin τ' 0 args = some o ∧ match fl with
    | .rt s => QF (.ok s) o
    | .nx => QF (.ok (.fz .non)) o
    | .ex c fs l => QF (.ex c fs l) o
    | _ => False) : RunF (ary na (mkFn n pin m)) args QF := by
  obtain ⟨r, τ', e, o, ho, q⟩ := q
  cases r with
  | rt s => exact ⟨_, _, by unfold ary mkFn; rw [if_pos hl, e]; dsimp only; rw [ho]; rfl, q⟩
  | nx => exact ⟨_, _, by unfold ary mkFn; rw [if_pos hl, e]; dsimp only; rw [ho]; rfl, q⟩
  | ex c fs l => exact ⟨_, _, by unfold ary mkFn; rw [if_pos hl, e]; dsimp only; rw [ho]; rfl, q⟩
  | bk => exact False.elim q
  | ct => exact False.elim q
theorem RunF.mono {F : Fn} {args : List SV} {Q1 Q2 : Res SV → List SV → Prop} (h : RunF F args Q1) (k : ∀ r os, Q1 r os → Q2 r os) : RunF F args Q2 := by
  obtain ⟨r, os, e, q⟩ := h
  exact ⟨r, os, e, k r os q⟩
end
end VS

/-! ## W1: stepping in two parts: value or error; next or other -/
namespace VS
open PySem PySem.Spec PyProof.Rows L2
def Rm {α : Type} (m : CM α) (τ : Tau) (A : α → Tau → Prop) (B : Nat → List Str → List D → Tau → Prop) : Prop := RunM m τ (onOk A B)
def Ru (m : SC) (τ : Tau) (N : Tau → Prop) (Q : Fl → Tau → Prop) : Prop := RunS m τ (onNx N Q)
def Rc (F : Fn) (args : List Arg) (τ : Tau) (A : SV → Tau → Prop) (B : Nat → List Str → List D → Tau → Prop) : Prop := RunC F args τ (onOk A B)
def Rk (c : Nat) (F : Fn) (args : List Arg) (τ : Tau) (A : SV → Tau → Prop) (B : Nat → List Str → List D → Tau → Prop) : Prop := RunK c F args τ (onOk A B)
def exQ (Q : Fl → Tau → Prop) (c : Nat) (fs : List Str) (l : List D) (τ : Tau) : Prop := Q (.ex c fs l) τ
/-- no error comes -/
def noX (_ : Nat) (_ : List Str) (_ : List D) (_ : Tau) : Prop := False
def finN (pin : List Nat) (args : List SV) (QF : Res SV → List SV → Prop) (τ : Tau) : Prop := ∃ o, outs pin τ 0 args = some o ∧ QF (.ok (.fz .non)) o
def finQ (pin : List Nat) (args : List SV) (QF : Res SV → List SV → Prop) : Fl → Tau → Prop
  | .rt s, τ => ∃ o, outs pin τ 0 args = some o ∧ QF (.ok s) o
  | .nx, τ => ∃ o, outs pin τ 0 args = some o ∧ QF (.ok (.fz .non)) o
  | .ex c fs l, τ => ∃ o, outs pin τ 0 args = some o ∧ QF (.ex c fs l) o
  | _, _ => False
def inLp (I N : Tau → Prop) (Q : Fl → Tau → Prop) : Fl → Tau → Prop
  | .ct, τ => I τ
  | .nx, τ => I τ
  | .bk, τ => N τ
  | fl, τ => Q fl τ
def tryQ (hs : List Hn) (N : Tau → Prop) (Q : Fl → Tau → Prop) : Fl → Tau → Prop
  | .ex c fs l, τ => Ru (handle hs c fs l) τ N Q
  | fl, τ => Q fl τ
/-- an end: what is left is the reader's -/
def Fi (p : Prop) : Prop := p
section
variable {α : Type} {A : α → Tau → Prop} {B : Nat → List Str → List D → Tau → Prop} {QF : Res SV → List SV → Prop} {I N : Tau → Prop} {Q : Fl → Tau → Prop} {τ τ0 : Tau} {pin : List Nat} {args o : List SV} {c : Nat} {fs : List Str} {l ls : List D} {s : SV} {x : α} {sa m : SC} {ta : CM Bool} {hs : List Hn} {a : CM D} {d : D}
theorem w_ok (q : A x τ) : onOk A B (.ok x) τ := q
theorem w_ex (q : B c fs ls τ) : onOk A B (.ex c fs ls) τ := q
theorem w_exQ (q : Q (.ex c fs ls) τ) : exQ Q c fs ls τ := q
theorem fin_id {p : Prop} (q : p) : Fi p := q
theorem w_finN (e : outs pin τ 0 args = some o) (q : Fi (QF (.ok (.fz .non)) o)) : finN pin args QF τ := ⟨o, e, q⟩
theorem w_finR (e : outs pin τ 0 args = some o) (q : Fi (QF (.ok s) o)) : finQ pin args QF (.rt s) τ := ⟨o, e, q⟩
theorem w_finX (e : outs pin τ 0 args = some o) (q : Fi (QF (.ex c fs ls) o)) : finQ pin args QF (.ex c fs ls) τ := ⟨o, e, q⟩
theorem w_inC (q : I τ) : inLp I N Q .ct τ := q
theorem w_inB (q : N τ) : inLp I N Q .bk τ := q
theorem w_inR (q : Q (.rt s) τ) : inLp I N Q (.rt s) τ := q
theorem w_inX (q : Q (.ex c fs ls) τ) : inLp I N Q (.ex c fs ls) τ := q
theorem w_tryX (q : Ru (handle hs c fs ls) τ N Q) : tryQ hs N Q (.ex c fs ls) τ := q
theorem w_tryR (q : Q (.rt s) τ) : tryQ hs N Q (.rt s) τ := q
theorem w_tryB (q : Q .bk τ) : tryQ hs N Q .bk τ := q
theorem w_tryC (q : Q .ct τ) : tryQ hs N Q .ct τ := q
theorem w_hnT {mt : Nat → Option Bool} {f : Nat → List Str → List D → SC} (h : mt c = some true) (q : Ru (f c fs ls) τ N Q) : Ru (handle ((mt, f) :: hs) c fs ls) τ N Q := by
  obtain ⟨r, τ', e, q⟩ := q
  exact ⟨r, τ', by unfold handle; dsimp only; rw [h]; exact e, q⟩
theorem w_hnF {mt : Nat → Option Bool} {f : Nat → List Str → List D → SC} (h : mt c = some false) (q : Ru (handle hs c fs ls) τ N Q) : Ru (handle ((mt, f) :: hs) c fs ls) τ N Q := by
  obtain ⟨r, τ', e, q⟩ := q
  exact ⟨r, τ', by unfold handle; dsimp only; rw [h]; exact e, q⟩
theorem w_sB {j : Nat} {fb : Nat → Option Bool} {b : Bool} (h : fb c = some b) (q : N (τ.set j (some (.fz (.bl b))))) : Ru (sB j fb c) τ N Q := ⟨.nx, _, by unfold sB; rw [h]; rfl, q⟩
theorem w_hnB {i j : Nat} {fb : Nat → Option Bool} {b : Bool} (hi : i < τ.length) (hf : fs = []) (h : fb c = some b) (q : N ((τ.set i none).set j (some (.fz (.bl b))))) : Ru (fun τ => if i < τ.length ∧ fs = [] then sB j fb c (τ.set i none) else none) τ N Q := by
  obtain ⟨r, τ', e, q⟩ := (w_sB (Q := Q) h q : Ru (sB j fb c) (τ.set i none) N Q)
  exact ⟨r, τ', by dsimp only; rw [if_pos ⟨hi, hf⟩]; exact e, q⟩
theorem w_hnX {i j : Nat} {o : Option D} {d : D} (hi : i < τ.length) (h : o = some d) (q : N ((τ.set i none).set j (some (.fz d)))) : Ru (fun τ => if i < τ.length then o.map fun d => (.nx, (τ.set i none).set j (some (.fz d))) else none) τ N Q := ⟨.nx, _, by dsimp only; rw [if_pos hi, h]; rfl, q⟩
theorem w_raiseF {fl : Str} {as : CM (List D)} (q : Rm as τ (fun ds τ1 => ∃ d, ds = [d] ∧ Q (.ex c [fl] [d]) τ1) (exQ Q)) : Ru (sRaiseF c fl as) τ N Q := by
  obtain ⟨r, τ1, e, q⟩ := q
  cases r with
  | ok ds => obtain ⟨d, rfl, q⟩ := q; exact ⟨.ex c [fl] [d], τ1, by unfold sRaiseF sE; rw [e], q⟩
  | ex c2 fs2 l2 => exact ⟨.ex c2 fs2 l2, τ1, by unfold sRaiseF sE; rw [e], q⟩
theorem w_fn {na n : Nat} (hl : args.length = na) (hτ : args.map some ++ List.replicate (n - args.length) none = τ0) (q : Ru m τ0 (finN pin args QF) (finQ pin args QF)) : RunF (ary na (mkFn n pin m)) args QF := v_fn hl (by
  rw [hτ]
  obtain ⟨fl, τ', e, q⟩ := q
  refine ⟨fl, τ', e, ?_⟩
  cases fl with
  | bk => exact False.elim q
  | ct => exact False.elim q
  | nx => exact q
  | rt s => exact q
  | ex c fs l => exact q)
theorem w_loop {t : TD} {items : List D} (Pv : Nat → Tau → Prop) (h0 : Pv 0 τ) (hs : ∀ i d τ, items[i]? = some d → Pv i τ → ∃ τ1, t d τ = some τ1 ∧ Ru sa τ1 (Pv (i + 1)) (inLp (Pv (i + 1)) N Q)) (hd : ∀ τ, Pv items.length τ → N τ) : Ru (sLoop t sa items) τ N Q := v_loop Pv h0 (fun i d τ e p => by
  obtain ⟨τ1, ht, fl, τ2, e2, q⟩ := hs i d τ e p
  refine ⟨τ1, ht, fl, τ2, e2, ?_⟩
  cases fl <;> exact q) hd
theorem w_while (Pv : Nat → Tau → Prop) (m0 : Nat) (hm : m0 < fuelT τ) (h0 : Pv m0 τ) (hs : ∀ m τ, Pv m τ → Rm ta τ (fun t τ1 => if t = true then Ru sa τ1 (fun τ => ∃ m', m' < m ∧ Pv m' τ) (inLp (fun τ => ∃ m', m' < m ∧ Pv m' τ) N Q) else N τ1) (exQ Q)) : Ru (sWhileT ta sa) τ N Q := v_whileT Pv m0 hm h0 fun m τ p => by
  obtain ⟨r, τ', e, q⟩ := hs m τ p
  refine ⟨r, τ', e, ?_⟩
  cases r with
  | ok t =>
    cases t with
    | true =>
      obtain ⟨fl, τ2, e2, q⟩ := (q : Ru sa τ' _ _)
      refine (⟨fl, τ2, e2, ?_⟩ : RunS sa τ' _)
      cases fl <;> exact q
    | false => exact q
  | ex c fs l => exact q
theorem w_try (q : Ru m τ N (tryQ hs N Q)) : Ru (sTry m hs) τ N Q := v_try (by
  obtain ⟨fl, τ', e, q⟩ := q
  refine ⟨fl, τ', e, ?_⟩
  cases fl <;> exact q)
theorem w_callC {F : Fn} {as : List Arg} {svs : List SV} {A : SV → Tau → Prop} (ho : once (lent as) = true) (hv : svsOf τ as = some svs) (q : RunF F svs fun r os => os.length = as.length ∧ onOk A B r (wb (lent as) os τ)) : Rc F as τ A B := v_callC ho hv q
theorem w_makeC {F : Fn} {as : List Arg} {svs : List SV} {A : SV → Tau → Prop} (ho : once (lent as) = true) (hv : svsOf τ as = some svs) (q : RunF F (.mu (.ins c []) [] :: svs) fun r os => ∃ s0 rest, os = s0 :: rest ∧ rest.length = as.length ∧ ((r = .ok (.fz .non) ∧ A s0 (wb (lent as) rest τ)) ∨ ∃ c' fs l, r = .ex c' fs l ∧ B c' fs l (wb (lent as) rest τ))) : Rk c F as τ A B := v_makeC ho hv q
theorem w_mid (M : Tau → Prop) (h1 : Ru m τ M Q) (h2 : ∀ τ', M τ' → N τ') : Ru m τ N Q := by
  obtain ⟨fl, τ', e, q⟩ := h1
  refine ⟨fl, τ', e, ?_⟩
  cases fl with
  | nx => exact h2 _ q
  | _ => exact q
theorem w_midM {α : Type} {m : CM α} {A : α → Tau → Prop} (M : α → Tau → Prop) (h1 : Rm m τ M B) (h2 : ∀ x τ', M x τ' → A x τ') : Rm m τ A B := by
  obtain ⟨fl, τ', e, q⟩ := h1
  refine ⟨fl, τ', e, ?_⟩
  cases fl with
  | ok x => exact h2 _ _ q
  | _ => exact q
theorem w_isbl {t : Bool} {A : Bool → Prop} (q : A t) : ∃ u, D.bl t = .bl u ∧ A u := ⟨t, rfl, q⟩
theorem w_isint {t : Int} {A : Int → Prop} (q : A t) : ∃ u, D.int t = .int u ∧ A u := ⟨t, rfl, q⟩
theorem w_isstr {t : Str} {A : Str → Prop} (q : A t) : ∃ u, D.str t = .str u ∧ A u := ⟨t, rfl, q⟩
/-- a comprehension by an invariant -/
theorem w_lcGo {vs : List Nat} {t : TD} {items acc0 : List D} (Pv : Nat → List D → Tau → Prop) (hz : acc0.length + items.length ≤ sizeLine) (h0 : Pv 0 acc0 τ) (hs : ∀ i d acc τ, items[i]? = some d → Pv i acc τ → ∃ τ1, t d (wipeT τ vs) = some τ1 ∧ Rm ta τ1 (fun b τ2 => if b = true then Rm a τ2 (fun y τ3 => Pv (i + 1) (acc ++ [y]) (wipeT τ3 vs)) noX else Pv (i + 1) acc (wipeT τ2 vs)) noX) :
    ∃ out τ2, lcGo t ta a vs items acc0 τ = some (out, τ2) ∧ Pv items.length out τ2 := v_lcGo Pv hz h0 fun i d acc τ e _ p => hs i d acc τ e p
/-- each turn gives f of its item -/
theorem w_lcMap {X : Type} {vs : List Nat} {t : TD} {xs : List X} {acc0 : List D} (τ2 : Tau) {e : X → D} (f : X → D) (hw : wipeT τ vs = τ2) (hw2 : wipeT τ2 vs = τ2) (hz : acc0.length + xs.length ≤ sizeLine) (hs : ∀ x ∈ xs, ∃ τ1, t (e x) τ2 = some τ1 ∧ Rm a τ1 (fun y τ3 => y = f x ∧ wipeT τ3 vs = τ2) noX) :
    ∃ out τ3, lcGo t cYes a vs (xs.map e) acc0 τ = some (out, τ3) ∧ out = acc0 ++ xs.map f ∧ (τ3 = τ2 ∨ τ3 = τ) := by
  obtain ⟨out, τ3, e, h1, h2, h3⟩ := w_lcGo (ta := cYes) (a := a) (vs := vs) (t := t) (items := xs.map e) (acc0 := acc0) (τ := τ) (fun i acc τ' => acc = acc0 ++ (xs.take i).map f ∧ (τ' = τ2 ∨ τ' = τ) ∧ wipeT τ' vs = τ2) (by rw [List.length_map]; exact hz) ⟨by simp, .inr rfl, hw⟩ (fun i d acc τ' hd ⟨ha, _, hw'⟩ => by
    rw [List.getElem?_map] at hd
    obtain ⟨x, hx, rfl⟩ := Option.map_eq_some_iff.mp hd
    obtain ⟨τ1, ht, r, τ3, e, q⟩ := hs x (List.mem_of_getElem? hx)
    rw [hw']
    refine ⟨τ1, ht, ⟨.ok true, τ1, rfl, ?_⟩⟩
    show Rm a τ1 _ noX
    refine ⟨r, τ3, e, ?_⟩
    cases r with
    | ok y =>
      obtain ⟨rfl, q⟩ := q
      show acc ++ [f x] = acc0 ++ (xs.take (i + 1)).map f ∧ (wipeT τ3 vs = τ2 ∨ wipeT τ3 vs = τ) ∧ wipeT (wipeT τ3 vs) vs = τ2
      refine ⟨?_, .inl q, by rw [q]; exact hw2⟩
      rw [ha, List.take_add_one, hx, List.map_append, List.append_assoc]
      rfl
    | ex c fs l => exact False.elim q)
  rw [List.length_map, List.take_length] at h1
  exact ⟨out, τ3, e, h1, h2⟩
theorem w_lcM {X : Type} {vs : List Nat} {t : TD} {xs : List X} {P : List D → Tau → Prop} {e : X → D} (f : X → D) (hw : wipeT τ vs = τ) (hz : xs.length ≤ sizeLine) (hs : ∀ x ∈ xs, ∃ τ1, t (e x) τ = some τ1 ∧ Rm a τ1 (fun y τ3 => y = f x ∧ wipeT τ3 vs = τ) noX) (q : P (xs.map f) τ) :
    ∃ out τ3, lcGo t cYes a vs (xs.map e) [] τ = some (out, τ3) ∧ P out τ3 := by
  obtain ⟨out, τ3, e, rfl, h⟩ := w_lcMap (a := a) (t := t) (acc0 := []) τ f hw hw (by simpa using hz) hs
  have h : τ3 = τ := by rcases h with h | h <;> exact h
  subst h
  exact ⟨_, _, e, by simpa using q⟩
theorem w_lcMq {X : Type} {vs : List Nat} {t : TD} {xs : List X} {P : List D → Tau → Prop} {e : X → D} (τ2 : Tau) (f : X → D) (hw : wipeT τ vs = τ2) (hw2 : wipeT τ2 vs = τ2) (hz : xs.length ≤ sizeLine) (hs : ∀ x ∈ xs, ∃ τ1, t (e x) τ2 = some τ1 ∧ Rm a τ1 (fun y τ3 => y = f x ∧ wipeT τ3 vs = τ2) noX) (q : ∀ τ3, (τ3 = τ2 ∨ τ3 = τ) → P (xs.map f) τ3) :
    ∃ out τ3, lcGo t cYes a vs (xs.map e) [] τ = some (out, τ3) ∧ P out τ3 := by
  obtain ⟨out, τ3, e, rfl, h⟩ := w_lcMap (a := a) (t := t) (acc0 := []) τ2 f hw hw2 (by simpa using hz) hs
  exact ⟨_, _, e, by simpa using q τ3 h⟩
/-- a loop over what is made of things -/
theorem w_loopX {X : Type} {t : TD} {xs : List X} {e : X → D} (Pv : Nat → Tau → Prop) (h0 : Pv 0 τ) (hs : ∀ i x τ, xs[i]? = some x → Pv i τ → ∃ τ1, t (e x) τ = some τ1 ∧ Ru sa τ1 (Pv (i + 1)) (inLp (Pv (i + 1)) N Q)) (hd : ∀ τ, Pv xs.length τ → N τ) : Ru (sLoop t sa (xs.map e)) τ N Q := w_loop Pv h0 (fun i d τ h p => by
  rw [List.getElem?_map] at h
  obtain ⟨x, hx, rfl⟩ := Option.map_eq_some_iff.mp h
  exact hs i x τ hx p) (by rw [List.length_map]; exact hd)
/-- a loop over a range -/
theorem w_loopR {t : TD} {lo : Int} {n : Nat} (Pv : Nat → Tau → Prop) (h0 : Pv 0 τ) (hs : ∀ i τ, i < n → Pv i τ → ∃ τ1, t (.int (lo + (i : Nat))) τ = some τ1 ∧ Ru sa τ1 (Pv (i + 1)) (inLp (Pv (i + 1)) N Q)) (hd : ∀ τ, Pv n τ → N τ) : Ru (sLoop t sa (rangeL lo n)) τ N Q := w_loopX (e := fun i : Nat => D.int (lo + (i : Nat))) (xs := List.range n) Pv h0 (fun i x τ h p => by
  obtain ⟨hi, h⟩ := List.getElem?_eq_some_iff.mp h
  rw [List.getElem_range] at h
  subst h
  exact hs i τ (by simpa using hi) p) (by rw [List.length_range]; exact hd)
/-- a comprehension over a range -/
theorem w_lcR {vs : List Nat} {t : TD} {lo : Int} {n : Nat} {P : List D → Tau → Prop} (f : Nat → D) (hw : wipeT τ vs = τ) (hz : n ≤ sizeLine) (hs : ∀ i, i < n → ∃ τ1, t (.int (lo + (i : Nat))) τ = some τ1 ∧ Rm a τ1 (fun y τ3 => y = f i ∧ wipeT τ3 vs = τ) noX) (q : P ((List.range n).map f) τ) :
    ∃ out τ3, lcGo t cYes a vs (rangeL lo n) [] τ = some (out, τ3) ∧ P out τ3 := w_lcM (e := fun i : Nat => D.int (lo + (i : Nat))) (xs := List.range n) f hw (by rw [List.length_range]; exact hz) (fun x hx => hs x (List.mem_range.mp hx)) q
/-- two generators by an invariant over the outer -/
theorem w_lc2Go {vs vs1 : List Nat} {t t1 : TD} {it1 : CM (List D)} {items acc0 : List D} (Pv : Nat → List D → Tau → Prop) (h0 : Pv 0 acc0 τ) (hs : ∀ i d acc τ, items[i]? = some d → Pv i acc τ → ∃ τ1, t d (wipeT τ vs) = some τ1 ∧ Rm it1 τ1 (fun l1 τ2 => ∃ acc' τ3, lcGo t1 cYes a vs1 l1 acc τ2 = some (acc', τ3) ∧ Pv (i + 1) acc' (wipeT τ3 vs)) noX) :
    ∃ out τ2, lc2Go t it1 t1 a vs vs1 items acc0 τ = some (out, τ2) ∧ Pv items.length out τ2 := by
  have key : ∀ (r : List D) (i : Nat) (acc : List D) (τ : Tau), items.drop i = r → i ≤ items.length → Pv i acc τ → ∃ out τ2, lc2Go t it1 t1 a vs vs1 r acc τ = some (out, τ2) ∧ Pv items.length out τ2 := by
    intro r
    induction r with
    | nil =>
      intro i acc τ e hi p
      have : i = items.length := by
        have := congrArg List.length e
        rw [List.length_drop] at this
        simp at this
        omega
      subst this
      exact ⟨_, _, rfl, p⟩
    | cons d r ih =>
      intro i acc τ e hi p
      have hi' : i < items.length := by
        have := congrArg List.length e
        rw [List.length_drop] at this
        simp at this
        omega
      have hd' : items[i]? = some d := by
        rw [List.drop_eq_getElem_cons hi'] at e
        rw [List.getElem?_eq_getElem hi']
        exact congrArg some (List.cons.inj e).1
      have e' : items.drop (i + 1) = r := by
        rw [List.drop_eq_getElem_cons hi'] at e
        exact (List.cons.inj e).2
      obtain ⟨τ1, ht, r1, τ2, hc, q⟩ := hs i d acc τ hd' p
      cases r1 with
      | ok l1 =>
        obtain ⟨acc', τ3, e3, q⟩ := q
        obtain ⟨out, τ4, e4, q4⟩ := ih (i + 1) acc' _ e' hi' q
        exact ⟨out, τ4, by unfold lc2Go; rw [ht]; dsimp only; rw [hc]; dsimp only; rw [e3]; exact e4, q4⟩
      | ex c fs l => exact False.elim q
  exact key items 0 acc0 τ rfl (Nat.zero_le _) h0
theorem w_lc2 {vs vs1 : List Nat} {it it1 : CM (List D)} {t t1 : TD} {A : SV → Tau → Prop} (q : Rm it τ (fun l τ1 => ∃ out τ2, lc2Go t it1 t1 a vs vs1 l [] τ1 = some (out, τ2) ∧ A (.mu .lst (out.map .fz)) τ2) B) : Rm (mLc2 vs vs1 it t it1 t1 a) τ A B := by
  obtain ⟨r, τ', e, q⟩ := q
  unfold mLc2
  refine v_bnd ⟨r, τ', e, ?_⟩
  cases r with
  | ok x => obtain ⟨out, τ2, e2, q⟩ := q; exact ⟨.ok _, _, by dsimp only; rw [e2]; rfl, q⟩
  | ex c fs l => exact q
theorem w_dc {vs : List Nat} {it : CM (List D)} {t : TD} {kx : CM D} {A : SV → Tau → Prop} (q : Rm it τ (fun l τ1 => ∃ ks sl τ2, dcGo t ta kx a vs l ([], []) τ1 = some ((ks, sl), τ2) ∧ A (.mu (.dct false ks) sl) τ2) B) : Rm (mDc vs it t ta kx a) τ A B := by
  obtain ⟨r, τ', e, q⟩ := q
  unfold mDc
  refine v_bnd ⟨r, τ', e, ?_⟩
  cases r with
  | ok x => obtain ⟨ks, sl, τ2, e2, q⟩ := q; exact ⟨.ok _, _, by dsimp only; rw [e2]; rfl, q⟩
  | ex c fs l => exact q
end
section
variable {τ τ' τ1 : Tau} {a b cc : CM D} {e1 e2 : CM SV} {la : CM (List D)} {ra : CM (List Arg)} {p p2 : PB} {i j n : Nat} {d : D} {s : SV} {h : Hd} {l : List SV} {c : Nat} {fs : List Str} {ls ds : List D} {f g : D → D → Option SV} {f1 : D → Option SV} {ta tb : CM Bool} {sa sb : SC} {B : Nat → List Str → List D → Tau → Prop} {N : Tau → Prop} {Qf : Fl → Tau → Prop}
theorem w_C {A : D → Tau → Prop} (q : A (d) τ) : Rm (mC d) τ A B := v_C q
theorem w_var {A : D → Tau → Prop} (e : τ[i]? = some (some (.fz d))) (q : A (d) τ) : Rm (mVar i) τ A B := v_var e q
theorem w_varO {A : D → Tau → Prop} (e : τ[i]? = some (some (.mu h l))) (q : A ((SV.toD (.mu h l))) (τ.set i (some (.fz (SV.toD (.mu h l)))))) : Rm (mVar i) τ A B := v_varO e q
theorem w_move {A : SV → Tau → Prop} (e : τ[i]? = some (some (.fz d))) (q : A ((.fz d)) τ) : Rm (mMove i) τ A B := v_move e q
theorem w_moveO {A : SV → Tau → Prop} (e : τ[i]? = some (some (.mu h l))) (q : A ((.mu h l)) (τ.set i none)) : Rm (mMove i) τ A B := v_moveO e q
theorem w_frz {A : D → Tau → Prop} (q : Rm e1 τ (fun s τ1 => A (s.toD) τ1) B) : Rm (frz e1) τ A B := v_frz q
theorem w_up {A : SV → Tau → Prop} (q : Rm a τ (fun d τ1 => A ((.fz d)) τ1) B) : Rm (up a) τ A B := v_up q
theorem w_B {A : D → Tau → Prop} (e : p τ = some (.fz d)) (q : A (d) τ) : Rm (mB p) τ A B := v_B e q
theorem w_op2 {A : SV → Tau → Prop} (q : Rm a τ (fun x τ1 => Rm b τ1 (fun y τ2 => ∃ s, f x y = some s ∧ A (s) τ2) B) B) : Rm (mOp2 f a b) τ A B := v_op2 q
theorem w_op1 {A : SV → Tau → Prop} (q : Rm a τ (fun x τ1 => ∃ s, f1 x = some s ∧ A (s) τ1) B) : Rm (mOp1 f1 a) τ A B := v_op1 q
theorem w_op2B {A : SV → Tau → Prop} {x y : D} (ea : bView p τ = some x) (eb : bView p2 τ = some y) (q : ∃ s, f x y = some s ∧ A (s) τ) : Rm (mOp2B f p p2) τ A B := v_op2B ea eb q
theorem w_op2R {A : SV → Tau → Prop} (q : Rm a τ (fun x τ1 => ∃ y s, bView p τ1 = some y ∧ f x y = some s ∧ A (s) τ1) B) : Rm (mOp2R f a p) τ A B := v_op2R q
theorem w_op1B {A : SV → Tau → Prop} {x : D} (ea : bView p τ = some x) (q : ∃ s, f1 x = some s ∧ A (s) τ) : Rm (mOp1B f1 p) τ A B := v_op1B ea q
theorem w_anil {A : (List D) → Tau → Prop} (q : A ([]) τ) : Rm aNil τ A B := v_anil q
theorem w_acons {A : (List D) → Tau → Prop} (q : Rm a τ (fun x τ1 => Rm la τ1 (fun xs τ2 => A ((x :: xs)) τ2) B) B) : Rm (aCons a la) τ A B := v_acons q
theorem w_tup {A : D → Tau → Prop} (q : Rm la τ (fun l τ1 => l.length ≤ sizeLine ∧ A ((.tup l)) τ1) B) : Rm (mTup la) τ A B := v_tup q
theorem w_lst {A : SV → Tau → Prop} (q : Rm la τ (fun l τ1 => l.length ≤ sizeLine ∧ A ((.mu .lst (l.map .fz))) τ1) B) : Rm (mLst la) τ A B := v_lst q
theorem w_newK {A : SV → Tau → Prop} (q : A ((.mu (.dct false []) [])) τ) : Rm mNewK τ A B := v_newK q
theorem w_newT {A : SV → Tau → Prop} (q : A ((.mu (.dct true []) [])) τ) : Rm mNewT τ A B := v_newT q
theorem w_disp1 {A : SV → Tau → Prop} {z : Str} (q : Rm a τ (fun d τ1 => A ((.mu (.dct false [.k (.inr z)]) [.fz d])) τ1) B) : Rm (mDisp1 z a) τ A B := v_disp1 q
theorem w_oNone {A : (Option Int) → Tau → Prop} (q : A (none) τ) : Rm oNone τ A B := v_oNone q
theorem w_oSome {A : (Option Int) → Tau → Prop} (q : Rm a τ (fun d τ1 => ∃ k, d = .int k ∧ A ((some k)) τ1) B) : Rm (oSome a) τ A B := v_oSome q
theorem w_slice {A : SV → Tau → Prop} {lo hi : CM (Option Int)} (q : Rm a τ (fun x τ1 => Rm lo τ1 (fun l τ2 => Rm hi τ2 (fun u τ3 => ∃ s, sliceF l u x = some s ∧ A (s) τ3) B) B) B) : Rm (mSlice a lo hi) τ A B := v_slice q
theorem w_fld {A : D → Tau → Prop} {cs : List Nat} {fl : Str} (q : Rm a τ (fun x τ1 => ∃ c fs l d, x = .ob (.ins c fs) l ∧ c ∈ cs ∧ fLook fs l fl = some d ∧ A (d) τ1) B) : Rm (mFld cs fl a) τ A B := v_fld q
theorem w_bm {A : SV → Tau → Prop} (q : Rm a τ (fun x τ1 => ∃ z, x = .str z ∧ Rm b τ1 (fun y τ2 => ∃ s, f x y = some s ∧ A (s) τ2) B) B) : Rm (mBm f a b) τ A B := v_bm q
theorem w_join {A : SV → Tau → Prop} (q : Rm a τ (fun x τ1 => ∃ z, x = .str z ∧ Rm b τ1 (fun y τ2 => ∃ s, joinF x y = some s ∧ A (s) τ2) B) B) : Rm (mJoin a b) τ A B := v_join q
theorem w_cB {A : Bool → Tau → Prop} (q : Rm a τ (fun d τ1 => ∃ t, d = .bl t ∧ A (t) τ1) B) : Rm (cB a) τ A B := v_cB q
theorem w_cNot {A : Bool → Tau → Prop} (q : Rm ta τ (fun t τ1 => A ((!t)) τ1) B) : Rm (cNot ta) τ A B := v_cNot q
theorem w_cAnd {A : Bool → Tau → Prop} (q : Rm ta τ (fun t τ1 => if t = true then Rm tb τ1 A B else A (false) τ1) B) : Rm (cAnd ta tb) τ A B := v_cAnd q
theorem w_cOr {A : Bool → Tau → Prop} (q : Rm ta τ (fun t τ1 => if t = true then A (true) τ1 else Rm tb τ1 A B) B) : Rm (cOr ta tb) τ A B := v_cOr q
theorem w_mNot {A : D → Tau → Prop} (q : Rm a τ (fun d τ1 => ∃ t, d = .bl t ∧ A ((.bl (!t))) τ1) B) : Rm (mNot a) τ A B := v_mNot q
theorem w_mAnd {A : D → Tau → Prop} (q : Rm a τ (fun d τ1 => ∃ t, d = .bl t ∧ if t = true then Rm b τ1 A B else A ((.bl false)) τ1) B) : Rm (mAnd a b) τ A B := v_mAnd q
theorem w_mOr {A : D → Tau → Prop} (q : Rm a τ (fun d τ1 => ∃ t, d = .bl t ∧ if t = true then A ((.bl true)) τ1 else Rm b τ1 A B) B) : Rm (mOr a b) τ A B := v_mOr q
theorem w_mIf {A : SV → Tau → Prop} (q : Rm ta τ (fun t τ1 => if t = true then Rm e1 τ1 A B else Rm e2 τ1 A B) B) : Rm (mIf ta e1 e2) τ A B := v_mIf q
theorem w_chain {A : D → Tau → Prop} (q : Rm a τ (fun x τ1 => Rm b τ1 (fun y τ2 => ∃ t, f x y = some (.fz (.bl t)) ∧ if t = true then Rm cc τ2 (fun z τ3 => ∃ d, g y z = some (.fz d) ∧ A (d) τ3) B else A ((.bl false)) τ2) B) B) : Rm (mChain f g a b cc) τ A B := v_chain q
theorem w_itD {A : (List D) → Tau → Prop} (q : Rm a τ (fun x τ1 => ∃ l, itemsD x = some l ∧ A (l) τ1) B) : Rm (itD a) τ A B := v_itD q
theorem w_itEn {A : (List D) → Tau → Prop} (q : Rm a τ (fun x τ1 => ∃ l, itemsD x = some l ∧ A ((enumL l)) τ1) B) : Rm (itEn a) τ A B := v_itEn q
theorem w_itR1 {A : (List D) → Tau → Prop} (q : Rm a τ (fun x τ1 => ∃ m, x = .int m ∧ (-(2 ^ 62) ≤ m ∧ m < 2 ^ 62) ∧ A ((rangeL 0 m.toNat)) τ1) B) : Rm (itR1 a) τ A B := v_itR1 q
theorem w_itR2 {A : (List D) → Tau → Prop} (q : Rm a τ (fun x τ1 => Rm b τ1 (fun y τ2 => ∃ m k, x = .int m ∧ y = .int k ∧ (-(2 ^ 62) ≤ m ∧ m < 2 ^ 62 ∧ -(2 ^ 62) ≤ k ∧ k < 2 ^ 62) ∧ A ((rangeL m (k - m).toNat)) τ2) B) B) : Rm (itR2 a b) τ A B := v_itR2 q
theorem w_itZip {A : (List D) → Tau → Prop} (q : Rm a τ (fun x τ1 => Rm b τ1 (fun y τ2 => ∃ l m, itemsD x = some l ∧ itemsD y = some m ∧ A ((zipL l m)) τ2) B) B) : Rm (itZip a b) τ A B := v_itZip q
theorem w_rnil {A : (List Arg) → Tau → Prop} (q : A ([]) τ) : Rm rNil τ A B := v_rnil q
theorem w_rD {A : (List Arg) → Tau → Prop} (q : Rm a τ (fun x τ1 => Rm ra τ1 (fun xs τ2 => A ((.d x :: xs)) τ2) B) B) : Rm (rD a ra) τ A B := v_rD q
theorem w_rN {A : (List Arg) → Tau → Prop} (e : τ[i]? = some (some (.fz d))) (q : Rm ra τ (fun xs τ2 => A ((.d d :: xs)) τ2) B) : Rm (rN i ra) τ A B := v_rN e q
theorem w_rO {A : (List Arg) → Tau → Prop} (e : τ[i]? = some (some (.mu h l))) (q : Rm ra τ (fun xs τ2 => A ((.n i :: xs)) τ2) B) : Rm (rN i ra) τ A B := v_rO e q
theorem w_call {A : SV → Tau → Prop} {F : Fn} (q : Rm ra τ (fun args τ1 => Rc F args τ1 A B) B) : Rm (mCall F ra) τ A B := v_call q
theorem w_make {A : SV → Tau → Prop} {F : Fn} (q : Rm ra τ (fun args τ1 => Rk c F args τ1 A B) B) : Rm (mMake c F ra) τ A B := v_make q
theorem w_sNx (q : N τ) : Ru sNx τ N Qf := v_sNx q
theorem w_sBk (q : Qf .bk τ) : Ru sBk τ N Qf := v_sBk q
theorem w_sCt (q : Qf .ct τ) : Ru sCt τ N Qf := v_sCt q
theorem w_raise (q : Qf (.ex c [] []) τ) : Ru (sRaise c) τ N Qf := v_raise q
theorem w_seq (q : Ru sa τ (fun τ1 => Ru sb τ1 N Qf) Qf) : Ru (sSeq sa sb) τ N Qf := v_seq (by
  obtain ⟨fl, τ', e, q⟩ := q
  refine ⟨fl, τ', e, ?_⟩
  cases fl <;> exact q)
theorem w_set (q : Rm e1 τ (fun s τ1 => N (τ1.set i (some s))) (exQ Qf)) : Ru (sSet i e1) τ N Qf := v_set q
theorem w_drop (q : Rm a τ (fun s τ1 => N τ1) (exQ Qf)) : Ru (sDrop a) τ N Qf := v_drop q
theorem w_sret (q : Rm e1 τ (fun s τ1 => Qf (.rt s) τ1) (exQ Qf)) : Ru (sRet e1) τ N Qf := v_sret q
theorem w_sretN (q : Qf (.rt (.fz .non)) τ) : Ru sRetN τ N Qf := v_sretN q
theorem w_sif (q : Rm ta τ (fun t τ1 => if t = true then Ru sa τ1 N Qf else Ru sb τ1 N Qf) (exQ Qf)) : Ru (sIf ta sa sb) τ N Qf := v_sif q
theorem w_par (q : Rm a τ (fun x τ1 => Rm b τ1 (fun y τ2 => N ((τ2.set i (some (.fz x))).set j (some (.fz y)))) (exQ Qf)) (exQ Qf)) : Ru (sPar i j a b) τ N Qf := v_par q
theorem w_asg {t : TD} (q : Rm a τ (fun x τ1 => ∃ τ2, t x τ1 = some τ2 ∧ N τ2) (exQ Qf)) : Ru (sAsg t a) τ N Qf := v_asg q
theorem w_aug {fi : D → D → Option D} {x : D} (e : τ[i]? = some (some (.fz x))) (q : Rm a τ (fun y τ1 => ∃ d, fi x y = some d ∧ N (τ1.set i (some (.fz d)))) (exQ Qf)) : Ru (sAug i fi a) τ N Qf := v_aug e q
theorem w_mut {A : D → Tau → Prop} {T : String} {fm : Hd → List SV → List D → Option (Hd × List SV × D)} (e : τ[i]? = some (some (.mu h l))) (hT : hdTy h = T) (q : Rm la τ (fun ds τ1 => ∃ h1 l1 h2 l2 d, τ1[i]? = some (some (.mu h1 l1)) ∧ fm h1 l1 ds = some (h2, l2, d) ∧ A (d) (τ1.set i (some (.mu h2 l2)))) B) : Rm (mMut T fm i la) τ A B := v_mut e hT q
theorem w_put (q : Rm a τ (fun d τ1 => ∃ h0 l0, τ1[i]? = some (some (.mu h0 l0)) ∧ Rm b τ1 (fun k τ2 => ∃ h1 l1 h2 l2, τ2[i]? = some (some (.mu h1 l1)) ∧ setSV h1 l1 k d = some (h2, l2) ∧ N (τ2.set i (some (.mu h2 l2)))) (exQ Qf)) (exQ Qf)) : Ru (mPut i a b) τ N Qf := v_put q
theorem w_fldS {cs : List Nat} {fl : Str} (q : Rm e1 τ (fun s τ1 => ∃ c fs l, τ1[i]? = some (some (.mu (.ins c fs) l)) ∧ (c ∈ cs ∧ fs.length < 1000) ∧ N (τ1.set i (some (.mu (.ins c (putSf fs l fl s).1) (putSf fs l fl s).2)))) (exQ Qf)) : Ru (VS.sFld i cs fl e1) τ N Qf := v_fldS q
theorem w_for {it : CM (List D)} {t : TD} (q : Rm it τ (fun l τ1 => Ru (sLoop t sa l) τ1 N Qf) (exQ Qf)) : Ru (sFor it t sa) τ N Qf := v_for q
theorem w_lc {A : SV → Tau → Prop} {vs : List Nat} {it : CM (List D)} {t : TD} (q : Rm it τ (fun l τ1 => ∃ out τ2, lcGo t ta a vs l [] τ1 = some (out, τ2) ∧ A ((.mu .lst (out.map .fz))) τ2) B) : Rm (mLc vs it t ta a) τ A B := v_lc q
theorem w_seqM (M : Tau → Prop) (h1 : Ru sa τ M Qf) (h2 : ∀ τ', M τ' → Ru sb τ' N Qf) : Ru (sSeq sa sb) τ N Qf := w_seq (w_mid M h1 h2)
/-- gives v and leaves its arguments as they are -/
def Ret (F : Fn) (args : List SV) (v : SV) : Prop := RunF F args fun r os => r = .ok v ∧ os = args
theorem w_ret {F : Fn} {as : List Arg} {svs : List SV} {v : SV} {A : SV → Tau → Prop} (ho : once (lent as) = true) (hv : svsOf τ as = some svs) (hr : Ret F svs v) (hl : svs.length = as.length) (q : A v (wb (lent as) svs τ)) : Rc F as τ A B := w_callC ho hv (RunF.mono hr fun r os ⟨h1, h2⟩ => by
  subst h1 h2
  exact ⟨hl, q⟩)
theorem w_run {F : Fn} {as : List Arg} {svs : List SV} {A : SV → Tau → Prop} {Q1 : Res SV → List SV → Prop} (ho : once (lent as) = true) (hv : svsOf τ as = some svs) (hr : RunF F svs Q1) (q : ∀ r os, Q1 r os → os.length = as.length ∧ onOk A B r (wb (lent as) os τ)) : Rc F as τ A B := w_callC ho hv (RunF.mono hr q)
theorem w_if {t : Bool} {P Q : Prop} (b : Bool) (h : t = b) (q : if b = true then P else Q) : if t = true then P else Q := by subst h; exact q
theorem w_isiT {A : SV → Tau → Prop} {tb : String → Bool} {cs : List Nat} {cb : Nat → Bool} {n : String} (e : p τ = some s) (h : tyN s.toD = some n) (h2 : tb n = true) (q : A (.fz (.bl true)) τ) : Rm (mIsi (isiF tb cs cb) p) τ A B := ⟨.ok _, τ, by unfold mIsi; rw [e, Option.bind_some]; unfold isiF; rw [h]; dsimp only; rw [h2, Option.bind_some]; rfl, q⟩
theorem w_isiF {A : SV → Tau → Prop} {tb : String → Bool} {cs : List Nat} {cb : Nat → Bool} {n : String} (e : p τ = some s) (h : tyN s.toD = some n) (h2 : tb n = false) (q : A (.fz (.bl false)) τ) : Rm (mIsi (isiF tb cs cb) p) τ A B := ⟨.ok _, τ, by unfold mIsi; rw [e, Option.bind_some]; unfold isiF; rw [h]; dsimp only; rw [h2, Option.bind_some]; rfl, q⟩
/-- an own object -/
def IsMu (s : SV) : Prop := ∃ h l, s = .mu h l
theorem w_rH {A : List Arg → Tau → Prop} (e : τ[i]? = some (some s)) (hm : IsMu s) (q : Rm ra τ (fun xs τ2 => A ((.n i :: xs)) τ2) B) : Rm (rN i ra) τ A B := by
  obtain ⟨h, l, rfl⟩ := hm
  exact w_rO e q
/-- any slot, its content known as data -/
theorem w_varS {A : D → Tau → Prop} (e : τ[i]? = some (some s)) (hd : s.toD = d) (q : A d (τ.set i (some (.fz d)))) : Rm (mVar i) τ A B := by
  subst hd
  cases s with
  | fz x =>
    have he : τ.set i (some (.fz x)) = τ := by
      obtain ⟨hi, e'⟩ := List.getElem?_eq_some_iff.mp e
      rw [← e']
      exact List.set_getElem_self hi
    have q : A x (τ.set i (some (.fz x))) := q
    rw [he] at q
    exact w_var e q
  | mu h l => exact w_varO e q
/-- {n: f(n) for n in texts}, no text twice -/
theorem w_dcS {vs : List Nat} {t : TD} {kx el : CM D} {ns : List Str} {P : List DK → List SV → Tau → Prop} (f : Str → D) (hn : ns.Nodup) (hz : ns.length ≤ sizeLine) (hw : wipeT τ vs = τ) (hs : ∀ n ∈ ns, ∃ τ1, t (.str n) τ = some τ1 ∧ Rm kx τ1 (fun q τ3 => q = .str n ∧ Rm el τ3 (fun y τ4 => y = f n ∧ wipeT τ4 vs = τ) noX) noX) (q : P (ns.map fun n => DK.k (.inr n)) ((ns.map f).map .fz) τ) :
    ∃ ks sl τ2, dcGo t cYes kx el vs (ns.map D.str) ([], []) τ = some ((ks, sl), τ2) ∧ P ks sl τ2 := by
  have key : ∀ (r pre : List Str), (pre ++ r).Nodup → pre.length + r.length ≤ sizeLine → (∀ n ∈ r, n ∈ ns) → dcGo t cYes kx el vs (r.map D.str) ((pre.map fun n => DK.k (.inr n)), ((pre.map f).map .fz)) τ = some ((((pre ++ r).map fun n => DK.k (.inr n)), ((pre ++ r).map f).map .fz), τ) := by
    intro r
    induction r with
    | nil => intro pre _ _ _; rw [List.append_nil]; rfl
    | cons n r ih =>
      intro pre hnd hl hm
      obtain ⟨τ1, ht, r1, τ3, e1, q1⟩ := hs n (hm n List.mem_cons_self)
      cases r1 with
      | ex c fs l => exact False.elim q1
      | ok x =>
        obtain ⟨hx, r2, τ4, e2, q2⟩ := q1
        subst hx
        cases r2 with
        | ex c fs l => exact False.elim q2
        | ok y =>
          obtain ⟨hy, hw4⟩ := q2
          subst hy
          have hni : n ∉ pre := fun hp => (List.nodup_append.mp hnd).2.2 n hp n List.mem_cons_self rfl
          have hc : (pre.map fun n => DK.k (.inr n)).contains (DK.k (.inr n)) = false := by
            refine Bool.eq_false_iff.mpr fun h => hni ?_
            obtain ⟨m, hm', e⟩ := List.mem_map.mp (List.contains_iff_mem.mp h)
            cases e
            exact hm'
          have e3 : putKs (pre.map fun n => DK.k (.inr n)) (.k (.inr n)) = (pre ++ [n]).map fun n => DK.k (.inr n) := by
            unfold putKs
            rw [hc, List.map_append]
            rfl
          have e4 : (putSV (pre.map fun n => DK.k (.inr n)) ((pre.map f).map .fz) (.k (.inr n)) (f n) false).2 = ((pre ++ [n]).map f).map .fz := by
            unfold putSV
            rw [hc, List.map_append, List.map_append]
            rfl
          have := ih (pre ++ [n]) (by rw [List.append_assoc]; exact hnd) (by simp at hl ⊢; omega) fun m hm' => hm m (List.mem_cons_of_mem _ hm')
          rw [List.append_assoc] at this
          show dcGo t cYes kx el vs (D.str n :: r.map D.str) _ τ = _
          unfold dcGo
          rw [hw, ht]
          dsimp only
          rw [show cYes τ1 = some (.ok true, τ1) from rfl]
          dsimp only
          rw [e1]
          dsimp only
          rw [show keyK (.str n) = some (.inr n) from rfl]
          dsimp only
          rw [e2]
          dsimp only
          rw [if_pos (by rw [List.length_map]; simp at hl; omega), e3, e4, hw4]
          exact this
  exact ⟨_, _, τ, key ns [] (by simpa using hn) (by simpa using hz) (fun _ h => h), by simpa using q⟩
end
end VS

/-! ## V2: leaves, and tactics that step -/
namespace VS
open PySem PySem.Spec PyProof.Rows L2
/-- a slice of anything -/
def cutG {α : Type} (xs : List α) (lo hi : Option Int) : List α := (xs.drop (HT.sIx xs.length 0 lo)).take (HT.sIx xs.length xs.length hi - HT.sIx xs.length 0 lo)
theorem cut_map {α : Type} (f : α → D) (xs : List α) (lo hi : Option Int) : VS.cutD (xs.map f) lo hi = (cutG xs lo hi).map f := by
  unfold VS.cutD cutG
  rw [List.length_map, ← List.map_drop, ← List.map_take]
theorem cut_len {α : Type} (l : List α) (lo hi : Option Int) : (cutG l lo hi).length ≤ l.length := by
  unfold cutG
  rw [List.length_take, List.length_drop]
  omega
theorem cut_mem {α : Type} {l : List α} {lo hi : Option Int} {d : α} (h : d ∈ cutG l lo hi) : d ∈ l := by
  unfold cutG at h
  exact List.mem_of_mem_drop (List.mem_of_mem_take h)
section
variable {A : SV → Prop} {i j : Int} {a b : Str} {x y : D} {s : SV} {l m : List D} {f : D → D → Option SV} {f1 : D → Option SV}
theorem v_lf2 (e : f x y = some s) (q : A s) : ∃ s, f x y = some s ∧ A s := ⟨s, e, q⟩
theorem v_outE {pin : List Nat} {τ' : Tau} {n : Nat} {args o : List SV} {A : List SV → Prop} (e : outs pin τ' n args = some o) (q : A o) : ∃ o, outs pin τ' n args = some o ∧ A o := ⟨o, e, q⟩
theorem fuel_le {τ : Tau} {n : Nat} (h : n < (τ.map fuelS).sum + 1099511627776) : n < fuelT τ := by unfold fuelT; exact h
theorem v_lf1 (e : f1 x = some s) (q : A s) : ∃ s, f1 x = some s ∧ A s := ⟨s, e, q⟩
theorem v_addI (q : A (.fz (.int (i + j)))) : ∃ s, addF (.int i) (.int j) = some s ∧ A s := ⟨_, rfl, q⟩
theorem v_addS (h : a.length + b.length ≤ sizeLine) (q : A (.fz (.str (a ++ b)))) : ∃ s, addF (.str a) (.str b) = some s ∧ A s := ⟨_, if_pos h, q⟩
theorem v_addL (h : l.length + m.length ≤ sizeLine) (q : A (.mu .lst ((l ++ m).map .fz))) : ∃ s, addF (.ob .lst l) (.ob .lst m) = some s ∧ A s := ⟨_, if_pos h, q⟩
theorem v_addT (h : l.length + m.length ≤ sizeLine) (q : A (.fz (.tup (l ++ m)))) : ∃ s, addF (.tup l) (.tup m) = some s ∧ A s := ⟨_, if_pos h, q⟩
theorem v_subI (q : A (.fz (.int (i - j)))) : ∃ s, subF (.int i) (.int j) = some s ∧ A s := ⟨_, rfl, q⟩
theorem mulOk_l (h1 : -(2 ^ 64) < i) (h2 : i < 2 ^ 64) : mulOk i j = true := by
  unfold mulOk
  rw [decide_eq_true (⟨h1, h2⟩ : -(2 ^ 64) < i ∧ i < 2 ^ 64)]
  rfl
theorem mulOk_r (h1 : -(2 ^ 64) < j) (h2 : j < 2 ^ 64) : mulOk i j = true := by
  unfold mulOk
  rw [decide_eq_true (⟨h1, h2⟩ : -(2 ^ 64) < j ∧ j < 2 ^ 64)]
  rw [Bool.true_or, Bool.or_true]
theorem v_mulI (h : mulOk i j = true) (q : A (.fz (.int (i * j)))) : ∃ s, mulF (.int i) (.int j) = some s ∧ A s := ⟨_, if_pos h, q⟩
theorem v_mulIl (h1 : -(2 ^ 64) < i) (h2 : i < 2 ^ 64) (q : A (.fz (.int (i * j)))) : ∃ s, mulF (.int i) (.int j) = some s ∧ A s := ⟨_, if_pos (mulOk_l h1 h2), q⟩
theorem v_mulIr (h1 : -(2 ^ 64) < j) (h2 : j < 2 ^ 64) (q : A (.fz (.int (i * j)))) : ∃ s, mulF (.int i) (.int j) = some s ∧ A s := ⟨_, if_pos (mulOk_r h1 h2), q⟩
theorem v_modI (h : 0 < j) (q : A (.fz (.int (i % j)))) : ∃ s, modF (.int i) (.int j) = some s ∧ A s := ⟨_, if_pos h, q⟩
theorem v_divI (h : 0 < j) (h2 : j < 1073741824) (q : A (.fz (.int (i / j)))) : ∃ s, fdivF (.int i) (.int j) = some s ∧ A s := ⟨_, if_pos ⟨h, by unfold divOk; rw [decide_eq_true h2]; rfl⟩, q⟩
theorem v_divIg (h : 0 < j) (h2 : divOk j = true) (q : A (.fz (.int (i / j)))) : ∃ s, fdivF (.int i) (.int j) = some s ∧ A s := ⟨_, if_pos ⟨h, h2⟩, q⟩
theorem v_powI (h : 0 ≤ j) (h2 : j ≤ 1000000) (h3 : i.natAbs < 2 ^ 64) (q : A (.fz (.int (i ^ j.toNat)))) : ∃ s, powF (.int i) (.int j) = some s ∧ A s := ⟨_, if_pos ⟨h, h2, h3⟩, q⟩
theorem v_ltI (q : A (.fz (.bl (decide (i < j))))) : ∃ s, ltF (.int i) (.int j) = some s ∧ A s := ⟨_, rfl, q⟩
theorem v_leI (q : A (.fz (.bl (decide (i ≤ j))))) : ∃ s, leF (.int i) (.int j) = some s ∧ A s := ⟨_, rfl, q⟩
theorem v_gtI (q : A (.fz (.bl (decide (j < i))))) : ∃ s, gtF (.int i) (.int j) = some s ∧ A s := ⟨_, rfl, q⟩
theorem v_geI (q : A (.fz (.bl (decide (j ≤ i))))) : ∃ s, geF (.int i) (.int j) = some s ∧ A s := ⟨_, rfl, q⟩
theorem v_eqI (q : A (.fz (.bl (decide (i = j))))) : ∃ s, eqF (.int i) (.int j) = some s ∧ A s := ⟨_, rfl, q⟩
theorem v_neI (q : A (.fz (.bl (!decide (i = j))))) : ∃ s, neF (.int i) (.int j) = some s ∧ A s := ⟨_, rfl, q⟩
theorem v_eqS (q : A (.fz (.bl (decide (a = b))))) : ∃ s, eqF (.str a) (.str b) = some s ∧ A s := ⟨_, rfl, q⟩
theorem v_neS (q : A (.fz (.bl (!decide (a = b))))) : ∃ s, neF (.str a) (.str b) = some s ∧ A s := ⟨_, rfl, q⟩
theorem v_negI (q : A (.fz (.int (-i)))) : ∃ s, negF (.int i) = some s ∧ A s := ⟨_, rfl, q⟩
theorem v_absI (q : A (.fz (.int (if i < 0 then -i else i)))) : ∃ s, absF (.int i) = some s ∧ A s := ⟨_, rfl, q⟩
theorem v_intI (q : A (.fz (.int i))) : ∃ s, intF (.int i) = some s ∧ A s := ⟨_, rfl, q⟩
theorem v_isiT {tb : String → Bool} {cs : List Nat} {cb : Nat → Bool} {n : String} (h : tyN x = some n) (h2 : tb n = true) (q : A (.fz (.bl true))) : ∃ s, isiF tb cs cb x = some s ∧ A s := ⟨_, by unfold isiF; rw [h]; dsimp only; rw [h2], q⟩
theorem v_isiF {tb : String → Bool} {cs : List Nat} {cb : Nat → Bool} {n : String} (h : tyN x = some n) (h2 : tb n = false) (q : A (.fz (.bl false))) : ∃ s, isiF tb cs cb x = some s ∧ A s := ⟨_, by unfold isiF; rw [h]; dsimp only; rw [h2], q⟩
theorem v_lenS (h : a.length ≤ sizeLine) (q : A (.fz (.int a.length))) : ∃ s, lenF (.str a) = some s ∧ A s := ⟨_, if_pos h, q⟩
theorem v_lenL (q : A (.fz (.int l.length))) : ∃ s, lenF (.ob .lst l) = some s ∧ A s := ⟨_, rfl, q⟩
theorem v_lenT (q : A (.fz (.int l.length))) : ∃ s, lenF (.tup l) = some s ∧ A s := ⟨_, rfl, q⟩
theorem v_lenO (q : A (.fz (.int l.length))) : ∃ s, lenF (.fro l) = some s ∧ A s := ⟨_, rfl, q⟩
theorem v_lenD {t : Bool} {ks : List DK} (q : A (.fz (.int l.length))) : ∃ s, lenF (.ob (.dct t ks) l) = some s ∧ A s := ⟨_, rfl, q⟩
theorem v_sliL {lo hi : Option Int} (q : A (.mu .lst ((cutD l lo hi).map .fz))) : ∃ s, sliceF lo hi (.ob .lst l) = some s ∧ A s := ⟨_, rfl, q⟩
theorem v_sliO {lo hi : Option Int} (q : A (.mu .lst ((cutD l lo hi).map .fz))) : ∃ s, sliceF lo hi (.fro l) = some s ∧ A s := ⟨_, rfl, q⟩
theorem v_sliT {lo hi : Option Int} (q : A (.fz (.tup (cutD l lo hi)))) : ∃ s, sliceF lo hi (.tup l) = some s ∧ A s := ⟨_, rfl, q⟩
theorem v_sliS {lo hi : Option Int} (h : a.length ≤ sizeLine) (q : A (.fz (.str (cutS a lo hi)))) : ∃ s, sliceF lo hi (.str a) = some s ∧ A s := ⟨_, if_pos h, q⟩
theorem v_itmL {A : List D → Prop} (q : A l) : ∃ m, itemsD (.ob .lst l) = some m ∧ A m := ⟨_, rfl, q⟩
theorem v_itmT {A : List D → Prop} (q : A l) : ∃ m, itemsD (.tup l) = some m ∧ A m := ⟨_, rfl, q⟩
theorem v_itmO {A : List D → Prop} (q : A l) : ∃ m, itemsD (.fro l) = some m ∧ A m := ⟨_, rfl, q⟩
theorem v_dName {i : Nat} {d : D} {τ : Tau} {A : Tau → Prop} (q : A (τ.set i (some (.fz d)))) : ∃ τ1, dName i d τ = some τ1 ∧ A τ1 := ⟨_, rfl, q⟩
theorem v_cYes {τ : Tau} {A : Bool → Tau → Prop} {B : Nat → List Str → List D → Tau → Prop} (q : A true τ) : Rm cYes τ A B := ⟨.ok true, τ, rfl, q⟩
theorem v_setL {sl : List SV} {j : Nat} {d : D} {N : Hd → List SV → Prop} (h : ixN sl.length i = some j) (q : N .lst (sl.set j (.fz d))) : ∃ h1 l1 h2 l2, (some (some (SV.mu .lst sl)) : Option (Option SV)) = some (some (.mu h1 l1)) ∧ setSV h1 l1 (.int i) d = some (h2, l2) ∧ N h2 l2 := ⟨_, _, _, _, rfl, by show (ixN sl.length i).map _ = _; rw [h]; rfl, q⟩
theorem v_sz {n : Nat} {P : Prop} (h : n ≤ sizeLine) (q : P) : n ≤ sizeLine ∧ P := ⟨h, q⟩
theorem v_put0 {τ : Tau} {i : Nat} {h : Hd} {sl : List SV} {P : Hd → List SV → Prop} (e : τ[i]? = some (some (.mu h sl))) (q : P h sl) : ∃ h0 l0, τ[i]? = some (some (.mu h0 l0)) ∧ P h0 l0 := ⟨h, sl, e, q⟩
theorem v_put1 {τ : Tau} {i : Nat} {h hh : Hd} {sl ll : List SV} {k d : D} {P : Hd → List SV → Prop} (e : τ[i]? = some (some (.mu h sl))) (e2 : setSV h sl k d = some (hh, ll)) (q : P hh ll) : ∃ h1 l1 h2 l2, τ[i]? = some (some (.mu h1 l1)) ∧ setSV h1 l1 k d = some (h2, l2) ∧ P h2 l2 := ⟨h, sl, hh, ll, e, e2, q⟩
theorem v_itmS {A : List D → Prop} (q : A (a.cps.toList.map fun c => D.str ⟨#[c]⟩)) : ∃ m, itemsD (.str a) = some m ∧ A m := ⟨_, rfl, q⟩
theorem v_op2Rl {τ : Tau} {p : PB} (e1 : bView p τ = some y) (e2 : f x y = some s) (q : A s) : ∃ y s, bView p τ = some y ∧ f x y = some s ∧ A s := ⟨y, s, e1, e2, q⟩
theorem v_inS {τ : Tau} {p : PB} {c : Nat} (e1 : bView p τ = some (.str a)) (q : A (.fz (.bl (decide (c ∈ a.cps.toList))))) : ∃ y s, bView p τ = some y ∧ inF false (.str ⟨#[c]⟩) y = some s ∧ A s := ⟨_, _, e1, rfl, q⟩
theorem v_ninS {τ : Tau} {p : PB} {c : Nat} (e1 : bView p τ = some (.str a)) (q : A (.fz (.bl (!decide (c ∈ a.cps.toList))))) : ∃ y s, bView p τ = some y ∧ inF true (.str ⟨#[c]⟩) y = some s ∧ A s := ⟨_, _, e1, rfl, q⟩
theorem divOk_sm (h : j.natAbs < 2 ^ 9000) : divOk j = true := by
  have : j.natAbs.log2 < 9000 := by
    by_cases z : j.natAbs = 0
    · rw [z]; decide
    · exact (Nat.log2_lt z).mpr h
  unfold divOk
  rw [decide_eq_true this, Bool.or_true]
theorem mulOk_sm {n m : Nat} (h1 : i.natAbs < 2 ^ n) (h2 : j.natAbs < 2 ^ m) (h : n + m < 1000000) : mulOk i j = true := by
  have lg : ∀ {a n : Nat}, a < 2 ^ n → a.log2 ≤ n := fun {a n} h => by
    by_cases z : a = 0
    · subst z; exact Nat.zero_le _
    · exact Nat.le_of_lt ((Nat.log2_lt z).mpr h)
  have := lg h1
  have := lg h2
  unfold mulOk
  rw [decide_eq_true (show i.natAbs.log2 + j.natAbs.log2 < 1000000 by omega), Bool.or_true, Bool.or_true]
theorem v_iteNT {P Q : Prop} (q : P) : if (!false) = true then P else Q := q
theorem v_iteNF {P Q : Prop} (q : Q) : if (!true) = true then P else Q := q
theorem v_app {τ : Tau} {i : Nat} {xs : List D} {d : D} {P : Hd → List SV → D → Prop} (h : xs.length < sizeLine) (e : τ[i]? = some (some (.mu .lst (xs.map .fz)))) (q : P .lst ((xs ++ [d]).map .fz) .non) : ∃ h1 l1 h2 l2 d', τ[i]? = some (some (.mu h1 l1)) ∧ appendM h1 l1 [d] = some (h2, l2, d') ∧ P h2 l2 d' := ⟨.lst, xs.map .fz, _, _, _, e, if_pos (by rw [List.length_map]; exact h), by rw [List.map_append] at q; exact q⟩
theorem v_ext {τ : Tau} {i : Nat} {xs m : List D} {P : Hd → List SV → D → Prop} (h : xs.length + m.length ≤ sizeLine) (e : τ[i]? = some (some (.mu .lst (xs.map .fz)))) (q : P .lst ((xs ++ m).map .fz) .non) : ∃ h1 l1 h2 l2 d', τ[i]? = some (some (.mu h1 l1)) ∧ extendM h1 l1 [.ob .lst m] = some (h2, l2, d') ∧ P h2 l2 d' := ⟨.lst, xs.map .fz, _, _, _, e, if_pos (by rw [List.length_map]; exact h), by rw [List.map_append] at q; exact q⟩
theorem strsD_map' : ∀ ns : List Str, strsD (ns.map D.str) = some ns
  | [] => rfl
  | c :: r => by simp only [List.map_cons, strsD, strsD_map' r, Option.map_some]
theorem v_sorted {ns : List Str} (q : A (.mu .lst (((sortS ns).map D.str).map .fz))) : ∃ s, sorted2F (.ob .lst (ns.map D.str)) = some s ∧ A s := ⟨_, by
  show (match intsD (ns.map D.str) with
    | some ns => some (SV.mu .lst (((sortI ns).map D.int).map .fz))
    | none => (strsD (ns.map D.str)).map fun ns => SV.mu .lst (((sortS ns).map D.str).map .fz)) = _
  cases ns with
  | nil => rfl
  | cons a r =>
    show (strsD ((a :: r).map D.str)).map _ = _
    rw [strsD_map']
    rfl, q⟩
theorem v_rb1 {m : Int} {P : Prop} (h : -(2 ^ 62) ≤ m ∧ m < 2 ^ 62) (q : P) : (-(2 ^ 62) ≤ m ∧ m < 2 ^ 62) ∧ P := ⟨h, q⟩
theorem v_rb2 {P : Int → Int → Prop} (h : -(2 ^ 62) ≤ i ∧ i < 2 ^ 62 ∧ -(2 ^ 62) ≤ j ∧ j < 2 ^ 62) (q : P i j) : ∃ m k, D.int i = .int m ∧ D.int j = .int k ∧ (-(2 ^ 62) ≤ m ∧ m < 2 ^ 62 ∧ -(2 ^ 62) ≤ k ∧ k < 2 ^ 62) ∧ P m k := ⟨i, j, rfl, rfl, h, q⟩
theorem intsD_map' : ∀ ns : List Int, intsD (ns.map D.int) = some ns
  | [] => rfl
  | c :: r => by simp only [List.map_cons, intsD, intsD_map' r, Option.map_some]
theorem v_sortedI {ns : List Int} (q : A (.mu .lst (((sortI ns).map D.int).map .fz))) : ∃ s, sorted2F (.ob .lst (ns.map D.int)) = some s ∧ A s := ⟨_, by
  show (match intsD (ns.map D.int) with
    | some ns => some (SV.mu .lst (((sortI ns).map D.int).map .fz))
    | none => (strsD (ns.map D.int)).map fun ns => SV.mu .lst (((sortS ns).map D.str).map .fz)) = _
  rw [intsD_map'], q⟩
theorem v_sum {ns : List Int} (q : A (.fz (.int ns.sum))) : ∃ s, sumF (.ob .lst (ns.map D.int)) = some s ∧ A s := ⟨_, by
  show (intsD (ns.map D.int)).map _ = _
  rw [intsD_map']
  rfl, q⟩
theorem bsD_map' : ∀ ns : List Bool, bsD (ns.map D.bl) = some ns
  | [] => rfl
  | c :: r => by simp only [List.map_cons, bsD, bsD_map' r, Option.map_some]
theorem v_all {ns : List Bool} (q : A (.fz (.bl (ns.all id)))) : ∃ s, allF (.ob .lst (ns.map D.bl)) = some s ∧ A s := ⟨_, by
  show (bsD (ns.map D.bl)).map _ = _
  rw [bsD_map']
  rfl, q⟩
theorem putSf_new {s : SV} {fl : Str} : ∀ (fs : List Str) (l : List SV), fl ∉ fs → fs.length = l.length → putSf fs l fl s = (fs ++ [fl], l ++ [s])
  | [], [], _, _ => rfl
  | [], _ :: _, _, h => by cases h
  | _ :: _, [], _, h => by cases h
  | f :: fs, x :: l, hn, h => by
    unfold putSf
    rw [if_neg (fun e => hn (by rw [e]; exact List.mem_cons_self)), putSf_new fs l (fun m => hn (List.mem_cons_of_mem _ m)) (by simpa using h)]
    rfl
theorem v_fldN {τ : Tau} {i c : Nat} {cs : List Nat} {fs : List Str} {sl : List SV} {P : Nat → List Str → List SV → Prop} (e : τ[i]? = some (some (.mu (.ins c fs) sl))) (hc : c ∈ cs) (hl : fs.length < 1000) (q : P c fs sl) : ∃ c fs l, τ[i]? = some (some (.mu (.ins c fs) l)) ∧ (c ∈ cs ∧ fs.length < 1000) ∧ P c fs l := ⟨c, fs, sl, e, ⟨hc, hl⟩, q⟩
theorem v_iteT {P Q : Prop} (q : P) : if true = true then P else Q := q
theorem v_iteF {P Q : Prop} (q : Q) : if false = true then P else Q := q
theorem v_ite {t : Bool} {P Q : Prop} (h1 : t = true → P) (h2 : t = false → Q) : if t = true then P else Q := by
  cases t with
  | true => exact h1 rfl
  | false => exact h2 rfl
theorem v_iteD {p : Prop} [Decidable p] {P Q : Prop} (h1 : p → P) (h2 : ¬ p → Q) : if decide p = true then P else Q := v_ite (fun h => h1 (of_decide_eq_true h)) fun h => h2 (of_decide_eq_false h)
theorem v_iteN {p : Prop} [Decidable p] {P Q : Prop} (h1 : ¬ p → P) (h2 : p → Q) : if (!decide p) = true then P else Q := v_ite (fun h => h1 (by simpa using h)) fun h => h2 (by simpa using h)
theorem toD_fz (d : D) : SV.toD (.fz d) = d := rfl
theorem toD_mu (h : Hd) (l : List D) : SV.toD (.mu h (l.map .fz)) = .ob h l := congrArg (D.ob h) (toDs_fz l)
theorem toD_mu' (h : Hd) (l : List SV) : SV.toD (.mu h l) = .ob h (toDs l) := rfl
theorem toDs_nil : toDs [] = [] := rfl
theorem toDs_cons (d : D) (l : List SV) : toDs (.fz d :: l) = d :: toDs l := rfl
theorem view_fz (d : D) : SV.view (.fz d) = some d := rfl
theorem view_mu (h : Hd) (l : List D) : SV.view (.mu h (l.map .fz)) = some (.ob h l) := by
  show (allFz (l.map SV.fz)).map (D.ob h) = _
  rw [allFz_map]; rfl
theorem view_of {τ : Tau} {i : Nat} {d : D} (h : τ[i]? = some (some (.fz d))) : bView (bVar i) τ = some d := by unfold bView bVar; rw [h]; rfl
theorem view_ofL {τ : Tau} {i : Nat} {h : Hd} {l : List D} (e : τ[i]? = some (some (.mu h (l.map .fz)))) : bView (bVar i) τ = some (.ob h l) := by unfold bView bVar; rw [e]; exact view_mu h l
theorem view_B {τ : Tau} {p : PB} {d : D} (h : p τ = some (.fz d)) : bView p τ = some d := by unfold bView; rw [h]; rfl
theorem atI_pos {α : Type} {xs : List α} {n : Nat} {x : α} (h : xs[n]? = some x) : L2.atI xs (n : Int) = some x := by
  have hl : n < xs.length := by
    rcases Nat.lt_or_ge n xs.length with h2 | h2
    · exact h2
    · rw [List.getElem?_eq_none h2] at h; cases h
  unfold L2.atI L2.ixN
  rw [if_pos (Int.natCast_nonneg n), if_pos (by omega), Option.bind_some]
  exact h
/-- x[i] of a slot that holds an own list -/
theorem bIx_L {τ : Tau} {k : Nat} {l : List SV} {p : PB} {i : Int} {s : SV} (e : τ[k]? = some (some (.mu .lst l))) (hp : p τ = some (.fz (.int i))) (h : L2.atI l i = some s) : bIx (bVar k) p τ = some s := by
  unfold bIx
  rw [show bVar k τ = some (.mu .lst l) by unfold bVar; rw [e]; rfl, Option.bind_some, hp, Option.bind_some]
  exact h
theorem bIx_S {τ : Tau} {o p : PB} {z : Str} {i : Int} {c : Nat} (e : o τ = some (.fz (.str z))) (hp : p τ = some (.fz (.int i))) (hz : z.length ≤ sizeLine) (h : L2.atI z.cps.toList i = some c) : bIx o p τ = some (.fz (.str ⟨#[c]⟩)) := by
  unfold bIx
  rw [e, Option.bind_some, hp, Option.bind_some]
  show (if z.length ≤ sizeLine then (L2.atI z.cps.toList i).map fun c => SV.fz (.str ⟨#[c]⟩) else none) = _
  rw [if_pos hz, h]
  rfl
theorem bIx_F {τ : Tau} {o p : PB} {x k : D} {s : SV} (e : o τ = some (.fz x)) (hp : p τ = some (.fz k)) (h : ixF x k = some s) : bIx o p τ = some s := by
  unfold bIx
  rw [e, Option.bind_some, hp, Option.bind_some]
  exact h
theorem ixF_L {i : Int} {d : D} (h : L2.atI l i = some d) : ixF (.ob .lst l) (.int i) = some (.fz d) := by
  show ((seqD (.ob .lst l)).bind fun l => (L2.atI l i).map SV.fz) = _
  rw [show seqD (.ob .lst l) = some l from rfl, Option.bind_some, h]
  rfl
theorem ixF_T {i : Int} {d : D} (h : L2.atI l i = some d) : ixF (.tup l) (.int i) = some (.fz d) := by
  show ((seqD (.tup l)).bind fun l => (L2.atI l i).map SV.fz) = _
  rw [show seqD (.tup l) = some l from rfl, Option.bind_some, h]
  rfl
theorem ixF_D {ks : List DK} {z : Str} {d : D} (h : dLook ks l (.k (.inr z)) = some d) : ixF (.ob (.dct false ks) l) (.str z) = some (.fz d) := by
  show ((lookF false ks l (.str z)).bind id).map SV.fz = _
  rw [show lookF false ks l (.str z) = some (dLook ks l (.k (.inr z))) from rfl, h]
  rfl
end
end VS

/-! ## V3: stepping of what S23 to S27 bring -/
namespace VS
open PySem PySem.Spec PyProof.Rows L2
section
variable {α : Type} {A : SV → Tau → Prop} {B : Nat → List Str → List D → Tau → Prop} {N : Tau → Prop} {Qf : Fl → Tau → Prop} {τ τ1 : Tau} {i j : Nat} {π : List Nat} {h h' : Hd} {l l' : List SV} {s s0 : SV} {ds : List D} {k : D} {m : CM SV} {a : CM D} {P : SV → Prop}
theorem w_mutP {T : String} {f : Hd → List SV → List SV → Option (Hd × List SV × SV)} {o : PO} {as : PBs} (ho : o τ = some (i, π)) (e : slotS τ i = some s0) (sub : subAt π s0 = some (.mu h l)) (hT : hdTy h = T) (ha : as τ = some ds) (hf : f h l (ds.map .fz) = some (h', l', s))
    (q : A s (τ.set i (some (putAt π (.mu h' l') s0)))) : Rm (mMutP T f o as) τ A B := ⟨.ok s, _, by
  unfold mMutP
  rw [ho, Option.bind_some]
  dsimp only
  rw [e, Option.bind_some, sub]
  dsimp only
  rw [if_pos hT, ha, Option.bind_some, hf]
  rfl, q⟩
theorem w_putO {o : PO} {kk : KM} (q : Rm m τ (fun s τ1 => ∃ i π s0 h l kd h' l', o τ1 = some (i, π) ∧ slotS τ1 i = some s0 ∧ subAt π s0 = some (.mu h l) ∧ kk τ1 = some kd ∧ setSVO h l kd s = some (h', l') ∧ N (τ1.set i (some (putAt π (.mu h' l') s0)))) (exQ Qf)) : Ru (sPutO o kk m) τ N Qf := by
  obtain ⟨r, τ', e, q⟩ := q
  cases r with
  | ok x =>
    obtain ⟨i, π, s0, h, l, kd, h', l', e1, e2, e3, e4, e5, q⟩ := q
    refine ⟨.nx, _, ?_, q⟩
    unfold sPutO sE
    rw [e]
    dsimp only
    rw [e1, Option.bind_some]
    dsimp only
    rw [e2, Option.bind_some, e3]
    dsimp only
    rw [e4, Option.bind_some, e5]
    rfl
  | ex c fs ls =>
    refine ⟨.ex c fs ls, τ', ?_, q⟩
    unfold sPutO sE
    rw [e]
/-- a loop over a slot's dict: no error may come out of it -/
theorem w_forN {kd : Nat} {t : TD} {b : SC} {tt : Bool} {ks : List DK} {ls items : List D} (hτ : frzT i τ = τ1) (hi : τ1[i]? = some (some (.fz (.ob (.dct tt ks) ls)))) (hw : walkD kd tt ks ls = some items)
    (q : Ru (sLoop t b items) τ1 N fun fl τ => (∀ c fs l, fl ≠ .ex c fs l) ∧ Qf fl τ) : Ru (sForN kd i t b) τ N Qf := by
  obtain ⟨r, τ', e, q⟩ := q
  have e2 : sFor (itN kd i) t b (frzT i τ) = some (r, τ') := by
    rw [hτ]
    unfold sFor sE itN
    rw [hi]
    dsimp only
    rw [hw]
    exact e
  cases r with
  | ex c fs ls => exact absurd rfl (q.1 c fs ls)
  | nx => exact ⟨.nx, τ', by unfold sForN; rw [e2], q⟩
  | bk => exact ⟨.bk, τ', by unfold sForN; rw [e2], q.2⟩
  | ct => exact ⟨.ct, τ', by unfold sForN; rw [e2], q.2⟩
  | rt s => exact ⟨.rt s, τ', by unfold sForN; rw [e2], q.2⟩
theorem w_mN {tt : Bool} {ks : List DK} {ls : List D} (hi : τ[i]? = some (some s)) (hd : s.toD = .ob (.dct tt ks) ls) (hτ : frzT i τ = τ1) (q : Rm m τ1 A noX) : Rm (mN i m) τ A B := by
  obtain ⟨r, τ', e, q⟩ := q
  cases r with
  | ex c fs ls => exact q.elim
  | ok x =>
    refine ⟨.ok x, τ', ?_, q⟩
    unfold mN
    rw [hi]
    dsimp only
    rw [hd]
    dsimp only
    rw [hτ, e]
theorem w_itN {kd : Nat} {C : List D → Tau → Prop} {tt : Bool} {ks : List DK} {ls items : List D} (hi : τ[i]? = some (some (.fz (.ob (.dct tt ks) ls)))) (hw : walkD kd tt ks ls = some items) (q : C items τ) : Rm (itN kd i) τ C B := ⟨.ok items, τ, by
  unfold itN
  rw [hi]
  dsimp only
  rw [hw]
  rfl, q⟩
theorem w_dispK {z : Key} (q : Rm a τ (fun d τ1 => A (.mu (.dct false [.k z]) [.fz d]) τ1) B) : Rm (mDispK z a) τ A B := v_bnd (by
  obtain ⟨r, τ', e, q⟩ := q
  refine ⟨r, τ', e, ?_⟩
  cases r with
  | ok d => exact v_ret q
  | ex c fs ls => exact q)
theorem w_meth {c : Nat} {nm : Str} {F : Fn} {as : CM (List Arg)} {fs : List Str} (hi : τ[i]? = some (some s)) (hc : insOf s = some (c, fs)) (hn : nm ∉ fs) (q : Rm (mCall F (rN i as)) τ A B) : Rm (mMeth c nm F i as) τ A B := by
  obtain ⟨r, τ', e, q⟩ := q
  refine ⟨r, τ', ?_, q⟩
  unfold mMeth
  rw [hi]
  dsimp only
  rw [hc]
  dsimp only
  rw [if_pos ⟨rfl, hn⟩]
  exact e
end
section
variable {A : SV → Prop} {i j : Int} {l : List D} {a : Str}
theorem v_chL {P : Bool → Prop} (h : i ≤ j) (q : P true) : ∃ t, leF (.int i) (.int j) = some (.fz (.bl t)) ∧ P t := ⟨true, by rw [← decide_eq_true h]; rfl, q⟩
theorem v_chR {P : D → Prop} (h : i ≤ j) (q : P (.bl true)) : ∃ d, leF (.int i) (.int j) = some (.fz d) ∧ P d := ⟨.bl true, by rw [← decide_eq_true h]; rfl, q⟩
theorem v_zips {x y : D} {l m : List D} {P : List D → List D → Prop} (h1 : itemsD x = some l) (h2 : itemsD y = some m) (q : P l m) : ∃ l m, itemsD x = some l ∧ itemsD y = some m ∧ P l m := ⟨l, m, h1, h2, q⟩
theorem v_maxI (q : A (.fz (.int (if j > i then j else i)))) : ∃ s, maxF (.int i) (.int j) = some s ∧ A s := ⟨_, rfl, q⟩
theorem v_minI (q : A (.fz (.int (if j < i then j else i)))) : ∃ s, minF (.int i) (.int j) = some s ∧ A s := ⟨_, rfl, q⟩
theorem v_maxL {ns : List Int} (hn : ns ≠ []) (q : A (.fz (.int (maxL ns)))) : ∃ s, maxLF (.ob .lst (ns.map D.int)) = some s ∧ A s := ⟨_, by
  show (intsD (ns.map D.int)).bind _ = _
  rw [intsD_map', Option.bind_some, if_neg hn], q⟩
theorem v_minL {ns : List Int} (hn : ns ≠ []) (q : A (.fz (.int (minL ns)))) : ∃ s, minLF (.ob .lst (ns.map D.int)) = some s ∧ A s := ⟨_, by
  show (intsD (ns.map D.int)).bind _ = _
  rw [intsD_map', Option.bind_some, if_neg hn], q⟩
theorem v_rev (q : A (.mu .lst (l.reverse.map .fz))) : ∃ s, revF (.ob .lst l) = some s ∧ A s := ⟨_, rfl, q⟩
theorem v_revS (h : a.length ≤ sizeLine) (q : A (.fz (.str (revS a)))) : ∃ s, revF (.str a) = some s ∧ A s := ⟨_, if_pos h, q⟩
theorem v_index {b : Str} {n : Nat} (h : sIndex a b = some n) (q : A (.fz (.int (n : Nat)))) : ∃ s, sindexF (.str a) (.str b) = some s ∧ A s := ⟨_, by
  show (sIndex a b).map _ = _
  rw [h]
  rfl, q⟩
end
section
variable {N : Tau → Prop} {Q : Fl → Tau → Prop} {τ : Tau} {sa : SC}
/-- the ways of an if join -/
theorem w_ifM {t : Bool} {sb : SC} {τ2 : Tau} (M : Tau → Prop) (h1 : if t = true then Ru sa τ M Q else Ru sb τ2 M Q) (h2 : ∀ τ', M τ' → N τ') : if t = true then Ru sa τ N Q else Ru sb τ2 N Q := by
  cases t with
  | true => exact w_mid M h1 h2
  | false => exact w_mid M h1 h2
/-- a loop over enumerate -/
theorem w_loopE {X : Type} {t : TD} {xs : List X} {e : X → D} (Pv : Nat → Tau → Prop) (h0 : Pv 0 τ) (hs : ∀ i x τ, xs[i]? = some x → Pv i τ → ∃ τ1, t (.tup [.int (i : Nat), e x]) τ = some τ1 ∧ Ru sa τ1 (Pv (i + 1)) (inLp (Pv (i + 1)) N Q)) (hd : ∀ τ, Pv xs.length τ → N τ) : Ru (sLoop t sa (enumL (xs.map e))) τ N Q := w_loop Pv h0 (fun i d τ h p => by
  have hl : i < (enumL (xs.map e)).length := (List.getElem?_eq_some_iff.mp h).1
  rw [enumL_len, List.length_map] at hl
  have hx : xs[i]? = some xs[i] := List.getElem?_eq_getElem hl
  have := enumL_at (l := xs.map e) (i := i) (d := e xs[i]) (by rw [List.getElem?_map, hx]; rfl)
  rw [h] at this
  rw [Option.some.inj this]
  exact hs i _ τ hx p) (by rw [enumL_len, List.length_map]; exact hd)
/-- a loop over zip -/
theorem w_loopZ {X Y : Type} {t : TD} {xs : List X} {ys : List Y} {e : X → D} {f : Y → D} (hl : xs.length = ys.length) (Pv : Nat → Tau → Prop) (h0 : Pv 0 τ) (hs : ∀ i x y τ, xs[i]? = some x → ys[i]? = some y → Pv i τ → ∃ τ1, t (.tup [e x, f y]) τ = some τ1 ∧ Ru sa τ1 (Pv (i + 1)) (inLp (Pv (i + 1)) N Q)) (hd : ∀ τ, Pv xs.length τ → N τ) : Ru (sLoop t sa (zipL (xs.map e) (ys.map f))) τ N Q := w_loop Pv h0 (fun i d τ h p => by
  have hi : i < (zipL (xs.map e) (ys.map f)).length := (List.getElem?_eq_some_iff.mp h).1
  rw [zipL_len, List.length_map, List.length_map] at hi
  have hx : xs[i]? = some xs[i] := List.getElem?_eq_getElem (by omega)
  have hy : ys[i]? = some ys[i] := List.getElem?_eq_getElem (by omega)
  have := zipL_at (l := xs.map e) (m := ys.map f) (i := i) (d := e xs[i]) (e := f ys[i]) (by rw [List.getElem?_map, hx]; rfl) (by rw [List.getElem?_map, hy]; rfl)
  rw [h] at this
  rw [Option.some.inj this]
  exact hs i _ _ τ hx hy p) (by rw [zipL_len, List.length_map, List.length_map, ← hl, Nat.min_self]; exact hd)
end
section
variable {A : SV → Prop} {τ : Tau} {p : PB} {i j : Int}
theorem v_neR (e1 : bView p τ = some (.int j)) (q : A (.fz (.bl (!decide (i = j))))) : ∃ y s, bView p τ = some y ∧ neF (.int i) y = some s ∧ A s := ⟨_, _, e1, rfl, q⟩
theorem v_eqR (e1 : bView p τ = some (.int j)) (q : A (.fz (.bl (decide (i = j))))) : ∃ y s, bView p τ = some y ∧ eqF (.int i) y = some s ∧ A s := ⟨_, _, e1, rfl, q⟩
end
/-- a dict made of things, no key twice -/
theorem w_dcX {X : Type} {τ : Tau} {vs : List Nat} {t : TD} {kx el : CM D} {xs : List X} {e : X → D} {P : List DK → List SV → Tau → Prop} (τ2 : Tau) (kf : X → Key) (f : X → D) (hn : (xs.map kf).Nodup) (hz : xs.length ≤ sizeLine) (hw : wipeT τ vs = τ2) (hw2 : wipeT τ2 vs = τ2) (hs : ∀ x ∈ xs, ∃ τ1, t (e x) τ2 = some τ1 ∧ Rm kx τ1 (fun q τ3 => keyK q = some (kf x) ∧ Rm el τ3 (fun y τ4 => y = f x ∧ wipeT τ4 vs = τ2) noX) noX) (q : ∀ τ3, (τ3 = τ2 ∨ τ3 = τ) → P (xs.map fun x => DK.k (kf x)) ((xs.map f).map .fz) τ3) :
    ∃ ks sl τ3, dcGo t cYes kx el vs (xs.map e) ([], []) τ = some ((ks, sl), τ3) ∧ P ks sl τ3 := by
  have key : ∀ (r pre : List X) (τ : Tau), wipeT τ vs = τ2 → ((pre ++ r).map kf).Nodup → pre.length + r.length ≤ sizeLine → (∀ n ∈ r, n ∈ xs) → ∃ τ3, (τ3 = τ2 ∨ τ3 = τ) ∧ dcGo t cYes kx el vs (r.map e) ((pre.map fun n => DK.k (kf n)), ((pre.map f).map .fz)) τ = some ((((pre ++ r).map fun n => DK.k (kf n)), ((pre ++ r).map f).map .fz), τ3) := by
    intro r
    induction r with
    | nil => intro pre τ _ _ _ _; rw [List.append_nil]; exact ⟨τ, .inr rfl, rfl⟩
    | cons n r ih =>
      intro pre τ hwt hnd hl hm
      obtain ⟨τ1, ht, r1, τ3, e1, q1⟩ := hs n (hm n List.mem_cons_self)
      cases r1 with
      | ex c fs l => exact False.elim q1
      | ok x =>
        obtain ⟨hx, r2, τ4, e2, q2⟩ := q1
        cases r2 with
        | ex c fs l => exact False.elim q2
        | ok y =>
          obtain ⟨hy, hw4⟩ := q2
          subst hy
          have hni : kf n ∉ pre.map kf := fun hp => by
            rw [List.map_append] at hnd
            exact (List.nodup_append.mp hnd).2.2 _ hp (kf n) (by rw [List.map_cons]; exact List.mem_cons_self) rfl
          have hc : (pre.map fun n => DK.k (kf n)).contains (DK.k (kf n)) = false := by
            refine Bool.eq_false_iff.mpr fun h => hni ?_
            obtain ⟨m, hm', e⟩ := List.mem_map.mp (List.contains_iff_mem.mp h)
            rw [DK.k.injEq] at e
            rw [← e]
            exact List.mem_map.mpr ⟨m, hm', rfl⟩
          have e3 : putKs (pre.map fun n => DK.k (kf n)) (.k (kf n)) = (pre ++ [n]).map fun n => DK.k (kf n) := by
            unfold putKs
            rw [hc, List.map_append]
            rfl
          have e4 : (putSV (pre.map fun n => DK.k (kf n)) ((pre.map f).map .fz) (.k (kf n)) (f n) false).2 = ((pre ++ [n]).map f).map .fz := by
            unfold putSV
            rw [hc, List.map_append, List.map_append]
            rfl
          obtain ⟨τ5, h5, this⟩ := ih (pre ++ [n]) τ2 hw2 (by rw [List.append_assoc]; exact hnd) (by simp at hl ⊢; omega) fun m hm' => hm m (List.mem_cons_of_mem _ hm')
          rw [List.append_assoc] at this
          refine ⟨τ5, .inl (by rcases h5 with h | h <;> exact h), ?_⟩
          show dcGo t cYes kx el vs (e n :: r.map e) _ τ = _
          unfold dcGo
          rw [hwt, ht]
          dsimp only
          rw [show cYes τ1 = some (.ok true, τ1) from rfl]
          dsimp only
          rw [e1]
          dsimp only
          rw [hx]
          dsimp only
          rw [e2]
          dsimp only
          rw [if_pos (by rw [List.length_map]; simp at hl; omega), e3, e4, hw4]
          exact this
  obtain ⟨τ3, h3, k⟩ := key xs [] τ hw (by simpa using hn) (by simpa using hz) (fun _ h => h)
  exact ⟨_, _, τ3, k, by simpa using q τ3 h3⟩
/-- two generators over what is made of things -/
theorem w_lc2X {X Y : Type} {τ : Tau} {a : CM D} {vs vs1 : List Nat} {t t1 : TD} {it1 : CM (List D)} {xs : List X} {e : X → D} {P : List D → Tau → Prop} (ys : X → List Y) (f : X → Y → D) (g : X → Y → D) (hw : wipeT τ vs = τ) (hz : (xs.flatMap fun x => (ys x).map (g x)).length ≤ sizeLine)
    (hs : ∀ x ∈ xs, ∃ τ1, t (e x) τ = some τ1 ∧ Rm it1 τ1 (fun l τ2 => l = (ys x).map (f x) ∧ wipeT τ2 vs1 = τ2 ∧ wipeT τ2 vs = τ ∧ ∀ y ∈ ys x, ∃ τ3, t1 (f x y) τ2 = some τ3 ∧ Rm a τ3 (fun d τ4 => d = g x y ∧ wipeT τ4 vs1 = τ2) noX) noX)
    (q : P (xs.flatMap fun x => (ys x).map (g x)) τ) : ∃ out τ3, lc2Go t it1 t1 a vs vs1 (xs.map e) [] τ = some (out, τ3) ∧ P out τ3 := by
  obtain ⟨out, τ3, h1, h2, h3⟩ := w_lc2Go (τ := τ) (t := t) (it1 := it1) (t1 := t1) (a := a) (vs := vs) (vs1 := vs1) (items := xs.map e) (acc0 := []) (fun i acc τ' => acc = ((xs.take i).flatMap fun x => (ys x).map (g x)) ∧ τ' = τ) ⟨rfl, rfl⟩ (by
    rintro i d acc τ' hd ⟨rfl, rfl⟩
    rw [List.getElem?_map] at hd
    obtain ⟨x, hx, rfl⟩ := Option.map_eq_some_iff.mp hd
    obtain ⟨τ1, ht, r, τ2, e1, q1⟩ := hs x (List.mem_of_getElem? hx)
    refine ⟨τ1, by rw [hw]; exact ht, r, τ2, e1, ?_⟩
    cases r with
    | ex c fs l => exact q1
    | ok l =>
      obtain ⟨rfl, w1, w2, k⟩ := q1
      have hle : ((xs.take i).flatMap fun x => (ys x).map (g x)).length + (ys x).length ≤ sizeLine := by
        have h1 : xs = xs.take i ++ x :: xs.drop (i + 1) := by
          have hi := (List.getElem?_eq_some_iff.mp hx)
          obtain ⟨hi, rfl⟩ := hi
          rw [List.getElem_cons_drop, List.take_append_drop]
        rw [h1, List.flatMap_append, List.flatMap_cons, List.length_append, List.length_append, List.length_map] at hz
        omega
      obtain ⟨out, τ3, e3, h3, h4⟩ := w_lcMap (a := a) (t := t1) (acc0 := (xs.take i).flatMap fun x => (ys x).map (g x)) (xs := ys x) (e := f x) (vs := vs1) (τ := τ2) τ2 (g x) w1 w1 hle k
      refine ⟨out, τ3, e3, ?_, ?_⟩
      · rw [h3, List.take_add_one, hx, List.flatMap_append]
        simp
      · have : τ3 = τ2 := by rcases h4 with h | h <;> exact h
        rw [this, w2])
  rw [List.length_map, List.take_length] at h2
  subst h2 h3
  exact ⟨_, _, h1, q⟩
/-- a comprehension by an invariant -/
theorem w_lcV {τ : Tau} {ta : CM Bool} {a : CM D} {vs : List Nat} {t : TD} {items acc0 : List D} {P : List D → Tau → Prop} (Pv : Nat → List D → Tau → Prop) (hz : acc0.length + items.length ≤ sizeLine) (h0 : Pv 0 acc0 τ) (hs : ∀ i d acc τ, items[i]? = some d → Pv i acc τ → ∃ τ1, t d (wipeT τ vs) = some τ1 ∧ Rm ta τ1 (fun b τ2 => if b = true then Rm a τ2 (fun y τ3 => Pv (i + 1) (acc ++ [y]) (wipeT τ3 vs)) noX else Pv (i + 1) acc (wipeT τ2 vs)) noX) (hd : ∀ out τ2, Pv items.length out τ2 → P out τ2) :
    ∃ out τ2, lcGo t ta a vs items acc0 τ = some (out, τ2) ∧ P out τ2 := by
  obtain ⟨out, τ2, e, q⟩ := w_lcGo Pv hz h0 hs
  exact ⟨out, τ2, e, hd _ _ q⟩
theorem pop0 {x : SV} {l : List SV} (h : l.length + 1 < 2 ^ 63) : popAtO .lst (x :: l) ([D.int 0].map .fz) = some (.lst, l, x) := by
  show (ixN (l.length + 1) 0).bind (fun j => if l.length + 1 < 2 ^ 63 then ((x :: l)[j]?).map fun s => (Hd.lst, (x :: l).eraseIdx j, s) else none) = _
  have e : ixN (l.length + 1) 0 = some 0 := by
    unfold ixN
    rw [if_pos (Int.le_refl 0), if_pos (by omega)]
    rfl
  rw [e, Option.bind_some, if_pos h]
  rfl
/-! where a sign stands in a text -/
theorem sIndex_nd {z : Str} {n c : Nat} (nd : z.cps.toList.Nodup) (h : z.cps.toList[n]? = some c) : sIndex z ⟨#[c]⟩ = some n := by
  have h1 := StrLaws.found_one z c
  rw [decide_eq_true (List.mem_of_getElem? h)] at h1
  unfold sIndex
  cases ho : Builtin.Str.occurrences z ⟨#[c]⟩ 0 z.length 1 with
  | nil => rw [ho] at h1; cases h1
  | cons i r =>
    have h2 := (StrLaws.subAt_one z c i).mp (StrLaws.occ_spec z ⟨#[c]⟩ 0 z.length 1 i (by rw [ho]; exact List.mem_cons_self))
    obtain ⟨l1, e1⟩ := List.getElem?_eq_some_iff.mp h
    obtain ⟨l2, e2⟩ := List.getElem?_eq_some_iff.mp h2
    have : i = n := (List.getElem_inj nd).mp (e2.trans e1.symm)
    rw [this]
    rfl
theorem slotS_of {τ : Tau} {i : Nat} {s : SV} (h : τ[i]? = some (some s)) : slotS τ i = some s := by unfold slotS; rw [h]; rfl
end VS

/-! ## V4: data that may be compared; equality of data -/
namespace VS
open PySem PySem.Spec PyProof.Rows L2
/-- data of lists, tuples, numbers, texts, flags, None, of a depth -/
def Sh (n : Nat) (d : D) : Prop := PyData.canLay0 (toP d) = true ∧ PyData.depth (toP d) ≤ n
section
variable {n m : Nat} {d e : D} {l : List D}
theorem Sh.mono (h : Sh n d) (k : n ≤ m) : Sh m d := ⟨h.1, Nat.le_trans h.2 k⟩
theorem sh_int (i : Int) : Sh n (.int i) := ⟨rfl, Nat.zero_le _⟩
theorem sh_bl (i : Bool) : Sh n (.bl i) := ⟨rfl, Nat.zero_le _⟩
theorem sh_non : Sh n .non := ⟨rfl, Nat.zero_le _⟩
theorem sh_str {z : Str} (h : PyData.canLay0 (.str z) = true) : Sh n (.str z) := ⟨h, Nat.zero_le _⟩
theorem sh_all : ∀ {l : List D}, (∀ d ∈ l, Sh n d) → PyData.canLayAll0 (toPs l) = true ∧ PyData.depthAll (toPs l) ≤ n
  | [], _ => ⟨rfl, Nat.zero_le _⟩
  | d :: l, h => by
    obtain ⟨a1, a2⟩ := h d List.mem_cons_self
    obtain ⟨b1, b2⟩ := sh_all fun x hx => h x (List.mem_cons_of_mem _ hx)
    exact ⟨by show (PyData.canLay0 (toP d) && PyData.canLayAll0 (toPs l)) = true; rw [a1, b1]; rfl, Nat.max_le.mpr ⟨a2, b2⟩⟩
theorem sh_tup (h : ∀ d ∈ l, Sh n d) : Sh (n + 1) (.tup l) := ⟨(sh_all h).1, Nat.succ_le_succ (sh_all h).2⟩
theorem sh_lst (h : ∀ d ∈ l, Sh n d) : Sh (n + 1) (.ob .lst l) := ⟨(sh_all h).1, Nat.succ_le_succ (sh_all h).2⟩
theorem sh_tupX {X : Type} {xs : List X} {f : X → D} (h : ∀ x ∈ xs, Sh n (f x)) : Sh (n + 1) (.tup (xs.map f)) := sh_tup fun d hd => by
  obtain ⟨x, hx, rfl⟩ := List.mem_map.mp hd
  exact h x hx
theorem sh_lstX {X : Type} {xs : List X} {f : X → D} (h : ∀ x ∈ xs, Sh n (f x)) : Sh (n + 1) (.ob .lst (xs.map f)) := sh_lst fun d hd => by
  obtain ⟨x, hx, rfl⟩ := List.mem_map.mp hd
  exact h x hx
theorem Sh.ok (h : Sh n d) (k : n ≤ 64 := by decide) : shapeD d = true := by
  unfold shapeD SeqAt.shaped
  rw [h.1, decide_eq_true (Nat.le_trans h.2 k)]
  rfl
theorem eqB_self (h : shapeD d = true) : eqB d d = true := SeqAt.eqv_refl _ (SeqAt.canLay_of_shaped h)
theorem eqF_eqB (h1 : shapeD d = true) (h2 : shapeD e = true) : eqF d e = some (.fz (.bl (eqB d e))) := by
  unfold eqF
  split
  · rename_i i j
    exact congrArg (fun b => some (SV.fz (.bl b))) (show decide (i = j) = (i == j) from rfl)
  · rename_i i j
    exact congrArg (fun b => some (SV.fz (.bl b))) (by
      show decide (i = j) = (i == j)
      by_cases h : i = j
      · subst h; simp
      · rw [decide_eq_false h]; exact (beq_eq_false_iff_ne.mpr h).symm)
  · rename_i i j
    cases i <;> cases j <;> rfl
  · rw [h1, h2]; rfl
theorem neF_eqB (h1 : shapeD d = true) (h2 : shapeD e = true) : neF d e = some (.fz (.bl (!eqB d e))) := by
  have q := eqF_eqB h1 h2
  unfold neF
  unfold eqF at q
  split
  · rw [SV.fz.inj (Option.some.inj q) |> D.bl.inj]
  · rw [SV.fz.inj (Option.some.inj q) |> D.bl.inj]
  · rw [SV.fz.inj (Option.some.inj q) |> D.bl.inj]
  · rw [h1, h2]; rfl
theorem eqF_self (h : shapeD d = true) : eqF d d = some (.fz (.bl true)) := by rw [eqF_eqB h h, eqB_self h]
theorem neF_self (h : shapeD d = true) : neF d d = some (.fz (.bl false)) := by rw [neF_eqB h h, eqB_self h]; rfl
end
/-! without flags: equal just if the same -/
mutual
def noB : D → Bool
  | .non => true
  | .bl _ => false
  | .int _ => true
  | .str _ => true
  | .tup l => noBs l
  | .ob .lst l => noBs l
  | .ob _ _ => false
  | .fro _ => false
def noBs : List D → Bool
  | [] => true
  | d :: r => noB d && noBs r
end
mutual
theorem eqB_noB : ∀ (d e : D), noB d = true → noB e = true → eqB d e = true → d = e
  | .non, e, _, he, h => by
    cases e with
    | non => rfl
    | ob hd l => cases hd <;> first | cases h | cases he
    | _ => first | cases h | cases he
  | .int i, e, _, he, h => by
    cases e with
    | int j => rw [show i = j from by simpa [eqB, toP, PyData.eqv] using h]
    | ob hd l => cases hd <;> first | cases h | cases he
    | _ => first | cases h | cases he
  | .str i, e, _, he, h => by
    cases e with
    | str j => rw [show i = j from by simpa [eqB, toP, PyData.eqv] using h]
    | ob hd l => cases hd <;> first | cases h | cases he
    | _ => first | cases h | cases he
  | .tup l, e, hd, he, h => by
    cases e with
    | tup m => rw [eqB_noBs l m hd he h]
    | ob hd l => cases hd <;> first | cases h | cases he
    | _ => first | cases h | cases he
  | .ob .lst l, e, hd, he, h => by
    cases e with
    | ob hd m =>
      cases hd with
      | lst => rw [eqB_noBs l m (by assumption) he h]
      | _ => cases he
    | _ => first | cases h | cases he
  | .ob (.dct _ _) _, _, hd, _, _ => by cases hd
  | .ob (.ins _ _) _, _, hd, _, _ => by cases hd
  | .bl _, _, hd, _, _ => by cases hd
  | .fro _, _, hd, _, _ => by cases hd
theorem eqB_noBs : ∀ (l m : List D), noBs l = true → noBs m = true → PyData.eqvAll (toPs l) (toPs m) = true → l = m
  | [], [], _, _, _ => rfl
  | [], _ :: _, _, _, h => by cases h
  | _ :: _, [], _, _, h => by cases h
  | d :: l, e :: m, hl, hm, h => by
    obtain ⟨a1, a2⟩ := Bool.and_eq_true_iff.mp hl
    obtain ⟨b1, b2⟩ := Bool.and_eq_true_iff.mp hm
    have h : (PyData.eqv (toP d) (toP e) && PyData.eqvAll (toPs l) (toPs m)) = true := by
      rw [← h]
      show _ = PyData.eqvAll (toP d :: toPs l) (toP e :: toPs m)
      rw [PyData.eqvAll]
    obtain ⟨c1, c2⟩ := Bool.and_eq_true_iff.mp h
    rw [eqB_noB d e a1 b1 c1, eqB_noBs l m a2 b2 c2]
end
theorem eqB_iff {d e : D} (hd : noB d = true) (he : noB e = true) (h1 : shapeD d = true) : eqB d e = true ↔ d = e := ⟨eqB_noB d e hd he, fun h => by rw [← h]; exact eqB_self h1⟩
theorem eqB_not {d e : D} (hd : noB d = true) (he : noB e = true) (h : d ≠ e) : eqB d e = false := by
  cases q : eqB d e with
  | false => rfl
  | true => exact absurd (eqB_noB d e hd he q) h
theorem noBs_all : ∀ {l : List D}, (∀ d ∈ l, noB d = true) → noBs l = true
  | [], _ => rfl
  | d :: l, h => by
    show (noB d && noBs l) = true
    rw [h d List.mem_cons_self, noBs_all fun x hx => h x (List.mem_cons_of_mem _ hx)]
    rfl
theorem cutD_take (l : List D) (n : Nat) : cutD l none (some (n : Int)) = l.take n := by
  unfold cutD
  rw [HT.sIx_none, List.drop_zero, HT.sIx_nat, Nat.sub_zero]
  rcases Nat.le_total n l.length with h | h
  · rw [Nat.min_eq_left h]
  · rw [Nat.min_eq_right h, List.take_length, List.take_of_length_le h]
theorem cutD_drop (l : List D) (n : Nat) : cutD l (some (n : Int)) none = l.drop n := by
  unfold cutD
  rw [HT.sIx_none, HT.sIx_nat]
  rcases Nat.le_total n l.length with h | h
  · rw [Nat.min_eq_left h, List.take_of_length_le (by rw [List.length_drop]; exact Nat.le_refl _)]
  · rw [Nat.min_eq_right h, Nat.sub_self, List.take_zero, List.drop_of_length_le h]
theorem cutD_mem {l : List D} {lo hi : Option Int} {d : D} (h : d ∈ cutD l lo hi) : d ∈ l := cut_mem (l := l) h
theorem cutD_len (l : List D) (lo hi : Option Int) : (cutD l lo hi).length ≤ l.length := cut_len l lo hi
theorem mulF_L {a : List D} {n : Nat} (h1 : n < 2 ^ 63) (h : a.length * n ≤ sizeLine) : mulF (.ob .lst a) (.int (n : Nat)) = some (.mu .lst ((List.replicate n a).flatten.map .fz)) := by
  simp only [mulF]
  rw [if_pos ⟨by omega, by omega, by rw [Int.toNat_natCast]; exact h⟩, Int.toNat_natCast]
theorem mulF_T {a : List D} {n : Nat} (h0 : a ≠ []) (h1 : 2 ≤ n) (h2 : n ≤ 1000) (h : a.length ≤ 1000) : mulF (.tup a) (.int (n : Nat)) = some (.fz (.tup (List.replicate n a).flatten)) := by
  simp only [mulF]
  rw [if_pos ⟨h0, by omega, by omega, h⟩, Int.toNat_natCast]
/-- a comprehension that gives f of its item -/
theorem w_lcD {τ : Tau} {a : CM D} {vs : List Nat} {t : TD} {items : List D} {P : List D → Tau → Prop} (τ2 : Tau) (f : D → D) (hw : wipeT τ vs = τ2) (hw2 : wipeT τ2 vs = τ2) (hz : items.length ≤ sizeLine) (hs : ∀ x ∈ items, ∃ τ1, t x τ2 = some τ1 ∧ Rm a τ1 (fun y τ3 => y = f x ∧ wipeT τ3 vs = τ2) noX) (q : ∀ τ3, (τ3 = τ2 ∨ τ3 = τ) → P (items.map f) τ3) :
    ∃ out τ3, lcGo t cYes a vs items [] τ = some (out, τ3) ∧ P out τ3 := by
  have := w_lcMq (X := D) (e := fun d => d) (xs := items) τ2 f hw hw2 hz hs q
  rwa [List.map_id'] at this
theorem mulF_one {a : D} {n : Nat} (h1 : n < 2 ^ 63) (h : n ≤ sizeLine) : mulF (.ob .lst [a]) (.int (n : Nat)) = some (.mu .lst ((List.replicate n a).map .fz)) := by
  rw [mulF_L h1 (by rw [List.length_singleton, Nat.one_mul]; exact h), List.flatten_replicate_singleton]
theorem noBsX {X : Type} {xs : List X} {f : X → D} (h : ∀ x ∈ xs, noB (f x) = true) : noBs (xs.map f) = true := noBs_all fun d hd => by
  obtain ⟨x, hx, rfl⟩ := List.mem_map.mp hd
  exact h x hx
end VS

namespace Lw
open PySem PySem.Spec PyProof.Rows L2 VS
def Txt_mt_BadMachine : Nat → Option Bool := fun c => match c with
  | 1 => some true
  | _ => none

/-- Machine.keep(self, rows, answers, moves): slots 0 self, 1 rows, 2 answers, 3 moves, 4 standing, 5 lines, 6 row, 7 line, 8 answer, 9 move -/
def m_Machine_keep : SC := (sSeq (sFld 0 [9] "rows" (up (mVar 1)))
  (sSeq (sFld 0 [9] "answers" (up (mVar 2)))
  (sSeq (sFld 0 [9] "moves" (up (mVar 3)))
  (sSeq (sFld 0 [9] "size" (mOp1B lenF (bVar 3)))
  (sSeq (sFld 0 [9] "kept_steps" mNewT)
  (sSeq (sFld 0 [9] "kept_webs" mNewT)
  (sFor (itEn (mVar 3)) (dTup 2 (dCons (dName 4) (dCons (dName 5) dNil)))
  (sFor (itZip (mVar 1) (mVar 5)) (dTup 2 (dCons (dName 6) (dCons (dName 7) dNil)))
  (sFor (itEn (mVar 7)) (dTup 2 (dCons (dName 8) (dCons (dName 9) dNil)))
  (sPutO (oFld [9] "kept_steps" (oVar 0)) (kTup (pbCons (bVar 4) (pbCons (bVar 6) (pbCons (bVar 8) pbNil)))) (up (mVar 9))))))))))))
def f_Machine_keep : Fn := ary 4 (mkFn 10 [0, 1, 2, 3] m_Machine_keep)
/-- is_pair(thing): slots 0 thing -/
def m_is_pair : SC := (sRet (up (mAnd (frz (mIsi (isiF tbTup [] fun _ => false) (bVar 0))) (frz (mOp2 eqF (frz (mOp1B lenF (bVar 0))) (mC (.int 2)))))))
def f_is_pair : Fn := ary 1 (mkFn 1 [0] m_is_pair)
/-- is_integer(thing): slots 0 thing -/
def m_is_integer : SC := (sRet (up (mAnd (frz (mIsi (isiF tbInt [] fun _ => false) (bVar 0))) (mNot (frz (mIsi (isiF tbBool [] fun _ => false) (bVar 0)))))))
def f_is_integer : Fn := ary 1 (mkFn 1 [0] m_is_integer)
/-- is_within(thing, least, most): slots 0 thing, 1 least, 2 most -/
def m_is_within : SC := (sRet (up (mAnd (frz (mCall f_is_integer (rN 0 rNil))) (mChain leF leF (mVar 1) (mVar 0) (mVar 2)))))
def f_is_within : Fn := ary 3 (mkFn 3 [0, 1, 2] m_is_within)
/-- is_move(thing, size): slots 0 thing, 1 size -/
def m_is_move : SC := (sRet (up (mAnd (frz (mCall f_is_pair (rN 0 rNil))) (mAnd (frz (mCall f_is_within (rD (mB (bIx (bVar 0) (bC (.int 0)))) (rD (mC (.int 1)) (rD (mC (.int 99)) rNil))))) (frz (mCall f_is_within (rD (mB (bIx (bVar 0) (bC (.int 1)))) (rD (mC (.int 0)) (rD (frz (mOp2 subF (mVar 1) (mC (.int 1)))) rNil)))))))))
def f_is_move : Fn := ary 2 (mkFn 2 [0, 1] m_is_move)
/-- are_moves(thing, rows, answers): slots 0 thing, 1 rows, 2 answers, 3 standing, 4 moves, 5 move -/
def m_are_moves : SC := (sSeq (sIf (cOr (cNot (cB (frz (mIsi (isiF tbTup [] fun _ => false) (bVar 0))))) (cNot (cB (mChain leF leF (mC (.int 1)) (frz (mOp1B lenF (bVar 0))) (mC (.int 12)))))) (sRet (up (mC (.bl false)))) sNx)
  (sSeq (sFor (itD (mVar 0)) (dName 3)
  (sSeq (sIf (cOr (cNot (cB (frz (mIsi (isiF tbTup [] fun _ => false) (bVar 3))))) (cB (frz (mOp2 neF (frz (mOp1B lenF (bVar 3))) (frz (mOp1B lenF (bVar 1))))))) (sRet (up (mC (.bl false)))) sNx)
  (sFor (itD (mVar 3)) (dName 4)
  (sSeq (sIf (cOr (cNot (cB (frz (mIsi (isiF tbTup [] fun _ => false) (bVar 4))))) (cB (frz (mOp2R neF (frz (mOp1B lenF (bVar 4))) (bVar 2))))) (sRet (up (mC (.bl false)))) sNx)
  (sIf (cNot (cB (frz (mOp1 allF (frz (mLc [5] (itD (mVar 4)) (dName 5) cYes (frz (mCall f_is_move (rN 5 (rD (frz (mOp1B lenF (bVar 0))) rNil)))))))))) (sRet (up (mC (.bl false)))) sNx)))))
  (sRet (up (mC (.bl true))))))
def f_are_moves : Fn := ary 3 (mkFn 6 [0, 1, 2] m_are_moves)
/-- is_ascending(word): slots 0 word, 1 at -/
def m_is_ascending : SC := (sSeq (sFor (itR2 (mC (.int 1)) (frz (mOp1B lenF (bVar 0)))) (dName 1)
  (sIf (cB (frz (mOp2 geF (mB (bIx (bVar 0) (bOp2 subF (bVar 1) (bC (.int 1))))) (mB (bIx (bVar 0) (bVar 1)))))) (sRet (up (mC (.bl false)))) sNx))
  (sRet (up (mC (.bl true)))))
def f_is_ascending : Fn := ary 1 (mkFn 2 [0] m_is_ascending)
/-- is_string_of(thing, signs): slots 0 thing, 1 signs, 2 sign -/
def m_is_string_of : SC := (sSeq (sIf (cNot (cB (frz (mIsi (isiF tbStr [] fun _ => false) (bVar 0))))) (sRet (up (mC (.bl false)))) sNx)
  (sSeq (sFor (itD (mVar 0)) (dName 2)
  (sIf (cB (frz (mOp2R (inF true) (mVar 2) (bVar 1)))) (sRet (up (mC (.bl false)))) sNx))
  (sRet (up (mC (.bl true))))))
def f_is_string_of : Fn := ary 2 (mkFn 3 [0, 1] m_is_string_of)
/-- is_word(thing): slots 0 thing -/
def m_is_word : SC := (sRet (up (mAnd (frz (mCall f_is_string_of (rN 0 (rD (mC (.str "abcdefghijklmnopqrstuvwxyz")) rNil)))) (frz (mOp2 gtF (frz (mOp1B lenF (bVar 0))) (mC (.int 0)))))))
def f_is_word : Fn := ary 1 (mkFn 1 [0] m_is_word)
/-- is_rows(thing): slots 0 thing -/
def m_is_rows : SC := (sRet (up (mAnd (frz (mCall f_is_word (rN 0 rNil))) (mAnd (frz (mOp2 leF (frz (mOp1B lenF (bVar 0))) (mC (.int 4)))) (frz (mCall f_is_ascending (rN 0 rNil)))))))
def f_is_rows : Fn := ary 1 (mkFn 1 [0] m_is_rows)
/-- Machine.__init__(self, rows, answers, moves): slots 0 self, 1 rows, 2 answers, 3 moves -/
def m_Machine_init : SC := (sSeq (sIf (cNot (cB (frz (mCall f_is_rows (rN 1 rNil))))) (sRaiseF 1 "part" (aCons (mC (.str "rows")) aNil)) sNx)
  (sSeq (sIf (cNot (cB (frz (mCall f_is_within (rN 2 (rD (mC (.int 1)) (rD (mC (.int 3)) rNil))))))) (sRaiseF 1 "part" (aCons (mC (.str "answers")) aNil)) sNx)
  (sSeq (sIf (cNot (cB (frz (mCall f_are_moves (rN 3 (rN 1 (rN 2 rNil))))))) (sRaiseF 1 "part" (aCons (mC (.str "moves")) aNil)) sNx)
  (sDrop (frz (mMeth 9 "keep" f_Machine_keep 0 (rN 1 (rN 2 (rN 3 rNil)))))))))
def f_Machine_init : Fn := ary 4 (mkFn 4 [0, 1, 2, 3] m_Machine_init)
/-- _law_draw(_law_hand_here, _law_many): slots 0 _law_hand_here, 1 _law_many, 2 _law_cell, 3 _law_digit, 4 _law_number -/
def m_law_draw : SC := (sSeq (sIf (cAnd (cB (frz (mOp2 eqF (mB (bIx (bVar 0) (bC (.int 2)))) (mC (.int 0))))) (cB (frz (mOp2 ltF (mB (bIx (bVar 0) (bC (.int 1)))) (frz (mOp1 lenF (mB (bIx (bVar 0) (bC (.int 0)))))))))) (sSeq (sSet 2 (up (mB (bIx (bIx (bVar 0) (bC (.int 0))) (bIx (bVar 0) (bC (.int 1)))))))
  (sSeq (mPut 0 (frz (mOp2 addF (mB (bIx (bVar 0) (bC (.int 1)))) (mC (.int 1)))) (mC (.int 1)))
  (sSeq (mPut 0 (frz (mOp2 modF (frz (mOp1 intF (frz (mOp2 addF (frz (mOp2 addF (frz (mOp2 mulF (mB (bIx (bVar 0) (bC (.int 3)))) (mC (.int 69621)))) (mVar 2))) (mC (.int 11)))))) (mC (.int 2147483629)))) (mC (.int 3)))
  (sIf (cB (frz (mOp2 geF (mVar 2) (frz (mOp2 powF (mC (.int 10)) (mC (.int 18))))))) (mPut 0 (mVar 2) (mC (.int 2))) sNx)))) sNx)
  (sSeq (sIf (cB (frz (mOp2 gtF (mB (bIx (bVar 0) (bC (.int 2)))) (mC (.int 0))))) (sSeq (sSet 3 (mOp2 modF (frz (mOp1 intF (mB (bIx (bVar 0) (bC (.int 2)))))) (mVar 1)))
  (sSeq (mPut 0 (frz (mOp2 fdivF (mB (bIx (bVar 0) (bC (.int 2)))) (mVar 1))) (mC (.int 2)))
  (sRet (mMove 3)))) sNx)
  (sSeq (mPut 0 (frz (mOp2 addF (mB (bIx (bVar 0) (bC (.int 4)))) (mC (.int 1)))) (mC (.int 4)))
  (sSeq (sSet 4 (mOp2 modF (frz (mOp1 intF (frz (mOp2 mulF (frz (mOp1 intF (frz (mOp2 addF (mB (bIx (bVar 0) (bC (.int 3)))) (frz (mOp2 mulF (mC (.int 7919)) (mB (bIx (bVar 0) (bC (.int 4)))))))))) (mC (.int 48271)))))) (mC (.int 2147483647))))
  (sSeq (sSet 4 (mOp2 modF (frz (mOp1 intF (frz (mOp2 mulF (mVar 4) (frz (mOp2 addF (frz (mOp2 fdivF (mVar 4) (mC (.int 1009)))) (mC (.int 69621)))))))) (mC (.int 2147483647))))
  (sSeq (sSet 4 (mOp2 modF (frz (mOp1 intF (frz (mOp2 mulF (mVar 4) (frz (mOp2 addF (frz (mOp2 fdivF (mVar 4) (mC (.int 2003)))) (mC (.int 40692)))))))) (mC (.int 2147483399))))
  (sRet (mOp2 modF (frz (mOp1 intF (frz (mOp2 fdivF (mVar 4) (mC (.int 16)))))) (mVar 1)))))))))
def f_law_draw : Fn := ary 2 (mkFn 5 [0, 1] m_law_draw)
/-- _law_is_number(_law_thing, _law_least, _law_most): slots 0 _law_thing, 1 _law_least, 2 _law_most -/
def m_law_is_number : SC := (sRet (up (mAnd (frz (mIsi (isiF tbInt [] fun _ => false) (bVar 0))) (mAnd (mNot (frz (mIsi (isiF tbBool [] fun _ => false) (bVar 0)))) (mChain leF leF (mVar 1) (mVar 0) (mVar 2))))))
def f_law_is_number : Fn := ary 3 (mkFn 3 [0, 1, 2] m_law_is_number)
/-- _law_are_moves(_law_thing, _law_rows_here, _law_answers): slots 0 _law_thing, 1 _law_rows_here, 2 _law_answers, 3 _law_lines, 4 _law_line_here, 5 _law_move -/
def m_law_are_moves : SC := (sSeq (sIf (cOr (cNot (cB (frz (mIsi (isiF tbTup [] fun _ => false) (bVar 0))))) (cNot (cB (mChain leF leF (mC (.int 1)) (frz (mOp1B lenF (bVar 0))) (mC (.int 12)))))) (sRet (up (mC (.bl false)))) sNx)
  (sSeq (sFor (itD (mVar 0)) (dName 3)
  (sSeq (sIf (cOr (cNot (cB (frz (mIsi (isiF tbTup [] fun _ => false) (bVar 3))))) (cB (frz (mOp2 neF (frz (mOp1B lenF (bVar 3))) (frz (mOp1B lenF (bVar 1))))))) (sRet (up (mC (.bl false)))) sNx)
  (sFor (itD (mVar 3)) (dName 4)
  (sSeq (sIf (cOr (cNot (cB (frz (mIsi (isiF tbTup [] fun _ => false) (bVar 4))))) (cB (frz (mOp2R neF (frz (mOp1B lenF (bVar 4))) (bVar 2))))) (sRet (up (mC (.bl false)))) sNx)
  (sFor (itD (mVar 4)) (dName 5)
  (sSeq (sIf (cOr (cNot (cB (frz (mIsi (isiF tbTup [] fun _ => false) (bVar 5))))) (cOr (cB (frz (mOp2 neF (frz (mOp1B lenF (bVar 5))) (mC (.int 2))))) (cNot (cB (frz (mCall f_law_is_number (rD (mB (bIx (bVar 5) (bC (.int 0)))) (rD (mC (.int 1)) (rD (mC (.int 99)) rNil))))))))) (sRet (up (mC (.bl false)))) sNx)
  (sIf (cNot (cB (frz (mCall f_law_is_number (rD (mB (bIx (bVar 5) (bC (.int 1)))) (rD (mC (.int 0)) (rD (frz (mOp2 subF (frz (mOp1B lenF (bVar 0))) (mC (.int 1)))) rNil))))))) (sRet (up (mC (.bl false)))) sNx)))))))
  (sRet (up (mC (.bl true))))))
def f_law_are_moves : Fn := ary 3 (mkFn 6 [0, 1, 2] m_law_are_moves)
/-- _law_are_rows(_law_thing): slots 0 _law_thing, 1 _law_sign, 2 _law_at -/
def m_law_are_rows : SC := (sSeq (sIf (cOr (cNot (cB (frz (mIsi (isiF tbStr [] fun _ => false) (bVar 0))))) (cNot (cB (mChain leF leF (mC (.int 1)) (frz (mOp1B lenF (bVar 0))) (mC (.int 4)))))) (sRet (up (mC (.bl false)))) sNx)
  (sSeq (sIf (cB (frz (mOp2 gtF (frz (mOp1 lenF (frz (mLc [1] (itD (mVar 0)) (dName 1) (cB (frz (mOp2 (inF true) (mVar 1) (mC (.str "abcdefghijklmnopqrstuvwxyz"))))) (mVar 1))))) (mC (.int 0))))) (sRet (up (mC (.bl false)))) sNx)
  (sRet (mOp2 eqF (frz (mOp1 lenF (frz (mLc [2] (itR2 (mC (.int 1)) (frz (mOp1B lenF (bVar 0)))) (dName 2) (cB (frz (mOp2 geF (mB (bIx (bVar 0) (bOp2 subF (bVar 2) (bC (.int 1))))) (mB (bIx (bVar 0) (bVar 2)))))) (mVar 2))))) (mC (.int 0))))))
def f_law_are_rows : Fn := ary 1 (mkFn 3 [0] m_law_are_rows)
/-- _law_due(_law_rows_here, _law_answers, _law_moves): slots 0 _law_rows_here, 1 _law_answers, 2 _law_moves -/
def m_law_due : SC := (sSeq (sIf (cNot (cB (frz (mCall f_law_are_rows (rN 0 rNil))))) (sRet (up (mC (.str "rows")))) sNx)
  (sSeq (sIf (cNot (cB (frz (mCall f_law_is_number (rN 1 (rD (mC (.int 1)) (rD (mC (.int 3)) rNil))))))) (sRet (up (mC (.str "answers")))) sNx)
  (sSeq (sIf (cNot (cB (frz (mCall f_law_are_moves (rN 2 (rN 0 (rN 1 rNil))))))) (sRet (up (mC (.str "moves")))) sNx)
  (sRet (up (mC (.str "let")))))))
def f_law_due : Fn := ary 3 (mkFn 3 [0, 1, 2] m_law_due)
/-- _law_hand(_law_script): slots 0 _law_script, 1 _law_cells, 2 _law_cell -/
def m_law_hand : SC := (sSeq (sSet 1 (mLc [2] (itD (frz (mSlice (mVar 0) oNone (oSome (mC (.int 63)))))) (dName 2) cYes (frz (mOp1 absF (frz (mOp1B intF (bVar 2)))))))
  (sRet (mLst (aCons (mVar 1) (aCons (mC (.int 0)) (aCons (mC (.int 0)) (aCons (frz (mOp2 addF (mC (.int 1)) (frz (mOp1B lenF (bVar 1))))) (aCons (mC (.int 0)) aNil))))))))
def f_law_hand : Fn := ary 1 (mkFn 3 [0] m_law_hand)
/-- _law_odd(_law_hand_here): slots 0 _law_hand_here, 1 _law_deep, 2 _law_turn, 3 _law_odd_here -/
def m_law_odd : SC := (sSeq (sSet 1 (mLst (aCons (mC .non) aNil)))
  (sSeq (sFor (itR1 (mC (.int 18))) (dName 2)
  (sSet 1 (mLst (aCons (mVar 1) aNil))))
  (sSeq (sSet 3 (mLst (aCons (mC .non) (aCons (mC (.bl true)) (aCons (mC (.bl false)) (aCons (mC (.str "A")) (aCons (mC (.str "a b")) (aCons (mC (.str "a1")) (aCons (frz (mLst (aCons (mC (.str "a")) aNil))) (aCons (frz (mDisp1 "a" (mC (.str "b")))) (aCons (frz (mLst aNil)) (aCons (frz mNewK) (aCons (mTup (aCons (mTup aNil) aNil)) (aCons (mTup (aCons (mC (.int 1)) aNil)) (aCons (mTup (aCons (mC (.str "a")) aNil)) (aCons (mVar 1) (aCons (mTup (aCons (mC (.str "a")) (aCons (mC (.str "b")) (aCons (mC (.str "c")) aNil)))) (aCons (mC (.str "^")) aNil))))))))))))))))))
  (sRet (mOp2 ixF (mVar 3) (frz (mCall f_law_draw (rN 0 (rD (frz (mOp1B lenF (bVar 3))) rNil)))))))))
def f_law_odd : Fn := ary 1 (mkFn 4 [0] m_law_odd)
/-- _law_put(_law_things, _law_at, _law_thing): slots 0 _law_things, 1 _law_at, 2 _law_thing -/
def m_law_put : SC := (sRet (mOp2 addF (frz (mOp2 addF (frz (mSlice (mVar 0) oNone (oSome (mVar 1)))) (mTup (aCons (mVar 2) aNil)))) (frz (mSlice (mVar 0) (oSome (frz (mOp2 addF (mVar 1) (mC (.int 1))))) oNone))))
def f_law_put : Fn := ary 3 (mkFn 3 [0, 1, 2] m_law_put)
/-- _law_spoiled_move(_law_hand_here, _law_move, _law_size): slots 0 _law_hand_here, 1 _law_move, 2 _law_size, 3 _law_menu -/
def m_law_spoiled_move : SC := (sSeq (sSet 3 (mLst (aCons (frz (mOp1B listF (bVar 1))) (aCons (frz (mOp2 addF (mVar 1) (mTup (aCons (mC (.int 0)) aNil)))) (aCons (frz (mSlice (mVar 1) oNone (oSome (mC (.int 1))))) (aCons (mTup (aCons (mC (.int 0)) (aCons (mC (.int 0)) aNil))) (aCons (mTup (aCons (mC (.int 100)) (aCons (mC (.int 0)) aNil))) (aCons (mTup (aCons (mC (.int 99)) (aCons (mC (.int 0)) aNil))) (aCons (mTup (aCons (mC (.int 1)) (aCons (mC (.int 0)) aNil))) (aCons (mTup (aCons (mB (bIx (bVar 1) (bC (.int 0)))) (aCons (mVar 2) aNil))) (aCons (mTup (aCons (mB (bIx (bVar 1) (bC (.int 0)))) (aCons (frz (mOp2 subF (mVar 2) (mC (.int 1)))) aNil))) (aCons (mTup (aCons (mB (bIx (bVar 1) (bC (.int 0)))) (aCons (frz (mOp1 negF (mC (.int 1)))) aNil))) aNil))))))))))))
  (sSeq (sSet 3 (mOp2 addF (mVar 3) (frz (mLst (aCons (mTup (aCons (mC (.bl true)) (aCons (mC (.int 0)) aNil))) (aCons (mTup (aCons (mC (.int 1)) (aCons (mC (.bl false)) aNil))) (aCons (mTup (aCons (mB (bIx (bVar 1) (bC (.int 0)))) (aCons (mC .non) aNil))) (aCons (mTup (aCons (mC (.str "1")) (aCons (mC (.int 0)) aNil))) (aCons (mC (.int 5)) (aCons (mTup (aCons (mB (bIx (bVar 1) (bC (.int 0)))) (aCons (frz (mLst (aCons (mC (.int 0)) aNil))) aNil))) (aCons (mTup (aCons (mB (bIx (bVar 1) (bC (.int 1)))) (aCons (mB (bIx (bVar 1) (bC (.int 0)))) aNil))) (aCons (frz (mCall f_law_odd (rN 0 rNil))) aNil))))))))))))
  (sRet (mOp2 ixF (mVar 3) (frz (mCall f_law_draw (rN 0 (rD (frz (mOp1B lenF (bVar 3))) rNil))))))))
def f_law_spoiled_move : Fn := ary 3 (mkFn 4 [0, 1, 2] m_law_spoiled_move)
/-- _law_spoiled_moves(_law_hand_here, _law_moves): slots 0 _law_hand_here, 1 _law_moves, 2 _law_kind, 3 _law_at, 4 _law_lines, 5 _law_row, 6 _law_line_here, 7 _law_told -/
def m_law_spoiled_moves : SC := (sSeq (sSet 2 (mCall f_law_draw (rN 0 (rD (mC (.int 8)) rNil))))
  (sSeq (sSet 3 (mCall f_law_draw (rN 0 (rD (frz (mOp1B lenF (bVar 1))) rNil))))
  (sSeq (sSet 4 (up (mB (bIx (bVar 1) (bVar 3)))))
  (sSeq (sSet 5 (mCall f_law_draw (rN 0 (rD (frz (mOp1B lenF (bVar 4))) rNil))))
  (sSeq (sSet 6 (up (mB (bIx (bVar 4) (bVar 5)))))
  (sSeq (sIf (cB (frz (mOp2B eqF (bVar 2) (bC (.int 0))))) (sRet (mOp2 ixF (frz (mLst (aCons (mC .non) (aCons (mTup aNil) (aCons (frz (mOp1B listF (bVar 1))) (aCons (frz (mOp2 addF (mVar 1) (mTup (aCons (mVar 4) aNil)))) (aCons (frz (mSlice (mVar 1) oNone (oSome (frz (mOp1 negF (mC (.int 1))))))) (aCons (frz (mOp2 mulF (mVar 1) (mC (.int 12)))) (aCons (frz mNewK) (aCons (frz (mCall f_law_odd (rN 0 rNil))) aNil)))))))))) (frz (mCall f_law_draw (rN 0 (rD (mC (.int 8)) rNil)))))) sNx)
  (sSeq (sIf (cB (frz (mOp2B eqF (bVar 2) (bC (.int 1))))) (sRet (mCall f_law_put (rN 1 (rN 3 (rD (frz (mOp2 ixF (frz (mLst (aCons (frz (mOp1B listF (bVar 4))) (aCons (frz (mOp2 addF (mVar 4) (mTup (aCons (mVar 6) aNil)))) (aCons (frz (mSlice (mVar 4) oNone (oSome (frz (mOp1 negF (mC (.int 1))))))) (aCons (mC .non) (aCons (mTup aNil) (aCons (frz (mCall f_law_odd (rN 0 rNil))) aNil)))))))) (frz (mCall f_law_draw (rN 0 (rD (mC (.int 6)) rNil)))))) rNil))))) sNx)
  (sSeq (sIf (cB (frz (mOp2B eqF (bVar 2) (bC (.int 2))))) (sSeq (sSet 6 (mOp2 ixF (frz (mLst (aCons (frz (mOp1B listF (bVar 6))) (aCons (frz (mOp2 addF (mVar 6) (frz (mSlice (mVar 6) oNone (oSome (mC (.int 1))))))) (aCons (frz (mSlice (mVar 6) oNone (oSome (frz (mOp1 negF (mC (.int 1))))))) (aCons (mC .non) (aCons (mTup aNil) (aCons (mB (bIx (bVar 6) (bC (.int 0)))) aNil)))))))) (frz (mCall f_law_draw (rN 0 (rD (mC (.int 6)) rNil))))))
  (sRet (mCall f_law_put (rN 1 (rN 3 (rD (frz (mCall f_law_put (rN 4 (rN 5 (rN 6 rNil))))) rNil)))))) sNx)
  (sSeq (sSet 7 (mCall f_law_draw (rN 0 (rD (frz (mOp1B lenF (bVar 6))) rNil))))
  (sSeq (sSet 6 (mCall f_law_put (rN 6 (rN 7 (rD (frz (mCall f_law_spoiled_move (rN 0 (rD (mB (bIx (bVar 6) (bVar 7))) (rD (frz (mOp1B lenF (bVar 1))) rNil))))) rNil)))))
  (sRet (mCall f_law_put (rN 1 (rN 3 (rD (frz (mCall f_law_put (rN 4 (rN 5 (rN 6 rNil))))) rNil)))))))))))))))
def f_law_spoiled_moves : Fn := ary 2 (mkFn 8 [0, 1] m_law_spoiled_moves)
/-- _law_line(_law_hand_here, _law_answers, _law_size, _law_top): slots 0 _law_hand_here, 1 _law_answers, 2 _law_size, 3 _law_top, 4 _law_answer -/
def m_law_line : SC := (sRet (mOp1 tupleF (frz (mLc [4] (itR1 (mVar 1)) (dName 4) cYes (mTup (aCons (frz (mOp2 addF (mC (.int 1)) (frz (mCall f_law_draw (rN 0 (rN 3 rNil)))))) (aCons (frz (mCall f_law_draw (rN 0 (rN 2 rNil)))) aNil)))))))
def f_law_line : Fn := ary 4 (mkFn 5 [0, 1, 2, 3] m_law_line)
/-- _law_rows(_law_hand_here, _law_most): slots 0 _law_hand_here, 1 _law_most, 2 _law_many, 3 _law_found, 4 _law_rest, 5 _law_turn, 6 _law_at -/
def m_law_rows : SC := (sSeq (sSet 2 (mOp2 addF (mC (.int 1)) (frz (mCall f_law_draw (rN 0 (rN 1 rNil))))))
  (sSeq (sSet 3 (up (mC (.str ""))))
  (sSeq (sSet 4 (up (mC (.str "abcdefghijklmnopqrstuvwxyz"))))
  (sSeq (sFor (itR1 (mVar 2)) (dName 5)
  (sSeq (sSet 6 (mCall f_law_draw (rN 0 (rD (frz (mOp2 subF (frz (mOp1B lenF (bVar 4))) (frz (mOp2 subF (frz (mOp2 subF (mVar 2) (mVar 5))) (mC (.int 1)))))) rNil))))
  (sSeq (sSet 3 (mOp2 addF (mVar 3) (mB (bIx (bVar 4) (bVar 6)))))
  (sSet 4 (mSlice (mVar 4) (oSome (frz (mOp2 addF (mVar 6) (mC (.int 1))))) oNone)))))
  (sRet (mMove 3))))))
def f_law_rows : Fn := ary 2 (mkFn 7 [0, 1] m_law_rows)
/-- _law_world(_law_hand_here, _law_most, _law_size): slots 0 _law_hand_here, 1 _law_most, 2 _law_size, 3 _law_rows_here, 4 _law_answers, 5 _law_many, 6 _law_top, 7 _law_moves, 8 _law_at, 9 _law_row -/
def m_law_world : SC := (sSeq (sSet 3 (mCall f_law_rows (rN 0 (rN 1 rNil))))
  (sSeq (sSet 4 (mOp2 ixF (frz (mLst (aCons (mC (.int 1)) (aCons (mC (.int 1)) (aCons (mC (.int 2)) (aCons (mC (.int 2)) (aCons (mC (.int 3)) aNil))))))) (frz (mCall f_law_draw (rN 0 (rD (mC (.int 5)) rNil))))))
  (sSeq (sSet 5 (mOp2 addF (mC (.int 1)) (frz (mCall f_law_draw (rN 0 (rN 2 rNil))))))
  (sSeq (sSet 6 (mOp2 ixF (frz (mLst (aCons (mC (.int 1)) (aCons (mC (.int 2)) (aCons (mC (.int 3)) (aCons (mC (.int 9)) (aCons (mC (.int 99)) aNil))))))) (frz (mCall f_law_draw (rN 0 (rD (mC (.int 5)) rNil))))))
  (sSeq (sSet 7 (mLst aNil))
  (sSeq (sFor (itR1 (mVar 5)) (dName 8)
  (sDrop (mMut "list" appendM 7 (aCons (frz (mOp1 tupleF (frz (mLc [9] (itD (mVar 3)) (dName 9) cYes (frz (mCall f_law_line (rN 0 (rN 4 (rN 5 (rN 6 rNil)))))))))) aNil))))
  (sRet (up (mTup (aCons (mVar 3) (aCons (mVar 4) (aCons (frz (mOp1B tupleF (bVar 7))) aNil))))))))))))
def f_law_world : Fn := ary 3 (mkFn 10 [0, 1, 2] m_law_world)
/-- law(_law_script): slots 0 _law_script, 1 _law_hand_here, 2 _law_turn, 3 _law_rows_here, 4 _law_answers, 5 _law_moves, 6 _law_which, 7 _law_menu, 8 _law_due_here, 9 _law_told, 10 _law_machine, 11 e -/
def m_law : SC := (sSeq (sSet 1 (mCall f_law_hand (rN 0 rNil)))
  (sSeq (sFor (itR1 (mC (.int 5))) (dName 2)
  (sSeq (sAsg (dTup 3 (dCons (dName 3) (dCons (dName 4) (dCons (dName 5) dNil)))) (frz (mCall f_law_world (rN 1 (rD (mC (.int 4)) (rD (frz (mOp2 ixF (frz (mLst (aCons (mC (.int 3)) (aCons (mC (.int 12)) aNil)))) (frz (mCall f_law_draw (rN 1 (rD (mC (.int 2)) rNil)))))) rNil))))))
  (sSeq (sSet 6 (mCall f_law_draw (rN 1 (rD (mC (.int 7)) rNil))))
  (sSeq (sIf (cB (frz (mOp2 (inF false) (mVar 6) (frz (mLst (aCons (mC (.int 1)) (aCons (mC (.int 4)) aNil))))))) (sSeq (sSet 7 (mLst (aCons (mC (.str "")) (aCons (frz (mOp2 addF (mC (.str "ab")) (mVar 3))) (aCons (frz (mOp2 addF (frz (mOp1 revF (mVar 3))) (mVar 3))) (aCons (frz (mOp1 upperF (mVar 3))) (aCons (frz (mOp2 addF (mVar 3) (mC (.str "1")))) (aCons (mC (.str "abcde")) (aCons (frz (mOp1B listF (bVar 3))) (aCons (mTup (aCons (mVar 3) aNil)) (aCons (mC (.str "az")) (aCons (mC (.str "z")) (aCons (frz (mCall f_law_odd (rN 1 rNil))) aNil)))))))))))))
  (sSet 3 (mOp2 ixF (mVar 7) (frz (mCall f_law_draw (rN 1 (rD (frz (mOp1B lenF (bVar 7))) rNil))))))) sNx)
  (sSeq (sIf (cB (frz (mOp2 (inF false) (mVar 6) (frz (mLst (aCons (mC (.int 2)) (aCons (mC (.int 4)) (aCons (mC (.int 5)) aNil)))))))) (sSet 4 (mOp2 ixF (frz (mLst (aCons (mC (.int 0)) (aCons (mC (.int 4)) (aCons (mC (.int 1)) (aCons (mC (.int 2)) (aCons (mC (.int 3)) (aCons (mC (.bl true)) (aCons (mC .non) (aCons (mC (.str "1")) (aCons (frz (mOp1 negF (mC (.int 1)))) (aCons (mTup (aCons (mC (.int 1)) aNil)) (aCons (frz (mOp2 powF (mC (.int 10)) (mC (.int 30)))) aNil))))))))))))) (frz (mCall f_law_draw (rN 1 (rD (mC (.int 11)) rNil)))))) sNx)
  (sSeq (sIf (cB (frz (mOp2 (inF false) (mVar 6) (frz (mLst (aCons (mC (.int 3)) (aCons (mC (.int 5)) (aCons (mC (.int 6)) aNil)))))))) (sSet 5 (mCall f_law_spoiled_moves (rN 1 (rN 5 rNil)))) sNx)
  (sSeq (sSet 8 (mCall f_law_due (rN 3 (rN 4 (rN 5 rNil)))))
  (sSeq (sSet 9 (up (mC (.str "none"))))
  (sSeq (sTry (sSeq (sSet 10 (mMake 9 f_Machine_init (rN 3 (rN 4 (rN 5 rNil)))))
  (sSeq (sSet 9 (up (mC (.str "wrong"))))
  (sIf (cAnd (cB (frz (mOp2B eqF (bFld [9] "rows" (bVar 10)) (bVar 3)))) (cAnd (cB (frz (mOp2B eqF (bFld [9] "answers" (bVar 10)) (bVar 4)))) (cAnd (cB (frz (mOp2B eqF (bFld [9] "moves" (bVar 10)) (bVar 5)))) (cB (frz (mOp2B eqF (bFld [9] "size" (bVar 10)) (bOp1 lenF (bVar 5)))))))) (sSet 9 (up (mC (.str "let")))) sNx))) ((Txt_mt_BadMachine, fun c fs l τ => if 11 < τ.length then ((fun c fs l => (match c with | 1 => fldX "part" fs l | _ => none : Option D)) c fs l).map fun d => (.nx, (τ.set 11 none).set 9 (some (.fz d))) else none) :: []))
  (sIf (cB (frz (mOp2B neF (bVar 9) (bVar 8)))) (sRet (up (mC (.bl false)))) sNx))))))))))
  (sRet (up (mC (.bl true))))))
def f_law : Fn := ary 1 (mkFn 12 [0] m_law)
def top (i : Nat) : Stmt := PySem.Challenge.pw_stretchprices_k00_machines_judged.main.body.getD i (.Pass ⟨0, 0, 0, 0⟩)
abbrev s_BadMachine_init : Stmt := inClass (top 2) 0
abbrev s_is_integer : Stmt := top 6
abbrev N_is_integer : List Str := ["thing"]
theorem sc_is_integer : FnScope N_is_integer ["thing"] (defScope s_is_integer) := ⟨rfl, rfl, rfl, by decide +kernel, rfl, by decide +kernel, by decide +kernel⟩
abbrev s_is_within : Stmt := top 7
abbrev N_is_within : List Str := ["thing", "least", "most"]
theorem sc_is_within : FnScope N_is_within ["thing", "least", "most"] (defScope s_is_within) := ⟨rfl, rfl, rfl, by decide +kernel, rfl, by decide +kernel, by decide +kernel⟩
abbrev s_is_pair : Stmt := top 8
abbrev N_is_pair : List Str := ["thing"]
theorem sc_is_pair : FnScope N_is_pair ["thing"] (defScope s_is_pair) := ⟨rfl, rfl, rfl, by decide +kernel, rfl, by decide +kernel, by decide +kernel⟩
abbrev s_is_string_of : Stmt := top 9
abbrev N_is_string_of : List Str := ["thing", "signs", "sign"]
theorem sc_is_string_of : FnScope N_is_string_of ["thing", "signs"] (defScope s_is_string_of) := ⟨rfl, rfl, rfl, by decide +kernel, rfl, by decide +kernel, by decide +kernel⟩
abbrev s_is_word : Stmt := top 10
abbrev N_is_word : List Str := ["thing"]
theorem sc_is_word : FnScope N_is_word ["thing"] (defScope s_is_word) := ⟨rfl, rfl, rfl, by decide +kernel, rfl, by decide +kernel, by decide +kernel⟩
abbrev s_is_ascending : Stmt := top 11
abbrev N_is_ascending : List Str := ["word", "at"]
theorem sc_is_ascending : FnScope N_is_ascending ["word"] (defScope s_is_ascending) := ⟨rfl, rfl, rfl, by decide +kernel, rfl, by decide +kernel, by decide +kernel⟩
abbrev s_is_rows : Stmt := top 12
abbrev N_is_rows : List Str := ["thing"]
theorem sc_is_rows : FnScope N_is_rows ["thing"] (defScope s_is_rows) := ⟨rfl, rfl, rfl, by decide +kernel, rfl, by decide +kernel, by decide +kernel⟩
abbrev s_is_move : Stmt := top 17
abbrev N_is_move : List Str := ["thing", "size"]
theorem sc_is_move : FnScope N_is_move ["thing", "size"] (defScope s_is_move) := ⟨rfl, rfl, rfl, by decide +kernel, rfl, by decide +kernel, by decide +kernel⟩
abbrev s_are_moves : Stmt := top 18
abbrev N_are_moves : List Str := ["thing", "rows", "answers", "standing", "moves", "move"]
theorem sc_are_moves : FnScope N_are_moves ["thing", "rows", "answers"] (defScope s_are_moves) := ⟨rfl, rfl, rfl, by decide +kernel, rfl, by decide +kernel, by decide +kernel⟩
abbrev s_Machine_init : Stmt := inClass (top 19) 0
abbrev N_Machine_init : List Str := ["self", "rows", "answers", "moves"]
theorem sc_Machine_init : FnScope N_Machine_init ["self", "rows", "answers", "moves"] (defScope s_Machine_init) := ⟨rfl, rfl, rfl, by decide +kernel, rfl, by decide +kernel, by decide +kernel⟩
abbrev s_Machine_keep : Stmt := inClass (top 19) 1
abbrev N_Machine_keep : List Str := ["self", "rows", "answers", "moves", "standing", "lines", "row", "line", "answer", "move"]
theorem sc_Machine_keep : FnScope N_Machine_keep ["self", "rows", "answers", "moves"] (defScope s_Machine_keep) := ⟨rfl, rfl, rfl, by decide +kernel, rfl, by decide +kernel, by decide +kernel⟩
abbrev s_law_hand : Stmt := top 21
abbrev N_law_hand : List Str := ["_law_script", "_law_cells", "_law_cell"]
theorem sc_law_hand : FnScope N_law_hand ["_law_script"] (defScope s_law_hand) := ⟨rfl, rfl, rfl, by decide +kernel, rfl, by decide +kernel, by decide +kernel⟩
abbrev s_law_draw : Stmt := top 22
abbrev N_law_draw : List Str := ["_law_hand_here", "_law_many", "_law_cell", "_law_digit", "_law_number"]
theorem sc_law_draw : FnScope N_law_draw ["_law_hand_here", "_law_many"] (defScope s_law_draw) := ⟨rfl, rfl, rfl, by decide +kernel, rfl, by decide +kernel, by decide +kernel⟩
abbrev s_law_rows : Stmt := top 23
abbrev N_law_rows : List Str := ["_law_hand_here", "_law_most", "_law_many", "_law_found", "_law_rest", "_law_turn", "_law_at"]
theorem sc_law_rows : FnScope N_law_rows ["_law_hand_here", "_law_most"] (defScope s_law_rows) := ⟨rfl, rfl, rfl, by decide +kernel, rfl, by decide +kernel, by decide +kernel⟩
abbrev s_law_line : Stmt := top 24
abbrev N_law_line : List Str := ["_law_hand_here", "_law_answers", "_law_size", "_law_top", "_law_answer"]
theorem sc_law_line : FnScope N_law_line ["_law_hand_here", "_law_answers", "_law_size", "_law_top"] (defScope s_law_line) := ⟨rfl, rfl, rfl, by decide +kernel, rfl, by decide +kernel, by decide +kernel⟩
abbrev s_law_world : Stmt := top 25
abbrev N_law_world : List Str := ["_law_hand_here", "_law_most", "_law_size", "_law_rows_here", "_law_answers", "_law_many", "_law_top", "_law_moves", "_law_at", "_law_row"]
theorem sc_law_world : FnScope N_law_world ["_law_hand_here", "_law_most", "_law_size"] (defScope s_law_world) := ⟨rfl, rfl, rfl, by decide +kernel, rfl, by decide +kernel, by decide +kernel⟩
abbrev s_law_odd : Stmt := top 26
abbrev N_law_odd : List Str := ["_law_hand_here", "_law_deep", "_law_turn", "_law_odd_here"]
theorem sc_law_odd : FnScope N_law_odd ["_law_hand_here"] (defScope s_law_odd) := ⟨rfl, rfl, rfl, by decide +kernel, rfl, by decide +kernel, by decide +kernel⟩
abbrev s_law_is_number : Stmt := top 27
abbrev N_law_is_number : List Str := ["_law_thing", "_law_least", "_law_most"]
theorem sc_law_is_number : FnScope N_law_is_number ["_law_thing", "_law_least", "_law_most"] (defScope s_law_is_number) := ⟨rfl, rfl, rfl, by decide +kernel, rfl, by decide +kernel, by decide +kernel⟩
abbrev s_law_are_rows : Stmt := top 28
abbrev N_law_are_rows : List Str := ["_law_thing", "_law_sign", "_law_at"]
theorem sc_law_are_rows : FnScope N_law_are_rows ["_law_thing"] (defScope s_law_are_rows) := ⟨rfl, rfl, rfl, by decide +kernel, rfl, by decide +kernel, by decide +kernel⟩
abbrev s_law_are_moves : Stmt := top 29
abbrev N_law_are_moves : List Str := ["_law_thing", "_law_rows_here", "_law_answers", "_law_lines", "_law_line_here", "_law_move"]
theorem sc_law_are_moves : FnScope N_law_are_moves ["_law_thing", "_law_rows_here", "_law_answers"] (defScope s_law_are_moves) := ⟨rfl, rfl, rfl, by decide +kernel, rfl, by decide +kernel, by decide +kernel⟩
abbrev s_law_due : Stmt := top 30
abbrev N_law_due : List Str := ["_law_rows_here", "_law_answers", "_law_moves"]
theorem sc_law_due : FnScope N_law_due ["_law_rows_here", "_law_answers", "_law_moves"] (defScope s_law_due) := ⟨rfl, rfl, rfl, by decide +kernel, rfl, by decide +kernel, by decide +kernel⟩
abbrev s_law_put : Stmt := top 31
abbrev N_law_put : List Str := ["_law_things", "_law_at", "_law_thing"]
theorem sc_law_put : FnScope N_law_put ["_law_things", "_law_at", "_law_thing"] (defScope s_law_put) := ⟨rfl, rfl, rfl, by decide +kernel, rfl, by decide +kernel, by decide +kernel⟩
abbrev s_law_spoiled_move : Stmt := top 32
abbrev N_law_spoiled_move : List Str := ["_law_hand_here", "_law_move", "_law_size", "_law_menu"]
theorem sc_law_spoiled_move : FnScope N_law_spoiled_move ["_law_hand_here", "_law_move", "_law_size"] (defScope s_law_spoiled_move) := ⟨rfl, rfl, rfl, by decide +kernel, rfl, by decide +kernel, by decide +kernel⟩
abbrev s_law_spoiled_moves : Stmt := top 33
abbrev N_law_spoiled_moves : List Str := ["_law_hand_here", "_law_moves", "_law_kind", "_law_at", "_law_lines", "_law_row", "_law_line_here", "_law_told"]
theorem sc_law_spoiled_moves : FnScope N_law_spoiled_moves ["_law_hand_here", "_law_moves"] (defScope s_law_spoiled_moves) := ⟨rfl, rfl, rfl, by decide +kernel, rfl, by decide +kernel, by decide +kernel⟩
abbrev s_law : Stmt := top 34
abbrev N_law : List Str := ["_law_script", "_law_hand_here", "_law_turn", "_law_rows_here", "_law_answers", "_law_moves", "_law_which", "_law_menu", "_law_due_here", "_law_told", "_law_machine", "e"]
theorem sc_law : FnScope N_law ["_law_script"] (defScope s_law) := ⟨rfl, rfl, rfl, by decide +kernel, rfl, by decide +kernel, by decide +kernel⟩
/-- what the top has written -/
structure Txt (P : Program) (K : PySem.W.Frag) (mg : Str → Option Value) where
  f_is_integer : DefAt K mg "is_integer" "is_integer" s_is_integer ["thing"]
  f_is_within : DefAt K mg "is_within" "is_within" s_is_within ["thing", "least", "most"]
  f_is_pair : DefAt K mg "is_pair" "is_pair" s_is_pair ["thing"]
  f_is_string_of : DefAt K mg "is_string_of" "is_string_of" s_is_string_of ["thing", "signs"]
  f_is_word : DefAt K mg "is_word" "is_word" s_is_word ["thing"]
  f_is_ascending : DefAt K mg "is_ascending" "is_ascending" s_is_ascending ["word"]
  f_is_rows : DefAt K mg "is_rows" "is_rows" s_is_rows ["thing"]
  f_is_move : DefAt K mg "is_move" "is_move" s_is_move ["thing", "size"]
  f_are_moves : DefAt K mg "are_moves" "are_moves" s_are_moves ["thing", "rows", "answers"]
  f_law_hand : DefAt K mg "_law_hand" "_law_hand" s_law_hand ["_law_script"]
  f_law_draw : DefAt K mg "_law_draw" "_law_draw" s_law_draw ["_law_hand_here", "_law_many"]
  f_law_rows : DefAt K mg "_law_rows" "_law_rows" s_law_rows ["_law_hand_here", "_law_most"]
  f_law_line : DefAt K mg "_law_line" "_law_line" s_law_line ["_law_hand_here", "_law_answers", "_law_size", "_law_top"]
  f_law_world : DefAt K mg "_law_world" "_law_world" s_law_world ["_law_hand_here", "_law_most", "_law_size"]
  f_law_odd : DefAt K mg "_law_odd" "_law_odd" s_law_odd ["_law_hand_here"]
  f_law_is_number : DefAt K mg "_law_is_number" "_law_is_number" s_law_is_number ["_law_thing", "_law_least", "_law_most"]
  f_law_are_rows : DefAt K mg "_law_are_rows" "_law_are_rows" s_law_are_rows ["_law_thing"]
  f_law_are_moves : DefAt K mg "_law_are_moves" "_law_are_moves" s_law_are_moves ["_law_thing", "_law_rows_here", "_law_answers"]
  f_law_due : DefAt K mg "_law_due" "_law_due" s_law_due ["_law_rows_here", "_law_answers", "_law_moves"]
  f_law_put : DefAt K mg "_law_put" "_law_put" s_law_put ["_law_things", "_law_at", "_law_thing"]
  f_law_spoiled_move : DefAt K mg "_law_spoiled_move" "_law_spoiled_move" s_law_spoiled_move ["_law_hand_here", "_law_move", "_law_size"]
  f_law_spoiled_moves : DefAt K mg "_law_spoiled_moves" "_law_spoiled_moves" s_law_spoiled_moves ["_law_hand_here", "_law_moves"]
  f_law : DefAt K mg "law" "law" s_law ["_law_script"]
  b_abs : mg "abs" = none
  b_all : mg "all" = none
  b_bool : mg "bool" = none
  b_enumerate : mg "enumerate" = none
  b_int : mg "int" = none
  b_isinstance : mg "isinstance" = none
  b_len : mg "len" = none
  b_list : mg "list" = none
  b_range : mg "range" = none
  b_str : mg "str" = none
  b_tuple : mg "tuple" = none
  b_zip : mg "zip" = none
  t_MOST_ANSWERS : Tok
  c_MOST_ANSWERS : mg "MOST_ANSWERS" = some (.int 3 t_MOST_ANSWERS)
  t_MOST_ROWS : Tok
  c_MOST_ROWS : mg "MOST_ROWS" = some (.int 4 t_MOST_ROWS)
  t_MOST_STANDINGS : Tok
  c_MOST_STANDINGS : mg "MOST_STANDINGS" = some (.int 12 t_MOST_STANDINGS)
  t_MOST_TICKS : Tok
  c_MOST_TICKS : mg "MOST_TICKS" = some (.int 99 t_MOST_TICKS)
  t_SMALL : Tok
  c_SMALL : mg "SMALL" = some (.str "abcdefghijklmnopqrstuvwxyz" t_SMALL)
  f_Machine_init : MDefAt K "__init__" "Machine.__init__" s_Machine_init ["self", "rows", "answers", "moves"]
  f_Machine_keep : MDefAt K "keep" "Machine.keep" s_Machine_keep ["self", "rows", "answers", "moves"]
  o_Machine : Addr
  k_Machine : mg "Machine" = some (.ref o_Machine)
  cl_Machine : Cls K o_Machine
  m_Machine : Mk K o_Machine f_Machine_init.f
  mt_Machine_keep : Meth K o_Machine "keep" f_Machine_keep.f
  n_Machine_answers : NoAttr K o_Machine "answers"
  n_Machine_kept_steps : NoAttr K o_Machine "kept_steps"
  n_Machine_kept_webs : NoAttr K o_Machine "kept_webs"
  n_Machine_moves : NoAttr K o_Machine "moves"
  n_Machine_rows : NoAttr K o_Machine "rows"
  n_Machine_size : NoAttr K o_Machine "size"
  x_BadMachine : XInAt P K mg "BadMachine" "part" "part"
  e_BadMachine_BadMachine : PySem.W.exmOne K (.ref x_BadMachine.C) (.ref x_BadMachine.C) = some true
def Txt.cls {P : Program} {K : PySem.W.Frag} {mg : Str → Option Value} (T : Txt P K mg) : Nat → Addr := fun n => match n with
  | 1 => T.x_BadMachine.C
  | 9 => T.o_Machine
  | _ => 0
theorem Txt.fl_answers {P : Program} {K : PySem.W.Frag} {mg : Str → Option Value} (T : Txt P K mg) : ∀ c ∈ [9], Cls K (T.cls c) ∧ NoAttr K (T.cls c) "answers" := mem1 ⟨T.cl_Machine, T.n_Machine_answers⟩
theorem Txt.fl_kept_steps {P : Program} {K : PySem.W.Frag} {mg : Str → Option Value} (T : Txt P K mg) : ∀ c ∈ [9], Cls K (T.cls c) ∧ NoAttr K (T.cls c) "kept_steps" := mem1 ⟨T.cl_Machine, T.n_Machine_kept_steps⟩
theorem Txt.fl_kept_webs {P : Program} {K : PySem.W.Frag} {mg : Str → Option Value} (T : Txt P K mg) : ∀ c ∈ [9], Cls K (T.cls c) ∧ NoAttr K (T.cls c) "kept_webs" := mem1 ⟨T.cl_Machine, T.n_Machine_kept_webs⟩
theorem Txt.fl_moves {P : Program} {K : PySem.W.Frag} {mg : Str → Option Value} (T : Txt P K mg) : ∀ c ∈ [9], Cls K (T.cls c) ∧ NoAttr K (T.cls c) "moves" := mem1 ⟨T.cl_Machine, T.n_Machine_moves⟩
theorem Txt.fl_rows {P : Program} {K : PySem.W.Frag} {mg : Str → Option Value} (T : Txt P K mg) : ∀ c ∈ [9], Cls K (T.cls c) ∧ NoAttr K (T.cls c) "rows" := mem1 ⟨T.cl_Machine, T.n_Machine_rows⟩
theorem Txt.fl_size {P : Program} {K : PySem.W.Frag} {mg : Str → Option Value} (T : Txt P K mg) : ∀ c ∈ [9], Cls K (T.cls c) ∧ NoAttr K (T.cls c) "size" := mem1 ⟨T.cl_Machine, T.n_Machine_size⟩
theorem Txt.mt_BadMachine {P : Program} {K : PySem.W.Frag} {mg : Str → Option Value} (T : Txt P K mg) (c : Nat) (b : Bool) (h : Txt_mt_BadMachine c = some b) : PySem.W.exmOne K (.ref (T.cls c)) (.ref T.x_BadMachine.C) = some b := by
  unfold Txt_mt_BadMachine at h
  split at h
  · cases h; exact T.e_BadMachine_BadMachine
  · cases h
section
variable {P : Program} {w : World} {K : PySem.W.Frag} {mg : Str → Option Value} {base : Heap}

theorem ok_Machine_keep (T : Txt P K mg) : FnOk P w K mg base (L2.CX P w) 1 T.f_Machine_keep.f T.f_Machine_keep.fd ["self", "rows", "answers", "moves"] (spF (gK K T.cls hid0) f_Machine_keep) := by
  unfold f_Machine_keep m_Machine_keep
  exact fn_S T.f_Machine_keep.F sc_Machine_keep rfl rfl (fun cdv A outer s H E hr =>
  (b_seq (pss_cons (s_fldS (cs := [9]) (T.fl_rows) (ps_fldU (K := K) (pv 0) (s_up (s_var (pv 1))) rfl))
  (b_seq (pss_cons (s_fldS (cs := [9]) (T.fl_answers) (ps_fldU (K := K) (pv 0) (s_up (s_var (pv 2))) rfl))
  (b_seq (pss_cons (s_fldS (cs := [9]) (T.fl_moves) (ps_fldU (K := K) (pv 0) (s_up (s_var (pv 3))) rfl))
  (b_seq (pss_cons (s_fldS (cs := [9]) (T.fl_size) (ps_fldU (K := K) (pv 0) (s_call1B o_len (pe_callB (call_lenS (K := K)) (by rfl) T.b_len (by decide +kernel) (pa_cons (p_var (pv 3)) pa_nil))) rfl))
  (b_seq (pss_cons (s_fldS (cs := [9]) (T.fl_kept_steps) (ps_fldU (K := K) (pv 0) (s_newT pe_dnewT) rfl))
  (b_seq (pss_cons (s_fldS (cs := [9]) (T.fl_kept_webs) (ps_fldU (K := K) (pv 0) (s_newT pe_dnewT) rfl))
  (pss_one (s_for rfl (ps_for (passes_of rfl) rfl (i_enum (pi_enumU (K := K) (by rfl) T.b_enumerate (pa_cons (s_var (pv 3)) pa_nil))) (g_tup (pg_tupU (K := K) (n := 2) rfl (g_cons (pgs_cons (g_name (pg_name (i := 4) sc_Machine_keep.nd rfl (by first | exact Or.inl rfl | exact Or.inr rfl))) (g_cons (pgs_cons (g_name (pg_name (i := 5) sc_Machine_keep.nd rfl (by first | exact Or.inl rfl | exact Or.inr rfl))) (g_nil pgs_nil))))) rfl rfl))
  (pss_one (s_for rfl (ps_for (passes_of rfl) rfl (i_zip (pi_zipU (K := K) (by rfl) T.b_zip (pa_cons (s_var (pv 1)) (pa_cons (s_var (pv 5)) pa_nil)))) (g_tup (pg_tupU (K := K) (n := 2) rfl (g_cons (pgs_cons (g_name (pg_name (i := 6) sc_Machine_keep.nd rfl (by first | exact Or.inl rfl | exact Or.inr rfl))) (g_cons (pgs_cons (g_name (pg_name (i := 7) sc_Machine_keep.nd rfl (by first | exact Or.inl rfl | exact Or.inr rfl))) (g_nil pgs_nil))))) rfl rfl))
  (pss_one (s_for rfl (ps_for (passes_of rfl) rfl (i_enum (pi_enumU (K := K) (by rfl) T.b_enumerate (pa_cons (s_var (pv 7)) pa_nil))) (g_tup (pg_tupU (K := K) (n := 2) rfl (g_cons (pgs_cons (g_name (pg_name (i := 8) sc_Machine_keep.nd rfl (by first | exact Or.inl rfl | exact Or.inr rfl))) (g_cons (pgs_cons (g_name (pg_name (i := 9) sc_Machine_keep.nd rfl (by first | exact Or.inl rfl | exact Or.inr rfl))) (g_nil pgs_nil))))) rfl rfl))
  (pss_one (s_putO rfl (ps_asg (s_up (s_var (pv 9))) (pg_sub (ob_fld (cs := [9]) (T.fl_kept_steps) (pe_fldU (K := K) (ob_var (pv 0)) rfl)) (k_tup (pe_tup (p_cons (pa_cons (p_var (pv 4)) (p_cons (pa_cons (p_var (pv 6)) (p_cons (pa_cons (p_var (pv 8)) (p_nil pa_nil))))))))) (set_U (hu_of hr))))))))))))))))))))))))))))

theorem ok_is_pair (T : Txt P K mg) : FnOk P w K mg base (L2.CX P w) 1 T.f_is_pair.f T.f_is_pair.fd ["thing"] (spF (gK K T.cls hid0) f_is_pair) := by
  unfold f_is_pair m_is_pair
  exact fn_S T.f_is_pair.F sc_is_pair rfl rfl (fun cdv A outer s H E hr =>
  (pss_one (s_ret (ps_ret (s_up (s_and (pe_and (s_frz (s_isiP (o_isi (.ty "tuple") isT_tuple) (pe_callB (call_isiY (K := K)) (by rfl) T.b_isinstance (by decide +kernel) (pa_cons (p_var (pv 0)) (pa_cons (pe_bltn (v := .ty "tuple") rfl T.b_tuple (by decide +kernel) rfl) pa_nil))))) (pe_one (s_frz (s_op2 o_eq (pe_cmpR (op_eqU (K := K) (hu_of hr) hr.units) (s_frz (s_call1B o_len (pe_callB (call_lenS (K := K)) (by rfl) T.b_len (by decide +kernel) (pa_cons (p_var (pv 0)) pa_nil)))) (s_cst pe_int (fun _ _ => .int _)) (by first | exact nomark _ | rfl))))))))))))

theorem ok_is_integer (T : Txt P K mg) : FnOk P w K mg base (L2.CX P w) 1 T.f_is_integer.f T.f_is_integer.fd ["thing"] (spF (gK K T.cls hid0) f_is_integer) := by
  unfold f_is_integer m_is_integer
  exact fn_S T.f_is_integer.F sc_is_integer rfl rfl (fun cdv A outer s H E hr =>
  (pss_one (s_ret (ps_ret (s_up (s_and (pe_and (s_frz (s_isiP (o_isi (.ty "int") isT_int) (pe_callB (call_isiY (K := K)) (by rfl) T.b_isinstance (by decide +kernel) (pa_cons (p_var (pv 0)) (pa_cons (pe_bltn (v := .ty "int") rfl T.b_int (by decide +kernel) rfl) pa_nil))))) (pe_one (s_not (pe_not (s_frz (s_isiP (o_isi (.ty "bool") isT_bool) (pe_callB (call_isiY (K := K)) (by rfl) T.b_isinstance (by decide +kernel) (pa_cons (p_var (pv 0)) (pa_cons (pe_bltn (v := .ty "bool") rfl T.b_bool (by decide +kernel) rfl) pa_nil)))))))))))))))

theorem ok_is_within (T : Txt P K mg) : FnOk P w K mg base (L2.CX P w) 2 T.f_is_within.f T.f_is_within.fd ["thing", "least", "most"] (spF (gK K T.cls hid0) f_is_within) := by
  unfold f_is_within m_is_within
  exact fn_S T.f_is_within.F sc_is_within rfl rfl (fun cdv A outer s H E hr =>
  (pss_one (s_ret (ps_ret (s_up (s_and (pe_and (s_frz (s_call (pe_callS (ok_is_integer T) (hr.mono (by decide)) rfl T.f_is_integer.mg T.f_is_integer.kp T.f_is_integer.bd (fun σ pins H s e s' I c => passes_call (takes_of rfl rfl rfl rfl) (fun _ _ _ _ q => q) pins σ H s e s' I c) (r_n (pa_cons (pv 0) (r_nil pa_nil)))))) (pe_one (s_chain o_le o_le (pe_chain op_leU op_leU (s_var (pv 1)) (s_var (pv 0)) (s_var (pv 2))))))))))))

theorem ok_is_move (T : Txt P K mg) : FnOk P w K mg base (L2.CX P w) 3 T.f_is_move.f T.f_is_move.fd ["thing", "size"] (spF (gK K T.cls hid0) f_is_move) := by
  unfold f_is_move m_is_move
  exact fn_S T.f_is_move.F sc_is_move rfl rfl (fun cdv A outer s H E hr =>
  (pss_one (s_ret (ps_ret (s_up (s_and (pe_and (s_frz (s_call (pe_callS (ok_is_pair T) (hr.mono (by decide)) rfl T.f_is_pair.mg T.f_is_pair.kp T.f_is_pair.bd (fun σ pins H s e s' I c => passes_call (takes_of rfl rfl rfl rfl) (fun _ _ _ _ q => q) pins σ H s e s' I c) (r_n (pa_cons (pv 0) (r_nil pa_nil)))))) (s_and (pe_and (s_frz (s_call (pe_callS (ok_is_within T) (hr.mono (by decide)) rfl T.f_is_within.mg T.f_is_within.kp T.f_is_within.bd (fun σ pins H s e s' I c => passes_call (takes_of rfl rfl rfl rfl) (fun _ _ _ _ q => q) pins σ H s e s' I c) (r_d (pa_cons (s_B (p_ix (pe_ix (ix_S (K := K) (hu_of hr)) (p_var (pv 0)) (p_cst pe_int (fun _ _ => .int _)) (fun _ _ => rfl)))) (r_d (pa_cons (s_cst pe_int (fun _ _ => .int _)) (r_d (pa_cons (s_cst (pe_glob (v := V.int 99) rfl T.c_MOST_TICKS ⟨_, rfl⟩) (fun _ _ => .int _)) (r_nil pa_nil)))))))))) (pe_one (s_frz (s_call (pe_callS (ok_is_within T) (hr.mono (by decide)) rfl T.f_is_within.mg T.f_is_within.kp T.f_is_within.bd (fun σ pins H s e s' I c => passes_call (takes_of rfl rfl rfl rfl) (fun _ _ _ _ q => q) pins σ H s e s' I c) (r_d (pa_cons (s_B (p_ix (pe_ix (ix_S (K := K) (hu_of hr)) (p_var (pv 0)) (p_cst pe_int (fun _ _ => .int _)) (fun _ _ => rfl)))) (r_d (pa_cons (s_cst pe_int (fun _ _ => .int _)) (r_d (pa_cons (s_frz (s_op2 o_sub (pe_op op_sub (s_var (pv 1)) (s_cst pe_int (fun _ _ => .int _))))) (r_nil pa_nil))))))))))))))))))))

theorem ok_are_moves (T : Txt P K mg) : FnOk P w K mg base (L2.CX P w) 4 T.f_are_moves.f T.f_are_moves.fd ["thing", "rows", "answers"] (spF (gK K T.cls hid0) f_are_moves) := by
  unfold f_are_moves m_are_moves
  exact fn_S T.f_are_moves.F sc_are_moves rfl rfl (fun cdv A outer s H E hr =>
  (b_seq (pss_cons (s_ifS (ps_if (PW.pt (w_or (pw_or (t_not (pt_not (t_val (pt_val (s_frz (s_isiP (o_isi (.ty "tuple") isT_tuple) (pe_callB (call_isiY (K := K)) (by rfl) T.b_isinstance (by decide +kernel) (pa_cons (p_var (pv 0)) (pa_cons (pe_bltn (v := .ty "tuple") rfl T.b_tuple (by decide +kernel) rfl) pa_nil))))))))) (pw_or1 (t_not (pt_not (t_D (le_chain o_le o_le) (pt_chain op_leU op_leU (s_cst pe_int (fun _ _ => .int _)) (s_frz (s_call1B o_len (pe_callB (call_lenS (K := K)) (by rfl) T.b_len (by decide +kernel) (pa_cons (p_var (pv 0)) pa_nil)))) (s_cst (pe_glob (v := V.int 12) rfl T.c_MOST_STANDINGS ⟨_, rfl⟩) (fun _ _ => .int _)))))))))) (pss_one (s_ret (ps_ret (s_up (s_cst pe_bl (fun _ _ => .bl _)))))) (b_nil pss_nil)))
  (b_seq (pss_cons (s_for rfl (ps_for (passes_of rfl) rfl (i_seq (pi_U (K := K) (s_var (pv 0)))) (g_name (pg_name (i := 3) sc_are_moves.nd rfl (by first | exact Or.inl rfl | exact Or.inr rfl)))
  (b_seq (pss_cons (s_ifS (ps_if (PW.pt (w_or (pw_or (t_not (pt_not (t_val (pt_val (s_frz (s_isiP (o_isi (.ty "tuple") isT_tuple) (pe_callB (call_isiY (K := K)) (by rfl) T.b_isinstance (by decide +kernel) (pa_cons (p_var (pv 3)) (pa_cons (pe_bltn (v := .ty "tuple") rfl T.b_tuple (by decide +kernel) rfl) pa_nil))))))))) (pw_or1 (t_E (le_op2 o_ne) (pt_cmpR (op_neU (K := K) (hu_of hr) hr.units) (s_frz (s_call1B o_len (pe_callB (call_lenS (K := K)) (by rfl) T.b_len (by decide +kernel) (pa_cons (p_var (pv 3)) pa_nil)))) (s_frz (s_call1B o_len (pe_callB (call_lenS (K := K)) (by rfl) T.b_len (by decide +kernel) (pa_cons (p_var (pv 1)) pa_nil)))) (by first | exact nomark _ | rfl))))))) (pss_one (s_ret (ps_ret (s_up (s_cst pe_bl (fun _ _ => .bl _)))))) (b_nil pss_nil)))
  (pss_one (s_for rfl (ps_for (passes_of rfl) rfl (i_seq (pi_U (K := K) (s_var (pv 3)))) (g_name (pg_name (i := 4) sc_are_moves.nd rfl (by first | exact Or.inl rfl | exact Or.inr rfl)))
  (b_seq (pss_cons (s_ifS (ps_if (PW.pt (w_or (pw_or (t_not (pt_not (t_val (pt_val (s_frz (s_isiP (o_isi (.ty "tuple") isT_tuple) (pe_callB (call_isiY (K := K)) (by rfl) T.b_isinstance (by decide +kernel) (pa_cons (p_var (pv 4)) (pa_cons (pe_bltn (v := .ty "tuple") rfl T.b_tuple (by decide +kernel) rfl) pa_nil))))))))) (pw_or1 (t_E (le_op2R o_ne) (pt_cmpR (op_neU (K := K) (hu_of hr) hr.units) (s_frz (s_call1B o_len (pe_callB (call_lenS (K := K)) (by rfl) T.b_len (by decide +kernel) (pa_cons (p_var (pv 4)) pa_nil)))) (p_var (pv 2)) (by first | exact nomark _ | rfl))))))) (pss_one (s_ret (ps_ret (s_up (s_cst pe_bl (fun _ _ => .bl _)))))) (b_nil pss_nil)))
  (pss_one (s_ifS (ps_if (t_not (pt_not (t_val (pt_val (s_frz (s_call1 o_all (pe_callB (cr_allU (K := K)) (by rfl) T.b_all (by decide +kernel) (pa_cons (s_frz (s_lc (by decide) (pe_lcU (own := [("move", 5)]) (vs := [5]) rfl (by rfl) sc_are_moves.nd (i_seq (pi_U (K := K) (s_var (pv 4)))) (blkOk_by (own := [("move", 5)]) (N := N_are_moves) (sc := defScope s_are_moves) (by decide +kernel)) (fun _ _ _ _ _ => (g_name (pg_name (i := 5) sc_are_moves.nd rfl (by first | exact Or.inl rfl | exact Or.inr rfl)))) (fun _ _ _ _ _ => pts_nil) (fun _ _ _ _ _ => (s_frz (s_call (pe_callS (ok_is_move T) (hr.mono (by decide)) rfl T.f_is_move.mg T.f_is_move.kp T.f_is_move.bd (fun σ pins H s e s' I c => passL pins σ H s e s' I c) (r_n (pa_cons (pv 5) (r_d (pa_cons (s_frz (s_call1B o_len (pe_callB (call_lenS (K := K)) (by rfl) T.b_len (by decide +kernel) (pa_cons (p_var (pv 0)) pa_nil)))) (r_nil pa_nil)))))))))))) pa_nil)))))))) (pss_one (s_ret (ps_ret (s_up (s_cst pe_bl (fun _ _ => .bl _)))))) (b_nil pss_nil)))))))))))))
  (pss_one (s_ret (ps_ret (s_up (s_cst pe_bl (fun _ _ => .bl _)))))))))))

theorem ok_is_ascending (T : Txt P K mg) : FnOk P w K mg base (L2.CX P w) 1 T.f_is_ascending.f T.f_is_ascending.fd ["word"] (spF (gK K T.cls hid0) f_is_ascending) := by
  unfold f_is_ascending m_is_ascending
  exact fn_S T.f_is_ascending.F sc_is_ascending rfl rfl (fun cdv A outer s H E hr =>
  (b_seq (pss_cons (s_for rfl (ps_for (passes_of rfl) rfl (i_range2 (pi_range2 (by rfl) T.b_range (pa_cons (s_cst pe_int (fun _ _ => .int _)) (pa_cons (s_frz (s_call1B o_len (pe_callB (call_lenS (K := K)) (by rfl) T.b_len (by decide +kernel) (pa_cons (p_var (pv 0)) pa_nil)))) pa_nil)))) (g_name (pg_name (i := 1) sc_is_ascending.nd rfl (by first | exact Or.inl rfl | exact Or.inr rfl)))
  (pss_one (s_ifS (ps_if (t_E (le_op2 o_ge) (pt_cmpR op_geU (s_B (p_ix (pe_ix (ix_S (K := K) (hu_of hr)) (p_var (pv 0)) (p_op2 o_sub (pe_op op_sub (p_var (pv 1)) (p_cst pe_int (fun _ _ => .int _)))) (fun _ _ => rfl)))) (s_B (p_ix (pe_ix (ix_S (K := K) (hu_of hr)) (p_var (pv 0)) (p_var (pv 1)) (fun _ _ => rfl)))) (by first | exact nomark _ | rfl))) (pss_one (s_ret (ps_ret (s_up (s_cst pe_bl (fun _ _ => .bl _)))))) (b_nil pss_nil))))))
  (pss_one (s_ret (ps_ret (s_up (s_cst pe_bl (fun _ _ => .bl _)))))))))

theorem ok_is_string_of (T : Txt P K mg) : FnOk P w K mg base (L2.CX P w) 1 T.f_is_string_of.f T.f_is_string_of.fd ["thing", "signs"] (spF (gK K T.cls hid0) f_is_string_of) := by
  unfold f_is_string_of m_is_string_of
  exact fn_S T.f_is_string_of.F sc_is_string_of rfl rfl (fun cdv A outer s H E hr =>
  (b_seq (pss_cons (s_ifS (ps_if (t_not (pt_not (t_val (pt_val (s_frz (s_isiP (o_isi (.ty "str") isT_str) (pe_callB (call_isiY (K := K)) (by rfl) T.b_isinstance (by decide +kernel) (pa_cons (p_var (pv 0)) (pa_cons (pe_bltn (v := .ty "str") rfl T.b_str (by decide +kernel) rfl) pa_nil))))))))) (pss_one (s_ret (ps_ret (s_up (s_cst pe_bl (fun _ _ => .bl _)))))) (b_nil pss_nil)))
  (b_seq (pss_cons (s_for rfl (ps_for (passes_of rfl) rfl (i_seq (pi_U (K := K) (s_var (pv 0)))) (g_name (pg_name (i := 2) sc_is_string_of.nd rfl (by first | exact Or.inl rfl | exact Or.inr rfl)))
  (pss_one (s_ifS (ps_if (t_E (le_op2R (o_in true)) (pt_cmpR (op_notInS (K := K) (hu_of hr) hr.units) (s_var (pv 2)) (p_var (pv 1)) (by first | exact nomark _ | rfl))) (pss_one (s_ret (ps_ret (s_up (s_cst pe_bl (fun _ _ => .bl _)))))) (b_nil pss_nil))))))
  (pss_one (s_ret (ps_ret (s_up (s_cst pe_bl (fun _ _ => .bl _)))))))))))

theorem ok_is_word (T : Txt P K mg) : FnOk P w K mg base (L2.CX P w) 2 T.f_is_word.f T.f_is_word.fd ["thing"] (spF (gK K T.cls hid0) f_is_word) := by
  unfold f_is_word m_is_word
  exact fn_S T.f_is_word.F sc_is_word rfl rfl (fun cdv A outer s H E hr =>
  (pss_one (s_ret (ps_ret (s_up (s_and (pe_and (s_frz (s_call (pe_callS (ok_is_string_of T) (hr.mono (by decide)) rfl T.f_is_string_of.mg T.f_is_string_of.kp T.f_is_string_of.bd (fun σ pins H s e s' I c => passes_call (takes_of rfl rfl rfl rfl) (fun _ _ _ _ q => q) pins σ H s e s' I c) (r_n (pa_cons (pv 0) (r_d (pa_cons (s_cst (pe_glob (v := V.str "abcdefghijklmnopqrstuvwxyz") rfl T.c_SMALL ⟨_, rfl⟩) (fun _ _ => .str _)) (r_nil pa_nil)))))))) (pe_one (s_frz (s_op2 o_gt (pe_cmpR op_gtU (s_frz (s_call1B o_len (pe_callB (call_lenS (K := K)) (by rfl) T.b_len (by decide +kernel) (pa_cons (p_var (pv 0)) pa_nil)))) (s_cst pe_int (fun _ _ => .int _)) (by first | exact nomark _ | rfl))))))))))))

theorem ok_is_rows (T : Txt P K mg) : FnOk P w K mg base (L2.CX P w) 3 T.f_is_rows.f T.f_is_rows.fd ["thing"] (spF (gK K T.cls hid0) f_is_rows) := by
  unfold f_is_rows m_is_rows
  exact fn_S T.f_is_rows.F sc_is_rows rfl rfl (fun cdv A outer s H E hr =>
  (pss_one (s_ret (ps_ret (s_up (s_and (pe_and (s_frz (s_call (pe_callS (ok_is_word T) (hr.mono (by decide)) rfl T.f_is_word.mg T.f_is_word.kp T.f_is_word.bd (fun σ pins H s e s' I c => passes_call (takes_of rfl rfl rfl rfl) (fun _ _ _ _ q => q) pins σ H s e s' I c) (r_n (pa_cons (pv 0) (r_nil pa_nil)))))) (s_and (pe_and (s_frz (s_op2 o_le (pe_cmpR op_leU (s_frz (s_call1B o_len (pe_callB (call_lenS (K := K)) (by rfl) T.b_len (by decide +kernel) (pa_cons (p_var (pv 0)) pa_nil)))) (s_cst (pe_glob (v := V.int 4) rfl T.c_MOST_ROWS ⟨_, rfl⟩) (fun _ _ => .int _)) (by first | exact nomark _ | rfl)))) (pe_one (s_frz (s_call (pe_callS (ok_is_ascending T) (hr.mono (by decide)) rfl T.f_is_ascending.mg T.f_is_ascending.kp T.f_is_ascending.bd (fun σ pins H s e s' I c => passes_call (takes_of rfl rfl rfl rfl) (fun _ _ _ _ q => q) pins σ H s e s' I c) (r_n (pa_cons (pv 0) (r_nil pa_nil))))))))))))))))

theorem ok_Machine_init (T : Txt P K mg) : FnOk P w K mg base (L2.CX P w) 5 T.f_Machine_init.f T.f_Machine_init.fd ["self", "rows", "answers", "moves"] (spF (gK K T.cls hid0) f_Machine_init) := by
  unfold f_Machine_init m_Machine_init
  exact fn_S T.f_Machine_init.F sc_Machine_init rfl rfl (fun cdv A outer s H E hr =>
  (b_seq (pss_cons (s_ifS (ps_if (t_not (pt_not (t_val (pt_val (s_frz (s_call (pe_callS (ok_is_rows T) (hr.mono (by decide)) rfl T.f_is_rows.mg T.f_is_rows.kp T.f_is_rows.bd (fun σ pins H s e s' I c => passes_call (takes_of rfl rfl rfl rfl) (fun _ _ _ _ q => q) pins σ H s e s' I c) (r_n (pa_cons (pv 1) (r_nil pa_nil)))))))))) (pss_one (s_raiseF (c := 1) (ps_raise rfl (takes_of rfl rfl rfl rfl) (pmk_sup T.x_BadMachine (hr.mono (by decide)) rfl (s_acons (pa_cons (s_cst pe_str (fun _ _ => .str _)) (s_anil pa_nil))))) (fun _ _ _ _ q => q) rfl)) (b_nil pss_nil)))
  (b_seq (pss_cons (s_ifS (ps_if (t_not (pt_not (t_val (pt_val (s_frz (s_call (pe_callS (ok_is_within T) (hr.mono (by decide)) rfl T.f_is_within.mg T.f_is_within.kp T.f_is_within.bd (fun σ pins H s e s' I c => passes_call (takes_of rfl rfl rfl rfl) (fun _ _ _ _ q => q) pins σ H s e s' I c) (r_n (pa_cons (pv 2) (r_d (pa_cons (s_cst pe_int (fun _ _ => .int _)) (r_d (pa_cons (s_cst (pe_glob (v := V.int 3) rfl T.c_MOST_ANSWERS ⟨_, rfl⟩) (fun _ _ => .int _)) (r_nil pa_nil)))))))))))))) (pss_one (s_raiseF (c := 1) (ps_raise rfl (takes_of rfl rfl rfl rfl) (pmk_sup T.x_BadMachine (hr.mono (by decide)) rfl (s_acons (pa_cons (s_cst pe_str (fun _ _ => .str _)) (s_anil pa_nil))))) (fun _ _ _ _ q => q) rfl)) (b_nil pss_nil)))
  (b_seq (pss_cons (s_ifS (ps_if (t_not (pt_not (t_val (pt_val (s_frz (s_call (pe_callS (ok_are_moves T) (hr.mono (by decide)) rfl T.f_are_moves.mg T.f_are_moves.kp T.f_are_moves.bd (fun σ pins H s e s' I c => passes_call (takes_of rfl rfl rfl rfl) (fun _ _ _ _ q => q) pins σ H s e s' I c) (r_n (pa_cons (pv 3) (r_n (pa_cons (pv 1) (r_n (pa_cons (pv 2) (r_nil pa_nil)))))))))))))) (pss_one (s_raiseF (c := 1) (ps_raise rfl (takes_of rfl rfl rfl rfl) (pmk_sup T.x_BadMachine (hr.mono (by decide)) rfl (s_acons (pa_cons (s_cst pe_str (fun _ _ => .str _)) (s_anil pa_nil))))) (fun _ _ _ _ q => q) rfl)) (b_nil pss_nil)))
  (pss_one (s_drop (ps_expr (s_frz (s_meth (c := 9) (by simp) (pe_methS' (pv 0) T.cl_Machine T.mt_Machine_keep (ok_Machine_keep T) (hr.mono (by decide)) T.f_Machine_keep.bd (fun σ pins H s e s' I c => passes_call (takes_of rfl rfl rfl rfl) (fun _ _ _ _ q => q) pins σ H s e s' I c) (r_n (pa_cons (pv 1) (r_n (pa_cons (pv 2) (r_n (pa_cons (pv 3) (r_nil pa_nil))))))))))))))))))))

theorem ok_law_draw (T : Txt P K mg) : FnOk P w K mg base (L2.CX P w) 1 T.f_law_draw.f T.f_law_draw.fd ["_law_hand_here", "_law_many"] (spF (gK K T.cls hid0) f_law_draw) := by
  unfold f_law_draw m_law_draw
  exact fn_S T.f_law_draw.F sc_law_draw rfl rfl (fun cdv A outer s H E hr =>
  (b_seq (pss_cons (s_ifS (ps_if (PW.pt (w_and (pw_and (t_E (le_op2 o_eq) (pt_cmpR (op_eqU (K := K) (hu_of hr) hr.units) (s_B (p_ix (pe_ix (ix_S (K := K) (hu_of hr)) (p_var (pv 0)) (p_cst pe_int (fun _ _ => .int _)) (fun _ _ => rfl)))) (s_cst pe_int (fun _ _ => .int _)) (by first | exact nomark _ | rfl))) (pw_and1 (t_E (le_op2 o_lt) (pt_cmpR op_ltU (s_B (p_ix (pe_ix (ix_S (K := K) (hu_of hr)) (p_var (pv 0)) (p_cst pe_int (fun _ _ => .int _)) (fun _ _ => rfl)))) (s_frz (s_call1 o_len (pe_callB (call_lenS (K := K)) (by rfl) T.b_len (by decide +kernel) (pa_cons (s_B (p_ix (pe_ix (ix_S (K := K) (hu_of hr)) (p_var (pv 0)) (p_cst pe_int (fun _ _ => .int _)) (fun _ _ => rfl)))) pa_nil)))) (by first | exact nomark _ | rfl))))))) (b_seq (pss_cons (s_set rfl (ps_set (i := 2) sc_law_draw.nd rfl (by first | exact Or.inl rfl | exact Or.inr rfl) (s_up (s_B (p_ix (pe_ix (ix_S (K := K) (hu_of hr)) (p_ix (pe_ix (ix_S (K := K) (hu_of hr)) (p_var (pv 0)) (p_cst pe_int (fun _ _ => .int _)) (fun _ _ => rfl))) (p_ix (pe_ix (ix_S (K := K) (hu_of hr)) (p_var (pv 0)) (p_cst pe_int (fun _ _ => .int _)) (fun _ _ => rfl))) (fun _ _ => rfl)))))))
  (b_seq (pss_cons (s_put rfl (ps_asg (s_frz (s_op2 o_add (pe_op (op_addU (K := K)) (s_B (p_ix (pe_ix (ix_S (K := K) (hu_of hr)) (p_var (pv 0)) (p_cst pe_int (fun _ _ => .int _)) (fun _ _ => rfl)))) (s_cst pe_int (fun _ _ => .int _))))) (pg_sub (pv 0) (s_cst pe_int (fun _ _ => .int _)) (set_U (hu_of hr)))))
  (b_seq (pss_cons (s_put rfl (ps_asg (s_frz (s_op2 o_mod (pe_op op_modU (s_frz (s_call1 o_int (pe_callTy call_intU (by rfl) T.b_int (by decide +kernel) (pa_cons (s_frz (s_op2 o_add (pe_op (op_addU (K := K)) (s_frz (s_op2 o_add (pe_op (op_addU (K := K)) (s_frz (s_op2 o_mul (pe_op (op_mulK (K := K)) (s_B (p_ix (pe_ix (ix_S (K := K) (hu_of hr)) (p_var (pv 0)) (p_cst pe_int (fun _ _ => .int _)) (fun _ _ => rfl)))) (s_cst pe_int (fun _ _ => .int _))))) (s_var (pv 2))))) (s_cst pe_int (fun _ _ => .int _))))) pa_nil)))) (s_cst pe_int (fun _ _ => .int _))))) (pg_sub (pv 0) (s_cst pe_int (fun _ _ => .int _)) (set_U (hu_of hr)))))
  (pss_one (s_ifS (ps_if (t_E (le_op2 o_ge) (pt_cmpR op_geU (s_var (pv 2)) (s_frz (s_op2 o_pow (pe_op op_pow (s_cst pe_int (fun _ _ => .int _)) (s_cst pe_int (fun _ _ => .int _))))) (by first | exact nomark _ | rfl))) (pss_one (s_put rfl (ps_asg (s_var (pv 2)) (pg_sub (pv 0) (s_cst pe_int (fun _ _ => .int _)) (set_U (hu_of hr)))))) (b_nil pss_nil)))))))))) (b_nil pss_nil)))
  (b_seq (pss_cons (s_ifS (ps_if (t_E (le_op2 o_gt) (pt_cmpR op_gtU (s_B (p_ix (pe_ix (ix_S (K := K) (hu_of hr)) (p_var (pv 0)) (p_cst pe_int (fun _ _ => .int _)) (fun _ _ => rfl)))) (s_cst pe_int (fun _ _ => .int _)) (by first | exact nomark _ | rfl))) (b_seq (pss_cons (s_set rfl (ps_set (i := 3) sc_law_draw.nd rfl (by first | exact Or.inl rfl | exact Or.inr rfl) (s_op2 o_mod (pe_op op_modU (s_frz (s_call1 o_int (pe_callTy call_intU (by rfl) T.b_int (by decide +kernel) (pa_cons (s_B (p_ix (pe_ix (ix_S (K := K) (hu_of hr)) (p_var (pv 0)) (p_cst pe_int (fun _ _ => .int _)) (fun _ _ => rfl)))) pa_nil)))) (s_var (pv 1))))))
  (b_seq (pss_cons (s_put rfl (ps_asg (s_frz (s_op2 o_fdiv (pe_op op_fdivU (s_B (p_ix (pe_ix (ix_S (K := K) (hu_of hr)) (p_var (pv 0)) (p_cst pe_int (fun _ _ => .int _)) (fun _ _ => rfl)))) (s_var (pv 1))))) (pg_sub (pv 0) (s_cst pe_int (fun _ _ => .int _)) (set_U (hu_of hr)))))
  (pss_one (s_ret (ps_ret (s_move (pv 3))))))))) (b_nil pss_nil)))
  (b_seq (pss_cons (s_put rfl (ps_asg (s_frz (s_op2 o_add (pe_op (op_addU (K := K)) (s_B (p_ix (pe_ix (ix_S (K := K) (hu_of hr)) (p_var (pv 0)) (p_cst pe_int (fun _ _ => .int _)) (fun _ _ => rfl)))) (s_cst pe_int (fun _ _ => .int _))))) (pg_sub (pv 0) (s_cst pe_int (fun _ _ => .int _)) (set_U (hu_of hr)))))
  (b_seq (pss_cons (s_set rfl (ps_set (i := 4) sc_law_draw.nd rfl (by first | exact Or.inl rfl | exact Or.inr rfl) (s_op2 o_mod (pe_op op_modU (s_frz (s_call1 o_int (pe_callTy call_intU (by rfl) T.b_int (by decide +kernel) (pa_cons (s_frz (s_op2 o_mul (pe_op (op_mulK (K := K)) (s_frz (s_call1 o_int (pe_callTy call_intU (by rfl) T.b_int (by decide +kernel) (pa_cons (s_frz (s_op2 o_add (pe_op (op_addU (K := K)) (s_B (p_ix (pe_ix (ix_S (K := K) (hu_of hr)) (p_var (pv 0)) (p_cst pe_int (fun _ _ => .int _)) (fun _ _ => rfl)))) (s_frz (s_op2 o_mul (pe_op (op_mulK (K := K)) (s_cst pe_int (fun _ _ => .int _)) (s_B (p_ix (pe_ix (ix_S (K := K) (hu_of hr)) (p_var (pv 0)) (p_cst pe_int (fun _ _ => .int _)) (fun _ _ => rfl)))))))))) pa_nil)))) (s_cst pe_int (fun _ _ => .int _))))) pa_nil)))) (s_cst pe_int (fun _ _ => .int _))))))
  (b_seq (pss_cons (s_set rfl (ps_set (i := 4) sc_law_draw.nd rfl (by first | exact Or.inl rfl | exact Or.inr rfl) (s_op2 o_mod (pe_op op_modU (s_frz (s_call1 o_int (pe_callTy call_intU (by rfl) T.b_int (by decide +kernel) (pa_cons (s_frz (s_op2 o_mul (pe_op (op_mulK (K := K)) (s_var (pv 4)) (s_frz (s_op2 o_add (pe_op (op_addU (K := K)) (s_frz (s_op2 o_fdiv (pe_op op_fdivU (s_var (pv 4)) (s_cst pe_int (fun _ _ => .int _))))) (s_cst pe_int (fun _ _ => .int _)))))))) pa_nil)))) (s_cst pe_int (fun _ _ => .int _))))))
  (b_seq (pss_cons (s_set rfl (ps_set (i := 4) sc_law_draw.nd rfl (by first | exact Or.inl rfl | exact Or.inr rfl) (s_op2 o_mod (pe_op op_modU (s_frz (s_call1 o_int (pe_callTy call_intU (by rfl) T.b_int (by decide +kernel) (pa_cons (s_frz (s_op2 o_mul (pe_op (op_mulK (K := K)) (s_var (pv 4)) (s_frz (s_op2 o_add (pe_op (op_addU (K := K)) (s_frz (s_op2 o_fdiv (pe_op op_fdivU (s_var (pv 4)) (s_cst pe_int (fun _ _ => .int _))))) (s_cst pe_int (fun _ _ => .int _)))))))) pa_nil)))) (s_cst pe_int (fun _ _ => .int _))))))
  (pss_one (s_ret (ps_ret (s_op2 o_mod (pe_op op_modU (s_frz (s_call1 o_int (pe_callTy call_intU (by rfl) T.b_int (by decide +kernel) (pa_cons (s_frz (s_op2 o_fdiv (pe_op op_fdivU (s_var (pv 4)) (s_cst pe_int (fun _ _ => .int _))))) pa_nil)))) (s_var (pv 1))))))))))))))))))))

theorem ok_law_is_number (T : Txt P K mg) : FnOk P w K mg base (L2.CX P w) 1 T.f_law_is_number.f T.f_law_is_number.fd ["_law_thing", "_law_least", "_law_most"] (spF (gK K T.cls hid0) f_law_is_number) := by
  unfold f_law_is_number m_law_is_number
  exact fn_S T.f_law_is_number.F sc_law_is_number rfl rfl (fun cdv A outer s H E hr =>
  (pss_one (s_ret (ps_ret (s_up (s_and (pe_and (s_frz (s_isiP (o_isi (.ty "int") isT_int) (pe_callB (call_isiY (K := K)) (by rfl) T.b_isinstance (by decide +kernel) (pa_cons (p_var (pv 0)) (pa_cons (pe_bltn (v := .ty "int") rfl T.b_int (by decide +kernel) rfl) pa_nil))))) (s_and (pe_and (s_not (pe_not (s_frz (s_isiP (o_isi (.ty "bool") isT_bool) (pe_callB (call_isiY (K := K)) (by rfl) T.b_isinstance (by decide +kernel) (pa_cons (p_var (pv 0)) (pa_cons (pe_bltn (v := .ty "bool") rfl T.b_bool (by decide +kernel) rfl) pa_nil))))))) (pe_one (s_chain o_le o_le (pe_chain op_leU op_leU (s_var (pv 1)) (s_var (pv 0)) (s_var (pv 2))))))))))))))

theorem ok_law_are_moves (T : Txt P K mg) : FnOk P w K mg base (L2.CX P w) 2 T.f_law_are_moves.f T.f_law_are_moves.fd ["_law_thing", "_law_rows_here", "_law_answers"] (spF (gK K T.cls hid0) f_law_are_moves) := by
  unfold f_law_are_moves m_law_are_moves
  exact fn_S T.f_law_are_moves.F sc_law_are_moves rfl rfl (fun cdv A outer s H E hr =>
  (b_seq (pss_cons (s_ifS (ps_if (PW.pt (w_or (pw_or (t_not (pt_not (t_val (pt_val (s_frz (s_isiP (o_isi (.ty "tuple") isT_tuple) (pe_callB (call_isiY (K := K)) (by rfl) T.b_isinstance (by decide +kernel) (pa_cons (p_var (pv 0)) (pa_cons (pe_bltn (v := .ty "tuple") rfl T.b_tuple (by decide +kernel) rfl) pa_nil))))))))) (pw_or1 (t_not (pt_not (t_D (le_chain o_le o_le) (pt_chain op_leU op_leU (s_cst pe_int (fun _ _ => .int _)) (s_frz (s_call1B o_len (pe_callB (call_lenS (K := K)) (by rfl) T.b_len (by decide +kernel) (pa_cons (p_var (pv 0)) pa_nil)))) (s_cst pe_int (fun _ _ => .int _)))))))))) (pss_one (s_ret (ps_ret (s_up (s_cst pe_bl (fun _ _ => .bl _)))))) (b_nil pss_nil)))
  (b_seq (pss_cons (s_for rfl (ps_for (passes_of rfl) rfl (i_seq (pi_U (K := K) (s_var (pv 0)))) (g_name (pg_name (i := 3) sc_law_are_moves.nd rfl (by first | exact Or.inl rfl | exact Or.inr rfl)))
  (b_seq (pss_cons (s_ifS (ps_if (PW.pt (w_or (pw_or (t_not (pt_not (t_val (pt_val (s_frz (s_isiP (o_isi (.ty "tuple") isT_tuple) (pe_callB (call_isiY (K := K)) (by rfl) T.b_isinstance (by decide +kernel) (pa_cons (p_var (pv 3)) (pa_cons (pe_bltn (v := .ty "tuple") rfl T.b_tuple (by decide +kernel) rfl) pa_nil))))))))) (pw_or1 (t_E (le_op2 o_ne) (pt_cmpR (op_neU (K := K) (hu_of hr) hr.units) (s_frz (s_call1B o_len (pe_callB (call_lenS (K := K)) (by rfl) T.b_len (by decide +kernel) (pa_cons (p_var (pv 3)) pa_nil)))) (s_frz (s_call1B o_len (pe_callB (call_lenS (K := K)) (by rfl) T.b_len (by decide +kernel) (pa_cons (p_var (pv 1)) pa_nil)))) (by first | exact nomark _ | rfl))))))) (pss_one (s_ret (ps_ret (s_up (s_cst pe_bl (fun _ _ => .bl _)))))) (b_nil pss_nil)))
  (pss_one (s_for rfl (ps_for (passes_of rfl) rfl (i_seq (pi_U (K := K) (s_var (pv 3)))) (g_name (pg_name (i := 4) sc_law_are_moves.nd rfl (by first | exact Or.inl rfl | exact Or.inr rfl)))
  (b_seq (pss_cons (s_ifS (ps_if (PW.pt (w_or (pw_or (t_not (pt_not (t_val (pt_val (s_frz (s_isiP (o_isi (.ty "tuple") isT_tuple) (pe_callB (call_isiY (K := K)) (by rfl) T.b_isinstance (by decide +kernel) (pa_cons (p_var (pv 4)) (pa_cons (pe_bltn (v := .ty "tuple") rfl T.b_tuple (by decide +kernel) rfl) pa_nil))))))))) (pw_or1 (t_E (le_op2R o_ne) (pt_cmpR (op_neU (K := K) (hu_of hr) hr.units) (s_frz (s_call1B o_len (pe_callB (call_lenS (K := K)) (by rfl) T.b_len (by decide +kernel) (pa_cons (p_var (pv 4)) pa_nil)))) (p_var (pv 2)) (by first | exact nomark _ | rfl))))))) (pss_one (s_ret (ps_ret (s_up (s_cst pe_bl (fun _ _ => .bl _)))))) (b_nil pss_nil)))
  (pss_one (s_for rfl (ps_for (passes_of rfl) rfl (i_seq (pi_U (K := K) (s_var (pv 4)))) (g_name (pg_name (i := 5) sc_law_are_moves.nd rfl (by first | exact Or.inl rfl | exact Or.inr rfl)))
  (b_seq (pss_cons (s_ifS (ps_if (PW.pt (w_or (pw_or (t_not (pt_not (t_val (pt_val (s_frz (s_isiP (o_isi (.ty "tuple") isT_tuple) (pe_callB (call_isiY (K := K)) (by rfl) T.b_isinstance (by decide +kernel) (pa_cons (p_var (pv 5)) (pa_cons (pe_bltn (v := .ty "tuple") rfl T.b_tuple (by decide +kernel) rfl) pa_nil))))))))) (w_or (pw_or (t_E (le_op2 o_ne) (pt_cmpR (op_neU (K := K) (hu_of hr) hr.units) (s_frz (s_call1B o_len (pe_callB (call_lenS (K := K)) (by rfl) T.b_len (by decide +kernel) (pa_cons (p_var (pv 5)) pa_nil)))) (s_cst pe_int (fun _ _ => .int _)) (by first | exact nomark _ | rfl))) (pw_or1 (t_not (pt_not (t_val (pt_val (s_frz (s_call (pe_callS (ok_law_is_number T) (hr.mono (by decide)) rfl T.f_law_is_number.mg T.f_law_is_number.kp T.f_law_is_number.bd (fun σ pins H s e s' I c => passes_call (takes_of rfl rfl rfl rfl) (fun _ _ _ _ q => q) pins σ H s e s' I c) (r_d (pa_cons (s_B (p_ix (pe_ix (ix_S (K := K) (hu_of hr)) (p_var (pv 5)) (p_cst pe_int (fun _ _ => .int _)) (fun _ _ => rfl)))) (r_d (pa_cons (s_cst pe_int (fun _ _ => .int _)) (r_d (pa_cons (s_cst pe_int (fun _ _ => .int _)) (r_nil pa_nil)))))))))))))))))))) (pss_one (s_ret (ps_ret (s_up (s_cst pe_bl (fun _ _ => .bl _)))))) (b_nil pss_nil)))
  (pss_one (s_ifS (ps_if (t_not (pt_not (t_val (pt_val (s_frz (s_call (pe_callS (ok_law_is_number T) (hr.mono (by decide)) rfl T.f_law_is_number.mg T.f_law_is_number.kp T.f_law_is_number.bd (fun σ pins H s e s' I c => passes_call (takes_of rfl rfl rfl rfl) (fun _ _ _ _ q => q) pins σ H s e s' I c) (r_d (pa_cons (s_B (p_ix (pe_ix (ix_S (K := K) (hu_of hr)) (p_var (pv 5)) (p_cst pe_int (fun _ _ => .int _)) (fun _ _ => rfl)))) (r_d (pa_cons (s_cst pe_int (fun _ _ => .int _)) (r_d (pa_cons (s_frz (s_op2 o_sub (pe_op op_sub (s_frz (s_call1B o_len (pe_callB (call_lenS (K := K)) (by rfl) T.b_len (by decide +kernel) (pa_cons (p_var (pv 0)) pa_nil)))) (s_cst pe_int (fun _ _ => .int _))))) (r_nil pa_nil)))))))))))))) (pss_one (s_ret (ps_ret (s_up (s_cst pe_bl (fun _ _ => .bl _)))))) (b_nil pss_nil))))))))))))))))))
  (pss_one (s_ret (ps_ret (s_up (s_cst pe_bl (fun _ _ => .bl _)))))))))))

theorem ok_law_are_rows (T : Txt P K mg) : FnOk P w K mg base (L2.CX P w) 1 T.f_law_are_rows.f T.f_law_are_rows.fd ["_law_thing"] (spF (gK K T.cls hid0) f_law_are_rows) := by
  unfold f_law_are_rows m_law_are_rows
  exact fn_S T.f_law_are_rows.F sc_law_are_rows rfl rfl (fun cdv A outer s H E hr =>
  (b_seq (pss_cons (s_ifS (ps_if (PW.pt (w_or (pw_or (t_not (pt_not (t_val (pt_val (s_frz (s_isiP (o_isi (.ty "str") isT_str) (pe_callB (call_isiY (K := K)) (by rfl) T.b_isinstance (by decide +kernel) (pa_cons (p_var (pv 0)) (pa_cons (pe_bltn (v := .ty "str") rfl T.b_str (by decide +kernel) rfl) pa_nil))))))))) (pw_or1 (t_not (pt_not (t_D (le_chain o_le o_le) (pt_chain op_leU op_leU (s_cst pe_int (fun _ _ => .int _)) (s_frz (s_call1B o_len (pe_callB (call_lenS (K := K)) (by rfl) T.b_len (by decide +kernel) (pa_cons (p_var (pv 0)) pa_nil)))) (s_cst pe_int (fun _ _ => .int _)))))))))) (pss_one (s_ret (ps_ret (s_up (s_cst pe_bl (fun _ _ => .bl _)))))) (b_nil pss_nil)))
  (b_seq (pss_cons (s_ifS (ps_if (t_E (le_op2 o_gt) (pt_cmpR op_gtU (s_frz (s_call1 o_len (pe_callB (call_lenS (K := K)) (by rfl) T.b_len (by decide +kernel) (pa_cons (s_frz (s_lcIf (by decide) (pe_lcU (own := [("_law_sign", 1)]) (vs := [1]) rfl (by rfl) sc_law_are_rows.nd (i_seq (pi_U (K := K) (s_var (pv 0)))) (blkOk_by (own := [("_law_sign", 1)]) (N := N_law_are_rows) (sc := defScope s_law_are_rows) (by decide +kernel)) (fun _ _ _ _ _ => (g_name (pg_name (i := 1) sc_law_are_rows.nd rfl (by first | exact Or.inl rfl | exact Or.inr rfl)))) (fun _ _ _ _ _ => (pts_one (t_E (le_op2 (o_in true)) (pt_cmpR (op_notInS (K := K) (hu_of hr) hr.units) (s_var (pv 1)) (s_cst pe_str (fun _ _ => .str _)) (by first | exact nomark _ | rfl))))) (fun _ _ _ _ _ => (s_var (pv 1)))))) pa_nil)))) (s_cst pe_int (fun _ _ => .int _)) (by first | exact nomark _ | rfl))) (pss_one (s_ret (ps_ret (s_up (s_cst pe_bl (fun _ _ => .bl _)))))) (b_nil pss_nil)))
  (pss_one (s_ret (ps_ret (s_op2 o_eq (pe_cmpR (op_eqU (K := K) (hu_of hr) hr.units) (s_frz (s_call1 o_len (pe_callB (call_lenS (K := K)) (by rfl) T.b_len (by decide +kernel) (pa_cons (s_frz (s_lcIf (by decide) (pe_lcU (own := [("_law_at", 2)]) (vs := [2]) rfl (by rfl) sc_law_are_rows.nd (i_range2 (pi_range2 (by rfl) T.b_range (pa_cons (s_cst pe_int (fun _ _ => .int _)) (pa_cons (s_frz (s_call1B o_len (pe_callB (call_lenS (K := K)) (by rfl) T.b_len (by decide +kernel) (pa_cons (p_var (pv 0)) pa_nil)))) pa_nil)))) (blkOk_by (own := [("_law_at", 2)]) (N := N_law_are_rows) (sc := defScope s_law_are_rows) (by decide +kernel)) (fun _ _ _ _ _ => (g_name (pg_name (i := 2) sc_law_are_rows.nd rfl (by first | exact Or.inl rfl | exact Or.inr rfl)))) (fun _ _ _ _ _ => (pts_one (t_E (le_op2 o_ge) (pt_cmpR op_geU (s_B (p_ix (pe_ix (ix_S (K := K) (hu_of hr)) (p_var (pv 0)) (p_op2 o_sub (pe_op op_sub (p_var (pv 2)) (p_cst pe_int (fun _ _ => .int _)))) (fun _ _ => rfl)))) (s_B (p_ix (pe_ix (ix_S (K := K) (hu_of hr)) (p_var (pv 0)) (p_var (pv 2)) (fun _ _ => rfl)))) (by first | exact nomark _ | rfl))))) (fun _ _ _ _ _ => (s_var (pv 2)))))) pa_nil)))) (s_cst pe_int (fun _ _ => .int _)) (by first | exact nomark _ | rfl)))))))))))

theorem ok_law_due (T : Txt P K mg) : FnOk P w K mg base (L2.CX P w) 3 T.f_law_due.f T.f_law_due.fd ["_law_rows_here", "_law_answers", "_law_moves"] (spF (gK K T.cls hid0) f_law_due) := by
  unfold f_law_due m_law_due
  exact fn_S T.f_law_due.F sc_law_due rfl rfl (fun cdv A outer s H E hr =>
  (b_seq (pss_cons (s_ifS (ps_if (t_not (pt_not (t_val (pt_val (s_frz (s_call (pe_callS (ok_law_are_rows T) (hr.mono (by decide)) rfl T.f_law_are_rows.mg T.f_law_are_rows.kp T.f_law_are_rows.bd (fun σ pins H s e s' I c => passes_call (takes_of rfl rfl rfl rfl) (fun _ _ _ _ q => q) pins σ H s e s' I c) (r_n (pa_cons (pv 0) (r_nil pa_nil)))))))))) (pss_one (s_ret (ps_ret (s_up (s_cst pe_str (fun _ _ => .str _)))))) (b_nil pss_nil)))
  (b_seq (pss_cons (s_ifS (ps_if (t_not (pt_not (t_val (pt_val (s_frz (s_call (pe_callS (ok_law_is_number T) (hr.mono (by decide)) rfl T.f_law_is_number.mg T.f_law_is_number.kp T.f_law_is_number.bd (fun σ pins H s e s' I c => passes_call (takes_of rfl rfl rfl rfl) (fun _ _ _ _ q => q) pins σ H s e s' I c) (r_n (pa_cons (pv 1) (r_d (pa_cons (s_cst pe_int (fun _ _ => .int _)) (r_d (pa_cons (s_cst pe_int (fun _ _ => .int _)) (r_nil pa_nil)))))))))))))) (pss_one (s_ret (ps_ret (s_up (s_cst pe_str (fun _ _ => .str _)))))) (b_nil pss_nil)))
  (b_seq (pss_cons (s_ifS (ps_if (t_not (pt_not (t_val (pt_val (s_frz (s_call (pe_callS (ok_law_are_moves T) (hr.mono (by decide)) rfl T.f_law_are_moves.mg T.f_law_are_moves.kp T.f_law_are_moves.bd (fun σ pins H s e s' I c => passes_call (takes_of rfl rfl rfl rfl) (fun _ _ _ _ q => q) pins σ H s e s' I c) (r_n (pa_cons (pv 2) (r_n (pa_cons (pv 0) (r_n (pa_cons (pv 1) (r_nil pa_nil)))))))))))))) (pss_one (s_ret (ps_ret (s_up (s_cst pe_str (fun _ _ => .str _)))))) (b_nil pss_nil)))
  (pss_one (s_ret (ps_ret (s_up (s_cst pe_str (fun _ _ => .str _)))))))))))))

theorem ok_law_hand (T : Txt P K mg) : FnOk P w K mg base (L2.CX P w) 1 T.f_law_hand.f T.f_law_hand.fd ["_law_script"] (spF (gK K T.cls hid0) f_law_hand) := by
  unfold f_law_hand m_law_hand
  exact fn_S T.f_law_hand.F sc_law_hand rfl rfl (fun cdv A outer s H E hr =>
  (b_seq (pss_cons (s_setLc rfl (by decide) (ps_setLcU (i := 1) (own := [("_law_cell", 2)]) (vs := [2]) rfl (by rfl) sc_law_hand.nd rfl rfl (sw_true rfl rfl rfl (by decide +kernel)) (i_seq (pi_U (K := K) (s_frz (s_slice o_none o_some (pe_slice (sl_U (K := K)) (s_var (pv 0)) po_none (po_some (s_cst pe_int (fun _ _ => .int _)))))))) (blkOk_by (own := [("_law_cell", 2)]) (N := N_law_hand) (sc := defScope s_law_hand) (by decide +kernel)) (fun _ _ _ _ _ => (g_name (pg_name (i := 2) sc_law_hand.nd rfl (by first | exact Or.inl rfl | exact Or.inr rfl)))) (fun _ _ _ _ _ => pts_nil) (fun _ _ _ _ _ => (s_frz (s_call1 o_abs (pe_callB call_absU (by rfl) T.b_abs (by decide +kernel) (pa_cons (s_frz (s_call1B o_int (pe_callTy call_intU (by rfl) T.b_int (by decide +kernel) (pa_cons (p_var (pv 2)) pa_nil)))) pa_nil)))))))
  (pss_one (s_ret (ps_ret (s_lst (pe_lst (s_acons (pa_cons (s_var (pv 1)) (s_acons (pa_cons (s_cst pe_int (fun _ _ => .int _)) (s_acons (pa_cons (s_cst pe_int (fun _ _ => .int _)) (s_acons (pa_cons (s_frz (s_op2 o_add (pe_op (op_addU (K := K)) (s_cst pe_int (fun _ _ => .int _)) (s_frz (s_call1B o_len (pe_callB (call_lenS (K := K)) (by rfl) T.b_len (by decide +kernel) (pa_cons (p_var (pv 1)) pa_nil))))))) (s_acons (pa_cons (s_cst pe_int (fun _ _ => .int _)) (s_anil pa_nil)))))))))))))))))))

theorem ok_law_odd (T : Txt P K mg) : FnOk P w K mg base (L2.CX P w) 2 T.f_law_odd.f T.f_law_odd.fd ["_law_hand_here"] (spF (gK K T.cls hid0) f_law_odd) := by
  unfold f_law_odd m_law_odd
  exact fn_S T.f_law_odd.F sc_law_odd rfl rfl (fun cdv A outer s H E hr =>
  (b_seq (pss_cons (s_set rfl (ps_set (i := 1) sc_law_odd.nd rfl (by first | exact Or.inl rfl | exact Or.inr rfl) (s_lst (pe_lst (s_acons (pa_cons (s_cst pe_non (fun _ _ => .non)) (s_anil pa_nil)))))))
  (b_seq (pss_cons (s_for rfl (ps_for (passes_of rfl) rfl (i_range1 (pi_range1 (by rfl) T.b_range (pa_cons (s_cst pe_int (fun _ _ => .int _)) pa_nil))) (g_name (pg_name (i := 2) sc_law_odd.nd rfl (by first | exact Or.inl rfl | exact Or.inr rfl)))
  (pss_one (s_set rfl (ps_set (i := 1) sc_law_odd.nd rfl (by first | exact Or.inl rfl | exact Or.inr rfl) (s_lst (pe_lst (s_acons (pa_cons (s_var (pv 1)) (s_anil pa_nil))))))))))
  (b_seq (pss_cons (s_set rfl (ps_set (i := 3) sc_law_odd.nd rfl (by first | exact Or.inl rfl | exact Or.inr rfl) (s_lst (pe_lst (s_acons (pa_cons (s_cst pe_non (fun _ _ => .non)) (s_acons (pa_cons (s_cst pe_bl (fun _ _ => .bl _)) (s_acons (pa_cons (s_cst pe_bl (fun _ _ => .bl _)) (s_acons (pa_cons (s_cst pe_str (fun _ _ => .str _)) (s_acons (pa_cons (s_cst pe_str (fun _ _ => .str _)) (s_acons (pa_cons (s_cst pe_str (fun _ _ => .str _)) (s_acons (pa_cons (s_frz (s_lst (pe_lst (s_acons (pa_cons (s_cst pe_str (fun _ _ => .str _)) (s_anil pa_nil)))))) (s_acons (pa_cons (s_frz (s_disp1 (pe_disp (pps_cons pe_str (s_cst pe_str (fun _ _ => .str _)) pps_nil) (by rfl) (by rfl) (fun z => by cases z) (by decide)))) (s_acons (pa_cons (s_frz (s_lst (pe_lst (s_anil pa_nil)))) (s_acons (pa_cons (s_frz (s_newK pe_dnewK)) (s_acons (pa_cons (s_tup (pe_tup (s_acons (pa_cons (s_tup (pe_tup (s_anil pa_nil))) (s_anil pa_nil))))) (s_acons (pa_cons (s_tup (pe_tup (s_acons (pa_cons (s_cst pe_int (fun _ _ => .int _)) (s_anil pa_nil))))) (s_acons (pa_cons (s_tup (pe_tup (s_acons (pa_cons (s_cst pe_str (fun _ _ => .str _)) (s_anil pa_nil))))) (s_acons (pa_cons (s_var (pv 1)) (s_acons (pa_cons (s_tup (pe_tup (s_acons (pa_cons (s_cst pe_str (fun _ _ => .str _)) (s_acons (pa_cons (s_cst pe_str (fun _ _ => .str _)) (s_acons (pa_cons (s_cst pe_str (fun _ _ => .str _)) (s_anil pa_nil))))))))) (s_acons (pa_cons (s_cst pe_str (fun _ _ => .str _)) (s_anil pa_nil)))))))))))))))))))))))))))))))))))))
  (pss_one (s_ret (ps_ret (s_op2 o_ix (pe_ix (ix_S (K := K) (hu_of hr)) (s_var (pv 3)) (s_frz (s_call (pe_callS (ok_law_draw T) (hr.mono (by decide)) rfl T.f_law_draw.mg T.f_law_draw.kp T.f_law_draw.bd (fun σ pins H s e s' I c => passes_call (takes_of rfl rfl rfl rfl) (fun _ _ _ _ q => q) pins σ H s e s' I c) (r_n (pa_cons (pv 0) (r_d (pa_cons (s_frz (s_call1B o_len (pe_callB (call_lenS (K := K)) (by rfl) T.b_len (by decide +kernel) (pa_cons (p_var (pv 3)) pa_nil)))) (r_nil pa_nil)))))))) (fun _ _ => rfl)))))))))))))

theorem ok_law_put (T : Txt P K mg) : FnOk P w K mg base (L2.CX P w) 1 T.f_law_put.f T.f_law_put.fd ["_law_things", "_law_at", "_law_thing"] (spF (gK K T.cls hid0) f_law_put) := by
  unfold f_law_put m_law_put
  exact fn_S T.f_law_put.F sc_law_put rfl rfl (fun cdv A outer s H E hr =>
  (pss_one (s_ret (ps_ret (s_op2 o_add (pe_op (op_addU (K := K)) (s_frz (s_op2 o_add (pe_op (op_addU (K := K)) (s_frz (s_slice o_none o_some (pe_slice (sl_U (K := K)) (s_var (pv 0)) po_none (po_some (s_var (pv 1)))))) (s_tup (pe_tup (s_acons (pa_cons (s_var (pv 2)) (s_anil pa_nil)))))))) (s_frz (s_slice o_some o_none (pe_slice (sl_U (K := K)) (s_var (pv 0)) (po_some (s_frz (s_op2 o_add (pe_op (op_addU (K := K)) (s_var (pv 1)) (s_cst pe_int (fun _ _ => .int _)))))) po_none)))))))))

theorem ok_law_spoiled_move (T : Txt P K mg) : FnOk P w K mg base (L2.CX P w) 3 T.f_law_spoiled_move.f T.f_law_spoiled_move.fd ["_law_hand_here", "_law_move", "_law_size"] (spF (gK K T.cls hid0) f_law_spoiled_move) := by
  unfold f_law_spoiled_move m_law_spoiled_move
  exact fn_S T.f_law_spoiled_move.F sc_law_spoiled_move rfl rfl (fun cdv A outer s H E hr =>
  (b_seq (pss_cons (s_set rfl (ps_set (i := 3) sc_law_spoiled_move.nd rfl (by first | exact Or.inl rfl | exact Or.inr rfl) (s_lst (pe_lst (s_acons (pa_cons (s_frz (s_call1B o_list (pe_callTy (call_listU2 (K := K)) (by rfl) T.b_list (by decide +kernel) (pa_cons (p_var (pv 1)) pa_nil)))) (s_acons (pa_cons (s_frz (s_op2 o_add (pe_op (op_addU (K := K)) (s_var (pv 1)) (s_tup (pe_tup (s_acons (pa_cons (s_cst pe_int (fun _ _ => .int _)) (s_anil pa_nil)))))))) (s_acons (pa_cons (s_frz (s_slice o_none o_some (pe_slice (sl_U (K := K)) (s_var (pv 1)) po_none (po_some (s_cst pe_int (fun _ _ => .int _)))))) (s_acons (pa_cons (s_tup (pe_tup (s_acons (pa_cons (s_cst pe_int (fun _ _ => .int _)) (s_acons (pa_cons (s_cst pe_int (fun _ _ => .int _)) (s_anil pa_nil))))))) (s_acons (pa_cons (s_tup (pe_tup (s_acons (pa_cons (s_cst pe_int (fun _ _ => .int _)) (s_acons (pa_cons (s_cst pe_int (fun _ _ => .int _)) (s_anil pa_nil))))))) (s_acons (pa_cons (s_tup (pe_tup (s_acons (pa_cons (s_cst pe_int (fun _ _ => .int _)) (s_acons (pa_cons (s_cst pe_int (fun _ _ => .int _)) (s_anil pa_nil))))))) (s_acons (pa_cons (s_tup (pe_tup (s_acons (pa_cons (s_cst pe_int (fun _ _ => .int _)) (s_acons (pa_cons (s_cst pe_int (fun _ _ => .int _)) (s_anil pa_nil))))))) (s_acons (pa_cons (s_tup (pe_tup (s_acons (pa_cons (s_B (p_ix (pe_ix (ix_S (K := K) (hu_of hr)) (p_var (pv 1)) (p_cst pe_int (fun _ _ => .int _)) (fun _ _ => rfl)))) (s_acons (pa_cons (s_var (pv 2)) (s_anil pa_nil))))))) (s_acons (pa_cons (s_tup (pe_tup (s_acons (pa_cons (s_B (p_ix (pe_ix (ix_S (K := K) (hu_of hr)) (p_var (pv 1)) (p_cst pe_int (fun _ _ => .int _)) (fun _ _ => rfl)))) (s_acons (pa_cons (s_frz (s_op2 o_sub (pe_op op_sub (s_var (pv 2)) (s_cst pe_int (fun _ _ => .int _))))) (s_anil pa_nil))))))) (s_acons (pa_cons (s_tup (pe_tup (s_acons (pa_cons (s_B (p_ix (pe_ix (ix_S (K := K) (hu_of hr)) (p_var (pv 1)) (p_cst pe_int (fun _ _ => .int _)) (fun _ _ => rfl)))) (s_acons (pa_cons (s_frz (s_op1 o_neg (pe_un un_neg (s_cst pe_int (fun _ _ => .int _))))) (s_anil pa_nil))))))) (s_anil pa_nil)))))))))))))))))))))))))
  (b_seq (pss_cons (s_set rfl (ps_set (i := 3) sc_law_spoiled_move.nd rfl (by first | exact Or.inl rfl | exact Or.inr rfl) (s_op2 o_add (pe_op (op_addU (K := K)) (s_var (pv 3)) (s_frz (s_lst (pe_lst (s_acons (pa_cons (s_tup (pe_tup (s_acons (pa_cons (s_cst pe_bl (fun _ _ => .bl _)) (s_acons (pa_cons (s_cst pe_int (fun _ _ => .int _)) (s_anil pa_nil))))))) (s_acons (pa_cons (s_tup (pe_tup (s_acons (pa_cons (s_cst pe_int (fun _ _ => .int _)) (s_acons (pa_cons (s_cst pe_bl (fun _ _ => .bl _)) (s_anil pa_nil))))))) (s_acons (pa_cons (s_tup (pe_tup (s_acons (pa_cons (s_B (p_ix (pe_ix (ix_S (K := K) (hu_of hr)) (p_var (pv 1)) (p_cst pe_int (fun _ _ => .int _)) (fun _ _ => rfl)))) (s_acons (pa_cons (s_cst pe_non (fun _ _ => .non)) (s_anil pa_nil))))))) (s_acons (pa_cons (s_tup (pe_tup (s_acons (pa_cons (s_cst pe_str (fun _ _ => .str _)) (s_acons (pa_cons (s_cst pe_int (fun _ _ => .int _)) (s_anil pa_nil))))))) (s_acons (pa_cons (s_cst pe_int (fun _ _ => .int _)) (s_acons (pa_cons (s_tup (pe_tup (s_acons (pa_cons (s_B (p_ix (pe_ix (ix_S (K := K) (hu_of hr)) (p_var (pv 1)) (p_cst pe_int (fun _ _ => .int _)) (fun _ _ => rfl)))) (s_acons (pa_cons (s_frz (s_lst (pe_lst (s_acons (pa_cons (s_cst pe_int (fun _ _ => .int _)) (s_anil pa_nil)))))) (s_anil pa_nil))))))) (s_acons (pa_cons (s_tup (pe_tup (s_acons (pa_cons (s_B (p_ix (pe_ix (ix_S (K := K) (hu_of hr)) (p_var (pv 1)) (p_cst pe_int (fun _ _ => .int _)) (fun _ _ => rfl)))) (s_acons (pa_cons (s_B (p_ix (pe_ix (ix_S (K := K) (hu_of hr)) (p_var (pv 1)) (p_cst pe_int (fun _ _ => .int _)) (fun _ _ => rfl)))) (s_anil pa_nil))))))) (s_acons (pa_cons (s_frz (s_call (pe_callS (ok_law_odd T) (hr.mono (by decide)) rfl T.f_law_odd.mg T.f_law_odd.kp T.f_law_odd.bd (fun σ pins H s e s' I c => passes_call (takes_of rfl rfl rfl rfl) (fun _ _ _ _ q => q) pins σ H s e s' I c) (r_n (pa_cons (pv 0) (r_nil pa_nil)))))) (s_anil pa_nil))))))))))))))))))))))))
  (pss_one (s_ret (ps_ret (s_op2 o_ix (pe_ix (ix_S (K := K) (hu_of hr)) (s_var (pv 3)) (s_frz (s_call (pe_callS (ok_law_draw T) (hr.mono (by decide)) rfl T.f_law_draw.mg T.f_law_draw.kp T.f_law_draw.bd (fun σ pins H s e s' I c => passes_call (takes_of rfl rfl rfl rfl) (fun _ _ _ _ q => q) pins σ H s e s' I c) (r_n (pa_cons (pv 0) (r_d (pa_cons (s_frz (s_call1B o_len (pe_callB (call_lenS (K := K)) (by rfl) T.b_len (by decide +kernel) (pa_cons (p_var (pv 3)) pa_nil)))) (r_nil pa_nil)))))))) (fun _ _ => rfl)))))))))))

theorem ok_law_spoiled_moves (T : Txt P K mg) : FnOk P w K mg base (L2.CX P w) 4 T.f_law_spoiled_moves.f T.f_law_spoiled_moves.fd ["_law_hand_here", "_law_moves"] (spF (gK K T.cls hid0) f_law_spoiled_moves) := by
  unfold f_law_spoiled_moves m_law_spoiled_moves
  exact fn_S T.f_law_spoiled_moves.F sc_law_spoiled_moves rfl rfl (fun cdv A outer s H E hr =>
  (b_seq (pss_cons (s_set rfl (ps_set (i := 2) sc_law_spoiled_moves.nd rfl (by first | exact Or.inl rfl | exact Or.inr rfl) (s_call (pe_callS (ok_law_draw T) (hr.mono (by decide)) rfl T.f_law_draw.mg T.f_law_draw.kp T.f_law_draw.bd (fun σ pins H s e s' I c => passes_call (takes_of rfl rfl rfl rfl) (fun _ _ _ _ q => q) pins σ H s e s' I c) (r_n (pa_cons (pv 0) (r_d (pa_cons (s_cst pe_int (fun _ _ => .int _)) (r_nil pa_nil)))))))))
  (b_seq (pss_cons (s_set rfl (ps_set (i := 3) sc_law_spoiled_moves.nd rfl (by first | exact Or.inl rfl | exact Or.inr rfl) (s_call (pe_callS (ok_law_draw T) (hr.mono (by decide)) rfl T.f_law_draw.mg T.f_law_draw.kp T.f_law_draw.bd (fun σ pins H s e s' I c => passes_call (takes_of rfl rfl rfl rfl) (fun _ _ _ _ q => q) pins σ H s e s' I c) (r_n (pa_cons (pv 0) (r_d (pa_cons (s_frz (s_call1B o_len (pe_callB (call_lenS (K := K)) (by rfl) T.b_len (by decide +kernel) (pa_cons (p_var (pv 1)) pa_nil)))) (r_nil pa_nil)))))))))
  (b_seq (pss_cons (s_set rfl (ps_set (i := 4) sc_law_spoiled_moves.nd rfl (by first | exact Or.inl rfl | exact Or.inr rfl) (s_up (s_B (p_ix (pe_ix (ix_S (K := K) (hu_of hr)) (p_var (pv 1)) (p_var (pv 3)) (fun _ _ => rfl)))))))
  (b_seq (pss_cons (s_set rfl (ps_set (i := 5) sc_law_spoiled_moves.nd rfl (by first | exact Or.inl rfl | exact Or.inr rfl) (s_call (pe_callS (ok_law_draw T) (hr.mono (by decide)) rfl T.f_law_draw.mg T.f_law_draw.kp T.f_law_draw.bd (fun σ pins H s e s' I c => passes_call (takes_of rfl rfl rfl rfl) (fun _ _ _ _ q => q) pins σ H s e s' I c) (r_n (pa_cons (pv 0) (r_d (pa_cons (s_frz (s_call1B o_len (pe_callB (call_lenS (K := K)) (by rfl) T.b_len (by decide +kernel) (pa_cons (p_var (pv 4)) pa_nil)))) (r_nil pa_nil)))))))))
  (b_seq (pss_cons (s_set rfl (ps_set (i := 6) sc_law_spoiled_moves.nd rfl (by first | exact Or.inl rfl | exact Or.inr rfl) (s_up (s_B (p_ix (pe_ix (ix_S (K := K) (hu_of hr)) (p_var (pv 4)) (p_var (pv 5)) (fun _ _ => rfl)))))))
  (b_seq (pss_cons (s_ifS (ps_if (t_E (le_op2B o_eq) (pt_cmpR (op_eqU (K := K) (hu_of hr) hr.units) (p_var (pv 2)) (p_cst pe_int (fun _ _ => .int _)) (by first | exact nomark _ | rfl))) (pss_one (s_ret (ps_ret (s_op2 o_ix (pe_ix (ix_S (K := K) (hu_of hr)) (s_frz (s_lst (pe_lst (s_acons (pa_cons (s_cst pe_non (fun _ _ => .non)) (s_acons (pa_cons (s_tup (pe_tup (s_anil pa_nil))) (s_acons (pa_cons (s_frz (s_call1B o_list (pe_callTy (call_listU2 (K := K)) (by rfl) T.b_list (by decide +kernel) (pa_cons (p_var (pv 1)) pa_nil)))) (s_acons (pa_cons (s_frz (s_op2 o_add (pe_op (op_addU (K := K)) (s_var (pv 1)) (s_tup (pe_tup (s_acons (pa_cons (s_var (pv 4)) (s_anil pa_nil)))))))) (s_acons (pa_cons (s_frz (s_slice o_none o_some (pe_slice (sl_U (K := K)) (s_var (pv 1)) po_none (po_some (s_frz (s_op1 o_neg (pe_un un_neg (s_cst pe_int (fun _ _ => .int _))))))))) (s_acons (pa_cons (s_frz (s_op2 o_mul (pe_op (op_mulK (K := K)) (s_var (pv 1)) (s_cst pe_int (fun _ _ => .int _))))) (s_acons (pa_cons (s_frz (s_newK pe_dnewK)) (s_acons (pa_cons (s_frz (s_call (pe_callS (ok_law_odd T) (hr.mono (by decide)) rfl T.f_law_odd.mg T.f_law_odd.kp T.f_law_odd.bd (fun σ pins H s e s' I c => passes_call (takes_of rfl rfl rfl rfl) (fun _ _ _ _ q => q) pins σ H s e s' I c) (r_n (pa_cons (pv 0) (r_nil pa_nil)))))) (s_anil pa_nil)))))))))))))))))))) (s_frz (s_call (pe_callS (ok_law_draw T) (hr.mono (by decide)) rfl T.f_law_draw.mg T.f_law_draw.kp T.f_law_draw.bd (fun σ pins H s e s' I c => passes_call (takes_of rfl rfl rfl rfl) (fun _ _ _ _ q => q) pins σ H s e s' I c) (r_n (pa_cons (pv 0) (r_d (pa_cons (s_cst pe_int (fun _ _ => .int _)) (r_nil pa_nil)))))))) (fun _ _ => rfl)))))) (b_nil pss_nil)))
  (b_seq (pss_cons (s_ifS (ps_if (t_E (le_op2B o_eq) (pt_cmpR (op_eqU (K := K) (hu_of hr) hr.units) (p_var (pv 2)) (p_cst pe_int (fun _ _ => .int _)) (by first | exact nomark _ | rfl))) (pss_one (s_ret (ps_ret (s_call (pe_callS (ok_law_put T) (hr.mono (by decide)) rfl T.f_law_put.mg T.f_law_put.kp T.f_law_put.bd (fun σ pins H s e s' I c => passes_call (takes_of rfl rfl rfl rfl) (fun _ _ _ _ q => q) pins σ H s e s' I c) (r_n (pa_cons (pv 1) (r_n (pa_cons (pv 3) (r_d (pa_cons (s_frz (s_op2 o_ix (pe_ix (ix_S (K := K) (hu_of hr)) (s_frz (s_lst (pe_lst (s_acons (pa_cons (s_frz (s_call1B o_list (pe_callTy (call_listU2 (K := K)) (by rfl) T.b_list (by decide +kernel) (pa_cons (p_var (pv 4)) pa_nil)))) (s_acons (pa_cons (s_frz (s_op2 o_add (pe_op (op_addU (K := K)) (s_var (pv 4)) (s_tup (pe_tup (s_acons (pa_cons (s_var (pv 6)) (s_anil pa_nil)))))))) (s_acons (pa_cons (s_frz (s_slice o_none o_some (pe_slice (sl_U (K := K)) (s_var (pv 4)) po_none (po_some (s_frz (s_op1 o_neg (pe_un un_neg (s_cst pe_int (fun _ _ => .int _))))))))) (s_acons (pa_cons (s_cst pe_non (fun _ _ => .non)) (s_acons (pa_cons (s_tup (pe_tup (s_anil pa_nil))) (s_acons (pa_cons (s_frz (s_call (pe_callS (ok_law_odd T) (hr.mono (by decide)) rfl T.f_law_odd.mg T.f_law_odd.kp T.f_law_odd.bd (fun σ pins H s e s' I c => passes_call (takes_of rfl rfl rfl rfl) (fun _ _ _ _ q => q) pins σ H s e s' I c) (r_n (pa_cons (pv 0) (r_nil pa_nil)))))) (s_anil pa_nil)))))))))))))))) (s_frz (s_call (pe_callS (ok_law_draw T) (hr.mono (by decide)) rfl T.f_law_draw.mg T.f_law_draw.kp T.f_law_draw.bd (fun σ pins H s e s' I c => passes_call (takes_of rfl rfl rfl rfl) (fun _ _ _ _ q => q) pins σ H s e s' I c) (r_n (pa_cons (pv 0) (r_d (pa_cons (s_cst pe_int (fun _ _ => .int _)) (r_nil pa_nil)))))))) (fun _ _ => rfl)))) (r_nil pa_nil)))))))))))) (b_nil pss_nil)))
  (b_seq (pss_cons (s_ifS (ps_if (t_E (le_op2B o_eq) (pt_cmpR (op_eqU (K := K) (hu_of hr) hr.units) (p_var (pv 2)) (p_cst pe_int (fun _ _ => .int _)) (by first | exact nomark _ | rfl))) (b_seq (pss_cons (s_set rfl (ps_set (i := 6) sc_law_spoiled_moves.nd rfl (by first | exact Or.inl rfl | exact Or.inr rfl) (s_op2 o_ix (pe_ix (ix_S (K := K) (hu_of hr)) (s_frz (s_lst (pe_lst (s_acons (pa_cons (s_frz (s_call1B o_list (pe_callTy (call_listU2 (K := K)) (by rfl) T.b_list (by decide +kernel) (pa_cons (p_var (pv 6)) pa_nil)))) (s_acons (pa_cons (s_frz (s_op2 o_add (pe_op (op_addU (K := K)) (s_var (pv 6)) (s_frz (s_slice o_none o_some (pe_slice (sl_U (K := K)) (s_var (pv 6)) po_none (po_some (s_cst pe_int (fun _ _ => .int _))))))))) (s_acons (pa_cons (s_frz (s_slice o_none o_some (pe_slice (sl_U (K := K)) (s_var (pv 6)) po_none (po_some (s_frz (s_op1 o_neg (pe_un un_neg (s_cst pe_int (fun _ _ => .int _))))))))) (s_acons (pa_cons (s_cst pe_non (fun _ _ => .non)) (s_acons (pa_cons (s_tup (pe_tup (s_anil pa_nil))) (s_acons (pa_cons (s_B (p_ix (pe_ix (ix_S (K := K) (hu_of hr)) (p_var (pv 6)) (p_cst pe_int (fun _ _ => .int _)) (fun _ _ => rfl)))) (s_anil pa_nil)))))))))))))))) (s_frz (s_call (pe_callS (ok_law_draw T) (hr.mono (by decide)) rfl T.f_law_draw.mg T.f_law_draw.kp T.f_law_draw.bd (fun σ pins H s e s' I c => passes_call (takes_of rfl rfl rfl rfl) (fun _ _ _ _ q => q) pins σ H s e s' I c) (r_n (pa_cons (pv 0) (r_d (pa_cons (s_cst pe_int (fun _ _ => .int _)) (r_nil pa_nil)))))))) (fun _ _ => rfl)))))
  (pss_one (s_ret (ps_ret (s_call (pe_callS (ok_law_put T) (hr.mono (by decide)) rfl T.f_law_put.mg T.f_law_put.kp T.f_law_put.bd (fun σ pins H s e s' I c => passes_call (takes_of rfl rfl rfl rfl) (fun _ _ _ _ q => q) pins σ H s e s' I c) (r_n (pa_cons (pv 1) (r_n (pa_cons (pv 3) (r_d (pa_cons (s_frz (s_call (pe_callS (ok_law_put T) (hr.mono (by decide)) rfl T.f_law_put.mg T.f_law_put.kp T.f_law_put.bd (fun σ pins H s e s' I c => passes_call (takes_of rfl rfl rfl rfl) (fun _ _ _ _ q => q) pins σ H s e s' I c) (r_n (pa_cons (pv 4) (r_n (pa_cons (pv 5) (r_n (pa_cons (pv 6) (r_nil pa_nil)))))))))) (r_nil pa_nil)))))))))))))) (b_nil pss_nil)))
  (b_seq (pss_cons (s_set rfl (ps_set (i := 7) sc_law_spoiled_moves.nd rfl (by first | exact Or.inl rfl | exact Or.inr rfl) (s_call (pe_callS (ok_law_draw T) (hr.mono (by decide)) rfl T.f_law_draw.mg T.f_law_draw.kp T.f_law_draw.bd (fun σ pins H s e s' I c => passes_call (takes_of rfl rfl rfl rfl) (fun _ _ _ _ q => q) pins σ H s e s' I c) (r_n (pa_cons (pv 0) (r_d (pa_cons (s_frz (s_call1B o_len (pe_callB (call_lenS (K := K)) (by rfl) T.b_len (by decide +kernel) (pa_cons (p_var (pv 6)) pa_nil)))) (r_nil pa_nil)))))))))
  (b_seq (pss_cons (s_set rfl (ps_set (i := 6) sc_law_spoiled_moves.nd rfl (by first | exact Or.inl rfl | exact Or.inr rfl) (s_call (pe_callS (ok_law_put T) (hr.mono (by decide)) rfl T.f_law_put.mg T.f_law_put.kp T.f_law_put.bd (fun σ pins H s e s' I c => passes_call (takes_of rfl rfl rfl rfl) (fun _ _ _ _ q => q) pins σ H s e s' I c) (r_n (pa_cons (pv 6) (r_n (pa_cons (pv 7) (r_d (pa_cons (s_frz (s_call (pe_callS (ok_law_spoiled_move T) (hr.mono (by decide)) rfl T.f_law_spoiled_move.mg T.f_law_spoiled_move.kp T.f_law_spoiled_move.bd (fun σ pins H s e s' I c => passes_call (takes_of rfl rfl rfl rfl) (fun _ _ _ _ q => q) pins σ H s e s' I c) (r_n (pa_cons (pv 0) (r_d (pa_cons (s_B (p_ix (pe_ix (ix_S (K := K) (hu_of hr)) (p_var (pv 6)) (p_var (pv 7)) (fun _ _ => rfl)))) (r_d (pa_cons (s_frz (s_call1B o_len (pe_callB (call_lenS (K := K)) (by rfl) T.b_len (by decide +kernel) (pa_cons (p_var (pv 1)) pa_nil)))) (r_nil pa_nil)))))))))) (r_nil pa_nil)))))))))))
  (pss_one (s_ret (ps_ret (s_call (pe_callS (ok_law_put T) (hr.mono (by decide)) rfl T.f_law_put.mg T.f_law_put.kp T.f_law_put.bd (fun σ pins H s e s' I c => passes_call (takes_of rfl rfl rfl rfl) (fun _ _ _ _ q => q) pins σ H s e s' I c) (r_n (pa_cons (pv 1) (r_n (pa_cons (pv 3) (r_d (pa_cons (s_frz (s_call (pe_callS (ok_law_put T) (hr.mono (by decide)) rfl T.f_law_put.mg T.f_law_put.kp T.f_law_put.bd (fun σ pins H s e s' I c => passes_call (takes_of rfl rfl rfl rfl) (fun _ _ _ _ q => q) pins σ H s e s' I c) (r_n (pa_cons (pv 4) (r_n (pa_cons (pv 5) (r_n (pa_cons (pv 6) (r_nil pa_nil)))))))))) (r_nil pa_nil)))))))))))))))))))))))))))))))))

theorem ok_law_line (T : Txt P K mg) : FnOk P w K mg base (L2.CX P w) 2 T.f_law_line.f T.f_law_line.fd ["_law_hand_here", "_law_answers", "_law_size", "_law_top"] (spF (gK K T.cls hid0) f_law_line) := by
  unfold f_law_line m_law_line
  exact fn_S T.f_law_line.F sc_law_line rfl rfl (fun cdv A outer s H E hr =>
  (pss_one (s_ret (ps_ret (s_call1 o_tuple (pe_callTy (call_tupleU (K := K)) (by rfl) T.b_tuple (by decide +kernel) (pa_cons (s_frz (s_lc (by decide) (pe_lcU (own := [("_law_answer", 4)]) (vs := [4]) rfl (by rfl) sc_law_line.nd (i_range1 (pi_range1 (by rfl) T.b_range (pa_cons (s_var (pv 1)) pa_nil))) (blkOk_by (own := [("_law_answer", 4)]) (N := N_law_line) (sc := defScope s_law_line) (by decide +kernel)) (fun _ _ _ _ _ => (g_name (pg_name (i := 4) sc_law_line.nd rfl (by first | exact Or.inl rfl | exact Or.inr rfl)))) (fun _ _ _ _ _ => pts_nil) (fun _ _ _ _ _ => (s_tup (pe_tup (s_acons (pa_cons (s_frz (s_op2 o_add (pe_op (op_addU (K := K)) (s_cst pe_int (fun _ _ => .int _)) (s_frz (s_call (pe_callS (ok_law_draw T) (hr.mono (by decide)) rfl T.f_law_draw.mg T.f_law_draw.kp T.f_law_draw.bd (fun σ pins H s e s' I c => passL pins σ H s e s' I c) (r_n (pa_cons (pv 0) (r_n (pa_cons (pv 3) (r_nil pa_nil))))))))))) (s_acons (pa_cons (s_frz (s_call (pe_callS (ok_law_draw T) (hr.mono (by decide)) rfl T.f_law_draw.mg T.f_law_draw.kp T.f_law_draw.bd (fun σ pins H s e s' I c => passL pins σ H s e s' I c) (r_n (pa_cons (pv 0) (r_n (pa_cons (pv 2) (r_nil pa_nil)))))))) (s_anil pa_nil))))))))))) pa_nil)))))))

theorem ok_law_rows (T : Txt P K mg) : FnOk P w K mg base (L2.CX P w) 2 T.f_law_rows.f T.f_law_rows.fd ["_law_hand_here", "_law_most"] (spF (gK K T.cls hid0) f_law_rows) := by
  unfold f_law_rows m_law_rows
  exact fn_S T.f_law_rows.F sc_law_rows rfl rfl (fun cdv A outer s H E hr =>
  (b_seq (pss_cons (s_set rfl (ps_set (i := 2) sc_law_rows.nd rfl (by first | exact Or.inl rfl | exact Or.inr rfl) (s_op2 o_add (pe_op (op_addU (K := K)) (s_cst pe_int (fun _ _ => .int _)) (s_frz (s_call (pe_callS (ok_law_draw T) (hr.mono (by decide)) rfl T.f_law_draw.mg T.f_law_draw.kp T.f_law_draw.bd (fun σ pins H s e s' I c => passes_call (takes_of rfl rfl rfl rfl) (fun _ _ _ _ q => q) pins σ H s e s' I c) (r_n (pa_cons (pv 0) (r_n (pa_cons (pv 1) (r_nil pa_nil))))))))))))
  (b_seq (pss_cons (s_set rfl (ps_set (i := 3) sc_law_rows.nd rfl (by first | exact Or.inl rfl | exact Or.inr rfl) (s_up (s_cst pe_str (fun _ _ => .str _)))))
  (b_seq (pss_cons (s_set rfl (ps_set (i := 4) sc_law_rows.nd rfl (by first | exact Or.inl rfl | exact Or.inr rfl) (s_up (s_cst pe_str (fun _ _ => .str _)))))
  (b_seq (pss_cons (s_for rfl (ps_for (passes_of rfl) rfl (i_range1 (pi_range1 (by rfl) T.b_range (pa_cons (s_var (pv 2)) pa_nil))) (g_name (pg_name (i := 5) sc_law_rows.nd rfl (by first | exact Or.inl rfl | exact Or.inr rfl)))
  (b_seq (pss_cons (s_set rfl (ps_set (i := 6) sc_law_rows.nd rfl (by first | exact Or.inl rfl | exact Or.inr rfl) (s_call (pe_callS (ok_law_draw T) (hr.mono (by decide)) rfl T.f_law_draw.mg T.f_law_draw.kp T.f_law_draw.bd (fun σ pins H s e s' I c => passes_call (takes_of rfl rfl rfl rfl) (fun _ _ _ _ q => q) pins σ H s e s' I c) (r_n (pa_cons (pv 0) (r_d (pa_cons (s_frz (s_op2 o_sub (pe_op op_sub (s_frz (s_call1B o_len (pe_callB (call_lenS (K := K)) (by rfl) T.b_len (by decide +kernel) (pa_cons (p_var (pv 4)) pa_nil)))) (s_frz (s_op2 o_sub (pe_op op_sub (s_frz (s_op2 o_sub (pe_op op_sub (s_var (pv 2)) (s_var (pv 5))))) (s_cst pe_int (fun _ _ => .int _)))))))) (r_nil pa_nil)))))))))
  (b_seq (pss_cons (s_set rfl (ps_set (i := 3) sc_law_rows.nd rfl (by first | exact Or.inl rfl | exact Or.inr rfl) (s_op2 o_add (pe_op (op_addU (K := K)) (s_var (pv 3)) (s_B (p_ix (pe_ix (ix_S (K := K) (hu_of hr)) (p_var (pv 4)) (p_var (pv 6)) (fun _ _ => rfl))))))))
  (pss_one (s_set rfl (ps_set (i := 4) sc_law_rows.nd rfl (by first | exact Or.inl rfl | exact Or.inr rfl) (s_slice o_some o_none (pe_slice (sl_U (K := K)) (s_var (pv 4)) (po_some (s_frz (s_op2 o_add (pe_op (op_addU (K := K)) (s_var (pv 6)) (s_cst pe_int (fun _ _ => .int _)))))) po_none)))))))))))
  (pss_one (s_ret (ps_ret (s_move (pv 3))))))))))))))

theorem ok_law_world (T : Txt P K mg) : FnOk P w K mg base (L2.CX P w) 3 T.f_law_world.f T.f_law_world.fd ["_law_hand_here", "_law_most", "_law_size"] (spF (gK K T.cls hid0) f_law_world) := by
  unfold f_law_world m_law_world
  exact fn_S T.f_law_world.F sc_law_world rfl rfl (fun cdv A outer s H E hr =>
  (b_seq (pss_cons (s_set rfl (ps_set (i := 3) sc_law_world.nd rfl (by first | exact Or.inl rfl | exact Or.inr rfl) (s_call (pe_callS (ok_law_rows T) (hr.mono (by decide)) rfl T.f_law_rows.mg T.f_law_rows.kp T.f_law_rows.bd (fun σ pins H s e s' I c => passes_call (takes_of rfl rfl rfl rfl) (fun _ _ _ _ q => q) pins σ H s e s' I c) (r_n (pa_cons (pv 0) (r_n (pa_cons (pv 1) (r_nil pa_nil)))))))))
  (b_seq (pss_cons (s_set rfl (ps_set (i := 4) sc_law_world.nd rfl (by first | exact Or.inl rfl | exact Or.inr rfl) (s_op2 o_ix (pe_ix (ix_S (K := K) (hu_of hr)) (s_frz (s_lst (pe_lst (s_acons (pa_cons (s_cst pe_int (fun _ _ => .int _)) (s_acons (pa_cons (s_cst pe_int (fun _ _ => .int _)) (s_acons (pa_cons (s_cst pe_int (fun _ _ => .int _)) (s_acons (pa_cons (s_cst pe_int (fun _ _ => .int _)) (s_acons (pa_cons (s_cst pe_int (fun _ _ => .int _)) (s_anil pa_nil)))))))))))))) (s_frz (s_call (pe_callS (ok_law_draw T) (hr.mono (by decide)) rfl T.f_law_draw.mg T.f_law_draw.kp T.f_law_draw.bd (fun σ pins H s e s' I c => passes_call (takes_of rfl rfl rfl rfl) (fun _ _ _ _ q => q) pins σ H s e s' I c) (r_n (pa_cons (pv 0) (r_d (pa_cons (s_cst pe_int (fun _ _ => .int _)) (r_nil pa_nil)))))))) (fun _ _ => rfl)))))
  (b_seq (pss_cons (s_set rfl (ps_set (i := 5) sc_law_world.nd rfl (by first | exact Or.inl rfl | exact Or.inr rfl) (s_op2 o_add (pe_op (op_addU (K := K)) (s_cst pe_int (fun _ _ => .int _)) (s_frz (s_call (pe_callS (ok_law_draw T) (hr.mono (by decide)) rfl T.f_law_draw.mg T.f_law_draw.kp T.f_law_draw.bd (fun σ pins H s e s' I c => passes_call (takes_of rfl rfl rfl rfl) (fun _ _ _ _ q => q) pins σ H s e s' I c) (r_n (pa_cons (pv 0) (r_n (pa_cons (pv 2) (r_nil pa_nil))))))))))))
  (b_seq (pss_cons (s_set rfl (ps_set (i := 6) sc_law_world.nd rfl (by first | exact Or.inl rfl | exact Or.inr rfl) (s_op2 o_ix (pe_ix (ix_S (K := K) (hu_of hr)) (s_frz (s_lst (pe_lst (s_acons (pa_cons (s_cst pe_int (fun _ _ => .int _)) (s_acons (pa_cons (s_cst pe_int (fun _ _ => .int _)) (s_acons (pa_cons (s_cst pe_int (fun _ _ => .int _)) (s_acons (pa_cons (s_cst pe_int (fun _ _ => .int _)) (s_acons (pa_cons (s_cst pe_int (fun _ _ => .int _)) (s_anil pa_nil)))))))))))))) (s_frz (s_call (pe_callS (ok_law_draw T) (hr.mono (by decide)) rfl T.f_law_draw.mg T.f_law_draw.kp T.f_law_draw.bd (fun σ pins H s e s' I c => passes_call (takes_of rfl rfl rfl rfl) (fun _ _ _ _ q => q) pins σ H s e s' I c) (r_n (pa_cons (pv 0) (r_d (pa_cons (s_cst pe_int (fun _ _ => .int _)) (r_nil pa_nil)))))))) (fun _ _ => rfl)))))
  (b_seq (pss_cons (s_set rfl (ps_set (i := 7) sc_law_world.nd rfl (by first | exact Or.inl rfl | exact Or.inr rfl) (s_lst (pe_lst (s_anil pa_nil)))))
  (b_seq (pss_cons (s_for rfl (ps_for (passes_of rfl) rfl (i_range1 (pi_range1 (by rfl) T.b_range (pa_cons (s_var (pv 5)) pa_nil))) (g_name (pg_name (i := 8) sc_law_world.nd rfl (by first | exact Or.inl rfl | exact Or.inr rfl)))
  (pss_one (s_drop (ps_expr (s_mut rfl u_append (pe_bmU (K := K) PySem.F.plainAttrs_list PySem.F.slot_list_append PySem.F.type_list_append mt_append (pv 7) (s_acons (pa_cons (s_frz (s_call1 o_tuple (pe_callTy (call_tupleU (K := K)) (by rfl) T.b_tuple (by decide +kernel) (pa_cons (s_frz (s_lc (by decide) (pe_lcU (own := [("_law_row", 9)]) (vs := [9]) rfl (by rfl) sc_law_world.nd (i_seq (pi_U (K := K) (s_var (pv 3)))) (blkOk_by (own := [("_law_row", 9)]) (N := N_law_world) (sc := defScope s_law_world) (by decide +kernel)) (fun _ _ _ _ _ => (g_name (pg_name (i := 9) sc_law_world.nd rfl (by first | exact Or.inl rfl | exact Or.inr rfl)))) (fun _ _ _ _ _ => pts_nil) (fun _ _ _ _ _ => (s_frz (s_call (pe_callS (ok_law_line T) (hr.mono (by decide)) rfl T.f_law_line.mg T.f_law_line.kp T.f_law_line.bd (fun σ pins H s e s' I c => passL pins σ H s e s' I c) (r_n (pa_cons (pv 0) (r_n (pa_cons (pv 4) (r_n (pa_cons (pv 5) (r_n (pa_cons (pv 6) (r_nil pa_nil)))))))))))))))) pa_nil)))) (s_anil pa_nil))))))))))
  (pss_one (s_ret (ps_ret (s_up (s_tup (pe_tup (s_acons (pa_cons (s_var (pv 3)) (s_acons (pa_cons (s_var (pv 4)) (s_acons (pa_cons (s_frz (s_call1B o_tuple (pe_callTy (call_tupleU (K := K)) (by rfl) T.b_tuple (by decide +kernel) (pa_cons (p_var (pv 7)) pa_nil)))) (s_anil pa_nil))))))))))))))))))))))))))

theorem ok_law (T : Txt P K mg) : FnOk P w K mg base (L2.CX P w) 7 T.f_law.f T.f_law.fd ["_law_script"] (spF (gK K T.cls hid0) f_law) := by
  unfold f_law m_law
  exact fn_S T.f_law.F sc_law rfl rfl (fun cdv A outer s H E hr =>
  (b_seq (pss_cons (s_set rfl (ps_set (i := 1) sc_law.nd rfl (by first | exact Or.inl rfl | exact Or.inr rfl) (s_call (pe_callS (ok_law_hand T) (hr.mono (by decide)) rfl T.f_law_hand.mg T.f_law_hand.kp T.f_law_hand.bd (fun σ pins H s e s' I c => passes_call (takes_of rfl rfl rfl rfl) (fun _ _ _ _ q => q) pins σ H s e s' I c) (r_n (pa_cons (pv 0) (r_nil pa_nil)))))))
  (b_seq (pss_cons (s_for rfl (ps_for (passes_of rfl) rfl (i_range1 (pi_range1 (by rfl) T.b_range (pa_cons (s_cst pe_int (fun _ _ => .int _)) pa_nil))) (g_name (pg_name (i := 2) sc_law.nd rfl (by first | exact Or.inl rfl | exact Or.inr rfl)))
  (b_seq (pss_cons (s_asg rfl (ps_asg (s_frz (s_call (pe_callS (ok_law_world T) (hr.mono (by decide)) rfl T.f_law_world.mg T.f_law_world.kp T.f_law_world.bd (fun σ pins H s e s' I c => passes_call (takes_of rfl rfl rfl rfl) (fun _ _ _ _ q => q) pins σ H s e s' I c) (r_n (pa_cons (pv 1) (r_d (pa_cons (s_cst pe_int (fun _ _ => .int _)) (r_d (pa_cons (s_frz (s_op2 o_ix (pe_ix (ix_S (K := K) (hu_of hr)) (s_frz (s_lst (pe_lst (s_acons (pa_cons (s_cst pe_int (fun _ _ => .int _)) (s_acons (pa_cons (s_cst pe_int (fun _ _ => .int _)) (s_anil pa_nil)))))))) (s_frz (s_call (pe_callS (ok_law_draw T) (hr.mono (by decide)) rfl T.f_law_draw.mg T.f_law_draw.kp T.f_law_draw.bd (fun σ pins H s e s' I c => passes_call (takes_of rfl rfl rfl rfl) (fun _ _ _ _ q => q) pins σ H s e s' I c) (r_n (pa_cons (pv 1) (r_d (pa_cons (s_cst pe_int (fun _ _ => .int _)) (r_nil pa_nil)))))))) (fun _ _ => rfl)))) (r_nil pa_nil)))))))))) (g_tup (pg_tupU (K := K) (n := 3) rfl (g_cons (pgs_cons (g_name (pg_name (i := 3) sc_law.nd rfl (by first | exact Or.inl rfl | exact Or.inr rfl))) (g_cons (pgs_cons (g_name (pg_name (i := 4) sc_law.nd rfl (by first | exact Or.inl rfl | exact Or.inr rfl))) (g_cons (pgs_cons (g_name (pg_name (i := 5) sc_law.nd rfl (by first | exact Or.inl rfl | exact Or.inr rfl))) (g_nil pgs_nil))))))) rfl rfl))))
  (b_seq (pss_cons (s_set rfl (ps_set (i := 6) sc_law.nd rfl (by first | exact Or.inl rfl | exact Or.inr rfl) (s_call (pe_callS (ok_law_draw T) (hr.mono (by decide)) rfl T.f_law_draw.mg T.f_law_draw.kp T.f_law_draw.bd (fun σ pins H s e s' I c => passes_call (takes_of rfl rfl rfl rfl) (fun _ _ _ _ q => q) pins σ H s e s' I c) (r_n (pa_cons (pv 1) (r_d (pa_cons (s_cst pe_int (fun _ _ => .int _)) (r_nil pa_nil)))))))))
  (b_seq (pss_cons (s_ifS (ps_if (t_E (le_op2 (o_in false)) (pt_cmpR (op_inS (K := K) (hu_of hr) hr.units) (s_var (pv 6)) (s_frz (s_lst (pe_lst (s_acons (pa_cons (s_cst pe_int (fun _ _ => .int _)) (s_acons (pa_cons (s_cst pe_int (fun _ _ => .int _)) (s_anil pa_nil)))))))) (by first | exact nomark _ | rfl))) (b_seq (pss_cons (s_set rfl (ps_set (i := 7) sc_law.nd rfl (by first | exact Or.inl rfl | exact Or.inr rfl) (s_lst (pe_lst (s_acons (pa_cons (s_cst pe_str (fun _ _ => .str _)) (s_acons (pa_cons (s_frz (s_op2 o_add (pe_op (op_addU (K := K)) (s_cst pe_str (fun _ _ => .str _)) (s_var (pv 3))))) (s_acons (pa_cons (s_frz (s_op2 o_add (pe_op (op_addU (K := K)) (s_frz (s_revU (pe_revU (K := K) (s_var (pv 3))))) (s_var (pv 3))))) (s_acons (pa_cons (s_frz (s_upper (pe_bm0U (K := K) PySem.F.plainAttrs_str PySem.F.slot_str_upper PySem.F.type_str_upper mt_upperU (s_var (pv 3))))) (s_acons (pa_cons (s_frz (s_op2 o_add (pe_op (op_addU (K := K)) (s_var (pv 3)) (s_cst pe_str (fun _ _ => .str _))))) (s_acons (pa_cons (s_cst pe_str (fun _ _ => .str _)) (s_acons (pa_cons (s_frz (s_call1B o_list (pe_callTy (call_listU2 (K := K)) (by rfl) T.b_list (by decide +kernel) (pa_cons (p_var (pv 3)) pa_nil)))) (s_acons (pa_cons (s_tup (pe_tup (s_acons (pa_cons (s_var (pv 3)) (s_anil pa_nil))))) (s_acons (pa_cons (s_cst pe_str (fun _ _ => .str _)) (s_acons (pa_cons (s_cst pe_str (fun _ _ => .str _)) (s_acons (pa_cons (s_frz (s_call (pe_callS (ok_law_odd T) (hr.mono (by decide)) rfl T.f_law_odd.mg T.f_law_odd.kp T.f_law_odd.bd (fun σ pins H s e s' I c => passes_call (takes_of rfl rfl rfl rfl) (fun _ _ _ _ q => q) pins σ H s e s' I c) (r_n (pa_cons (pv 1) (r_nil pa_nil)))))) (s_anil pa_nil)))))))))))))))))))))))))))
  (pss_one (s_set rfl (ps_set (i := 3) sc_law.nd rfl (by first | exact Or.inl rfl | exact Or.inr rfl) (s_op2 o_ix (pe_ix (ix_S (K := K) (hu_of hr)) (s_var (pv 7)) (s_frz (s_call (pe_callS (ok_law_draw T) (hr.mono (by decide)) rfl T.f_law_draw.mg T.f_law_draw.kp T.f_law_draw.bd (fun σ pins H s e s' I c => passes_call (takes_of rfl rfl rfl rfl) (fun _ _ _ _ q => q) pins σ H s e s' I c) (r_n (pa_cons (pv 1) (r_d (pa_cons (s_frz (s_call1B o_len (pe_callB (call_lenS (K := K)) (by rfl) T.b_len (by decide +kernel) (pa_cons (p_var (pv 7)) pa_nil)))) (r_nil pa_nil)))))))) (fun _ _ => rfl)))))))) (b_nil pss_nil)))
  (b_seq (pss_cons (s_ifS (ps_if (t_E (le_op2 (o_in false)) (pt_cmpR (op_inS (K := K) (hu_of hr) hr.units) (s_var (pv 6)) (s_frz (s_lst (pe_lst (s_acons (pa_cons (s_cst pe_int (fun _ _ => .int _)) (s_acons (pa_cons (s_cst pe_int (fun _ _ => .int _)) (s_acons (pa_cons (s_cst pe_int (fun _ _ => .int _)) (s_anil pa_nil)))))))))) (by first | exact nomark _ | rfl))) (pss_one (s_set rfl (ps_set (i := 4) sc_law.nd rfl (by first | exact Or.inl rfl | exact Or.inr rfl) (s_op2 o_ix (pe_ix (ix_S (K := K) (hu_of hr)) (s_frz (s_lst (pe_lst (s_acons (pa_cons (s_cst pe_int (fun _ _ => .int _)) (s_acons (pa_cons (s_cst pe_int (fun _ _ => .int _)) (s_acons (pa_cons (s_cst pe_int (fun _ _ => .int _)) (s_acons (pa_cons (s_cst pe_int (fun _ _ => .int _)) (s_acons (pa_cons (s_cst pe_int (fun _ _ => .int _)) (s_acons (pa_cons (s_cst pe_bl (fun _ _ => .bl _)) (s_acons (pa_cons (s_cst pe_non (fun _ _ => .non)) (s_acons (pa_cons (s_cst pe_str (fun _ _ => .str _)) (s_acons (pa_cons (s_frz (s_op1 o_neg (pe_un un_neg (s_cst pe_int (fun _ _ => .int _))))) (s_acons (pa_cons (s_tup (pe_tup (s_acons (pa_cons (s_cst pe_int (fun _ _ => .int _)) (s_anil pa_nil))))) (s_acons (pa_cons (s_frz (s_op2 o_pow (pe_op op_pow (s_cst pe_int (fun _ _ => .int _)) (s_cst pe_int (fun _ _ => .int _))))) (s_anil pa_nil)))))))))))))))))))))))))) (s_frz (s_call (pe_callS (ok_law_draw T) (hr.mono (by decide)) rfl T.f_law_draw.mg T.f_law_draw.kp T.f_law_draw.bd (fun σ pins H s e s' I c => passes_call (takes_of rfl rfl rfl rfl) (fun _ _ _ _ q => q) pins σ H s e s' I c) (r_n (pa_cons (pv 1) (r_d (pa_cons (s_cst pe_int (fun _ _ => .int _)) (r_nil pa_nil)))))))) (fun _ _ => rfl)))))) (b_nil pss_nil)))
  (b_seq (pss_cons (s_ifS (ps_if (t_E (le_op2 (o_in false)) (pt_cmpR (op_inS (K := K) (hu_of hr) hr.units) (s_var (pv 6)) (s_frz (s_lst (pe_lst (s_acons (pa_cons (s_cst pe_int (fun _ _ => .int _)) (s_acons (pa_cons (s_cst pe_int (fun _ _ => .int _)) (s_acons (pa_cons (s_cst pe_int (fun _ _ => .int _)) (s_anil pa_nil)))))))))) (by first | exact nomark _ | rfl))) (pss_one (s_set rfl (ps_set (i := 5) sc_law.nd rfl (by first | exact Or.inl rfl | exact Or.inr rfl) (s_call (pe_callS (ok_law_spoiled_moves T) (hr.mono (by decide)) rfl T.f_law_spoiled_moves.mg T.f_law_spoiled_moves.kp T.f_law_spoiled_moves.bd (fun σ pins H s e s' I c => passes_call (takes_of rfl rfl rfl rfl) (fun _ _ _ _ q => q) pins σ H s e s' I c) (r_n (pa_cons (pv 1) (r_n (pa_cons (pv 5) (r_nil pa_nil)))))))))) (b_nil pss_nil)))
  (b_seq (pss_cons (s_set rfl (ps_set (i := 8) sc_law.nd rfl (by first | exact Or.inl rfl | exact Or.inr rfl) (s_call (pe_callS (ok_law_due T) (hr.mono (by decide)) rfl T.f_law_due.mg T.f_law_due.kp T.f_law_due.bd (fun σ pins H s e s' I c => passes_call (takes_of rfl rfl rfl rfl) (fun _ _ _ _ q => q) pins σ H s e s' I c) (r_n (pa_cons (pv 3) (r_n (pa_cons (pv 4) (r_n (pa_cons (pv 5) (r_nil pa_nil)))))))))))
  (b_seq (pss_cons (s_set rfl (ps_set (i := 9) sc_law.nd rfl (by first | exact Or.inl rfl | exact Or.inr rfl) (s_up (s_cst pe_str (fun _ _ => .str _)))))
  (b_seq (pss_cons (s_tryU rfl rfl (takes_of rfl rfl rfl rfl) rfl (fun _ _ _ _ q => q) (fun W pn xe tk po => (b_seq (pss_cons (s_set rfl (ps_set (i := 10) sc_law.nd rfl (by first | exact Or.inl rfl | exact Or.inr rfl) (s_make (c := 9) (pe_makeS T.m_Machine (ok_Machine_init T) (hr.mono (by decide)) rfl T.k_Machine T.f_Machine_init.bd (fun σ => passAt tk σ) (r_n (pa_cons (pv 3) (r_n (pa_cons (pv 4) (r_n (pa_cons (pv 5) (r_nil pa_nil)))))))))))
  (b_seq (pss_cons (s_set rfl (ps_set (i := 9) sc_law.nd rfl (by first | exact Or.inl rfl | exact Or.inr rfl) (s_up (s_cst pe_str (fun _ _ => .str _)))))
  (pss_one (s_ifS (ps_if (PW.pt (w_and (pw_and (t_E (le_op2B o_eq) (pt_cmpR (op_eqU (K := K) (hu_of hr) hr.units) (p_fld (cs := [9]) (T.fl_rows) (pe_fldU (K := K) (p_var (pv 10)) rfl)) (p_var (pv 3)) (by first | exact nomark _ | rfl))) (w_and (pw_and (t_E (le_op2B o_eq) (pt_cmpR (op_eqU (K := K) (hu_of hr) hr.units) (p_fld (cs := [9]) (T.fl_answers) (pe_fldU (K := K) (p_var (pv 10)) rfl)) (p_var (pv 4)) (by first | exact nomark _ | rfl))) (w_and (pw_and (t_E (le_op2B o_eq) (pt_cmpR (op_eqU (K := K) (hu_of hr) hr.units) (p_fld (cs := [9]) (T.fl_moves) (pe_fldU (K := K) (p_var (pv 10)) rfl)) (p_var (pv 5)) (by first | exact nomark _ | rfl))) (pw_and1 (t_E (le_op2B o_eq) (pt_cmpR (op_eqU (K := K) (hu_of hr) hr.units) (p_fld (cs := [9]) (T.fl_size) (pe_fldU (K := K) (p_var (pv 10)) rfl)) (p_call1 o_len (pe_callB (call_lenS (K := K)) (by rfl) T.b_len (by decide +kernel) (pa_cons (p_var (pv 5)) pa_nil))) (by first | exact nomark _ | rfl))))))))))) (pss_one (s_set rfl (ps_set (i := 9) sc_law.nd rfl (by first | exact Or.inl rfl | exact Or.inr rfl) (s_up (s_cst pe_str (fun _ _ => .str _)))))) (b_nil pss_nil)))))))))
 (HdsU.named (i := 11) sc_law.nd rfl rfl ⟨rfl, by decide, .inl T.x_BadMachine.gC⟩ (fun a oe cls d pn hz hf => (pss_one (ps_set (i := 9) sc_law.nd rfl (by first | exact Or.inl rfl | exact Or.inr rfl) (pe_xf T.x_BadMachine.xf T.x_BadMachine.no hz hf (pv 11))))) HdsU.nil) (.cons (hn_setX (f := (fun c fs l => (match c with | 1 => fldX "part" fs l | _ => none : Option D))) T.mt_BadMachine (by decide) rfl rfl (fun c fs l dd h a d => by
  try dsimp only at h
  split at h
  · exact xs_fld
  · cases h)) .nil))
  (pss_one (s_ifS (ps_if (t_E (le_op2B o_ne) (pt_cmpR (op_neU (K := K) (hu_of hr) hr.units) (p_var (pv 9)) (p_var (pv 8)) (by first | exact nomark _ | rfl))) (pss_one (s_ret (ps_ret (s_up (s_cst pe_bl (fun _ _ => .bl _)))))) (b_nil pss_nil))))))))))))))))))))))
  (pss_one (s_ret (ps_ret (s_up (s_cst pe_bl (fun _ _ => .bl _)))))))))))

end
end Lw
namespace Lw
open PySem PySem.Spec PyProof.Rows L2 VS
-- side goals
local macro_rules | `(tactic| walk_at "va") => `(tactic| (first | with_reducible assumption | decide | omega | (simp only [sizeLine]; omega)))
-- normal forms of slots
local macro_rules | `(tactic| walk_at "vn") => `(tactic| (simp only [List.set_cons_succ, List.set_cons_zero, toD_fz, toD_mu', toDs_fz, toDs_cons, toDs_nil, lent, wb, List.map_cons, List.map_nil, List.length_map, wipeT, List.replicate_succ, List.replicate_zero, List.cons_append, List.nil_append, Bool.not_true, Bool.not_false, List.length_cons, List.length_nil, Nat.reduceAdd, Nat.reduceSub, and_true, true_and, if_true, if_false, Bool.false_eq_true]))
-- a slot
local macro_rules | `(tactic| walk_at "vt") => `(tactic| exact rfl)
-- one step
local macro_rules | `(tactic| walk_at "v1") => `(tactic| (first
  | with_reducible refine w_ok ?_
  | with_reducible refine w_ex ?_
  | with_reducible refine w_exQ ?_
  | ((with_reducible refine w_finN (o := ?mo) ?h1 ?_); (case h1 => exact rfl))
  | ((with_reducible refine w_finR (o := ?mo) ?h1 ?_); (case h1 => exact rfl))
  | ((with_reducible refine w_finX (o := ?mo) ?h1 ?_); (case h1 => exact rfl))
  | with_reducible refine w_inC ?_
  | with_reducible refine w_inB ?_
  | with_reducible refine w_inR ?_
  | with_reducible refine w_inX ?_
  | with_reducible refine w_tryX ?_
  | with_reducible refine w_tryR ?_
  | with_reducible refine w_try ?_
  | with_reducible refine w_lc2 ?_
  | with_reducible refine w_dc ?_
  | with_reducible refine w_seq ?_
  | with_reducible refine w_set ?_
  | with_reducible refine w_frz ?_
  | with_reducible refine w_up ?_
  | with_reducible refine w_op2 ?_
  | with_reducible refine w_op1 ?_
  | with_reducible refine w_C ?_
  | ((with_reducible refine w_var (d := ?md) ?h1 ?_); (case h1 => (walk_at "vt")))
  | ((with_reducible refine w_varO (h := ?mh) (l := ?ml) ?h1 ?_); (case h1 => (walk_at "vt")))
  | ((with_reducible refine w_move (d := ?md) ?h1 ?_); (case h1 => (walk_at "vt")))
  | ((with_reducible refine w_moveO (h := ?mh) (l := ?ml) ?h1 ?_); (case h1 => (walk_at "vt")))
  | with_reducible refine w_isbl ?_
  | with_reducible refine w_isint ?_
  | with_reducible refine w_isstr ?_
  | with_reducible refine v_iteT ?_
  | with_reducible refine v_iteF ?_
  | with_reducible refine v_iteNT ?_
  | with_reducible refine v_iteNF ?_
  | with_reducible refine w_cB ?_
  | with_reducible refine w_cNot ?_
  | with_reducible refine w_cAnd ?_
  | with_reducible refine w_cOr ?_
  | with_reducible refine w_mNot ?_
  | with_reducible refine w_mAnd ?_
  | with_reducible refine w_mOr ?_
  | with_reducible refine w_mIf ?_
  | with_reducible refine w_chain ?_
  | with_reducible refine w_sif ?_
  | with_reducible refine w_sret ?_
  | with_reducible refine w_sretN ?_
  | with_reducible refine w_sNx ?_
  | with_reducible refine w_sBk ?_
  | with_reducible refine w_sCt ?_
  | with_reducible refine w_drop ?_
  | with_reducible refine w_par ?_
  | with_reducible refine w_asg ?_
  | with_reducible refine w_anil ?_
  | with_reducible refine w_acons ?_
  | ((with_reducible refine w_tup ?_); refine ⟨by walk_at "va", ?_⟩)
  | ((with_reducible refine w_lst ?_); refine ⟨by walk_at "va", ?_⟩)
  | with_reducible refine w_tup ?_
  | with_reducible refine w_lst ?_
  | with_reducible refine w_newK ?_
  | with_reducible refine w_newT ?_
  | with_reducible refine w_disp1 ?_
  | with_reducible refine w_oNone ?_
  | with_reducible refine w_oSome ?_
  | with_reducible refine w_slice ?_
  | with_reducible refine w_itD ?_
  | with_reducible refine w_itEn ?_
  | with_reducible refine w_itR1 ?_
  | with_reducible refine w_itR2 ?_
  | with_reducible refine w_itZip ?_
  | with_reducible refine w_bm ?_
  | with_reducible refine w_join ?_
  | with_reducible refine w_rnil ?_
  | with_reducible refine w_rD ?_
  | ((with_reducible refine w_rN (d := ?md) ?h1 ?_); (case h1 => (walk_at "vt")))
  | ((with_reducible refine w_rO (h := ?mh) (l := ?ml) ?h1 ?_); (case h1 => (walk_at "vt")))
  | ((with_reducible refine w_rH (s := ?ms) ?h1 ?h2 ?_); (case h1 => exact rfl); (case h2 => with_reducible assumption))
  | with_reducible refine w_call ?_
  | with_reducible refine w_make ?_
  | with_reducible refine w_put ?_
  | with_reducible refine w_raise ?_
  | with_reducible refine w_raiseF ?_
  | with_reducible refine w_for ?_
  | with_reducible refine w_lc ?_
  | with_reducible refine v_addI ?_
  | with_reducible refine v_subI ?_
  | ((with_reducible refine v_mulIr ?h1 ?h2 ?_); (case h1 => (walk_at "va")); (case h2 => (walk_at "va")))
  | ((with_reducible refine v_mulIl ?h1 ?h2 ?_); (case h1 => (walk_at "va")); (case h2 => (walk_at "va")))
  | ((with_reducible refine v_modI ?h1 ?_); (case h1 => (walk_at "va")))
  | ((with_reducible refine v_divI ?h1 ?h2 ?_); (case h1 => (walk_at "va")); (case h2 => (walk_at "va")))
  | ((with_reducible refine v_powI ?h1 ?h2 ?h3 ?_); (case h1 => (walk_at "va")); (case h2 => (walk_at "va")); (case h3 => (walk_at "va")))
  | ((with_reducible refine v_addS ?h1 ?_); (case h1 => (walk_at "va")))
  | ((with_reducible refine v_addL ?h1 ?_); (case h1 => (walk_at "va")))
  | ((with_reducible refine v_addT ?h1 ?_); (case h1 => (walk_at "va")))
  | with_reducible refine v_ltI ?_
  | with_reducible refine v_leI ?_
  | with_reducible refine v_gtI ?_
  | with_reducible refine v_geI ?_
  | with_reducible refine v_eqI ?_
  | with_reducible refine v_neI ?_
  | with_reducible refine v_eqS ?_
  | with_reducible refine v_neS ?_
  | with_reducible refine v_negI ?_
  | with_reducible refine v_absI ?_
  | with_reducible refine v_intI ?_
  | ((with_reducible refine v_isiT (n := ?mn) ?h1 ?h2 ?_); (case h1 => (exact rfl)); (case h2 => (exact rfl)))
  | ((with_reducible refine v_isiF (n := ?mn) ?h1 ?h2 ?_); (case h1 => (exact rfl)); (case h2 => (exact rfl)))
  | ((with_reducible refine w_isiT (s := ?ms) (n := ?mn) ?h1 ?h2 ?h3 ?_); (case h1 => exact rfl); (case h2 => exact rfl); (case h3 => exact rfl))
  | ((with_reducible refine w_isiF (s := ?ms) (n := ?mn) ?h1 ?h2 ?h3 ?_); (case h1 => exact rfl); (case h2 => exact rfl); (case h3 => exact rfl))
  | ((with_reducible refine v_lenS ?h1 ?_); (case h1 => (walk_at "va")))
  | with_reducible refine v_lenL ?_
  | with_reducible refine v_lenT ?_
  | with_reducible refine v_lenO ?_
  | with_reducible refine v_lenD ?_
  | ((with_reducible refine w_op1B (x := ?mx) ?h1 ?_); (case h1 => ((first | (exact rfl) | (refine view_ofL (h := ?vh) (l := ?vl) ?vv; (case vv => exact rfl))))))
  | ((with_reducible refine w_op2B (x := ?mx) (y := ?my) ?h1 ?h2 ?_); (case h1 => ((first | (exact rfl) | (refine view_ofL (h := ?vh) (l := ?vl) ?vv; (case vv => exact rfl))))); (case h2 => ((first | (exact rfl) | (refine view_ofL (h := ?vh) (l := ?vl) ?vv; (case vv => exact rfl))))))
  | ((with_reducible refine w_B (d := ?md) ?h1 ?_); (case h1 => (exact rfl)))
  | ((with_reducible refine v_put0 (h := ?mh) (sl := ?ml) ?h1 ?_); (case h1 => exact rfl))
  | ((with_reducible refine v_put1 (h := ?mh) (sl := ?ml) (hh := ?mh2) (ll := ?ml2) ?h1 ?h2 ?_); (case h1 => exact rfl); (case h2 => exact rfl))
  | ((with_reducible refine w_mut (h := ?mh) (l := ?ml) ?h1 ?h2 ?_); (case h1 => exact rfl); (case h2 => exact rfl))
  | ((with_reducible refine v_rb1 ?h1 ?_); (case h1 => omega))
  | ((with_reducible refine v_rb2 ?h1 ?_); (case h1 => omega))
  | with_reducible refine w_putO ?_
  | ((with_reducible refine v_chL ?h1 ?_); (case h1 => omega))
  | ((with_reducible refine v_chR ?h1 ?_); (case h1 => omega))
  | ((with_reducible refine v_zips (l := ?ml) (m := ?mm) ?h1 ?h2 ?_); (case h1 => exact rfl); (case h2 => exact rfl))
  | with_reducible refine w_dispK ?_
  | ((with_reducible refine v_neR (j := ?mj) ?h1 ?_); (case h1 => exact rfl))
  | ((with_reducible refine v_eqR (j := ?mj) ?h1 ?_); (case h1 => exact rfl))
  | with_reducible refine v_maxI ?_
  | with_reducible refine v_minI ?_
  | with_reducible refine w_fldS ?_
  | ((with_reducible refine v_fldN (c := ?mc) (fs := ?mfs) (sl := ?ml) ?h1 ?h2 ?h3 ?_); (case h1 => exact rfl); (case h2 => decide); (case h3 => decide))
  | (rw [putSf_new]; rotate_left; (decide +kernel); (exact rfl); dsimp only)
  | with_reducible refine v_sliL ?_
  | with_reducible refine v_sliO ?_
  | with_reducible refine v_sliT ?_
  | ((with_reducible refine v_sliS ?h1 ?_); (case h1 => (walk_at "va")))
  | with_reducible refine v_itmL ?_
  | with_reducible refine v_itmS ?_
  | ((with_reducible refine v_inS (a := ?ma) ?h1 ?_); (case h1 => exact rfl))
  | ((with_reducible refine v_ninS (a := ?ma) ?h1 ?_); (case h1 => exact rfl))
  | with_reducible refine v_itmT ?_
  | with_reducible refine v_itmO ?_
  | with_reducible refine v_dName ?_
  | with_reducible refine v_cYes ?_
  | with_reducible refine w_op2R ?_
  | ((with_reducible refine v_sz ?h1 ?_); (case h1 => (walk_at "va")))
  | ((fail_if_success (with_reducible refine fin_id ?_)); (walk_at "vn"))))
local macro_rules | `(tactic| walk_at "v") => `(tactic| repeat walk_at "v1")
-- up to the next statement of a row
local macro_rules | `(tactic| walk_at "vs") => `(tactic| repeat ((fail_if_success (with_reducible refine w_seqM (fun _ => True) ?_ ?_)); (walk_at "v1")))

/-- a text of these signs -/
def isStrOf : D → Str → Bool
  | .str s, z => s.cps.toList.all fun c => decide (c ∈ z.cps.toList)
  | _, _ => false
/-- no object of a class -/
def Pln (d : D) : Prop := tyN d ≠ none
theorem p_is_string_of {d : D} {z : Str} (hp : Pln d) : Ret f_is_string_of [.fz d, .fz (.str z)] (.fz (.bl (isStrOf d z))) := by
  unfold f_is_string_of m_is_string_of
  refine w_fn rfl rfl ?_
  cases d with
  | str x =>
    walk_at "v"
    refine w_loopX (fun i τ => ∃ o, τ = [some (.fz (.str x)), some (.fz (.str z)), o] ∧ (x.cps.toList.take i).all (fun c => decide (c ∈ z.cps.toList)) = true) ⟨_, rfl, rfl⟩ ?_ ?_
    · rintro i c τ hc ⟨o, rfl, ha⟩
      walk_at "v"
      have e : x.cps.toList.take (i + 1) = x.cps.toList.take i ++ [c] := by
        rw [List.take_add_one, hc]
        rfl
      refine v_iteN (fun q => ?_) fun q => ?_
      · walk_at "v"
        have f : isStrOf (.str x) z = false := by
          show x.cps.toList.all _ = false
          refine Bool.eq_false_iff.mpr fun t => q ?_
          have hm : c ∈ x.cps.toList := List.mem_of_getElem? hc
          exact of_decide_eq_true (List.all_eq_true.mp t c hm)
        rw [f]
        exact ⟨rfl, rfl⟩
      · walk_at "v"
        exact ⟨_, rfl, by rw [e, List.all_append, ha, List.all_cons, decide_eq_true q]; rfl⟩
    · rintro τ ⟨o, rfl, ha⟩
      walk_at "v"
      have f : isStrOf (.str x) z = true := by
        show x.cps.toList.all _ = true
        rw [List.take_length] at ha
        exact ha
      rw [f]
      exact ⟨rfl, rfl⟩
  | ob h l =>
    cases h with
    | ins c fs => exact absurd rfl hp
    | lst => walk_at "v"; exact ⟨rfl, rfl⟩
    | dct t ks => walk_at "v"; exact ⟨rfl, rfl⟩
  | _ => walk_at "v"; exact ⟨rfl, rfl⟩

-- use is_string_of
def SMALL : Str := "abcdefghijklmnopqrstuvwxyz"
def isWord (d : D) : Bool := isStrOf d SMALL && match d with | .str s => decide (0 < s.length) | _ => false
/-- a plain value of measure -/
def Fit : D → Prop
  | .str s => s.length ≤ sizeLine
  | d => Pln d
theorem Fit.pln {d : D} (h : Fit d) : Pln d := by
  cases d with
  | str s => exact fun e => nomatch e
  | _ => exact h
theorem p_is_word {d : D} (hf : Fit d) : Ret f_is_word [.fz d] (.fz (.bl (isWord d))) := by
  unfold f_is_word m_is_word
  refine w_fn rfl rfl ?_
  walk_at "v"
  refine w_ret rfl rfl (p_is_string_of hf.pln) rfl ?_
  walk_at "v"
  unfold isWord
  refine v_ite (fun e => ?_) fun e => ?_
  · cases d with
    | str x =>
      have hf : x.length ≤ sizeLine := hf
      walk_at "v"
      change isStrOf (.str x) SMALL = true at e
      rw [e]
      exact ⟨by rw [Bool.true_and]; exact congrArg (fun b => Res.ok (SV.fz (.bl b))) (decide_eq_decide.mpr (by omega)), rfl⟩
    | _ => cases e
  · change isStrOf d SMALL = false at e
    walk_at "v"
    rw [e]
    exact ⟨rfl, rfl⟩

def ascL : List Nat → Bool
  | a :: b :: r => decide (a < b) && ascL (b :: r)
  | _ => true
theorem ascL_at : ∀ (l : List Nat), ascL l = true → ∀ i a b, l[i]? = some a → l[i + 1]? = some b → a < b
  | [], _, _, _, _, h, _ => nomatch h
  | [x], _, _, _, _, _, h => nomatch h
  | x :: y :: r, h, 0, a, b, h1, h2 => by
    have e1 : x = a := Option.some.inj h1
    have e2 : y = b := Option.some.inj h2
    subst e1 e2
    simp only [ascL, Bool.and_eq_true, decide_eq_true_eq] at h
    exact h.1
  | x :: y :: r, h, i + 1, a, b, h1, h2 => by
    simp only [ascL, Bool.and_eq_true] at h
    exact ascL_at (y :: r) h.2 i a b h1 h2
theorem ascL_of : ∀ (l : List Nat), (∀ i a b, l[i]? = some a → l[i + 1]? = some b → a < b) → ascL l = true
  | [], _ => rfl
  | [x], _ => rfl
  | x :: y :: r, h => by
    simp only [ascL, Bool.and_eq_true, decide_eq_true_eq]
    exact ⟨h 0 x y rfl rfl, ascL_of (y :: r) fun i a b h1 h2 => h (i + 1) a b h1 h2⟩
theorem lt_sign {a b : Nat} : decide ((⟨#[a]⟩ : Str).cps.toList < (⟨#[b]⟩ : Str).cps.toList) = decide (a < b) := by
  have : (([a] : List Nat) < [b]) ↔ a < b := by constructor <;> (intro h; first | (cases h with | rel h => exact h | cons h => cases h) | exact List.Lex.rel h)
  exact decide_eq_decide.mpr this

theorem p_is_ascending {x : Str} (hz : x.length ≤ sizeLine) : Ret f_is_ascending [.fz (.str x)] (.fz (.bl (ascL x.cps.toList))) := by
  unfold f_is_ascending m_is_ascending
  have hs : (sizeLine : Nat) = 16777216 := sizeLine_eq
  have len : x.length = x.cps.toList.length := by simp [Str.length]
  refine w_fn rfl rfl ?_
  walk_at "v"
  refine w_loopR (fun i τ => ∃ o, τ = [some (.fz (.str x)), o] ∧ ∀ j a b, j < i → x.cps.toList[j]? = some a → x.cps.toList[j + 1]? = some b → a < b) ⟨_, rfl, fun _ _ _ h => nomatch h⟩ ?_ ?_
  · rintro i τ hi ⟨o, rfl, ha⟩
    walk_at "v"
    have h1 : i < x.cps.toList.length := by omega
    have h2 : i + 1 < x.cps.toList.length := by omega
    have e1 : (1 : Int) + (i : Int) - 1 = (i : Nat) := by omega
    have e2 : (1 : Int) + (i : Int) = ((i + 1 : Nat) : Int) := by omega
    refine w_B (d := .str ⟨#[x.cps.toList[i]]⟩) (bIx_S (z := x) (i := 1 + (i : Int) - 1) rfl rfl hz (by rw [e1]; exact atI_pos (List.getElem?_eq_getElem h1))) ?_
    walk_at "v"
    refine w_B (d := .str ⟨#[x.cps.toList[i + 1]]⟩) (bIx_S (z := x) (i := 1 + (i : Int)) rfl rfl hz (by rw [e2]; exact atI_pos (List.getElem?_eq_getElem h2))) ?_
    walk_at "v"
    refine v_lf2 (s := .fz (.bl (!decide (x.cps.toList[i] < x.cps.toList[i + 1])))) (by rw [← lt_sign]; rfl) ?_
    walk_at "v"
    refine v_iteN (fun q => ?_) fun q => ?_
    · walk_at "v"
      have f : ascL x.cps.toList = false := Bool.eq_false_iff.mpr fun t => q (ascL_at _ t i _ _ (List.getElem?_eq_getElem h1) (List.getElem?_eq_getElem h2))
      rw [f]
      exact ⟨rfl, rfl⟩
    · walk_at "v"
      refine ⟨_, rfl, fun j a b hj ja jb => ?_⟩
      by_cases e : j = i
      · subst e
        rw [List.getElem?_eq_getElem h1] at ja
        rw [List.getElem?_eq_getElem h2] at jb
        cases ja
        cases jb
        exact q
      · exact ha j a b (by omega) ja jb
  · rintro τ ⟨o, rfl, ha⟩
    walk_at "v"
    have f : ascL x.cps.toList = true := ascL_of _ fun i a b h1 h2 => ha i a b (by
      have := (List.getElem?_eq_some_iff.mp h2).1
      omega) h1 h2
    rw [f]
    exact ⟨rfl, rfl⟩

-- use is_word
-- use is_ascending
def isRows (d : D) : Bool := isWord d && match d with | .str s => decide (s.length ≤ 4) && ascL s.cps.toList | _ => false
theorem rows_parts {s : Str} (h : isRows (.str s) = true) : isStrOf (.str s) SMALL = true ∧ 0 < s.length ∧ s.length ≤ 4 ∧ ascL s.cps.toList = true := by
  unfold isRows isWord at h
  simp only [Bool.and_eq_true, decide_eq_true_eq] at h
  exact ⟨h.1.1, h.1.2, h.2.1, h.2.2⟩
theorem p_is_rows {d : D} (hf : Fit d) : Ret f_is_rows [.fz d] (.fz (.bl (isRows d))) := by
  unfold f_is_rows m_is_rows
  refine w_fn rfl rfl ?_
  walk_at "v"
  refine w_ret rfl rfl (p_is_word hf) rfl ?_
  walk_at "v"
  unfold isRows
  refine v_ite (fun e => ?_) fun e => ?_
  · cases d with
    | str x =>
      have hf : x.length ≤ sizeLine := hf
      rw [e]
      walk_at "v"
      refine v_iteD (fun c => ?_) fun c => ?_
      · walk_at "v"
        refine w_ret rfl rfl (p_is_ascending hf) rfl ?_
        walk_at "v"
        rw [decide_eq_true (show x.length ≤ 4 by omega)]
        exact ⟨rfl, rfl⟩
      · walk_at "v"
        rw [decide_eq_false (show ¬ x.length ≤ 4 by omega)]
        exact ⟨rfl, rfl⟩
    | _ => cases e
  · rw [e]
    walk_at "v"
    exact ⟨rfl, rfl⟩

-- use is_rows
def abcL : List Nat := (List.range 26).map (97 + ·)
theorem SMALL_is : SMALL = ofL abcL := by decide +kernel
theorem abcL_drop (r : Nat) (j : Nat) (h : r + j < 26) : (abcL.drop r)[j]? = some (97 + (r + j)) := by
  rw [List.getElem?_drop, abcL, List.getElem?_map, List.getElem?_range h]
  rfl
theorem abcL_mem {c : Nat} : c ∈ abcL ↔ 97 ≤ c ∧ c < 123 := by
  unfold abcL
  rw [List.mem_map]
  constructor
  · rintro ⟨a, h, rfl⟩
    have := List.mem_range.mp h
    omega
  · rintro ⟨h1, h2⟩
    exact ⟨c - 97, List.mem_range.mpr (by omega), by omega⟩
theorem ascL_snoc : ∀ (l : List Nat) (c : Nat), ascL l = true → (∀ x ∈ l, x < c) → ascL (l ++ [c]) = true
  | [], c, _, _ => rfl
  | [x], c, _, h => by simp [ascL, h x (by simp)]
  | x :: y :: r, c, h, hx => by
    simp only [ascL, Bool.and_eq_true] at h
    show (decide (x < y) && ascL (y :: r ++ [c])) = true
    rw [h.1, ascL_snoc (y :: r) c h.2 fun z hz => hx z (List.mem_cons_of_mem _ hz)]
    rfl
/-- rows so far: of the first r letters -/
structure RowsSo (l : List Nat) (r : Nat) : Prop where
  asc : ascL l = true
  mem : ∀ x ∈ l, 97 ≤ x ∧ x < 97 + r
theorem RowsSo.snoc {l : List Nat} {r j : Nat} (h : RowsSo l r) : RowsSo (l ++ [97 + (r + j)]) (r + j + 1) where
  asc := ascL_snoc l _ h.asc fun x hx => by have := h.mem x hx; omega
  mem := fun x hx => by
    rcases List.mem_append.mp hx with q | q
    · have := h.mem x q; omega
    · simp at q; omega
theorem RowsSo.ok {l : List Nat} {r : Nat} (h : RowsSo l r) (hr : r ≤ 26) (n1 : 1 ≤ l.length) (n4 : l.length ≤ 4) : isRows (.str (ofL l)) = true := by
  unfold isRows isWord
  have e : (ofL l).cps.toList = l := by simp [ofL]
  have a : isStrOf (.str (ofL l)) SMALL = true := by
    show (ofL l).cps.toList.all _ = true
    rw [e, SMALL_is, List.all_eq_true]
    intro x hx
    have : x ∈ (ofL abcL).cps.toList := by
      have e2 : (ofL abcL).cps.toList = abcL := by simp [ofL]
      rw [e2, abcL_mem]
      have := h.mem x hx
      omega
    exact decide_eq_true this
  rw [a]
  simp only [ofL_len, e, h.asc, Bool.true_and, Bool.and_true, Bool.and_eq_true, decide_eq_true_eq]
  omega
theorem isStrOf_L (l : List Nat) : isStrOf (.str (ofL l)) SMALL = true ↔ ∀ x ∈ l, x ∈ abcL := by
  have e : (ofL l).cps.toList = l := by simp [ofL]
  have e2 : SMALL.cps.toList = abcL := by rw [SMALL_is]; simp [ofL]
  show (ofL l).cps.toList.all _ = true ↔ _
  rw [e, List.all_eq_true, e2]
  simp
/-- rows without twins and without a caret -/
structure RowsGood (x : Str) : Prop where
  len : x.length ≤ 4
  nd : x.cps.toList.Nodup
  nc : 94 ∉ x.cps.toList
theorem ascL_nodup : ∀ l : List Nat, ascL l = true → l.Pairwise (· < ·)
  | [], _ => .nil
  | [x], _ => by simp
  | x :: y :: r, h => by
    simp only [ascL, Bool.and_eq_true, decide_eq_true_eq] at h
    have q := ascL_nodup (y :: r) h.2
    refine List.pairwise_cons.mpr ⟨fun z hz => ?_, q⟩
    rcases List.mem_cons.mp hz with e | e
    · subst e; exact h.1
    · exact Nat.lt_trans h.1 ((List.pairwise_cons.mp q).1 z e)
theorem rows_good {s : Str} (h : isRows (.str s) = true) : RowsGood s := by
  obtain ⟨h1, h2, h3, h4⟩ := rows_parts h
  refine ⟨h3, (ascL_nodup _ h4).imp fun h => Nat.ne_of_lt h, fun q => ?_⟩
  rw [← ofL_cps s] at h1
  have := abcL_mem.mp ((isStrOf_L _).mp h1 94 q)
  omega
theorem join_signs (ls : List Nat) : Txt.join "" (ls.map fun c => ofL [c]) = ofL ls := by
  have h : ∀ ls : List Nat, TL.joinL [] (ls.map fun c => [c]) = ls := by
    intro ls
    induction ls with
    | nil => rfl
    | cons c r ih =>
      cases r with
      | nil => rfl
      | cons d r =>
        show [c] ++ ([] ++ TL.joinL [] ((d :: r).map fun c => [c])) = _
        rw [ih]; rfl
  have e := TL.tl_join "" (ls.map fun c => ofL [c])
  have e2 : (ls.map fun c => ofL [c]).map TL.tl = ls.map fun c => [c] := by rw [List.map_map]; exact List.map_congr_left fun c _ => rfl
  rw [e2, show TL.tl "" = [] from rfl, h] at e
  rw [TL.join_eq]
  exact (ofL_cps _).symm.trans (congrArg ofL e)


-- use is_rows
-- use law_rowsgood
/-! machines as data -/
structure Mach where
  rows : List Nat
  na : Nat
  mv : List (List (List (Int × Nat)))
def Mach.size (M : Mach) : Nat := M.mv.length
def Mach.nr (M : Mach) : Nat := M.rows.length
/-- ticks and goal -/
def Mach.at (M : Mach) (s r a : Nat) : Int × Nat := ((M.mv.getD s []).getD r []).getD a (1, 0)
structure Mach.Ok (M : Mach) : Prop where
  rows : isRows (.str (ofL M.rows)) = true
  a1 : 1 ≤ M.na
  a3 : M.na ≤ 3
  s1 : 1 ≤ M.size
  s12 : M.size ≤ 12
  shp : ∀ l ∈ M.mv, l.length = M.nr ∧ ∀ x ∈ l, x.length = M.na ∧ ∀ p ∈ x, 1 ≤ p.1 ∧ p.1 ≤ 99 ∧ p.2 < M.size
abbrev moveD (p : Int × Nat) : D := .tup [.int p.1, .int (p.2 : Nat)]
abbrev lineD (x : List (Int × Nat)) : D := .tup (x.map moveD)
abbrev linesD (l : List (List (Int × Nat))) : D := .tup (l.map lineD)
abbrev movesD (mv : List (List (List (Int × Nat)))) : D := .tup (mv.map linesD)
abbrev rowsD (M : Mach) : D := .str (ofL M.rows)
section
variable {M : Mach} {s r a : Nat}
theorem Mach.Ok.letters (h : M.Ok) : M.rows.Nodup ∧ 1 ≤ M.nr ∧ M.nr ≤ 4 ∧ ∀ c ∈ M.rows, 97 ≤ c ∧ c < 123 := by
  obtain ⟨h1, h2, h3, h4⟩ := rows_parts h.rows
  rw [ofL_len] at h2 h3
  have e : (ofL M.rows).cps.toList = M.rows := by simp [ofL]
  rw [e] at h4
  exact ⟨(ascL_nodup _ h4).imp fun h => Nat.ne_of_lt h, h2, h3, fun c hc => abcL_mem.mp ((isStrOf_L _).mp h1 c hc)⟩
theorem Mach.Ok.lines (h : M.Ok) (hs : s < M.size) : ∃ l, M.mv[s]? = some l ∧ l.length = M.nr ∧ M.mv.getD s [] = l ∧ l ∈ M.mv := by
  have e : M.mv[s]? = some M.mv[s] := List.getElem?_eq_getElem hs
  exact ⟨_, e, (h.shp _ (List.getElem_mem hs)).1, by rw [List.getD_eq_getElem?_getD, e]; rfl, List.getElem_mem hs⟩
theorem Mach.Ok.line (h : M.Ok) (hs : s < M.size) (hr : r < M.nr) : ∃ x, (M.mv.getD s [])[r]? = some x ∧ x.length = M.na ∧ (M.mv.getD s []).getD r [] = x ∧ ∀ p ∈ x, 1 ≤ p.1 ∧ p.1 ≤ 99 ∧ p.2 < M.size := by
  obtain ⟨l, e1, e2, e3, e4⟩ := h.lines hs
  rw [e3]
  have e : l[r]? = some l[r] := List.getElem?_eq_getElem (by omega)
  have q := (h.shp l e4).2 _ (List.getElem_mem (l := l) (n := r) (by omega))
  exact ⟨_, e, q.1, by rw [List.getD_eq_getElem?_getD, e]; rfl, q.2⟩
theorem Mach.Ok.move (h : M.Ok) (hs : s < M.size) (hr : r < M.nr) (ha : a < M.na) : ((M.mv.getD s []).getD r [])[a]? = some (M.at s r a) ∧ 1 ≤ (M.at s r a).1 ∧ (M.at s r a).1 ≤ 99 ∧ (M.at s r a).2 < M.size := by
  obtain ⟨x, e1, e2, e3, e4⟩ := h.line hs hr
  unfold Mach.at
  rw [e3]
  have e : x[a]? = some x[a] := List.getElem?_eq_getElem (by omega)
  have e5 : x.getD a (1, 0) = x[a] := by rw [List.getD_eq_getElem?_getD, e]; rfl
  rw [e5]
  exact ⟨e, e4 _ (List.getElem_mem _)⟩
end
/-- standings, rows, answers in order -/
def tris (M : Mach) : List (Nat × Nat × Nat) := (List.range M.size).flatMap fun s => (List.range M.nr).flatMap fun r => (List.range M.na).map fun a => (s, r, a)
def triK (M : Mach) (t : Nat × Nat × Nat) : DK := .tup [.inl (t.1 : Nat), .inr ⟨#[M.rows.getD t.2.1 0]⟩, .inl (t.2.2 : Nat)]
def triV (M : Mach) (t : Nat × Nat × Nat) : D := moveD (M.at t.1 t.2.1 t.2.2)
def stepsL (M : Mach) (l : List (Nat × Nat × Nat)) : SV := .mu (.dct true (l.map (triK M))) ((l.map (triV M)).map .fz)
def stepsD (M : Mach) (l : List (Nat × Nat × Nat)) : D := .ob (.dct true (l.map (triK M))) (l.map (triV M))
abbrev machF : List Str := ["rows", "answers", "moves", "size", "kept_steps", "kept_webs"]
def macO (M : Mach) : SV := .mu (.ins 9 machF) [.fz (rowsD M), .fz (.int M.na), .fz (movesD M.mv), .fz (.int M.size), stepsL M (tris M), .mu (.dct true []) []]
def macD (M : Mach) : D := .ob (.ins 9 machF) [rowsD M, .int M.na, movesD M.mv, .int M.size, stepsD M (tris M), .ob (.dct true []) []]
theorem signs_ofL (l : List Nat) : VS.signs (ofL l) = l.map fun c => D.str ⟨#[c]⟩ := by unfold VS.signs; simp [ofL]
theorem cps_ofL (l : List Nat) : (ofL l).cps.toList = l := by simp [ofL]
/-- a machine, one's own or data -/
def IsM (s : SV) (M : Mach) : Prop := s = macO M ∨ s = .fz (macD M)
theorem tris_mem {M : Mach} {t : Nat × Nat × Nat} : t ∈ tris M ↔ t.1 < M.size ∧ t.2.1 < M.nr ∧ t.2.2 < M.na := by
  obtain ⟨s, r, a⟩ := t
  simp only [tris, List.mem_flatMap, List.mem_map, List.mem_range, Prod.mk.injEq]
  constructor
  · rintro ⟨s', hs, r', hr, a', ha, rfl, rfl, rfl⟩
    exact ⟨hs, hr, ha⟩
  · rintro ⟨hs, hr, ha⟩
    exact ⟨s, hs, r, hr, a, ha, rfl, rfl, rfl⟩
theorem getD_inj {l : List Nat} (nd : l.Nodup) {i j : Nat} (hi : i < l.length) (hj : j < l.length) (e : l.getD i 0 = l.getD j 0) : i = j := by
  rw [List.getD_eq_getElem?_getD, List.getD_eq_getElem?_getD, List.getElem?_eq_getElem hi, List.getElem?_eq_getElem hj] at e
  exact (List.getElem_inj nd).mp e
theorem triK_inj {M : Mach} (nd : M.rows.Nodup) {t u : Nat × Nat × Nat} (h1 : t.2.1 < M.nr) (h2 : u.2.1 < M.nr) (e : triK M t = triK M u) : t = u := by
  obtain ⟨s, r, a⟩ := t
  obtain ⟨s', r', a'⟩ := u
  simp only [triK, DK.tup.injEq, List.cons.injEq, Sum.inl.injEq, Sum.inr.injEq, Int.ofNat_inj, and_true] at e
  obtain ⟨e1, e2, e3⟩ := e
  have e2 : M.rows.getD r 0 = M.rows.getD r' 0 := by
    have := congrArg Str.cps e2
    simpa using this
  have e4 : r = r' := getD_inj nd h1 h2 e2
  rw [e1, e3, e4]
theorem dLook_tri {M : Mach} (nd : M.rows.Nodup) {t : Nat × Nat × Nat} : ∀ {l : List (Nat × Nat × Nat)}, (∀ u ∈ l, u.2.1 < M.nr) → t ∈ l → dLook (l.map (triK M)) (l.map (triV M)) (triK M t) = some (triV M t)
  | u :: l, hl, h => by
    show (if triK M u = triK M t then some (triV M u) else dLook (l.map (triK M)) (l.map (triV M)) (triK M t)) = _
    have ht : t.2.1 < M.nr := hl t h
    by_cases e : triK M u = triK M t
    · rw [if_pos e, triK_inj nd (hl u List.mem_cons_self) ht e]
    · rw [if_neg e]
      rcases List.mem_cons.mp h with q | q
      · exact absurd (by rw [q]) e
      · exact dLook_tri nd (fun u hu => hl u (List.mem_cons_of_mem _ hu)) q
section
variable {M : Mach} {s : SV} {τ : Tau} {i : Nat}
theorem macO_toD : (macO M).toD = macD M := by
  show D.ob _ [rowsD M, .int M.na, movesD M.mv, .int M.size, (stepsL M (tris M)).toD, .ob (.dct true []) []] = _
  rw [show (stepsL M (tris M)).toD = stepsD M (tris M) from toD_mu _ _]
  rfl
theorem IsM.toD (h : IsM s M) : s.toD = macD M := by
  rcases h with rfl | rfl
  · exact macO_toD
  · rfl
theorem mac_rows {cs : List Nat} (h : IsM s M) (e : τ[i]? = some (some s)) (hc : 9 ∈ cs) : bFld cs "rows" (bVar i) τ = some (.fz (rowsD M)) := by
  unfold bFld bVar
  rw [e]
  rcases h with rfl | rfl
  · show (if 9 ∈ cs then _ else _) = _
    rw [if_pos hc]; rfl
  · show (if 9 ∈ cs then _ else _) = _
    rw [if_pos hc]; rfl
theorem mac_answers {cs : List Nat} (h : IsM s M) (e : τ[i]? = some (some s)) (hc : 9 ∈ cs) : bFld cs "answers" (bVar i) τ = some (.fz (.int M.na)) := by
  unfold bFld bVar
  rw [e]
  rcases h with rfl | rfl
  · show (if 9 ∈ cs then _ else _) = _
    rw [if_pos hc]; rfl
  · show (if 9 ∈ cs then _ else _) = _
    rw [if_pos hc]; rfl
theorem mac_moves {cs : List Nat} (h : IsM s M) (e : τ[i]? = some (some s)) (hc : 9 ∈ cs) : bFld cs "moves" (bVar i) τ = some (.fz (movesD M.mv)) := by
  unfold bFld bVar
  rw [e]
  rcases h with rfl | rfl
  · show (if 9 ∈ cs then _ else _) = _
    rw [if_pos hc]; rfl
  · show (if 9 ∈ cs then _ else _) = _
    rw [if_pos hc]; rfl
theorem mac_size {cs : List Nat} (h : IsM s M) (e : τ[i]? = some (some s)) (hc : 9 ∈ cs) : bFld cs "size" (bVar i) τ = some (.fz (.int M.size)) := by
  unfold bFld bVar
  rw [e]
  rcases h with rfl | rfl
  · show (if 9 ∈ cs then _ else _) = _
    rw [if_pos hc]; rfl
  · show (if 9 ∈ cs then _ else _) = _
    rw [if_pos hc]; rfl
theorem mac_steps {cs : List Nat} (h : IsM s M) (e : τ[i]? = some (some s)) (hc : 9 ∈ cs) : ∃ x, bFld cs "kept_steps" (bVar i) τ = some x ∧ x.view = some (stepsD M (tris M)) := by
  unfold bFld bVar
  rw [e]
  rcases h with rfl | rfl
  · refine ⟨stepsL M (tris M), ?_, view_mu _ _⟩
    show (if 9 ∈ cs then _ else _) = _
    rw [if_pos hc]; rfl
  · refine ⟨.fz (stepsD M (tris M)), ?_, rfl⟩
    show (if 9 ∈ cs then _ else _) = _
    rw [if_pos hc]; rfl
/-- machine.kept_steps[(standing, row, answer)] -/
theorem mac_step {cs : List Nat} {q : PB} {t r a : Nat} {c : Nat} (h : IsM s M) (e : τ[i]? = some (some s)) (hc : 9 ∈ cs) (ok : M.Ok) (ht : t < M.size) (hr : M.rows[r]? = some c) (ha : a < M.na) (hq : q τ = some (.fz (.tup [.int (t : Nat), .str ⟨#[c]⟩, .int (a : Nat)]))) :
    bIx (bFld cs "kept_steps" (bVar i)) q τ = some (.fz (moveD (M.at t r a))) := by
  obtain ⟨x, hx, hv⟩ := mac_steps h e hc
  have hrl := (List.getElem?_eq_some_iff.mp hr).1
  have ec : M.rows.getD r 0 = c := by rw [List.getD_eq_getElem?_getD, hr]; rfl
  have e1 : ixF (stepsD M (tris M)) (.tup [.int (t : Nat), .str ⟨#[c]⟩, .int (a : Nat)]) = some (.fz (moveD (M.at t r a))) := by
    show ((some (dLook ((tris M).map (triK M)) ((tris M).map (triV M)) (.tup [.inl (t : Nat), .inr ⟨#[c]⟩, .inl (a : Nat)]))).bind id).map SV.fz = _
    have := dLook_tri ok.letters.1 (t := (t, r, a)) (l := tris M) (fun u hu => (tris_mem.mp hu).2.1) (tris_mem.mpr ⟨ht, hrl, ha⟩)
    unfold triK at this
    dsimp only at this
    rw [ec] at this
    unfold triK
    rw [this]
    rfl
  unfold bIx
  rw [hx, Option.bind_some, hq, Option.bind_some]
  unfold ixS
  split
  · rename_i h1 h2
    cases h2
  · rw [hv, Option.bind_some]
    exact e1
end

-- use mach
-- use is_word
/-! parts of machines judged, whatever they are -/
def isInt (d : D) : Bool := match d with
  | .int _ => true
  | _ => false
def isNum (d : D) (a b : Int) : Bool := match d with
  | .int i => decide (a ≤ i) && decide (i ≤ b)
  | _ => false
def isPair (d : D) : Bool := match d with
  | .tup l => decide (l.length = 2)
  | _ => false
def isMoveD (n : Nat) (d : D) : Bool := match d with
  | .tup [x, y] => isNum x 1 99 && isNum y 0 ((n : Int) - 1)
  | _ => false
def isLineD (n : Nat) (na : Int) (d : D) : Bool := match d with
  | .tup y => decide ((y.length : Int) = na) && y.all (isMoveD n)
  | _ => false
def isLinesD (n nr : Nat) (na : Int) (d : D) : Bool := match d with
  | .tup m => decide (m.length = nr) && m.all (isLineD n na)
  | _ => false
def isMovesD (d : D) (nr : Nat) (na : Int) : Bool := match d with
  | .tup l => (decide (1 ≤ l.length) && decide (l.length ≤ 12)) && l.all (isLinesD l.length nr na)
  | _ => false
mutual
/-- nothing of a class within, all the way down -/
def plB : D → Bool
  | .tup l => plBs l
  | .ob .lst l => plBs l
  | .ob (.dct _ _) _ => true
  | .ob (.ins _ _) _ => false
  | .fro _ => false
  | .non => true
  | .bl _ => true
  | .int _ => true
  | .str s => decide (s.length ≤ sizeLine)
def plBs : List D → Bool
  | [] => true
  | d :: r => plB d && plBs r
end
theorem plB_pln {d : D} (h : plB d = true) : Pln d := by
  cases d with
  | ob hd l => cases hd with
    | ins c fs => cases h
    | _ => exact fun e => nomatch e
  | fro l => cases h
  | _ => exact fun e => nomatch e
theorem plB_fit {d : D} (h : plB d = true) : Fit d := by
  cases d with
  | str s => exact (of_decide_eq_true (show decide (s.length ≤ sizeLine) = true from h) : s.length ≤ sizeLine)
  | _ => exact plB_pln h
theorem plBs_mem : ∀ {l : List D}, plBs l = true → ∀ d ∈ l, plB d = true
  | d :: r, h, x, hx => by
    obtain ⟨h1, h2⟩ := Bool.and_eq_true_iff.mp h
    rcases List.mem_cons.mp hx with rfl | hx
    · exact h1
    · exact plBs_mem h2 x hx
theorem plBs_of : ∀ {l : List D}, (∀ d ∈ l, plB d = true) → plBs l = true
  | [], _ => rfl
  | d :: r, h => by
    show (plB d && plBs r) = true
    rw [h d List.mem_cons_self, plBs_of fun x hx => h x (List.mem_cons_of_mem _ hx)]
    rfl
theorem all_take {α : Type} {P : α → Bool} {l : List α} {i : Nat} {x : α} (h : (l.take i).all P = true) (hx : l[i]? = some x) (hp : P x = true) : (l.take (i + 1)).all P = true := by
  rw [List.take_add_one, hx, List.all_append, h]
  simp [hp]
theorem all_no {α : Type} {P : α → Bool} {l : List α} {i : Nat} {x : α} (hx : l[i]? = some x) (hp : P x = false) : l.all P = false := by
  refine Bool.eq_false_iff.mpr fun t => ?_
  rw [List.all_eq_true.mp t x (List.mem_of_getElem? hx)] at hp
  cases hp
theorem isNum_some {d : D} {a b : Int} (h : isNum d a b = true) : ∃ i, d = .int i ∧ a ≤ i ∧ i ≤ b := by
  cases d with
  | int i =>
    obtain ⟨h1, h2⟩ := Bool.and_eq_true_iff.mp h
    exact ⟨i, rfl, of_decide_eq_true h1, of_decide_eq_true h2⟩
  | _ => cases h
theorem isMove_some {d : D} {n : Nat} (h : isMoveD n d = true) : ∃ p : Int × Nat, d = moveD p ∧ 1 ≤ p.1 ∧ p.1 ≤ 99 ∧ p.2 < n := by
  unfold isMoveD at h
  split at h
  · rename_i x y
    obtain ⟨h1, h2⟩ := Bool.and_eq_true_iff.mp h
    obtain ⟨i, rfl, a1, a2⟩ := isNum_some h1
    obtain ⟨j, rfl, b1, b2⟩ := isNum_some h2
    exact ⟨(i, j.toNat), by show D.tup [.int i, .int j] = .tup [.int i, .int ((j.toNat : Nat) : Int)]; rw [Int.toNat_of_nonneg b1], a1, a2, by show j.toNat < n; omega⟩
  · cases h
theorem all_some {α : Type} {P : D → Bool} {f : α → D} {R : α → Prop} (h : ∀ d, P d = true → ∃ x, d = f x ∧ R x) : ∀ {l : List D}, l.all P = true → ∃ xs : List α, l = xs.map f ∧ ∀ x ∈ xs, R x
  | [], _ => ⟨[], rfl, fun _ h => nomatch h⟩
  | d :: r, hl => by
    rw [List.all_cons, Bool.and_eq_true] at hl
    obtain ⟨x, e, hx⟩ := h d hl.1
    obtain ⟨xs, e2, hxs⟩ := all_some h hl.2
    exact ⟨x :: xs, by rw [e, e2]; rfl, fun y hy => by
      rcases List.mem_cons.mp hy with rfl | hy
      · exact hx
      · exact hxs y hy⟩
theorem isLine_some {d : D} {n na : Nat} (h : isLineD n na d = true) : ∃ x : List (Int × Nat), d = lineD x ∧ x.length = na ∧ ∀ p ∈ x, 1 ≤ p.1 ∧ p.1 ≤ 99 ∧ p.2 < n := by
  cases d with
  | tup y =>
    obtain ⟨h1, h2⟩ := Bool.and_eq_true_iff.mp h
    obtain ⟨xs, rfl, hx⟩ := all_some (fun d hd => isMove_some hd) h2
    have h1 := of_decide_eq_true h1
    rw [List.length_map] at h1
    exact ⟨xs, rfl, by omega, hx⟩
  | _ => cases h
theorem isLines_some {d : D} {n nr na : Nat} (h : isLinesD n nr na d = true) : ∃ l : List (List (Int × Nat)), d = linesD l ∧ l.length = nr ∧ ∀ x ∈ l, x.length = na ∧ ∀ p ∈ x, 1 ≤ p.1 ∧ p.1 ≤ 99 ∧ p.2 < n := by
  cases d with
  | tup y =>
    obtain ⟨h1, h2⟩ := Bool.and_eq_true_iff.mp h
    obtain ⟨xs, rfl, hx⟩ := all_some (fun d hd => isLine_some hd) h2
    have h1 := of_decide_eq_true h1
    rw [List.length_map] at h1
    exact ⟨xs, rfl, h1, hx⟩
  | _ => cases h
theorem mach_of {z : Str} {na : Int} {d : D} (hz : isRows (.str z) = true) (h1 : 1 ≤ na) (h3 : na ≤ 3) (h : isMovesD d z.length na = true) : ∃ M : Mach, M.Ok ∧ z = ofL M.rows ∧ na = M.na ∧ d = movesD M.mv := by
  obtain ⟨n, rfl⟩ : ∃ n : Nat, na = (n : Int) := ⟨na.toNat, by omega⟩
  cases d with
  | tup l =>
    obtain ⟨h0, h2⟩ := Bool.and_eq_true_iff.mp h
    obtain ⟨q1, q2⟩ := Bool.and_eq_true_iff.mp h0
    obtain ⟨mv, rfl, hx⟩ := all_some (fun d hd => isLines_some hd) h2
    have q1 := of_decide_eq_true q1
    have q2 := of_decide_eq_true q2
    rw [List.length_map] at q1 q2
    refine ⟨⟨z.cps.toList, n, mv⟩, ⟨by rw [ofL_cps]; exact hz, by show 1 ≤ n; omega, by show n ≤ 3; omega, q1, q2, fun l hl => ?_⟩, (ofL_cps z).symm, rfl, rfl⟩
    obtain ⟨g1, g2⟩ := hx l hl
    refine ⟨by rw [g1]; unfold Mach.nr; simp [Str.length], fun x hx => ?_⟩
    obtain ⟨g3, g4⟩ := g2 x hx
    rw [List.length_map] at g4
    exact ⟨g3, g4⟩
  | _ => cases h

-- use judge
-- use is_rows
theorem pj_is_integer {d : D} (h : Pln d) : Ret f_is_integer [.fz d] (.fz (.bl (isInt d))) := by
  unfold f_is_integer m_is_integer
  refine w_fn rfl rfl ?_
  cases d with
  | ob hd l =>
    cases hd with
    | ins c fs => exact absurd rfl h
    | _ => walk_at "v"; exact ⟨rfl, rfl⟩
  | _ => walk_at "v"; exact ⟨rfl, rfl⟩
theorem isNum_not {d : D} {a b : Int} (h : isInt d = false) : isNum d a b = false := by
  cases d with
  | int i => cases h
  | _ => rfl
theorem pj_is_within {d : D} {a b : Int} (h : Pln d) : Ret f_is_within [.fz d, .fz (.int a), .fz (.int b)] (.fz (.bl (isNum d a b))) := by
  unfold f_is_within m_is_within
  refine w_fn rfl rfl ?_
  walk_at "v"
  refine w_ret rfl rfl (pj_is_integer h) rfl ?_
  walk_at "v"
  refine v_ite (fun e => ?_) fun e => ?_
  · cases d with
    | int i =>
      walk_at "v"
      refine ⟨decide (a ≤ i), rfl, v_iteD (fun h1 => ?_) fun h1 => ?_⟩
      · walk_at "v"
        refine ⟨_, rfl, ?_⟩
        walk_at "v"
        exact ⟨by show _ = Res.ok (SV.fz (.bl (decide (a ≤ i) && decide (i ≤ b)))); rw [decide_eq_true h1]; rfl, rfl⟩
      · walk_at "v"
        exact ⟨by show _ = Res.ok (SV.fz (.bl (decide (a ≤ i) && decide (i ≤ b)))); rw [decide_eq_false h1]; rfl, rfl⟩
    | _ => cases e
  · walk_at "v"
    rw [isNum_not e]
    exact ⟨rfl, rfl⟩
theorem pj_is_pair {d : D} (h : Pln d) : Ret f_is_pair [.fz d] (.fz (.bl (isPair d))) := by
  unfold f_is_pair m_is_pair
  refine w_fn rfl rfl ?_
  cases d with
  | ob hd l =>
    cases hd with
    | ins c fs => exact absurd rfl h
    | _ => walk_at "v"; exact ⟨rfl, rfl⟩
  | tup l =>
    walk_at "v"
    exact ⟨by show _ = Res.ok (SV.fz (.bl (decide (l.length = 2)))); exact congrArg (fun b => Res.ok (SV.fz (.bl b))) (decide_eq_decide.mpr (by omega)), rfl⟩
  | _ => walk_at "v"; exact ⟨rfl, rfl⟩
theorem isPair_some {d : D} (h : isPair d = true) : ∃ x y, d = .tup [x, y] := by
  cases d with
  | tup l =>
    have h : l.length = 2 := of_decide_eq_true h
    match l, h with
    | [x, y], _ => exact ⟨x, y, rfl⟩
  | _ => cases h
theorem isMove_not {d : D} {n : Nat} (h : isPair d = false) : isMoveD n d = false := by
  unfold isMoveD
  split
  · cases h
  · rfl
theorem pj_is_move {d : D} {n : Nat} (h : plB d = true) : Ret f_is_move [.fz d, .fz (.int (n : Nat))] (.fz (.bl (isMoveD n d))) := by
  unfold f_is_move m_is_move
  refine w_fn rfl rfl ?_
  walk_at "v"
  refine w_ret rfl rfl (pj_is_pair (plB_pln h)) rfl ?_
  walk_at "v"
  refine v_ite (fun e => ?_) fun e => ?_
  · obtain ⟨x, y, rfl⟩ := isPair_some e
    have hx := plBs_mem h x List.mem_cons_self
    have hy := plBs_mem h y (List.mem_cons_of_mem _ List.mem_cons_self)
    walk_at "v"
    refine w_ret rfl rfl (pj_is_within (plB_pln hx)) rfl ?_
    walk_at "v"
    refine v_ite (fun e1 => ?_) fun e1 => ?_
    · walk_at "v"
      refine w_ret rfl rfl (pj_is_within (plB_pln hy)) rfl ?_
      walk_at "v"
      show _ = Res.ok (SV.fz (.bl (isNum x 1 99 && isNum y 0 ((n : Int) - 1)))) ∧ _
      rw [e1]
      exact ⟨rfl, rfl⟩
    · walk_at "v"
      show _ = Res.ok (SV.fz (.bl (isNum x 1 99 && isNum y 0 ((n : Int) - 1)))) ∧ _
      rw [e1]
      exact ⟨rfl, rfl⟩
  · walk_at "v"
    rw [isMove_not e]
    exact ⟨rfl, rfl⟩
theorem isLine_not {d : D} {n : Nat} {na : Int} (h : ∀ l, d ≠ .tup l) : isLineD n na d = false := by
  cases d with
  | tup l => exact absurd rfl (h l)
  | _ => rfl
theorem isLines_not {d : D} {n nr : Nat} {na : Int} (h : ∀ l, d ≠ .tup l) : isLinesD n nr na d = false := by
  cases d with
  | tup l => exact absurd rfl (h l)
  | _ => rfl
/-- a tuple or not -/
theorem tup_or {d : D} (h : plB d = true) : (∃ l, d = .tup l) ∨ ((∀ l, d ≠ .tup l) ∧ ∃ n, tyN d = some n ∧ tbTup n = false) := by
  cases d with
  | tup l => exact .inl ⟨l, rfl⟩
  | ob hd l => cases hd with
    | ins c fs => cases h
    | lst => exact .inr ⟨fun l e => (nomatch e), _, rfl, rfl⟩
    | dct t ks => exact .inr ⟨fun l e => (nomatch e), _, rfl, rfl⟩
  | fro l => cases h
  | non => exact .inr ⟨fun l e => (nomatch e), _, rfl, rfl⟩
  | bl b => exact .inr ⟨fun l e => (nomatch e), _, rfl, rfl⟩
  | int b => exact .inr ⟨fun l e => (nomatch e), _, rfl, rfl⟩
  | str b => exact .inr ⟨fun l e => (nomatch e), _, rfl, rfl⟩
theorem len_eq {n m : Nat} : ((n : Int) = (m : Int)) ↔ n = m := by omega
theorem pj_are_moves {d : D} {z : Str} {na : Int} (h : plB d = true) (hz : z.length ≤ sizeLine) (hl : ∀ l m y, d = .tup l → .tup m ∈ l → .tup y ∈ m → y.length ≤ sizeLine) : Ret f_are_moves [.fz d, .fz (.str z), .fz (.int na)] (.fz (.bl (isMovesD d z.length na))) := by
  unfold f_are_moves m_are_moves
  have hs : (sizeLine : Nat) = 16777216 := sizeLine_eq
  refine w_fn rfl rfl ?_
  rcases tup_or h with ⟨l, rfl⟩ | ⟨hn, n, t1, t2⟩
  · have hlm := plBs_mem h
    walk_at "v"
    refine ⟨decide ((1 : Int) ≤ l.length), rfl, v_iteD (fun h1 => ?_) fun h1 => ?_⟩
    · walk_at "v"
      refine ⟨_, rfl, ?_⟩
      walk_at "v"
      refine v_iteN (fun h2 => ?_) fun h2 => ?_
      · walk_at "v"
        refine ⟨?_, rfl⟩
        show _ = Res.ok (SV.fz (.bl ((decide (1 ≤ l.length) && decide (l.length ≤ 12)) && l.all (isLinesD l.length z.length na))))
        rw [decide_eq_false (show ¬ l.length ≤ 12 by omega), Bool.and_false, Bool.false_and]
      · have e0 : isMovesD (.tup l) z.length na = l.all (isLinesD l.length z.length na) := by
          show ((decide (1 ≤ l.length) && decide (l.length ≤ 12)) && l.all (isLinesD l.length z.length na)) = _
          rw [decide_eq_true (show 1 ≤ l.length by omega), decide_eq_true (show l.length ≤ 12 by omega)]
          rfl
        rw [e0]
        walk_at "v"
        refine w_loop (fun i τ => ∃ o3 o4 o5, τ = [some (.fz (.tup l)), some (.fz (.str z)), some (.fz (.int na)), o3, o4, o5] ∧ (l.take i).all (isLinesD l.length z.length na) = true) ⟨_, _, _, rfl, rfl⟩ ?_ ?_
        · rintro i x τ hx ⟨o3, o4, o5, rfl, ha⟩
          have hxm := List.mem_of_getElem? hx
          have hxp := hlm x hxm
          refine ⟨_, rfl, ?_⟩
          rcases tup_or hxp with ⟨m, rfl⟩ | ⟨hn, n, t1, t2⟩
          · have hmm := plBs_mem hxp
            walk_at "v"
            refine v_iteN (fun h3 => ?_) fun h3 => ?_
            · walk_at "v"
              rw [all_no hx (show isLinesD l.length z.length na (.tup m) = false from by
                show (decide (m.length = z.length) && _) = false
                rw [decide_eq_false (by omega)]; rfl)]
              exact ⟨rfl, rfl⟩
            · have h3 : m.length = z.length := by omega
              walk_at "v"
              refine w_loop (fun j τ => ∃ o4 o5, τ = [some (.fz (.tup l)), some (.fz (.str z)), some (.fz (.int na)), some (.fz (.tup m)), o4, o5] ∧ (m.take j).all (isLineD l.length na) = true) ⟨_, _, rfl, rfl⟩ ?_ ?_
              · rintro j y τ hy ⟨o4, o5, rfl, hb⟩
                have hym := List.mem_of_getElem? hy
                have hyp := hmm y hym
                have bad : isLineD l.length na y = false → l.all (isLinesD l.length z.length na) = false := fun q => all_no hx (by
                  show (decide (m.length = z.length) && m.all (isLineD l.length na)) = false
                  rw [all_no hy q, Bool.and_false])
                refine ⟨_, rfl, ?_⟩
                rcases tup_or hyp with ⟨y, rfl⟩ | ⟨hn, n, t1, t2⟩
                · have hyy := plBs_mem hyp
                  walk_at "v"
                  refine v_iteN (fun h4 => ?_) fun h4 => ?_
                  · walk_at "v"
                    rw [bad (by show (decide ((y.length : Int) = na) && _) = false; rw [decide_eq_false h4]; rfl)]
                    exact ⟨rfl, rfl⟩
                  · walk_at "v"
                    refine w_lcD [some (.fz (.tup l)), some (.fz (.str z)), some (.fz (.int na)), some (.fz (.tup m)), some (.fz (.tup y)), none] (fun p => D.bl (isMoveD l.length p)) rfl rfl (hl l m y rfl hxm hym) (fun p hp => ⟨_, rfl, ?_⟩) fun τ3 hτ => ?_
                    · walk_at "v"
                      refine w_ret rfl rfl (pj_is_move (hyy p hp)) rfl ?_
                      walk_at "v"
                      all_goals first | exact ⟨rfl, rfl⟩ | rfl
                    · obtain ⟨o5', rfl⟩ : ∃ o5, τ3 = [some (.fz (.tup l)), some (.fz (.str z)), some (.fz (.int na)), some (.fz (.tup m)), some (.fz (.tup y)), o5] := by
                        rcases hτ with rfl | rfl
                        · exact ⟨_, rfl⟩
                        · exact ⟨_, rfl⟩
                      walk_at "v"
                      rw [show (y.map fun p => D.bl (isMoveD l.length p)) = (y.map (isMoveD l.length)).map D.bl by rw [List.map_map]; rfl]
                      refine v_all ?_
                      rw [show (y.map (isMoveD l.length)).all id = y.all (isMoveD l.length) by rw [List.all_map]; rfl]
                      walk_at "v"
                      refine v_ite (fun h5 => ?_) fun h5 => ?_
                      · walk_at "v"
                        rw [bad (by show (decide ((y.length : Int) = na) && y.all (isMoveD l.length)) = false; rw [show y.all (isMoveD l.length) = false by simpa using h5, Bool.and_false])]
                        exact ⟨rfl, rfl⟩
                      · walk_at "v"
                        exact ⟨_, _, rfl, all_take hb hy (by show (decide ((y.length : Int) = na) && y.all (isMoveD l.length)) = true; rw [decide_eq_true h4, show y.all (isMoveD l.length) = true by simpa using h5]; rfl)⟩
                · walk_at "v"
                  refine w_isiF (s := .fz y) (n := n) rfl t1 t2 ?_
                  walk_at "v"
                  rw [bad (isLine_not hn)]
                  exact ⟨rfl, rfl⟩
              · rintro τ ⟨o4, o5, rfl, hb⟩
                rw [List.take_length] at hb
                exact ⟨_, _, _, rfl, all_take ha hx (by show (decide (m.length = z.length) && m.all (isLineD l.length na)) = true; rw [hb, decide_eq_true h3]; rfl)⟩
          · walk_at "v"
            refine w_isiF (s := .fz x) (n := n) rfl t1 t2 ?_
            walk_at "v"
            rw [all_no hx (isLines_not hn)]
            exact ⟨rfl, rfl⟩
        · rintro τ ⟨o3, o4, o5, rfl, ha⟩
          rw [List.take_length] at ha
          walk_at "v"
          rw [ha]
          exact ⟨rfl, rfl⟩
    · walk_at "v"
      refine ⟨?_, rfl⟩
      show _ = Res.ok (SV.fz (.bl ((decide (1 ≤ l.length) && decide (l.length ≤ 12)) && l.all (isLinesD l.length z.length na))))
      rw [decide_eq_false (show ¬ 1 ≤ l.length by omega)]
      rfl
  · walk_at "v"
    refine w_isiF (s := .fz d) (n := n) rfl t1 t2 ?_
    walk_at "v"
    cases d with
    | tup l => exact absurd rfl (hn l)
    | _ => exact ⟨rfl, rfl⟩

-- use jprog
-- use is_rows
theorem p_law_are_rows {d : D} (h : plB d = true) : Ret f_law_are_rows [.fz d] (.fz (.bl (isRows d))) := by
  unfold f_law_are_rows m_law_are_rows
  have hs : (sizeLine : Nat) = 16777216 := sizeLine_eq
  refine w_fn rfl rfl ?_
  cases d with
  | str x =>
    have hz : x.length ≤ sizeLine := plB_fit h
    have len : x.length = x.cps.toList.length := by simp [Str.length]
    have e0 : isRows (.str x) = ((x.cps.toList.all (fun c => decide (c ∈ SMALL.cps.toList)) && decide (0 < x.length)) && (decide (x.length ≤ 4) && ascL x.cps.toList)) := rfl
    walk_at "v"
    refine ⟨decide ((1 : Int) ≤ x.length), rfl, v_iteD (fun h1 => ?_) fun h1 => ?_⟩
    · walk_at "v"
      refine ⟨_, rfl, ?_⟩
      walk_at "v"
      refine v_iteN (fun h2 => ?_) fun h2 => ?_
      · walk_at "v"
        rw [e0, decide_eq_false (show ¬ x.length ≤ 4 by omega)]
        exact ⟨by simp, rfl⟩
      · rw [decide_eq_true (show 0 < x.length by omega), decide_eq_true (show x.length ≤ 4 by omega), Bool.and_true, Bool.true_and] at e0
        walk_at "v"
        refine w_lcV (fun i acc τ => τ = [some (.fz (.str x)), none, none] ∧ acc = ((x.cps.toList.take i).filter fun c => !decide (c ∈ SMALL.cps.toList)).map fun c => D.str ⟨#[c]⟩) (by show 0 + _ ≤ _; rw [List.length_map]; omega) ⟨rfl, rfl⟩ ?_ ?_
        · rintro i d acc τ hd ⟨rfl, rfl⟩
          rw [List.getElem?_map] at hd
          obtain ⟨c, hc, rfl⟩ := Option.map_eq_some_iff.mp hd
          refine ⟨_, rfl, ?_⟩
          walk_at "v"
          refine v_lf2 (s := .fz (.bl (!decide (c ∈ SMALL.cps.toList)))) rfl ?_
          walk_at "v"
          rw [List.take_add_one, hc, List.filter_append, List.map_append]
          refine v_ite (fun q => ?_) fun q => ?_
          · walk_at "v"
            show _ = _ ++ List.map _ (List.filter (fun c => !decide (c ∈ SMALL.cps.toList)) [c])
            rw [List.filter_cons_of_pos (p := fun c => !decide (c ∈ SMALL.cps.toList)) q]
            rfl
          · show _ = _ ++ List.map _ (List.filter (fun c => !decide (c ∈ SMALL.cps.toList)) [c])
            rw [List.filter_cons_of_neg (p := fun c => !decide (c ∈ SMALL.cps.toList)) (by rw [q]; decide)]
            exact (List.append_nil _).symm
        · rintro out τ2 ⟨rfl, rfl⟩
          rw [List.length_map, List.take_length]
          walk_at "v"
          refine v_iteD (fun h3 => ?_) fun h3 => ?_
          · walk_at "v"
            have : x.cps.toList.all (fun c => decide (c ∈ SMALL.cps.toList)) = false := by
              refine Bool.eq_false_iff.mpr fun t => ?_
              rw [List.filter_eq_nil_iff.mpr fun c hc => by rw [List.all_eq_true.mp t c hc]; decide] at h3
              exact absurd h3 (by decide)
            rw [e0, this]
            exact ⟨rfl, rfl⟩
          · have ha : x.cps.toList.all (fun c => decide (c ∈ SMALL.cps.toList)) = true := by
              refine List.all_eq_true.mpr fun c hc => ?_
              have : (x.cps.toList.filter fun c => !decide (c ∈ SMALL.cps.toList)) = [] := List.eq_nil_of_length_eq_zero (by omega)
              have := List.filter_eq_nil_iff.mp this c hc
              simpa using this
            rw [ha, Bool.true_and] at e0
            walk_at "v"
            refine w_lcV (fun i acc τ => τ = [some (.fz (.str x)), none, none] ∧ (acc = [] ↔ ∀ j a b, j < i → x.cps.toList[j]? = some a → x.cps.toList[j + 1]? = some b → a < b)) (by show 0 + (rangeL 1 _).length ≤ _; unfold rangeL; rw [List.length_map, List.length_range]; omega) ⟨rfl, fun _ j a b hj => absurd hj (Nat.not_lt_zero _), fun _ => rfl⟩ ?_ ?_
            · rintro i d acc τ hd ⟨rfl, hacc⟩
              unfold rangeL at hd
              rw [List.getElem?_map] at hd
              obtain ⟨k, hk, rfl⟩ := Option.map_eq_some_iff.mp hd
              obtain ⟨hk1, hk2⟩ := List.getElem?_eq_some_iff.mp hk
              rw [List.getElem_range] at hk2
              subst hk2
              rw [List.length_range] at hk1
              have g1 : i < x.cps.toList.length := by omega
              have g2 : i + 1 < x.cps.toList.length := by omega
              refine ⟨_, rfl, ?_⟩
              walk_at "v"
              refine w_B (d := .str ⟨#[x.cps.toList[i]]⟩) (bIx_S (z := x) (i := 1 + (i : Int) - 1) rfl rfl hz (by rw [show (1 : Int) + (i : Int) - 1 = (i : Nat) by omega]; exact atI_pos (List.getElem?_eq_getElem g1))) ?_
              walk_at "v"
              refine w_B (d := .str ⟨#[x.cps.toList[i + 1]]⟩) (bIx_S (z := x) (i := 1 + (i : Int)) rfl rfl hz (by rw [show (1 : Int) + (i : Int) = ((i + 1 : Nat) : Int) by omega]; exact atI_pos (List.getElem?_eq_getElem g2))) ?_
              walk_at "v"
              refine v_lf2 (s := .fz (.bl (!decide (x.cps.toList[i] < x.cps.toList[i + 1])))) (by rw [← lt_sign]; rfl) ?_
              walk_at "v"
              refine v_iteN (fun q => ?_) fun q => ?_
              · walk_at "v"
                constructor
                · intro e
                  simp at e
                · intro e
                  exact absurd (e i _ _ (Nat.lt_succ_self i) (List.getElem?_eq_getElem g1) (List.getElem?_eq_getElem g2)) q
              · refine hacc.trans ⟨fun e j a b hj ja jb => ?_, fun e j a b hj => e j a b (by omega)⟩
                by_cases ej : j = i
                · subst ej
                  rw [List.getElem?_eq_getElem g1] at ja
                  rw [List.getElem?_eq_getElem g2] at jb
                  cases ja; cases jb
                  exact q
                · exact e j a b (by omega) ja jb
            · rintro out τ2 ⟨rfl, hacc⟩
              walk_at "v"
              rw [e0]
              refine ⟨?_, rfl⟩
              refine congrArg (fun b => Res.ok (SV.fz (.bl b))) ?_
              have hl : (rangeL 1 ((x.length : Int) - 1).toNat).length + 1 = x.length := by unfold rangeL; rw [List.length_map, List.length_range]; omega
              cases out with
              | nil =>
                rw [ascL_of _ fun i a b h1 h2 => hacc.mp rfl i a b (by have := (List.getElem?_eq_some_iff.mp h2).1; omega) h1 h2]
                rfl
              | cons y ys =>
                have : ascL x.cps.toList = false := Bool.eq_false_iff.mpr fun t => by
                  have := hacc.mpr fun j a b _ ja jb => ascL_at _ t j a b ja jb
                  cases this
                rw [this]
                exact decide_eq_false (by show ¬ ((((ys.length + 1 : Nat) : Int)) = 0); omega)
    · walk_at "v"
      rw [e0, decide_eq_false (show ¬ 0 < x.length by omega)]
      exact ⟨by simp, rfl⟩
  | ob hd l =>
    cases hd with
    | ins c fs => cases h
    | _ => walk_at "v"; exact ⟨rfl, rfl⟩
  | fro l => cases h
  | _ => walk_at "v"; exact ⟨rfl, rfl⟩

-- use jprog
theorem p_law_is_number {d : D} {a b : Int} (h : Pln d) : Ret f_law_is_number [.fz d, .fz (.int a), .fz (.int b)] (.fz (.bl (isNum d a b))) := by
  unfold f_law_is_number m_law_is_number
  refine w_fn rfl rfl ?_
  cases d with
  | int i =>
    walk_at "v"
    refine ⟨decide (a ≤ i), rfl, v_iteD (fun h1 => ?_) fun h1 => ?_⟩
    · walk_at "v"
      refine ⟨_, rfl, ?_⟩
      walk_at "v"
      exact ⟨by show _ = Res.ok (SV.fz (.bl (decide (a ≤ i) && decide (i ≤ b)))); rw [decide_eq_true h1]; rfl, rfl⟩
    · walk_at "v"
      exact ⟨by show _ = Res.ok (SV.fz (.bl (decide (a ≤ i) && decide (i ≤ b)))); rw [decide_eq_false h1]; rfl, rfl⟩
  | ob hd l =>
    cases hd with
    | ins c fs => exact absurd rfl h
    | _ => walk_at "v"; exact ⟨rfl, rfl⟩
  | _ => walk_at "v"; exact ⟨rfl, rfl⟩

-- use law_is_number
theorem p_law_are_moves {d : D} {z : Str} {na : Int} (h : plB d = true) (hz : z.length ≤ sizeLine) : Ret f_law_are_moves [.fz d, .fz (.str z), .fz (.int na)] (.fz (.bl (isMovesD d z.length na))) := by
  unfold f_law_are_moves m_law_are_moves
  have hs : (sizeLine : Nat) = 16777216 := sizeLine_eq
  refine w_fn rfl rfl ?_
  rcases tup_or h with ⟨l, rfl⟩ | ⟨hn, n, t1, t2⟩
  · have hlm := plBs_mem h
    walk_at "v"
    refine ⟨decide ((1 : Int) ≤ l.length), rfl, v_iteD (fun h1 => ?_) fun h1 => ?_⟩
    · walk_at "v"
      refine ⟨_, rfl, ?_⟩
      walk_at "v"
      refine v_iteN (fun h2 => ?_) fun h2 => ?_
      · walk_at "v"
        refine ⟨?_, rfl⟩
        show _ = Res.ok (SV.fz (.bl ((decide (1 ≤ l.length) && decide (l.length ≤ 12)) && l.all (isLinesD l.length z.length na))))
        rw [decide_eq_false (show ¬ l.length ≤ 12 by omega), Bool.and_false, Bool.false_and]
      · have e0 : isMovesD (.tup l) z.length na = l.all (isLinesD l.length z.length na) := by
          show ((decide (1 ≤ l.length) && decide (l.length ≤ 12)) && l.all (isLinesD l.length z.length na)) = _
          rw [decide_eq_true (show 1 ≤ l.length by omega), decide_eq_true (show l.length ≤ 12 by omega)]
          rfl
        rw [e0]
        walk_at "v"
        refine w_loop (fun i τ => ∃ o3 o4 o5, τ = [some (.fz (.tup l)), some (.fz (.str z)), some (.fz (.int na)), o3, o4, o5] ∧ (l.take i).all (isLinesD l.length z.length na) = true) ⟨_, _, _, rfl, rfl⟩ ?_ ?_
        · rintro i x τ hx ⟨o3, o4, o5, rfl, ha⟩
          have hxm := List.mem_of_getElem? hx
          have hxp := hlm x hxm
          refine ⟨_, rfl, ?_⟩
          rcases tup_or hxp with ⟨m, rfl⟩ | ⟨hn, n, t1, t2⟩
          · have hmm := plBs_mem hxp
            walk_at "v"
            refine v_iteN (fun h3 => ?_) fun h3 => ?_
            · walk_at "v"
              rw [all_no hx (show isLinesD l.length z.length na (.tup m) = false from by
                show (decide (m.length = z.length) && _) = false
                rw [decide_eq_false (by omega)]; rfl)]
              exact ⟨rfl, rfl⟩
            · have h3 : m.length = z.length := by omega
              walk_at "v"
              refine w_loop (fun j τ => ∃ o4 o5, τ = [some (.fz (.tup l)), some (.fz (.str z)), some (.fz (.int na)), some (.fz (.tup m)), o4, o5] ∧ (m.take j).all (isLineD l.length na) = true) ⟨_, _, rfl, rfl⟩ ?_ ?_
              · rintro j y τ hy ⟨o4, o5, rfl, hb⟩
                have hym := List.mem_of_getElem? hy
                have hyp := hmm y hym
                have bad : isLineD l.length na y = false → l.all (isLinesD l.length z.length na) = false := fun q => all_no hx (by
                  show (decide (m.length = z.length) && m.all (isLineD l.length na)) = false
                  rw [all_no hy q, Bool.and_false])
                refine ⟨_, rfl, ?_⟩
                rcases tup_or hyp with ⟨y, rfl⟩ | ⟨hn, n, t1, t2⟩
                · have hyy := plBs_mem hyp
                  walk_at "v"
                  refine v_iteN (fun h4 => ?_) fun h4 => ?_
                  · walk_at "v"
                    rw [bad (by show (decide ((y.length : Int) = na) && _) = false; rw [decide_eq_false h4]; rfl)]
                    exact ⟨rfl, rfl⟩
                  · have bad2 : ∀ {k : Nat} {p : D}, y[k]? = some p → isMoveD l.length p = false → l.all (isLinesD l.length z.length na) = false := fun hk q => bad (by
                      show (decide ((y.length : Int) = na) && y.all (isMoveD l.length)) = false
                      rw [all_no hk q, Bool.and_false])
                    walk_at "v"
                    refine w_loop (fun k τ => ∃ o5, τ = [some (.fz (.tup l)), some (.fz (.str z)), some (.fz (.int na)), some (.fz (.tup m)), some (.fz (.tup y)), o5] ∧ (y.take k).all (isMoveD l.length) = true) ⟨_, rfl, rfl⟩ ?_ ?_
                    · rintro k p τ hp ⟨o5, rfl, hc⟩
                      have hpp := hyy p (List.mem_of_getElem? hp)
                      refine ⟨_, rfl, ?_⟩
                      rcases tup_or hpp with ⟨p, rfl⟩ | ⟨hn, n, t1, t2⟩
                      · walk_at "v"
                        refine v_iteN (fun h5 => ?_) fun h5 => ?_
                        · walk_at "v"
                          rw [bad2 hp (isMove_not (by show decide (p.length = 2) = false; exact decide_eq_false (by omega)))]
                          exact ⟨rfl, rfl⟩
                        · obtain ⟨a, b, e⟩ := isPair_some (d := .tup p) (decide_eq_true (by omega))
                          cases e
                          have ha2 := plBs_mem hpp a List.mem_cons_self
                          have hb2 := plBs_mem hpp b (List.mem_cons_of_mem _ List.mem_cons_self)
                          walk_at "v"
                          refine w_ret rfl rfl (p_law_is_number (plB_pln ha2)) rfl ?_
                          walk_at "v"
                          refine v_ite (fun h6 => ?_) fun h6 => ?_
                          · walk_at "v"
                            have h6 : isNum a 1 99 = false := by simpa using h6
                            rw [bad2 hp (by show (isNum a 1 99 && _) = false; rw [h6]; rfl)]
                            exact ⟨rfl, rfl⟩
                          · have h6 : isNum a 1 99 = true := by simpa using h6
                            walk_at "v"
                            refine w_ret rfl rfl (p_law_is_number (plB_pln hb2)) rfl ?_
                            walk_at "v"
                            refine v_ite (fun h7 => ?_) fun h7 => ?_
                            · walk_at "v"
                              have h7 : isNum b 0 ((l.length : Int) - 1) = false := by simpa using h7
                              rw [bad2 hp (by show (isNum a 1 99 && isNum b 0 ((l.length : Int) - 1)) = false; rw [h7, Bool.and_false])]
                              exact ⟨rfl, rfl⟩
                            · have h7 : isNum b 0 ((l.length : Int) - 1) = true := by simpa using h7
                              walk_at "v"
                              exact ⟨_, rfl, all_take hc hp (by show (isNum a 1 99 && isNum b 0 ((l.length : Int) - 1)) = true; rw [h6, h7]; rfl)⟩
                      · walk_at "v"
                        refine w_isiF (s := .fz p) (n := n) rfl t1 t2 ?_
                        walk_at "v"
                        rw [bad2 hp (isMove_not (by
                          cases p with
                          | tup l => exact absurd rfl (hn l)
                          | _ => rfl))]
                        exact ⟨rfl, rfl⟩
                    · rintro τ ⟨o5, rfl, hc⟩
                      rw [List.take_length] at hc
                      exact ⟨_, _, rfl, all_take hb hy (by show (decide ((y.length : Int) = na) && y.all (isMoveD l.length)) = true; rw [hc, decide_eq_true h4]; rfl)⟩
                · walk_at "v"
                  refine w_isiF (s := .fz y) (n := n) rfl t1 t2 ?_
                  walk_at "v"
                  rw [bad (isLine_not hn)]
                  exact ⟨rfl, rfl⟩
              · rintro τ ⟨o4, o5, rfl, hb⟩
                rw [List.take_length] at hb
                exact ⟨_, _, _, rfl, all_take ha hx (by show (decide (m.length = z.length) && m.all (isLineD l.length na)) = true; rw [hb, decide_eq_true h3]; rfl)⟩
          · walk_at "v"
            refine w_isiF (s := .fz x) (n := n) rfl t1 t2 ?_
            walk_at "v"
            rw [all_no hx (isLines_not hn)]
            exact ⟨rfl, rfl⟩
        · rintro τ ⟨o3, o4, o5, rfl, ha⟩
          rw [List.take_length] at ha
          walk_at "v"
          rw [ha]
          exact ⟨rfl, rfl⟩
    · walk_at "v"
      refine ⟨?_, rfl⟩
      show _ = Res.ok (SV.fz (.bl ((decide (1 ≤ l.length) && decide (l.length ≤ 12)) && l.all (isLinesD l.length z.length na))))
      rw [decide_eq_false (show ¬ 1 ≤ l.length by omega)]
      rfl
  · walk_at "v"
    refine w_isiF (s := .fz d) (n := n) rfl t1 t2 ?_
    walk_at "v"
    cases d with
    | tup l => exact absurd rfl (hn l)
    | _ => exact ⟨rfl, rfl⟩

-- use mach
/-- a machine under way -/
def macP (M : Mach) (l : List (Nat × Nat × Nat)) : SV := .mu (.ins 9 machF) [.fz (rowsD M), .fz (.int M.na), .fz (movesD M.mv), .fz (.int M.size), stepsL M l, .mu (.dct true []) []]
def pre1 (M : Mach) (i : Nat) : List (Nat × Nat × Nat) := (List.range i).flatMap fun s => (List.range M.nr).flatMap fun r => (List.range M.na).map fun a => (s, r, a)
def pre2 (M : Mach) (i j : Nat) : List (Nat × Nat × Nat) := (List.range j).flatMap fun r => (List.range M.na).map fun a => (i, r, a)
def pre3 (i j k : Nat) : List (Nat × Nat × Nat) := (List.range k).map fun a => (i, j, a)
theorem pre_mem {M : Mach} {i j k : Nat} {t : Nat × Nat × Nat} (h : t ∈ pre1 M i ++ pre2 M i j ++ pre3 i j k) : t.1 < i ∧ t.2.1 < M.nr ∨ t.1 = i ∧ t.2.1 < j ∨ t.1 = i ∧ t.2.1 = j ∧ t.2.2 < k := by
  obtain ⟨s, r, a⟩ := t
  simp only [pre1, pre2, pre3, List.mem_append, List.mem_flatMap, List.mem_map, List.mem_range, Prod.mk.injEq] at h
  rcases h with (⟨s', hs, r', hr, a', ha, rfl, rfl, rfl⟩ | ⟨r', hr, a', ha, rfl, rfl, rfl⟩) | ⟨a', ha, rfl, rfl, rfl⟩
  · exact .inl ⟨hs, hr⟩
  · exact .inr (.inl ⟨rfl, hr⟩)
  · exact .inr (.inr ⟨rfl, rfl, ha⟩)
theorem flat_len {α : Type} (f : Nat → List α) (m : Nat) (hf : ∀ i, (f i).length ≤ m) : ∀ n, ((List.range n).flatMap f).length ≤ n * m
  | 0 => by simp
  | n + 1 => by
    rw [List.range_succ, List.flatMap_append, List.length_append]
    have := flat_len f m hf n
    have h2 := hf n
    simp only [List.flatMap_cons, List.flatMap_nil, List.append_nil]
    rw [Nat.add_mul]
    omega
theorem set_step {M : Mach} (nd : M.rows.Nodup) {L : List (Nat × Nat × Nat)} {t : Nat × Nat × Nat} {c : Nat} (hL : ∀ u ∈ L, u.2.1 < M.nr) (ht : t.2.1 < M.nr) (hn : t ∉ L) (hl : L.length < sizeLine) (hc : M.rows.getD t.2.1 0 = c) :
    setSVO (.dct true (L.map (triK M))) ((L.map (triV M)).map .fz) (.tup [.int (t.1 : Nat), .str ⟨#[c]⟩, .int (t.2.2 : Nat)]) (.fz (triV M t)) = some (.dct true ((L ++ [t]).map (triK M)), ((L ++ [t]).map (triV M)).map .fz) := by
  have hk : triK M t = .tup [.inl (t.1 : Nat), .inr ⟨#[c]⟩, .inl (t.2.2 : Nat)] := by unfold triK; rw [hc]
  show (if (L.map (triK M)).length < sizeLine then some (putSV (L.map (triK M)) ((L.map (triV M)).map .fz) (.tup [.inl (t.1 : Nat), .inr ⟨#[c]⟩, .inl (t.2.2 : Nat)]) (triV M t) true) else none) = _
  rw [if_pos (by rw [List.length_map]; exact hl), ← hk]
  unfold putSV
  rw [if_neg (fun q => hn (by
    obtain ⟨u, hu, e⟩ := List.mem_map.mp (List.contains_iff_mem.mp q)
    rw [← triK_inj nd (hL u hu) ht e]; exact hu))]
  rw [List.map_append, List.map_append, List.map_append]
  rfl
theorem oFld_steps {M : Mach} {L : List (Nat × Nat × Nat)} {r : Tau} : oFld [9] "kept_steps" (oVar 0) (some (macP M L) :: r) = some (0, [4]) := by
  show (if 9 ∈ [9] then (fIdx machF "kept_steps").map fun n => (0, [] ++ [n]) else none) = _
  rw [if_pos (by simp), show fIdx machF "kept_steps" = some 4 by decide +kernel]
  rfl
theorem p_Machine_keep {M : Mach} (ok : M.Ok) : RunF f_Machine_keep [.mu (.ins 9 []) [], .fz (rowsD M), .fz (.int M.na), .fz (movesD M.mv)] fun r os => r = .ok (.fz .non) ∧ os = [macO M, .fz (rowsD M), .fz (.int M.na), .fz (movesD M.mv)] := by
  unfold f_Machine_keep m_Machine_keep
  have hs : (sizeLine : Nat) = 16777216 := sizeLine_eq
  obtain ⟨nd, n1, n4, _⟩ := ok.letters
  have s12 := ok.s12
  have a3 := ok.a3
  refine w_fn rfl rfl ?_
  walk_at "v"
  have inj : ∀ i j k, j < M.nr → (∀ u ∈ pre1 M i ++ pre2 M i j ++ pre3 i j k, u.2.1 < M.nr) := fun i j k hj u hu => by
    rcases pre_mem hu with h | h | h
    · exact h.2
    · omega
    · omega
  refine w_loopE (fun i τ => ∃ o4 o5 o6 o7 o8 o9, τ = [some (macP M (pre1 M i)), some (.fz (rowsD M)), some (.fz (.int M.na)), some (.fz (movesD M.mv)), o4, o5, o6, o7, o8, o9]) ⟨_, _, _, _, _, _, rfl⟩ ?_ ?_
  · rintro i l τ hl ⟨o4, o5, o6, o7, o8, o9, rfl⟩
    have hi : i < M.size := (List.getElem?_eq_some_iff.mp hl).1
    obtain ⟨l', e1, e2, e3, e4⟩ := ok.lines hi
    rw [hl] at e1
    cases e1
    refine ⟨_, rfl, ?_⟩
    walk_at "v"
    rw [signs_ofL]
    refine w_loopZ e2.symm (fun j τ => ∃ o6 o7 o8 o9, τ = [some (macP M (pre1 M i ++ pre2 M i j)), some (.fz (rowsD M)), some (.fz (.int M.na)), some (.fz (movesD M.mv)), some (.fz (.int (i : Nat))), some (.fz (linesD l)), o6, o7, o8, o9]) ⟨_, _, _, _, by rw [show pre2 M i 0 = [] from rfl, List.append_nil]⟩ ?_ ?_
    · rintro j c x τ hc hx ⟨o6, o7, o8, o9, rfl⟩
      have hj : j < M.nr := (List.getElem?_eq_some_iff.mp hc).1
      have hxl : x.length = M.na := ((ok.shp l e4).2 x (List.mem_of_getElem? hx)).1
      have hcD : M.rows.getD j 0 = c := by rw [List.getD_eq_getElem?_getD, hc]; rfl
      refine ⟨_, rfl, ?_⟩
      walk_at "v"
      refine w_loopE (fun k τ => ∃ o8 o9, τ = [some (macP M (pre1 M i ++ pre2 M i j ++ pre3 i j k)), some (.fz (rowsD M)), some (.fz (.int M.na)), some (.fz (movesD M.mv)), some (.fz (.int (i : Nat))), some (.fz (linesD l)), some (.fz (.str ⟨#[c]⟩)), some (.fz (lineD x)), o8, o9]) ⟨_, _, by rw [show pre3 i j 0 = [] from rfl, List.append_nil]⟩ ?_ ?_
      · rintro k p τ hp ⟨o8, o9, rfl⟩
        have hk : k < M.na := by have := (List.getElem?_eq_some_iff.mp hp).1; omega
        have hat : M.at i j k = p := by
          unfold Mach.at
          rw [e3, List.getD_eq_getElem?_getD (l := l), hx]
          show x.getD k (1, 0) = p
          rw [List.getD_eq_getElem?_getD, hp]; rfl
        refine ⟨_, rfl, ?_⟩
        walk_at "v"
        have hlen : (pre1 M i ++ pre2 M i j ++ pre3 i j k).length < sizeLine := by
          have h1 : (pre1 M i).length ≤ i * (M.nr * M.na) := flat_len _ _ (fun s => flat_len _ _ (fun r => by simp) _) _
          have h2 : (pre2 M i j).length ≤ j * M.na := flat_len _ _ (fun r => by simp) _
          have h3 : (pre3 i j k).length = k := by simp [pre3]
          have h4 : i * (M.nr * M.na) ≤ 12 * (4 * 3) := Nat.mul_le_mul (by omega) (Nat.mul_le_mul n4 a3)
          have h5 : j * M.na ≤ 4 * 3 := Nat.mul_le_mul (by omega) a3
          rw [List.length_append, List.length_append]
          omega
        have hn : (i, j, k) ∉ pre1 M i ++ pre2 M i j ++ pre3 i j k := fun h => by
          rcases pre_mem h with h | h | h
          · exact absurd h.1 (Nat.lt_irrefl _)
          · exact absurd h.2 (Nat.lt_irrefl _)
          · exact absurd h.2.2 (Nat.lt_irrefl _)
        have hset := set_step nd (t := (i, j, k)) (inj i j k hj) hj hn hlen hcD
        refine ⟨0, [4], _, _, _, _, _, _, oFld_steps, rfl, rfl, rfl, by rw [← hat] ; exact hset, ?_⟩
        have e5 : pre3 i j (k + 1) = pre3 i j k ++ [(i, j, k)] := by unfold pre3; rw [List.range_succ, List.map_append]; rfl
        rw [e5, ← List.append_assoc]
        exact ⟨_, _, rfl⟩
      · rintro τ ⟨o8, o9, rfl⟩
        have e5 : pre2 M i (j + 1) = pre2 M i j ++ pre3 i j M.na := by unfold pre2 pre3; rw [List.range_succ, List.flatMap_append]; simp
        rw [hxl, e5, ← List.append_assoc]
        exact ⟨_, _, _, _, rfl⟩
    · rintro τ ⟨o6, o7, o8, o9, rfl⟩
      have e5 : pre1 M (i + 1) = pre1 M i ++ pre2 M i M.nr := by unfold pre1 pre2; rw [List.range_succ, List.flatMap_append]; simp
      rw [e5]
      exact ⟨_, _, _, _, _, _, rfl⟩
  · rintro τ ⟨o4, o5, o6, o7, o8, o9, rfl⟩
    walk_at "v"
    exact ⟨rfl, rfl⟩

theorem p_is_pair {a b : D} : Ret f_is_pair [.fz (.tup [a, b])] (.fz (.bl true)) := by
  unfold f_is_pair m_is_pair
  refine w_fn rfl rfl ?_
  walk_at "v"
  exact ⟨rfl, rfl⟩

theorem p_is_integer {i : Int} : Ret f_is_integer [.fz (.int i)] (.fz (.bl true)) := by
  unfold f_is_integer m_is_integer
  refine w_fn rfl rfl ?_
  walk_at "v"
  exact ⟨rfl, rfl⟩

-- use is_integer
theorem p_is_within {i a b : Int} (h1 : a ≤ i) (h2 : i ≤ b) : Ret f_is_within [.fz (.int i), .fz (.int a), .fz (.int b)] (.fz (.bl true)) := by
  unfold f_is_within m_is_within
  refine w_fn rfl rfl ?_
  walk_at "v"
  refine w_ret rfl rfl p_is_integer rfl ?_
  walk_at "v"
  exact ⟨rfl, rfl⟩

-- use mach
-- use is_pair
-- use is_within
theorem p_is_move {p : Int × Nat} {n : Nat} (h1 : 1 ≤ p.1) (h2 : p.1 ≤ 99) (h3 : p.2 < n) : Ret f_is_move [.fz (moveD p), .fz (.int n)] (.fz (.bl true)) := by
  unfold f_is_move m_is_move
  refine w_fn rfl rfl ?_
  walk_at "v"
  refine w_ret rfl rfl p_is_pair rfl ?_
  walk_at "v"
  refine w_ret rfl rfl (p_is_within h1 h2) rfl ?_
  walk_at "v"
  refine w_ret rfl rfl (p_is_within (by omega) (by omega)) rfl ?_
  walk_at "v"
  exact ⟨rfl, rfl⟩

-- use is_move
theorem p_are_moves {M : Mach} (ok : M.Ok) : Ret f_are_moves [.fz (movesD M.mv), .fz (rowsD M), .fz (.int M.na)] (.fz (.bl true)) := by
  unfold f_are_moves m_are_moves
  have hs : (sizeLine : Nat) = 16777216 := sizeLine_eq
  have s1 := ok.s1
  have s12 := ok.s12
  obtain ⟨nd, n1, n4, _⟩ := ok.letters
  unfold Mach.size at s1 s12
  have hz : (ofL M.rows).length ≤ sizeLine := by rw [ofL_len]; unfold Mach.nr at n4; omega
  refine w_fn rfl rfl ?_
  walk_at "v"
  refine w_loopX (fun i τ => ∃ o3 o4 o5, τ = [some (.fz (movesD M.mv)), some (.fz (rowsD M)), some (.fz (.int M.na)), o3, o4, o5]) ⟨_, _, _, rfl⟩ ?_ ?_
  · rintro i l τ hl ⟨o3, o4, o5, rfl⟩
    obtain ⟨e1, e2⟩ := ok.shp l (List.mem_of_getElem? hl)
    refine ⟨_, rfl, ?_⟩
    walk_at "v"
    refine v_iteN (fun h => absurd (by rw [ofL_len, e1]; rfl) h) fun _ => ?_
    walk_at "v"
    refine w_loopX (fun i τ => ∃ o4 o5, τ = [some (.fz (movesD M.mv)), some (.fz (rowsD M)), some (.fz (.int M.na)), some (.fz (linesD l)), o4, o5]) ⟨_, _, rfl⟩ ?_ ?_
    · rintro j x τ hx ⟨o4, o5, rfl⟩
      obtain ⟨f1, f2⟩ := e2 x (List.mem_of_getElem? hx)
      have a3 := ok.a3
      refine ⟨_, rfl, ?_⟩
      walk_at "v"
      refine v_iteN (fun h => absurd (by rw [f1]) h) fun _ => ?_
      walk_at "v"
      refine w_lcMq (X := Int × Nat) (xs := x) (e := moveD) _ (fun _ => D.bl true) rfl rfl (by omega) (fun p hp => ?_) fun τ3 hτ => ?_
      · obtain ⟨g1, g2, g3⟩ := f2 p hp
        refine ⟨_, rfl, ?_⟩
        walk_at "v"
        refine w_ret rfl rfl (p_is_move g1 g2 g3) rfl ?_
        walk_at "v"
        all_goals exact ⟨rfl, rfl⟩
      · have hτ3 : ∃ o5, τ3 = [some (.fz (movesD M.mv)), some (.fz (rowsD M)), some (.fz (.int M.na)), some (.fz (linesD l)), some (.fz (lineD x)), o5] := by
          rcases hτ with rfl | rfl
          · exact ⟨_, rfl⟩
          · exact ⟨_, rfl⟩
        obtain ⟨o5', rfl⟩ := hτ3
        walk_at "v"
        rw [show (x.map fun _ => D.bl true) = (x.map fun _ => true).map D.bl by rw [List.map_map]; rfl]
        refine v_all ?_
        rw [show (x.map fun _ => true).all id = true by simp]
        walk_at "v"
        exact ⟨_, _, rfl⟩
    · rintro τ ⟨o4, o5, rfl⟩
      walk_at "v"
      exact ⟨_, _, _, rfl⟩
  · rintro τ ⟨o3, o4, o5, rfl⟩
    walk_at "v"
    exact ⟨rfl, rfl⟩

-- use Machine_keep
-- use are_moves
theorem p_Machine_init {M : Mach} (ok : M.Ok) : RunF f_Machine_init [.mu (.ins 9 []) [], .fz (rowsD M), .fz (.int M.na), .fz (movesD M.mv)] fun r os => r = .ok (.fz .non) ∧ os = [macO M, .fz (rowsD M), .fz (.int M.na), .fz (movesD M.mv)] := by
  unfold f_Machine_init m_Machine_init
  have hs : (sizeLine : Nat) = 16777216 := sizeLine_eq
  obtain ⟨nd, n1, n4, _⟩ := ok.letters
  have a1 := ok.a1
  have a3 := ok.a3
  refine w_fn rfl rfl ?_
  walk_at "v"
  refine w_ret rfl rfl (p_is_rows (d := rowsD M) (by show (ofL M.rows).length ≤ sizeLine; rw [ofL_len]; unfold Mach.nr at n4; omega)) rfl ?_
  rw [ok.rows]
  walk_at "v"
  refine w_ret rfl rfl (p_is_within (by omega) (by omega)) rfl ?_
  walk_at "v"
  refine w_ret rfl rfl (p_are_moves ok) rfl ?_
  walk_at "v"
  refine w_meth rfl rfl (by decide) ?_
  walk_at "v"
  refine w_run rfl rfl (p_Machine_keep ok) ?_
  rintro _ _ ⟨rfl, rfl⟩
  refine ⟨rfl, ?_⟩
  walk_at "v"
  exact ⟨rfl, rfl⟩

-- use jprog
-- use Machine_init
def Short (d : D) : Prop := ∀ l m y, d = .tup l → .tup m ∈ l → .tup y ∈ m → y.length ≤ sizeLine
/-- the part that is not as told -/
def dueJ (d1 d2 d3 : D) : Str := if isRows d1 then (if isNum d2 1 3 then (match d1, d2 with
  | .str z, .int na => if isMovesD d3 z.length na then "let" else "moves"
  | _, _ => "let") else "answers") else "rows"
theorem isRows_str {d : D} (h : isRows d = true) : ∃ z, d = .str z := by
  cases d with
  | str z => exact ⟨z, rfl⟩
  | _ => simp [isRows, isWord, isStrOf] at h
theorem due_rows {d1 d2 d3 : D} (h : isRows d1 = false) : dueJ d1 d2 d3 = "rows" := by unfold dueJ; rw [h]; rfl
theorem due_answers {d1 d2 d3 : D} (h : isRows d1 = true) (h2 : isNum d2 1 3 = false) : dueJ d1 d2 d3 = "answers" := by unfold dueJ; rw [h, h2]; rfl
theorem due_moves {z : Str} {na : Int} {d3 : D} (h : isRows (.str z) = true) (h2 : isNum (.int na) 1 3 = true) : dueJ (.str z) (.int na) d3 = (if isMovesD d3 z.length na then ("let" : Str) else ("moves" : Str)) := by unfold dueJ; rw [h, h2]; rfl
/-- Machine(d1, d2, d3) -/
theorem pj_Machine_init {d1 d2 d3 : D} (h1 : plB d1 = true) (h2 : plB d2 = true) (h3 : plB d3 = true) (hl : Short d3) : RunF f_Machine_init [.mu (.ins 9 []) [], .fz d1, .fz d2, .fz d3] fun r os =>
    (∃ M : Mach, M.Ok ∧ d1 = rowsD M ∧ d2 = .int M.na ∧ d3 = movesD M.mv ∧ dueJ d1 d2 d3 = "let" ∧ r = .ok (.fz .non) ∧ os = [macO M, .fz d1, .fz d2, .fz d3]) ∨
    ∃ s0, r = .ex 1 ["part"] [.str (dueJ d1 d2 d3)] ∧ os = [s0, .fz d1, .fz d2, .fz d3] := by
  cases e1 : isRows d1 with
  | false =>
    unfold f_Machine_init m_Machine_init
    refine w_fn rfl rfl ?_
    walk_at "v"
    refine w_ret rfl rfl (p_is_rows (plB_fit h1)) rfl ?_
    rw [e1]
    walk_at "v"
    refine ⟨_, rfl, ?_⟩
    walk_at "v"
    exact .inr ⟨_, by rw [due_rows e1], rfl⟩
  | true =>
    cases e2 : isNum d2 1 3 with
    | false =>
      unfold f_Machine_init m_Machine_init
      refine w_fn rfl rfl ?_
      walk_at "v"
      refine w_ret rfl rfl (p_is_rows (plB_fit h1)) rfl ?_
      rw [e1]
      walk_at "v"
      refine w_ret rfl rfl (pj_is_within (plB_pln h2)) rfl ?_
      rw [e2]
      walk_at "v"
      refine ⟨_, rfl, ?_⟩
      walk_at "v"
      exact .inr ⟨_, by rw [due_answers e1 e2], rfl⟩
    | true =>
      obtain ⟨z, rfl⟩ := isRows_str e1
      obtain ⟨na, rfl, n1, n3⟩ := isNum_some e2
      have hz : z.length ≤ sizeLine := plB_fit h1
      cases e3 : isMovesD d3 z.length na with
      | false =>
        unfold f_Machine_init m_Machine_init
        refine w_fn rfl rfl ?_
        walk_at "v"
        refine w_ret rfl rfl (p_is_rows (plB_fit h1)) rfl ?_
        rw [e1]
        walk_at "v"
        refine w_ret rfl rfl (pj_is_within (plB_pln h2)) rfl ?_
        rw [e2]
        walk_at "v"
        refine w_ret rfl rfl (pj_are_moves h3 hz hl) rfl ?_
        rw [e3]
        walk_at "v"
        refine ⟨_, rfl, ?_⟩
        walk_at "v"
        exact .inr ⟨_, by rw [due_moves e1 e2, e3]; rfl, rfl⟩
      | true =>
        obtain ⟨M, ok, rfl, rfl, rfl⟩ := mach_of e1 n1 n3 e3
        refine RunF.mono (p_Machine_init ok) ?_
        rintro _ _ ⟨rfl, rfl⟩
        exact .inl ⟨M, ok, rfl, rfl, rfl, by rw [due_moves e1 e2, e3]; rfl, rfl, rfl⟩

-- use law_are_rows
-- use law_are_moves
-- use jmach
theorem p_law_due {d1 d2 d3 : D} (h1 : plB d1 = true) (h2 : plB d2 = true) (h3 : plB d3 = true) : Ret f_law_due [.fz d1, .fz d2, .fz d3] (.fz (.str (dueJ d1 d2 d3))) := by
  unfold f_law_due m_law_due
  refine w_fn rfl rfl ?_
  walk_at "v"
  refine w_ret rfl rfl (p_law_are_rows h1) rfl ?_
  walk_at "v"
  refine v_ite (fun e1 => ?_) fun e1 => ?_
  · walk_at "v"
    rw [due_rows (by simpa using e1)]
    exact ⟨rfl, rfl⟩
  · have e1 : isRows d1 = true := by simpa using e1
    walk_at "v"
    refine w_ret rfl rfl (p_law_is_number (plB_pln h2)) rfl ?_
    walk_at "v"
    refine v_ite (fun e2 => ?_) fun e2 => ?_
    · walk_at "v"
      rw [due_answers e1 (by simpa using e2)]
      exact ⟨rfl, rfl⟩
    · have e2 : isNum d2 1 3 = true := by simpa using e2
      obtain ⟨z, rfl⟩ := isRows_str e1
      obtain ⟨na, rfl, n1, n3⟩ := isNum_some e2
      walk_at "v"
      refine w_ret rfl rfl (p_law_are_moves h3 (plB_fit h1)) rfl ?_
      rw [due_moves e1 e2]
      walk_at "v"
      cases isMovesD d3 z.length na with
      | true => walk_at "v"; exact ⟨rfl, rfl⟩
      | false => walk_at "v"; exact ⟨rfl, rfl⟩

/-- a hand of scripted draws -/
def Hand (s : SV) : Prop := ∃ (cs : List Int) (i big st cnt : Int), s = .mu .lst [.fz (.ob .lst (cs.map .int)), .fz (.int i), .fz (.int big), .fz (.int st), .fz (.int cnt)] ∧ 0 ≤ i
theorem Hand.mu {s : SV} (h : Hand s) : IsMu s := by
  obtain ⟨_, _, _, _, _, rfl, _⟩ := h
  exact ⟨_, _, rfl⟩
theorem hand_mk {l : List D} {cs : List Int} {i big st cnt : Int} (h : l = cs.map .int) (hi : 0 ≤ i) : Hand (.mu .lst [.fz (.ob .lst l), .fz (.int i), .fz (.int big), .fz (.int st), .fz (.int cnt)]) := ⟨cs, i, big, st, cnt, by rw [h], hi⟩
theorem p_law_hand {ns : List Int} (h : ns.length ≤ 63) : RunF f_law_hand [scr ns] fun r os => os = [scr ns] ∧ ∃ s, r = .ok s ∧ Hand s := by
  unfold f_law_hand m_law_hand scr
  refine w_fn rfl rfl ?_
  walk_at "v"
  rw [cut_map]
  refine w_lcM (fun n : Int => D.int (if n < 0 then -n else n)) rfl ?_ (fun n hn => ?_) ?_
  · have := cut_len ns none (some 63)
    walk_at "va"
  · walk_at "v"
    all_goals rfl
  · walk_at "v"
    exact ⟨rfl, _, rfl, hand_mk (cs := (cutG ns none (some 63)).map fun n => if n < 0 then -n else n) (by rw [List.map_map]; rfl) (Int.le_refl 0)⟩

-- use law_hand
theorem p_law_draw {s : SV} {n : Int} (hs : Hand s) (h1 : 0 < n) (h2 : n < 1073741824) : RunF f_law_draw [s, .fz (.int n)] fun r os => ∃ v s', r = .ok (.fz (.int v)) ∧ os = [s', .fz (.int n)] ∧ Hand s' ∧ 0 ≤ v ∧ v < n := by
  obtain ⟨cs, i, big, st, cnt, rfl, hi⟩ := hs
  unfold f_law_draw m_law_draw
  refine w_fn rfl rfl ?_
  walk_at "vn"
  refine w_seqM (fun τ => ∃ (i big st cnt : Int) (x : Option SV), τ = [some (.mu .lst [.fz (.ob .lst (cs.map .int)), .fz (.int i), .fz (.int big), .fz (.int st), .fz (.int cnt)]), some (.fz (.int n)), x, none, none] ∧ 0 ≤ i) ?_ ?_
  · walk_at "v"
    refine v_iteD (fun hb => ?_) fun hb => ?_
    · walk_at "v"
      refine v_iteD (fun hb2 => ?_) fun hb2 => ?_
      · obtain ⟨k, rfl⟩ : ∃ k : Nat, i = (k : Int) := ⟨i.toNat, by omega⟩
        have hk : k < cs.length := by (try rw [List.length_map] at hb2); omega
        walk_at "v"
        refine w_B (d := .int cs[k]) (bIx_F rfl rfl (ixF_L (atI_pos (by rw [List.getElem?_map, List.getElem?_eq_getElem hk]; rfl)))) ?_
        walk_at "v"
        refine v_iteD (fun hb3 => ?_) fun hb3 => ?_
        · walk_at "v"
          exact ⟨_, _, _, _, _, rfl, by omega⟩
        · walk_at "v"
          exact ⟨_, _, _, _, _, rfl, by omega⟩
      · walk_at "v"
        exact ⟨_, _, _, _, _, rfl, by omega⟩
    · walk_at "v"
      exact ⟨_, _, _, _, _, rfl, by omega⟩
  · rintro τ ⟨i, big, st, cnt, x, rfl, hi⟩
    walk_at "v"
    refine v_iteD (fun hb => ?_) fun hb => ?_
    · walk_at "v"
      exact ⟨_, _, rfl, rfl, hand_mk rfl hi, Int.emod_nonneg _ (by omega), Int.emod_lt_of_pos _ h1⟩
    · walk_at "v"
      exact ⟨_, _, rfl, rfl, hand_mk rfl hi, Int.emod_nonneg _ (by omega), Int.emod_lt_of_pos _ h1⟩

-- use Machine_keep
/-! meters as data; signs; first readings -/
theorem all_snoc {α : Type} {P : α → Prop} {l : List α} {x : α} (h : ∀ y ∈ l, P y) (hx : P x) : ∀ y ∈ l ++ [x], P y := fun y hy => by
  rcases List.mem_append.mp hy with q | q
  · exact h y q
  · rw [List.mem_singleton] at q; rw [q]; exact hx
abbrev mlineD (x : List Int) : D := .tup (x.map D.int)
abbrev mlinesD (l : List (List Int)) : D := .tup (l.map mlineD)
abbrev meterD (mt : List (List (List Int))) : D := .tup (mt.map mlinesD)
def wt (mt : List (List (List Int))) (s r a : Nat) : Int := ((mt.getD s []).getD r []).getD a 0
structure MtOk (M : Mach) (mt : List (List (List Int))) : Prop where
  len : mt.length = M.size
  shp : ∀ l ∈ mt, l.length = M.nr ∧ ∀ x ∈ l, x.length = M.na ∧ ∀ i ∈ x, -99 ≤ i ∧ i ≤ 99
section
variable {M : Mach} {mt : List (List (List Int))} {s r a : Nat}
theorem MtOk.at (h : MtOk M mt) (hs : s < M.size) (hr : r < M.nr) (ha : a < M.na) : ∃ l x, mt[s]? = some l ∧ l[r]? = some x ∧ x[a]? = some (wt mt s r a) ∧ -99 ≤ wt mt s r a ∧ wt mt s r a ≤ 99 := by
  have h1 := h.len
  have e1 : mt[s]? = some mt[s] := List.getElem?_eq_getElem (by omega)
  obtain ⟨l1, l2⟩ := h.shp mt[s] (List.getElem_mem _)
  have e2 : mt[s][r]? = some mt[s][r] := List.getElem?_eq_getElem (by omega)
  obtain ⟨x1, x2⟩ := l2 mt[s][r] (List.getElem_mem _)
  have e3 : mt[s][r][a]? = some mt[s][r][a] := List.getElem?_eq_getElem (by omega)
  have e4 : wt mt s r a = mt[s][r][a] := by
    unfold wt
    rw [List.getD_eq_getElem?_getD (l := mt), e1]
    show (mt[s].getD r []).getD a 0 = _
    rw [List.getD_eq_getElem?_getD (l := mt[s]), e2]
    show mt[s][r].getD a 0 = _
    rw [List.getD_eq_getElem?_getD, e3]
    rfl
  rw [e4]
  exact ⟨_, _, e1, e2, e3, x2 _ (List.getElem_mem _)⟩
theorem ixT_map {α : Type} {f : α → D} {l : List α} {n : Nat} {x : α} (h : l[n]? = some x) : ixF (.tup (l.map f)) (.int (n : Nat)) = some (.fz (f x)) := ixF_T (atI_pos (by rw [List.getElem?_map, h]; rfl))
theorem ixL_map {α : Type} {f : α → D} {l : List α} {n : Nat} {x : α} (h : l[n]? = some x) : ixF (.ob .lst (l.map f)) (.int (n : Nat)) = some (.fz (f x)) := ixF_L (atI_pos (by rw [List.getElem?_map, h]; rfl))
/-- meter[s][rows.index(row)][answer] -/
theorem w_worth {A : SV → Tau → Prop} {B : Nat → List Str → List D → Tau → Prop} {τ : Tau} {pm ps pr : PB} {i j c : Nat} (ok : M.Ok) (mk : MtOk M mt) (hs : s < M.size) (hr : M.rows[r]? = some c) (ha : a < M.na)
    (e1 : pm τ = some (.fz (meterD mt))) (e2 : ps τ = some (.fz (.int (s : Nat)))) (e3 : pr τ = some (.fz (rowsD M))) (e4 : τ[i]? = some (some (.fz (.str ⟨#[c]⟩)))) (e5 : τ[j]? = some (some (.fz (.int (a : Nat)))))
    (q : A (.fz (.int (wt mt s r a))) τ) : Rm (mB (bIx pm ps)) τ (fun x τ1 => Rm (frz (mBm sindexF (mB pr) (mVar i))) τ1 (fun y τ2 => ∃ s, ixF x y = some s ∧ Rm (mVar j) τ2 (fun y τ2 => ∃ s', ixF s.toD y = some s' ∧ A s' τ2) B) B) B := by
  obtain ⟨l, x, h1, h2, h3, -⟩ := mk.at hs (List.getElem?_eq_some_iff.mp hr).1 ha
  refine w_B (bIx_F e1 e2 (ixT_map h1)) (w_frz (w_bm (w_B e3 ⟨_, rfl, w_var e4 (v_index (sIndex_nd (n := r) ?_ ?_) (v_lf2 (ixT_map h2) (w_var e5 (v_lf2 (ixT_map h3) q))))⟩)))
  · rw [cps_ofL]; exact ok.letters.1
  · rw [cps_ofL]; exact hr
end
def partsD (M : Mach) : D := .tup [rowsD M, .int M.na, movesD M.mv]
/-- signs in order: rows and answers -/
def sgn (M : Mach) : List (Nat × Nat) := (List.range M.nr).flatMap fun r => (List.range M.na).map fun a => (r, a)
def signD (M : Mach) (p : Nat × Nat) : D := .tup [.str ⟨#[M.rows.getD p.1 0]⟩, .int (p.2 : Nat)]
theorem sgn_mem {M : Mach} {p : Nat × Nat} : p ∈ sgn M ↔ p.1 < M.nr ∧ p.2 < M.na := by
  obtain ⟨r, a⟩ := p
  simp only [sgn, List.mem_flatMap, List.mem_map, List.mem_range, Prod.mk.injEq]
  constructor
  · rintro ⟨r', hr, a', ha, rfl, rfl⟩
    exact ⟨hr, ha⟩
  · rintro ⟨hr, ha⟩
    exact ⟨r, hr, a, ha, rfl, rfl⟩
theorem row_at {M : Mach} {r : Nat} (h : r < M.nr) : M.rows[r]? = some (M.rows.getD r 0) := by
  have e := List.getElem?_eq_getElem h
  rw [List.getD_eq_getElem?_getD, e]; rfl
theorem sgn_len {M : Mach} (ok : M.Ok) : 1 ≤ (sgn M).length ∧ (sgn M).length ≤ 12 := by
  obtain ⟨-, n1, n4, -⟩ := ok.letters
  have a1 := ok.a1
  have a3 := ok.a3
  constructor
  · have : (0, 0) ∈ sgn M := sgn_mem.mpr ⟨by omega, by omega⟩
    exact List.length_pos_of_mem this
  · have h2 : (sgn M).length ≤ M.nr * M.na := flat_len _ _ (fun r => by simp) _
    have := Nat.mul_le_mul n4 a3
    omega
structure Ent where
  st : Nat
  run : List (Nat × Nat)
  rd : Int
def runD (M : Mach) (w : List (Nat × Nat)) : D := .tup [.str (ofL (w.map fun p => M.rows.getD p.1 0)), .tup (w.map fun p => D.int (p.2 : Nat))]
def entD (M : Mach) (e : Ent) : D := .tup [runD M e.run, .int e.rd]
def goal (M : Mach) (s : Nat) (p : Nat × Nat) : Nat := (M.at s p.1 p.2).2
def kys (B : List Ent) : List DK := B.map fun e => DK.k (.inl (e.st : Nat))
def foundO (M : Mach) (B : List Ent) : SV := .mu (.dct false (kys B)) ((B.map (entD M)).map .fz)
def foundD (M : Mach) (B : List Ent) : D := .ob (.dct false (kys B)) (B.map (entD M))
def grow (M : Mach) (mt : List (List (List Int))) (e : Ent) (B : List Ent) (p : Nat × Nat) : List Ent :=
  if goal M e.st p ∈ B.map Ent.st then B else B ++ [⟨goal M e.st p, e.run ++ [p], e.rd + wt mt e.st p.1 p.2⟩]
def visit (M : Mach) (mt : List (List (List Int))) (B : List Ent) (e : Ent) : List Ent := (sgn M).foldl (grow M mt e) B
def Bk (M : Mach) (mt : List (List (List Int))) : Nat → List Ent
  | 0 => [⟨0, [], 0⟩]
  | t + 1 => match (Bk M mt t)[t]? with
    | none => Bk M mt t
    | some e => visit M mt (Bk M mt t) e
def look : List Ent → Nat → Option Ent
  | [], _ => none
  | e :: B, s => if e.st = s then some e else look B s
theorem Bk_succ {M : Mach} {mt : List (List (List Int))} {t : Nat} : Bk M mt (t + 1) = match (Bk M mt t)[t]? with
    | none => Bk M mt t
    | some e => visit M mt (Bk M mt t) e := rfl
theorem dLook_B {M : Mach} {s : Nat} : ∀ B : List Ent, dLook (kys B) (B.map (entD M)) (.k (.inl (s : Nat))) = (look B s).map (entD M)
  | [] => rfl
  | e :: B => by
    show (if DK.k (.inl (e.st : Nat)) = DK.k (.inl (s : Nat)) then some (entD M e) else dLook (kys B) (B.map (entD M)) (.k (.inl (s : Nat)))) = (if e.st = s then some e else look B s).map (entD M)
    by_cases h : e.st = s
    · rw [if_pos (by rw [h]), if_pos h]; rfl
    · rw [if_neg (fun q => h (by cases q; rfl)), if_neg h]
      exact dLook_B B
theorem look_mem {B : List Ent} (nd : (B.map Ent.st).Nodup) {e : Ent} (h : e ∈ B) : look B e.st = some e := by
  induction B with
  | nil => cases h
  | cons x B ih =>
    rw [List.map_cons, List.nodup_cons] at nd
    show (if x.st = e.st then some x else look B e.st) = some e
    rcases List.mem_cons.mp h with rfl | h
    · rw [if_pos rfl]
    · rw [if_neg (fun q => nd.1 (by rw [q]; exact List.mem_map.mpr ⟨e, h, rfl⟩)), ih nd.2 h]
theorem look_key {B : List Ent} (nd : (B.map Ent.st).Nodup) {s : Nat} (h : s ∈ B.map Ent.st) : ∃ e, look B s = some e ∧ e ∈ B ∧ e.st = s := by
  obtain ⟨e, h1, rfl⟩ := List.mem_map.mp h
  exact ⟨e, look_mem nd h1, h1, rfl⟩
theorem look_none {s : Nat} : ∀ {B : List Ent}, s ∉ B.map Ent.st → look B s = none
  | [], _ => rfl
  | e :: B, h => by
    rw [List.map_cons, List.mem_cons, not_or] at h
    show (if e.st = s then some e else look B s) = none
    rw [if_neg (fun q => h.1 q.symm), look_none h.2]
theorem nodup_le : ∀ (n : Nat) (l : List Nat), l.Nodup → (∀ x ∈ l, x < n) → l.length ≤ n
  | 0, [], _, _ => Nat.le_refl _
  | 0, x :: _, _, h => absurd (h x List.mem_cons_self) (Nat.not_lt_zero _)
  | n + 1, l, nd, h => by
    have := nodup_le n (l.erase n) (nd.erase n) fun x hx => by
      have h1 := h x (List.mem_of_mem_erase hx)
      have h2 : x ≠ n := fun e => by subst e; exact (List.Nodup.not_mem_erase nd) hx
      omega
    rw [List.length_erase] at this
    split at this <;> omega
structure BOk (M : Mach) (t : Nat) (B : List Ent) : Prop where
  nd : (B.map Ent.st).Nodup
  st : ∀ e ∈ B, e.st < M.size
  run : ∀ e ∈ B, e.run.length ≤ t
  rd1 : ∀ e ∈ B, e.rd ≤ 99 * (e.run.length : Int)
  rd2 : ∀ e ∈ B, -(99 * (e.run.length : Int)) ≤ e.rd
  ne : 1 ≤ B.length
theorem BOk.len {M : Mach} {t : Nat} {B : List Ent} (h : BOk M t B) : B.length ≤ M.size := by
  have := nodup_le M.size _ h.nd fun x hx => by
    obtain ⟨e, he, rfl⟩ := List.mem_map.mp hx
    exact h.st e he
  rwa [List.length_map] at this
section
variable {M : Mach} {mt : List (List (List Int))} {t : Nat} {B : List Ent} {e : Ent} {p : Nat × Nat}
theorem goal_lt (ok : M.Ok) (hs : e.st < M.size) (hp : p ∈ sgn M) : goal M e.st p < M.size := (ok.move hs (sgn_mem.mp hp).1 (sgn_mem.mp hp).2).2.2.2
theorem BOk.grow (ok : M.Ok) (mk : MtOk M mt) (h : BOk M (t + 1) B) (hs : e.st < M.size) (hl : e.run.length ≤ t) (h1 : e.rd ≤ 99 * (e.run.length : Int)) (h2 : -(99 * (e.run.length : Int)) ≤ e.rd) (hp : p ∈ sgn M) : BOk M (t + 1) (Lw.grow M mt e B p) := by
  unfold Lw.grow
  split
  · exact h
  · rename_i hn
    obtain ⟨-, -, -, -, -, w1, w2⟩ := mk.at hs (sgn_mem.mp hp).1 (sgn_mem.mp hp).2
    have key : ∀ P : Ent → Prop, (∀ x ∈ B, P x) → P ⟨goal M e.st p, e.run ++ [p], e.rd + wt mt e.st p.1 p.2⟩ → ∀ x ∈ B ++ [(⟨goal M e.st p, e.run ++ [p], e.rd + wt mt e.st p.1 p.2⟩ : Ent)], P x := fun P a b x hx => by
      rcases List.mem_append.mp hx with q | q
      · exact a x q
      · rw [List.mem_singleton] at q
        rw [q]; exact b
    refine ⟨?_, key _ h.st (goal_lt ok hs hp), key _ h.run ?_, key _ h.rd1 ?_, key _ h.rd2 ?_, ?_⟩
    · rw [List.map_append]
      refine List.nodup_append.mpr ⟨h.nd, by simp, fun x hx y hy => ?_⟩
      simp at hy
      rintro rfl
      exact hn (by rw [← hy]; exact hx)
    · rw [List.length_append]; show _ + 1 ≤ _; omega
    · show _ ≤ 99 * ((e.run ++ [p]).length : Int)
      rw [List.length_append]
      show e.rd + wt mt e.st p.1 p.2 ≤ 99 * ((e.run.length + 1 : Nat) : Int)
      omega
    · show -(99 * ((e.run ++ [p]).length : Int)) ≤ _
      rw [List.length_append]
      show -(99 * ((e.run.length + 1 : Nat) : Int)) ≤ e.rd + wt mt e.st p.1 p.2
      omega
    · rw [List.length_append]; have := h.ne; omega
theorem grow_pre : ∃ C, grow M mt e B p = B ++ C := by
  unfold grow
  split
  · exact ⟨[], (List.append_nil _).symm⟩
  · exact ⟨_, rfl⟩
theorem grow_has : goal M e.st p ∈ (grow M mt e B p).map Ent.st := by
  unfold grow
  split
  · assumption
  · rw [List.map_append]; exact List.mem_append_right _ (List.mem_singleton.mpr rfl)
theorem fold_pre : ∀ (ps : List (Nat × Nat)) (B : List Ent), ∃ C, ps.foldl (grow M mt e) B = B ++ C
  | [], B => ⟨[], (List.append_nil _).symm⟩
  | p :: ps, B => by
    obtain ⟨C, e1⟩ := grow_pre (M := M) (mt := mt) (e := e) (B := B) (p := p)
    obtain ⟨C2, e2⟩ := fold_pre ps (grow M mt e B p)
    exact ⟨C ++ C2, by show ps.foldl (grow M mt e) (grow M mt e B p) = _; rw [e2, e1, List.append_assoc]⟩
theorem fold_has : ∀ (ps : List (Nat × Nat)) (B : List Ent), ∀ p ∈ ps, goal M e.st p ∈ (ps.foldl (grow M mt e) B).map Ent.st
  | q :: ps, B, p, h => by
    show goal M e.st p ∈ (ps.foldl (grow M mt e) (grow M mt e B q)).map Ent.st
    rcases List.mem_cons.mp h with rfl | h
    · obtain ⟨C, e2⟩ := fold_pre (M := M) (mt := mt) (e := e) ps (grow M mt e B p)
      rw [e2, List.map_append]
      exact List.mem_append_left _ grow_has
    · exact fold_has ps _ p h
theorem fold_ok (ok : M.Ok) (mk : MtOk M mt) (hs : e.st < M.size) (hl : e.run.length ≤ t) (h1 : e.rd ≤ 99 * (e.run.length : Int)) (h2 : -(99 * (e.run.length : Int)) ≤ e.rd) : ∀ (ps : List (Nat × Nat)) (B : List Ent), (∀ p ∈ ps, p ∈ sgn M) → BOk M (t + 1) B → BOk M (t + 1) (ps.foldl (grow M mt e) B)
  | [], _, _, h => h
  | p :: ps, B, hp, h => fold_ok ok mk hs hl h1 h2 ps _ (fun q hq => hp q (List.mem_cons_of_mem _ hq)) (h.grow ok mk hs hl h1 h2 (hp p List.mem_cons_self))
theorem BOk.up (h : BOk M t B) : BOk M (t + 1) B := ⟨h.nd, h.st, fun e he => by have := h.run e he; omega, h.rd1, h.rd2, h.ne⟩
theorem Bk_ok (ok : M.Ok) (mk : MtOk M mt) : ∀ t, BOk M t (Bk M mt t)
  | 0 => by
    have := ok.s1
    unfold Bk
    refine ⟨by simp, ?_, ?_, ?_, ?_, Nat.le_refl _⟩ <;> intro e he <;> rw [List.mem_singleton] at he <;> rw [he]
    · exact this
    · exact Nat.le_refl _
    · exact Int.le_refl _
    · exact Int.le_refl _
  | t + 1 => by
    have ih := Bk_ok ok mk t
    unfold Bk
    split
    · exact ih.up
    · rename_i e he
      have hm := List.mem_of_getElem? he
      exact fold_ok ok mk (ih.st e hm) (ih.run e hm) (ih.rd1 e hm) (ih.rd2 e hm) _ _ (fun _ h => h) ih.up
theorem Bk_stay (h : (Bk M mt t).length ≤ t) : ∀ k, Bk M mt (t + k) = Bk M mt t
  | 0 => rfl
  | k + 1 => by
    show Bk M mt ((t + k) + 1) = _
    rw [Bk_succ, Bk_stay h k, List.getElem?_eq_none (by omega)]
/-- all first readings -/
def FIN (M : Mach) (mt : List (List (List Int))) : List Ent := Bk M mt M.size
theorem fin_of (ok : M.Ok) (mk : MtOk M mt) (h : (Bk M mt t).length ≤ t) : Bk M mt t = FIN M mt := by
  have h12 : (Bk M mt M.size).length ≤ M.size := (Bk_ok ok mk _).len
  rcases Nat.le_total t M.size with q | q
  · obtain ⟨k, e⟩ := Nat.exists_eq_add_of_le q
    have := Bk_stay h k
    rw [← e] at this
    exact this.symm
  · obtain ⟨k, e⟩ := Nat.exists_eq_add_of_le q
    rw [e]
    exact Bk_stay h12 k
theorem FIN_ok (ok : M.Ok) (mk : MtOk M mt) : BOk M 12 (FIN M mt) := by
  have h := Bk_ok ok mk M.size
  have s12 := ok.s12
  exact ⟨h.nd, h.st, fun e he => by have := h.run e he; omega, h.rd1, h.rd2, h.ne⟩
theorem Bk_closed (ok : M.Ok) (mk : MtOk M mt) : ∀ t i e, i < t → (Bk M mt t)[i]? = some e → ∀ p ∈ sgn M, goal M e.st p ∈ (Bk M mt t).map Ent.st
  | t + 1, i, e, hi, h, p, hp => by
    unfold Bk at h ⊢
    split at h
    · rename_i hn
      have : i ≠ t := by rintro rfl; rw [hn] at h; cases h
      exact Bk_closed ok mk t i e (by omega) h p hp
    · rename_i x hx
      obtain ⟨C, e2⟩ := fold_pre (M := M) (mt := mt) (e := x) (sgn M) (Bk M mt t)
      have hl : t < (Bk M mt t).length := (List.getElem?_eq_some_iff.mp hx).1
      unfold visit at h ⊢
      by_cases q : i = t
      · subst q
        rw [e2, List.getElem?_append_left hl, hx] at h
        cases h
        exact fold_has _ _ p hp
      · rw [e2, List.getElem?_append_left (by omega)] at h
        have := Bk_closed ok mk t i e (by omega) h p hp
        rw [e2, List.map_append]
        exact List.mem_append_left _ this
theorem FIN_closed (ok : M.Ok) (mk : MtOk M mt) (h : e ∈ FIN M mt) (hp : p ∈ sgn M) : goal M e.st p ∈ (FIN M mt).map Ent.st := by
  obtain ⟨i, hi⟩ := List.getElem?_of_mem h
  have h12 : (FIN M mt).length ≤ M.size := (Bk_ok ok mk _).len
  exact Bk_closed ok mk M.size i e (by have := (List.getElem?_eq_some_iff.mp hi).1; omega) hi p hp
theorem Bk_zero (ok : M.Ok) (mk : MtOk M mt) : ∀ t, ∃ C, Bk M mt t = ⟨0, [], 0⟩ :: C
  | 0 => ⟨[], rfl⟩
  | t + 1 => by
    obtain ⟨C, e⟩ := Bk_zero ok mk t
    unfold Bk
    split
    · exact ⟨C, e⟩
    · rename_i x hx
      obtain ⟨C2, e2⟩ := fold_pre (M := M) (mt := mt) (e := x) (sgn M) (Bk M mt t)
      exact ⟨C ++ C2, by unfold visit; rw [e2, e]; rfl⟩
def rdOf (B : List Ent) (s : Nat) : Int := ((look B s).map Ent.rd).getD 0
def dif (M : Mach) (mt : List (List (List Int))) (B : List Ent) (q : Ent × (Nat × Nat)) : Int := q.1.rd + wt mt q.1.st q.2.1 q.2.2 - rdOf B (goal M q.1.st q.2)
def pairsE (M : Mach) (B : List Ent) : List (Ent × (Nat × Nat)) := B.flatMap fun e => (sgn M).map fun p => (e, p)
def difs (M : Mach) (mt : List (List (List Int))) (B : List Ent) : List Int := (pairsE M B).map (dif M mt B)
theorem pairsE_mem {q : Ent × (Nat × Nat)} : q ∈ pairsE M B ↔ q.1 ∈ B ∧ q.2 ∈ sgn M := by
  obtain ⟨e, p⟩ := q
  simp only [pairsE, List.mem_flatMap, List.mem_map, Prod.mk.injEq]
  constructor
  · rintro ⟨e', h1, p', h2, rfl, rfl⟩; exact ⟨h1, h2⟩
  · rintro ⟨h1, h2⟩; exact ⟨e, h1, p, h2, rfl, rfl⟩
theorem rd_of (nd : (B.map Ent.st).Nodup) (h : e ∈ B) : rdOf B e.st = e.rd := by unfold rdOf; rw [look_mem nd h]; rfl
theorem dif_bd (ok : M.Ok) (mk : MtOk M mt) {q : Ent × (Nat × Nat)} (h : q ∈ pairsE M (FIN M mt)) : -2475 ≤ dif M mt (FIN M mt) q ∧ dif M mt (FIN M mt) q ≤ 2475 := by
  obtain ⟨h1, h2⟩ := pairsE_mem.mp h
  have b := FIN_ok ok mk
  obtain ⟨x, hx, hxm, hxs⟩ := look_key b.nd (FIN_closed ok mk h1 h2)
  obtain ⟨-, -, -, -, -, w1, w2⟩ := mk.at (b.st _ h1) (sgn_mem.mp h2).1 (sgn_mem.mp h2).2
  have r1 := b.run _ h1
  have r2 := b.run _ hxm
  have a1 := b.rd1 _ h1
  have a2 := b.rd2 _ h1
  have a3 := b.rd1 _ hxm
  have a4 := b.rd2 _ hxm
  unfold dif rdOf
  rw [hx]
  show -2475 ≤ q.1.rd + _ - x.rd ∧ q.1.rd + _ - x.rd ≤ 2475
  omega
/-- where a run leads and what it reads -/
def goOn (M : Mach) (mt : List (List (List Int))) (x : Int × Nat) (p : Nat × Nat) : Int × Nat := (x.1 + wt mt x.2 p.1 p.2, goal M x.2 p)
def walkR (M : Mach) (mt : List (List (List Int))) (w : List (Nat × Nat)) : Int × Nat := w.foldl (goOn M mt) (0, 0)
theorem walk_in (ok : M.Ok) (mk : MtOk M mt) {w : List (Nat × Nat)} (hw : ∀ p ∈ w, p ∈ sgn M) : (walkR M mt w).2 ∈ (FIN M mt).map Ent.st := by
  have key : ∀ (w : List (Nat × Nat)) (x : Int × Nat), (∀ p ∈ w, p ∈ sgn M) → x.2 ∈ (FIN M mt).map Ent.st → (w.foldl (goOn M mt) x).2 ∈ (FIN M mt).map Ent.st := by
    intro w
    induction w with
    | nil => intro x _ h; exact h
    | cons p w ih =>
      intro x hp h
      obtain ⟨e, he, h2⟩ := List.mem_map.mp h
      refine ih _ (fun q hq => hp q (List.mem_cons_of_mem _ hq)) ?_
      show goal M x.2 p ∈ _
      rw [← h2]
      exact FIN_closed ok mk he (hp p List.mem_cons_self)
  obtain ⟨C, e⟩ := Bk_zero ok mk M.size
  exact key w (0, 0) hw (by show 0 ∈ (Bk M mt M.size).map Ent.st; rw [e]; exact List.mem_cons_self)
theorem walk_rest (ok : M.Ok) (mk : MtOk M mt) {m : Int} (hd : ∀ d ∈ difs M mt (FIN M mt), d % m = 0) {w : List (Nat × Nat)} (hw : ∀ p ∈ w, p ∈ sgn M) : (walkR M mt w).1 % m = rdOf (FIN M mt) (walkR M mt w).2 % m := by
  have key : ∀ (w : List (Nat × Nat)) (x : Int × Nat), (∀ p ∈ w, p ∈ sgn M) → x.2 ∈ (FIN M mt).map Ent.st → x.1 % m = rdOf (FIN M mt) x.2 % m → (w.foldl (goOn M mt) x).1 % m = rdOf (FIN M mt) (w.foldl (goOn M mt) x).2 % m := by
    intro w
    induction w with
    | nil => intro x _ _ h; exact h
    | cons p w ih =>
      intro x hp h hx
      obtain ⟨e, he, h2⟩ := List.mem_map.mp h
      have hpm := hp p List.mem_cons_self
      refine ih _ (fun q hq => hp q (List.mem_cons_of_mem _ hq)) ?_ ?_
      · show goal M x.2 p ∈ _
        rw [← h2]
        exact FIN_closed ok mk he hpm
      · show (x.1 + wt mt x.2 p.1 p.2) % m = rdOf (FIN M mt) (goal M x.2 p) % m
        rw [← h2] at hx ⊢
        rw [rd_of (FIN_ok ok mk).nd he] at hx
        have hz := hd (dif M mt (FIN M mt) (e, p)) (List.mem_map.mpr ⟨(e, p), pairsE_mem.mpr ⟨he, hpm⟩, rfl⟩)
        unfold dif at hz
        dsimp only at hz
        have h3 := Int.emod_emod_of_dvd
        have hd1 : m ∣ x.1 - e.rd := Int.dvd_of_emod_eq_zero (Int.emod_eq_emod_iff_emod_sub_eq_zero.mp hx)
        have hd2 := Int.dvd_of_emod_eq_zero hz
        refine Int.emod_eq_emod_iff_emod_sub_eq_zero.mpr (Int.emod_eq_zero_of_dvd ?_)
        have := Int.dvd_add hd1 hd2
        rw [show x.1 - e.rd + (e.rd + wt mt e.st p.1 p.2 - rdOf (FIN M mt) (goal M e.st p)) = x.1 + wt mt e.st p.1 p.2 - rdOf (FIN M mt) (goal M e.st p) by omega] at this
        exact this
  obtain ⟨C, e⟩ := Bk_zero ok mk M.size
  have h0 : (⟨0, [], 0⟩ : Ent) ∈ FIN M mt := by show _ ∈ Bk M mt M.size; rw [e]; exact List.mem_cons_self
  exact key w (0, 0) hw (List.mem_map.mpr ⟨_, h0, rfl⟩) (by rw [show ((0 : Int), (0 : Nat)).2 = (⟨0, [], 0⟩ : Ent).st from rfl, rd_of (FIN_ok ok mk).nd h0])
/-- the greatest divisor of all differences -/
def due (M : Mach) (mt : List (List (List Int))) : Int := (difs M mt (FIN M mt)).foldl (fun g x => (Int.gcd x g : Nat)) 0
theorem gcd_dvd {m : Int} : ∀ (l : List Int) (g : Int), (l.foldl (fun g x => ((Int.gcd x g : Nat) : Int)) g) % m = 0 ↔ g % m = 0 ∧ ∀ d ∈ l, d % m = 0
  | [], g => ⟨fun h => ⟨h, fun _ h => nomatch h⟩, fun h => h.1⟩
  | x :: l, g => by
    show (l.foldl (fun g x => ((Int.gcd x g : Nat) : Int)) (Int.gcd x g : Nat)) % m = 0 ↔ _
    rw [gcd_dvd l]
    have : ((Int.gcd x g : Nat) : Int) % m = 0 ↔ x % m = 0 ∧ g % m = 0 := by
      constructor
      · intro h
        have h := Int.dvd_of_emod_eq_zero h
        exact ⟨Int.emod_eq_zero_of_dvd (Int.dvd_trans h (Int.gcd_dvd_left ..)), Int.emod_eq_zero_of_dvd (Int.dvd_trans h (Int.gcd_dvd_right ..))⟩
      · rintro ⟨h1, h2⟩
        exact Int.emod_eq_zero_of_dvd (Int.dvd_coe_gcd (Int.dvd_of_emod_eq_zero h1) (Int.dvd_of_emod_eq_zero h2))
    rw [this]
    constructor
    · rintro ⟨⟨h1, h2⟩, h3⟩
      exact ⟨h2, fun d hd => by
        rcases List.mem_cons.mp hd with rfl | hd
        · exact h1
        · exact h3 d hd⟩
    · rintro ⟨h1, h2⟩
      exact ⟨⟨h2 x List.mem_cons_self, h1⟩, fun d hd => h2 d (List.mem_cons_of_mem _ hd)⟩
theorem due_dvd {m : Int} : due M mt % m = 0 ↔ ∀ d ∈ difs M mt (FIN M mt), d % m = 0 := by
  unfold due
  rw [gcd_dvd]
  exact ⟨fun h => h.2, fun h => ⟨Int.zero_emod m, h⟩⟩
/-- gcds stay small -/
theorem gcd_small {x g : Int} {n : Nat} (h1 : 0 ≤ g) (h2 : g ≤ n) (h3 : -n ≤ x) (h4 : x ≤ n) : (0 : Int) ≤ (Int.gcd x g : Nat) ∧ ((Int.gcd x g : Nat) : Int) ≤ n := by
  refine ⟨Int.natCast_nonneg _, ?_⟩
  by_cases z : x = 0
  · subst z
    rw [Int.gcd_zero_left]
    omega
  · have := Int.gcd_le_natAbs_left g z
    omega
end

-- use law_draw
-- use metr
theorem p_law_line {s : SV} {na n : Nat} {top : Int} (hs : Hand s) (a3 : na ≤ 3) (n1 : 1 ≤ n) (n12 : n ≤ 12) (t1 : 1 ≤ top) (t99 : top ≤ 99) : RunF f_law_line [s, .fz (.int (na : Nat)), .fz (.int (n : Nat)), .fz (.int top)] fun r os => ∃ x s', r = .ok (.fz (lineD x)) ∧ os = [s', .fz (.int (na : Nat)), .fz (.int (n : Nat)), .fz (.int top)] ∧ Hand s' ∧ x.length = na ∧ ∀ p ∈ x, 1 ≤ p.1 ∧ p.1 ≤ 99 ∧ p.2 < n := by
  unfold f_law_line m_law_line
  have hz : (sizeLine : Nat) = 16777216 := sizeLine_eq
  have hm := hs.mu
  refine w_fn rfl rfl ?_
  walk_at "v"
  refine w_lcV (fun j acc τ => ∃ s2 x, τ = [some s2, some (.fz (.int (na : Nat))), some (.fz (.int (n : Nat))), some (.fz (.int top)), none] ∧ Hand s2 ∧ acc = (x : List (Int × Nat)).map moveD ∧ x.length = j ∧ ∀ p ∈ x, 1 ≤ p.1 ∧ p.1 ≤ 99 ∧ p.2 < n) (by show 0 + (rangeL 0 _).length ≤ _; unfold rangeL; rw [List.length_map, List.length_range]; omega) ⟨s, [], rfl, hs, rfl, rfl, fun _ h => nomatch h⟩ ?_ ?_
  · rintro j d acc τ hd ⟨s2, x, rfl, hs2, rfl, hl, hb⟩
    have hm2 := hs2.mu
    refine ⟨_, rfl, ?_⟩
    walk_at "v"
    refine w_run rfl rfl (p_law_draw hs2 (by omega) (by omega)) ?_
    rintro _ _ ⟨y, s3, rfl, rfl, hs3, y0, y1⟩
    refine ⟨rfl, ?_⟩
    have hm3 := hs3.mu
    walk_at "v"
    refine w_run rfl rfl (p_law_draw hs3 (by omega) (by omega)) ?_
    rintro _ _ ⟨g, s4, rfl, rfl, hs4, g0, g1⟩
    refine ⟨rfl, ?_⟩
    obtain ⟨k, rfl⟩ : ∃ k : Nat, g = (k : Int) := ⟨g.toNat, by omega⟩
    walk_at "v"
    exact ⟨s4, x ++ [(1 + y, k)], rfl, hs4, by rw [List.map_append]; rfl, by simp [hl], all_snoc hb ⟨by show 1 ≤ 1 + y; omega, by show 1 + y ≤ 99; omega, by show k < n; omega⟩⟩
  · rintro out τ2 ⟨s2, x, rfl, hs2, rfl, hl, hb⟩
    have hl : x.length = na := by rw [hl]; unfold rangeL; rw [List.length_map, List.length_range]; omega
    have hm2 := hs2.mu
    walk_at "v"
    refine v_lf1 (s := .fz (lineD x)) rfl ?_
    walk_at "v"
    exact ⟨x, s2, rfl, rfl, hs2, hl, hb⟩

-- use law_draw
-- use law_rowsgood
theorem p_law_rows {s : SV} {m : Int} (hs : Hand s) (m1 : 1 ≤ m) (m2 : m ≤ 4) : RunF f_law_rows [s, .fz (.int m)] fun r os => ∃ z s', r = .ok (.fz (.str z)) ∧ os = [s', .fz (.int m)] ∧ Hand s' ∧ isRows (.str z) = true ∧ (z.length : Int) ≤ m := by
  unfold f_law_rows m_law_rows
  have hz : (sizeLine : Nat) = 16777216 := sizeLine_eq
  have hm := hs.mu
  refine w_fn rfl rfl ?_
  walk_at "v"
  refine w_run rfl rfl (p_law_draw hs (by omega) (by omega)) ?_
  rintro _ _ ⟨d, s1, rfl, rfl, hs1, d0, d1⟩
  refine ⟨rfl, ?_⟩
  walk_at "v"
  refine w_loopR (fun i τ => ∃ l r o o2 s1, τ = [some s1, some (.fz (.int m)), some (.fz (.int (1 + d))), some (.fz (.str (ofL l))), some (.fz (.str (ofL (abcL.drop r)))), o, o2] ∧ RowsSo l r ∧ l.length = i ∧ (r : Int) + (1 + d - i) ≤ 26 ∧ Hand s1) ⟨[], 0, _, _, _, by rw [show (ofL (abcL.drop 0)) = SMALL from SMALL_is.symm]; rfl, ⟨rfl, fun _ h => nomatch h⟩, rfl, by omega, hs1⟩ ?_ ?_
  · rintro i τ hi ⟨l, r, o, o2, s1, rfl, rs, hl, hr, hs1⟩
    have hlen : (ofL (abcL.drop r)).length = 26 - r := by rw [ofL_len, List.length_drop]; rfl
    have hm1 := hs1.mu
    walk_at "v"
    refine w_run rfl rfl (p_law_draw hs1 (by omega) (by omega)) ?_
    rintro _ _ ⟨at_, s2, rfl, rfl, hs2, t0, t1⟩
    refine ⟨rfl, ?_⟩
    obtain ⟨j, rfl⟩ : ∃ j : Nat, at_ = (j : Int) := ⟨at_.toNat, by omega⟩
    walk_at "v"
    refine w_B (d := .str ⟨#[97 + (r + j)]⟩) (bIx_S (z := ofL (abcL.drop r)) (i := (j : Int)) rfl rfl (by omega) (atI_pos (show (ofL (abcL.drop r)).cps.toList[j]? = some (97 + (r + j)) by
      have e2 : (ofL (abcL.drop r)).cps.toList = abcL.drop r := by simp [ofL]
      rw [e2]; exact abcL_drop r j (by omega)))) ?_
    walk_at "v"
    refine v_addS (by rw [ofL_len]; show l.length + 1 ≤ _; omega) ?_
    walk_at "v"
    refine ⟨l ++ [97 + (r + j)], r + j + 1, some (.fz (.int (0 + (i : Int)))), some (.fz (.int j)), s2, ?_, rs.snoc, by simp [hl], by omega, hs2⟩
    rw [cut_from _ _ (by omega)]
    have e3 : (ofL (abcL.drop r)).cps.toList = abcL.drop r := by simp [ofL]
    rw [e3, List.drop_drop, show r + ((j : Int) + 1).toNat = r + j + 1 by omega]
    rw [show (⟨#[97 + (r + j)]⟩ : Str) = ofL [97 + (r + j)] from rfl, ofL_app]
  · rintro τ ⟨l, r, o, o2, s1, rfl, rs, hl, hr, hs1⟩
    walk_at "v"
    exact ⟨_, _, rfl, rfl, hs1, rs.ok (by omega) (by omega) (by omega), by rw [ofL_len]; omega⟩

-- use law_line
-- use law_rows
theorem p_law_world {s : SV} {m n : Int} (hs : Hand s) (m1 : 1 ≤ m) (m4 : m ≤ 4) (n1 : 1 ≤ n) (n12 : n ≤ 12) : RunF f_law_world [s, .fz (.int m), .fz (.int n)] fun r os => ∃ M s', r = .ok (.fz (partsD M)) ∧ os = [s', .fz (.int m), .fz (.int n)] ∧ Hand s' ∧ M.Ok ∧ (M.size : Int) ≤ n ∧ (M.nr : Int) ≤ m := by
  unfold f_law_world m_law_world
  have hz : (sizeLine : Nat) = 16777216 := sizeLine_eq
  have hm := hs.mu
  refine w_fn rfl rfl ?_
  walk_at "v"
  refine w_run rfl rfl (p_law_rows hs m1 m4) ?_
  rintro _ _ ⟨z, s1, rfl, rfl, hs1, hr, hzm⟩
  refine ⟨rfl, ?_⟩
  have hm1 := hs1.mu
  obtain ⟨-, zp, z4, -⟩ := rows_parts hr
  walk_at "v"
  refine w_run rfl rfl (p_law_draw hs1 (by decide) (by decide)) ?_
  rintro _ _ ⟨y, s2, rfl, rfl, hs2, y0, y1⟩
  refine ⟨rfl, ?_⟩
  have hm2 := hs2.mu
  obtain ⟨k, rfl⟩ : ∃ k : Nat, y = (k : Int) := ⟨y.toNat, by omega⟩
  obtain ⟨na, ea, a1, a3⟩ : ∃ na : Nat, ixF (.ob .lst [.int 1, .int 1, .int 2, .int 2, .int 3]) (.int (k : Nat)) = some (.fz (.int (na : Nat))) ∧ 1 ≤ na ∧ na ≤ 3 := by
    have hk : k < 5 := by omega
    match k, hk with
    | 0, _ => exact ⟨1, rfl, by decide, by decide⟩
    | 1, _ => exact ⟨1, rfl, by decide, by decide⟩
    | 2, _ => exact ⟨2, rfl, by decide, by decide⟩
    | 3, _ => exact ⟨2, rfl, by decide, by decide⟩
    | 4, _ => exact ⟨3, rfl, by decide, by decide⟩
  walk_at "v"
  refine v_lf2 ea ?_
  walk_at "v"
  refine w_run rfl rfl (p_law_draw hs2 (by omega) (by omega)) ?_
  rintro _ _ ⟨q, s3, rfl, rfl, hs3, q0, q1⟩
  refine ⟨rfl, ?_⟩
  have hm3 := hs3.mu
  obtain ⟨sz, esz⟩ : ∃ sz : Nat, 1 + q = (sz : Int) := ⟨(1 + q).toNat, by omega⟩
  walk_at "v"
  rw [esz]
  refine w_run rfl rfl (p_law_draw hs3 (by decide) (by decide)) ?_
  rintro _ _ ⟨y, s4, rfl, rfl, hs4, y0, y1⟩
  refine ⟨rfl, ?_⟩
  have hm4 := hs4.mu
  obtain ⟨k, rfl⟩ : ∃ k : Nat, y = (k : Int) := ⟨y.toNat, by omega⟩
  obtain ⟨top, et, t1, t99⟩ : ∃ top : Int, ixF (.ob .lst [.int 1, .int 2, .int 3, .int 9, .int 99]) (.int (k : Nat)) = some (.fz (.int top)) ∧ 1 ≤ top ∧ top ≤ 99 := by
    have hk : k < 5 := by omega
    match k, hk with
    | 0, _ => exact ⟨1, rfl, by decide, by decide⟩
    | 1, _ => exact ⟨2, rfl, by decide, by decide⟩
    | 2, _ => exact ⟨3, rfl, by decide, by decide⟩
    | 3, _ => exact ⟨9, rfl, by decide, by decide⟩
    | 4, _ => exact ⟨99, rfl, by decide, by decide⟩
  walk_at "v"
  refine v_lf2 et ?_
  walk_at "v"
  have zl : z.cps.toList.length = z.length := by simp [Str.length]
  refine w_loopR (fun i τ => ∃ (s5 : SV) (mv : List (List (List (Int × Nat)))) (o8 : Option SV), τ = [some s5, some (.fz (.int m)), some (.fz (.int n)), some (.fz (.str z)), some (.fz (.int (na : Nat))), some (.fz (.int (sz : Nat))), some (.fz (.int top)), some (.mu .lst ((mv.map linesD).map .fz)), o8, none] ∧ Hand s5 ∧ mv.length = i ∧ ∀ l ∈ mv, l.length = z.cps.toList.length ∧ ∀ x ∈ l, x.length = na ∧ ∀ p ∈ x, 1 ≤ p.1 ∧ p.1 ≤ 99 ∧ p.2 < sz) ⟨s4, [], _, rfl, hs4, rfl, fun _ h => (nomatch h)⟩ ?_ ?_
  · rintro i τ hi ⟨s5, mv, o8, rfl, hs5, hl, hmv⟩
    have hm5 := hs5.mu
    walk_at "v"
    refine w_lcV (fun j acc τ => ∃ s6 l, τ = [some s6, some (.fz (.int m)), some (.fz (.int n)), some (.fz (.str z)), some (.fz (.int (na : Nat))), some (.fz (.int (sz : Nat))), some (.fz (.int top)), some (.mu .lst ((mv.map linesD).map .fz)), some (.fz (.int (0 + (i : Int)))), none] ∧ Hand s6 ∧ acc = (l : List (List (Int × Nat))).map lineD ∧ l.length = j ∧ ∀ x ∈ l, x.length = na ∧ ∀ p ∈ x, 1 ≤ p.1 ∧ p.1 ≤ 99 ∧ p.2 < sz) (by show 0 + _ ≤ _; rw [List.length_map]; omega) ⟨s5, [], rfl, hs5, rfl, rfl, fun _ h => nomatch h⟩ ?_ ?_
    · rintro j d acc τ hd ⟨s6, l, rfl, hs6, rfl, hll, hlx⟩
      have hm6 := hs6.mu
      refine ⟨_, rfl, ?_⟩
      walk_at "v"
      refine w_run rfl rfl (p_law_line hs6 a3 (by omega) (by omega) t1 t99) ?_
      rintro _ _ ⟨x, s7, rfl, rfl, hs7, x1, x2⟩
      refine ⟨rfl, ?_⟩
      walk_at "v"
      exact ⟨s7, l ++ [x], rfl, hs7, by rw [List.map_append]; rfl, by simp [hll], all_snoc hlx ⟨x1, x2⟩⟩
    · rintro out τ2 ⟨s6, l, rfl, hs6, rfl, hll, hlx⟩
      rw [List.length_map] at hll
      have hm6 := hs6.mu
      walk_at "v"
      refine v_lf1 (s := .fz (linesD l)) rfl ?_
      walk_at "v"
      refine v_app (by rw [List.length_map]; omega) rfl ?_
      walk_at "v"
      rw [show mv.map linesD ++ [linesD l] = (mv ++ [l]).map linesD by rw [List.map_append]; rfl]
      exact ⟨s6, mv ++ [l], _, rfl, hs6, by simp [hl], all_snoc hmv ⟨hll, hlx⟩⟩
  · rintro τ ⟨s5, mv, o8, rfl, hs5, hl, hmv⟩
    rw [Int.toNat_natCast] at hl
    have hm5 := hs5.mu
    walk_at "v"
    refine v_lf1 (s := .fz (movesD mv)) rfl ?_
    walk_at "v"
    refine ⟨⟨z.cps.toList, na, mv⟩, s5, ?_, rfl, hs5, ⟨by rw [ofL_cps]; exact hr, a1, a3, by show 1 ≤ mv.length; omega, by show mv.length ≤ 12; omega, fun l h => ?_⟩, by show (mv.length : Int) ≤ n; omega, by show (z.cps.toList.length : Int) ≤ m; omega⟩
    · show _ = Res.ok (SV.fz (.tup [.str (ofL z.cps.toList), .int (na : Nat), movesD mv]))
      rw [ofL_cps]
      rfl
    · have := hmv l h
      rw [← hl] at this
      exact this

-- use law_draw
-- use law_rows
-- use is_string_of
/-- no code over rows, whatever they are -/
def Odd (d : D) : Prop := Pln d ∧ ∀ z : Str, isRows (.str z) = true → isStrOf d z = false
theorem odd_str {s : Str} (c : Nat) (h : c ∈ s.cps.toList) (hc : c < 97 ∨ 123 ≤ c) : Odd (.str s) := ⟨(fun e => nomatch e), fun z hz => by
  refine Bool.eq_false_iff.mpr fun t => ?_
  have t : s.cps.toList.all (fun c => decide (c ∈ z.cps.toList)) = true := t
  have hm := of_decide_eq_true (List.all_eq_true.mp t c h)
  obtain ⟨h1, _⟩ := rows_parts hz
  rw [← ofL_cps z] at h1
  have := abcL_mem.mp ((isStrOf_L _).mp h1 c hm)
  omega⟩
theorem odd_of {d : D} (h : Pln d) (h2 : ∀ s, d ≠ .str s) : Odd d := ⟨h, fun z _ => by
  cases d with
  | str s => exact absurd rfl (h2 s)
  | _ => rfl⟩
def oddL (x : D) : List D := [.non, .bl true, .bl false, .str "A", .str "a b", .str "a1", .ob .lst [.str "a"], .ob (.dct false [.k (.inr "a")]) [.str "b"], .ob .lst [], .ob (.dct false []) [], .tup [.tup []], .tup [.int 1], .tup [.str "a"], .ob .lst [x], .tup [.str "a", .str "b", .str "c"], .str "^"]
theorem p_law_odd {s : SV} (hs : Hand s) : RunF f_law_odd [s] fun r os => ∃ d s', r = .ok (.fz d) ∧ os = [s'] ∧ Hand s' ∧ Odd d := by
  unfold f_law_odd m_law_odd
  have hm := hs.mu
  refine w_fn rfl rfl ?_
  walk_at "v"
  refine w_loopR (fun i τ => ∃ x o, τ = [some s, some (.mu .lst [.fz x]), o, none]) ⟨_, _, rfl⟩ ?_ ?_
  · rintro i τ hi ⟨x, o, rfl⟩
    walk_at "v"
    exact ⟨_, _, rfl⟩
  · rintro τ ⟨x, o, rfl⟩
    walk_at "v"
    refine w_run rfl rfl (p_law_draw hs (by decide) (by decide)) ?_
    rintro _ _ ⟨d, s1, rfl, rfl, hs1, d0, d1⟩
    refine ⟨rfl, ?_⟩
    obtain ⟨k, rfl⟩ : ∃ k : Nat, d = (k : Int) := ⟨d.toNat, by omega⟩
    walk_at "v"
    have hall : ∀ d ∈ oddL x, Odd d := fun d hd => by
      simp only [oddL, List.mem_cons, List.not_mem_nil, or_false] at hd
      rcases hd with rfl | rfl | rfl | rfl | rfl | rfl | rfl | rfl | rfl | rfl | rfl | rfl | rfl | rfl | rfl | rfl
      all_goals first
        | exact odd_str 65 (by decide +kernel) (by decide)
        | exact odd_str 32 (by decide +kernel) (by decide)
        | exact odd_str 49 (by decide +kernel) (by decide)
        | exact odd_str 94 (by decide +kernel) (by decide)
        | exact odd_of (by intro e; cases e) (by intro s e; cases e)
    have hk : k < (oddL x).length := by show k < 16; omega
    refine v_lf2 (s := .fz (oddL x)[k]) (ixF_L (atI_pos (List.getElem?_eq_getElem hk))) ?_
    walk_at "v"
    exact ⟨_, _, rfl, rfl, hs1, hall _ (List.getElem_mem hk)⟩

-- use judge
-- use jmach
-- use law_odd
mutual
def smB : D → Bool
  | .tup l => decide (l.length ≤ 1000) && smBs l
  | .ob .lst l => smBs l
  | _ => true
def smBs : List D → Bool
  | [] => true
  | d :: r => smB d && smBs r
end
/-- data without objects of classes, its tuples short -/
def Gd (d : D) : Prop := plB d = true ∧ smB d = true
theorem smBs_mem : ∀ {l : List D}, smBs l = true → ∀ d ∈ l, smB d = true
  | d :: r, h, x, hx => by
    obtain ⟨h1, h2⟩ := Bool.and_eq_true_iff.mp h
    rcases List.mem_cons.mp hx with rfl | hx
    · exact h1
    · exact smBs_mem h2 x hx
theorem smBs_of : ∀ {l : List D}, (∀ d ∈ l, smB d = true) → smBs l = true
  | [], _ => rfl
  | d :: r, h => by
    show (smB d && smBs r) = true
    rw [h d List.mem_cons_self, smBs_of fun x hx => h x (List.mem_cons_of_mem _ hx)]
    rfl
theorem gd_tup {l : List D} (n : l.length ≤ 1000) (h : ∀ d ∈ l, Gd d) : Gd (.tup l) := ⟨plBs_of fun d hd => (h d hd).1, by
  show (decide (l.length ≤ 1000) && smBs l) = true
  rw [decide_eq_true n, smBs_of fun d hd => (h d hd).2]; rfl⟩
theorem gd_lst {l : List D} (h : ∀ d ∈ l, Gd d) : Gd (.ob .lst l) := ⟨plBs_of fun d hd => (h d hd).1, smBs_of fun d hd => (h d hd).2⟩
theorem Gd.mem {l : List D} (h : Gd (.tup l)) : ∀ d ∈ l, Gd d := fun d hd => ⟨plBs_mem h.1 d hd, smBs_mem (Bool.and_eq_true_iff.mp h.2).2 d hd⟩
theorem Gd.len {l : List D} (h : Gd (.tup l)) : l.length ≤ 1000 := of_decide_eq_true (Bool.and_eq_true_iff.mp h.2).1
theorem Gd.short {d : D} (h : Gd d) : Short d := fun l m y e hm hy => by
  subst e
  have := ((h.mem _ hm).mem _ hy).len
  have hs : (sizeLine : Nat) = 16777216 := sizeLine_eq
  omega
theorem gd_non : Gd .non := ⟨rfl, rfl⟩
theorem gd_int (i : Int) : Gd (.int i) := ⟨rfl, rfl⟩
theorem gd_bl (i : Bool) : Gd (.bl i) := ⟨rfl, rfl⟩
theorem gd_str {s : Str} (h : s.length ≤ sizeLine) : Gd (.str s) := ⟨decide_eq_true h, rfl⟩
theorem gd_dct {t : Bool} {ks : List DK} {l : List D} : Gd (.ob (.dct t ks) l) := ⟨rfl, rfl⟩
theorem gd_cons {d : D} {l : List D} (h : Gd d) (hl : ∀ x ∈ l, Gd x) : ∀ x ∈ d :: l, Gd x := fun x hx => by
  rcases List.mem_cons.mp hx with rfl | hx
  · exact h
  · exact hl x hx
theorem gd_nil : ∀ x ∈ ([] : List D), Gd x := fun _ h => nomatch h
theorem gd_app {l m : List D} (h : ∀ x ∈ l, Gd x) (hm : ∀ x ∈ m, Gd x) : ∀ x ∈ l ++ m, Gd x := fun x hx => by
  rcases List.mem_append.mp hx with q | q
  · exact h x q
  · exact hm x q
theorem gd_pair {x y : D} (hx : Gd x) (hy : Gd y) : Gd (.tup [x, y]) := gd_tup (show 2 ≤ 1000 by decide) (gd_cons hx (gd_cons hy gd_nil))
theorem gd_one {x : D} (hx : Gd x) : Gd (.tup [x]) := gd_tup (show 1 ≤ 1000 by decide) (gd_cons hx gd_nil)
theorem gd_move (p : Int × Nat) : Gd (moveD p) := gd_pair (gd_int _) (gd_int _)
theorem gd_empty : Gd (.tup []) := gd_tup (Nat.zero_le _) gd_nil
theorem gd_map {α : Type} {f : α → D} {xs : List α} (h : ∀ x ∈ xs, Gd (f x)) : ∀ d ∈ xs.map f, Gd d := fun d hd => by
  obtain ⟨x, hx, rfl⟩ := List.mem_map.mp hd
  exact h x hx
theorem gd_lineX {x : List (Int × Nat)} (n : x.length ≤ 1000) : Gd (lineD x) := gd_tup (by rw [List.length_map]; exact n) (gd_map fun p _ => gd_move p)
theorem gd_moves {M : Mach} (ok : M.Ok) : Gd (movesD M.mv) := by
  have s12 := ok.s12
  have a3 := ok.a3
  obtain ⟨-, -, n4, -⟩ := ok.letters
  refine gd_tup (by rw [List.length_map]; unfold Mach.size at s12; omega) (gd_map fun l hl => ?_)
  obtain ⟨g1, g2⟩ := ok.shp l hl
  refine gd_tup (by rw [List.length_map]; omega) (gd_map fun x hx => gd_lineX ?_)
  have := (g2 x hx).1
  omega
/-- what is drawn from a list of good things -/
theorem gd_ix {l : List D} {k : Nat} (h : ∀ d ∈ l, Gd d) (hk : k < l.length) : ∃ d, ixF (.ob .lst l) (.int (k : Nat)) = some (.fz d) ∧ Gd d := ⟨l[k], ixF_L (atI_pos (List.getElem?_eq_getElem hk)), h _ (List.getElem_mem hk)⟩
theorem pj_law_odd {s : SV} (hs : Hand s) : RunF f_law_odd [s] fun r os => ∃ d s', r = .ok (.fz d) ∧ os = [s'] ∧ Hand s' ∧ Gd d := by
  unfold f_law_odd m_law_odd
  have hm := hs.mu
  have st : ∀ z : Str, z.length ≤ 3 → Gd (.str z) := fun z h => gd_str (Nat.le_trans h (by rw [sizeLine_eq]; decide))
  refine w_fn rfl rfl ?_
  walk_at "v"
  refine w_loopR (fun i τ => ∃ x o, τ = [some s, some (.mu .lst [.fz x]), o, none] ∧ Gd x) ⟨_, _, rfl, gd_non⟩ ?_ ?_
  · rintro i τ hi ⟨x, o, rfl, hx⟩
    walk_at "v"
    exact ⟨_, _, rfl, gd_lst (gd_cons hx gd_nil)⟩
  · rintro τ ⟨x, o, rfl, hx⟩
    walk_at "v"
    refine w_run rfl rfl (p_law_draw hs (by decide) (by decide)) ?_
    rintro _ _ ⟨d, s1, rfl, rfl, hs1, d0, d1⟩
    refine ⟨rfl, ?_⟩
    obtain ⟨k, rfl⟩ : ∃ k : Nat, d = (k : Int) := ⟨d.toNat, by omega⟩
    walk_at "v"
    have hall : ∀ d ∈ oddL x, Gd d := gd_cons gd_non (gd_cons (gd_bl _) (gd_cons (gd_bl _) (gd_cons (st _ (by decide)) (gd_cons (st _ (by decide)) (gd_cons (st _ (by decide)) (gd_cons (gd_lst (gd_cons (st _ (by decide)) gd_nil)) (gd_cons gd_dct (gd_cons (gd_lst gd_nil) (gd_cons gd_dct (gd_cons (gd_one gd_empty) (gd_cons (gd_one (gd_int _)) (gd_cons (gd_one (st _ (by decide))) (gd_cons (gd_lst (gd_cons hx gd_nil)) (gd_cons (gd_tup (by decide) (gd_cons (st _ (by decide)) (gd_cons (st _ (by decide)) (gd_cons (st _ (by decide)) gd_nil)))) (gd_cons (st _ (by decide)) gd_nil)))))))))))))))
    have hk : k < (oddL x).length := by show k < 16; omega
    obtain ⟨d, e, hd⟩ := gd_ix hall hk
    refine v_lf2 e ?_
    walk_at "v"
    exact ⟨_, _, rfl, rfl, hs1, hd⟩

-- use gd
theorem six {l : List D} {k : Int} (h : ∀ d ∈ l, Gd d) (h0 : 0 ≤ k) (h1 : k < l.length) : ∃ d, ixF (.ob .lst l) (.int k) = some (.fz d) ∧ Gd d := by
  obtain ⟨n, rfl⟩ : ∃ n : Nat, k = (n : Int) := ⟨k.toNat, by omega⟩
  exact gd_ix h (by omega)
theorem p_law_spoiled_move {s : SV} {p : Int × Nat} {n : Int} (hs : Hand s) : RunF f_law_spoiled_move [s, .fz (moveD p), .fz (.int n)] fun r os => ∃ d s', r = .ok (.fz d) ∧ os = [s', .fz (moveD p), .fz (.int n)] ∧ Hand s' ∧ Gd d := by
  unfold f_law_spoiled_move m_law_spoiled_move
  have hz : (sizeLine : Nat) = 16777216 := sizeLine_eq
  have hm := hs.mu
  have st : ∀ z : Str, z.length ≤ 3 → Gd (.str z) := fun z h => gd_str (Nat.le_trans h (by rw [sizeLine_eq]; decide))
  refine w_fn rfl rfl ?_
  walk_at "v"
  refine v_lf1 (s := .mu .lst ([D.int p.1, .int (p.2 : Nat)].map .fz)) rfl ?_
  walk_at "v"
  refine v_addT (l := [D.int p.1, .int (p.2 : Nat)]) (by show 2 + 1 ≤ _; omega) ?_
  walk_at "v"
  refine w_run rfl rfl (pj_law_odd hs) ?_
  rintro _ _ ⟨od, s5, rfl, rfl, hs5, hod⟩
  refine ⟨rfl, ?_⟩
  have hm5 := hs5.mu
  walk_at "v"
  refine v_addL (by show 10 + 8 ≤ _; omega) ?_
  walk_at "v"
  refine w_run rfl rfl (p_law_draw hs5 (by decide) (by decide)) ?_
  rintro _ _ ⟨y, s6, rfl, rfl, hs6, y0, y1⟩
  refine ⟨rfl, ?_⟩
  have hm6 := hs6.mu
  walk_at "v"
  have i2 : ∀ a b : Int, Gd (.tup [.int a, .int b]) := fun a b => gd_pair (gd_int _) (gd_int _)
  have hmv : Gd (moveD p) := gd_move p
  refine Exists.elim (six (gd_cons (gd_lst hmv.mem) (gd_cons (gd_tup (l := [D.int p.1, .int (p.2 : Nat), .int 0]) (show 3 ≤ 1000 by decide) (gd_cons (gd_int _) (gd_cons (gd_int _) (gd_cons (gd_int _) gd_nil)))) (gd_cons (gd_tup (Nat.le_trans (cutD_len _ _ _) hmv.len) fun d hd => hmv.mem d (cutD_mem hd)) (gd_cons (i2 _ _) (gd_cons (i2 _ _) (gd_cons (i2 _ _) (gd_cons (i2 _ _) (gd_cons (i2 _ _) (gd_cons (i2 _ _) (gd_cons (i2 _ _) (gd_cons (gd_pair (gd_bl _) (gd_int _)) (gd_cons (gd_pair (gd_int _) (gd_bl _)) (gd_cons (gd_pair (gd_int _) gd_non) (gd_cons (gd_pair (st _ (by decide)) (gd_int _)) (gd_cons (gd_int _) (gd_cons (gd_pair (gd_int _) (gd_lst (gd_cons (gd_int _) gd_nil))) (gd_cons (i2 _ _) (gd_cons hod gd_nil)))))))))))))))))) y0 y1) fun d hd => ⟨_, hd.1, ?_⟩
  walk_at "v"
  exact ⟨d, s6, rfl, rfl, hs6, hd.2⟩

-- use gd
theorem p_law_put {l : List D} {i : Nat} {d : D} (hl : l.length ≤ 1000) : Ret f_law_put [.fz (.tup l), .fz (.int (i : Nat)), .fz d] (.fz (.tup (l.take i ++ [d] ++ l.drop (i + 1)))) := by
  unfold f_law_put m_law_put
  have hs : (sizeLine : Nat) = 16777216 := sizeLine_eq
  refine w_fn rfl rfl ?_
  walk_at "v"
  rw [cutD_take]
  refine v_addT (by rw [List.length_take]; show _ + 1 ≤ _; omega) ?_
  walk_at "v"
  rw [show ((i : Int) + 1) = ((i + 1 : Nat) : Int) by omega, cutD_drop]
  refine v_addT (by rw [List.length_append, List.length_take, List.length_drop]; show _ + 1 + _ ≤ _; omega) ?_
  walk_at "v"
  exact ⟨rfl, rfl⟩
theorem gd_put {l : List D} {i : Nat} {d : D} (hl : l.length ≤ 200) (h : ∀ x ∈ l, Gd x) (hd : Gd d) : Gd (.tup (l.take i ++ [d] ++ l.drop (i + 1))) := gd_tup (by rw [List.length_append, List.length_append, List.length_take, List.length_drop]; show _ + 1 + _ ≤ _; omega) (gd_app (gd_app (fun x hx => h x (List.mem_of_mem_take hx)) (gd_cons hd gd_nil)) fun x hx => h x (List.mem_of_mem_drop hx))

-- use law_spoiled_move
-- use law_put
-- use metr
theorem p_law_spoiled_moves {M : Mach} {s : SV} (hs : Hand s) (ok : M.Ok) : RunF f_law_spoiled_moves [s, .fz (movesD M.mv)] fun r os => ∃ d s', r = .ok (.fz d) ∧ os = [s', .fz (movesD M.mv)] ∧ Hand s' ∧ Gd d := by
  unfold f_law_spoiled_moves m_law_spoiled_moves
  have hz : (sizeLine : Nat) = 16777216 := sizeLine_eq
  have hm := hs.mu
  have s1 := ok.s1
  have s12 := ok.s12
  have a1 := ok.a1
  have a3 := ok.a3
  have hg := gd_moves ok
  unfold Mach.size at s1 s12
  obtain ⟨-, z1, z4, -⟩ := ok.letters
  refine w_fn rfl rfl ?_
  walk_at "v"
  refine w_run rfl rfl (p_law_draw hs (by decide) (by decide)) ?_
  rintro _ _ ⟨kd, s2, rfl, rfl, hs2, k0, k1⟩
  refine ⟨rfl, ?_⟩
  have hm2 := hs2.mu
  walk_at "v"
  refine w_run rfl rfl (p_law_draw hs2 (by omega) (by omega)) ?_
  rintro _ _ ⟨y, s3, rfl, rfl, hs3, y0, y1⟩
  refine ⟨rfl, ?_⟩
  have hm3 := hs3.mu
  obtain ⟨i, rfl⟩ : ∃ i : Nat, y = (i : Int) := ⟨y.toNat, by omega⟩
  obtain ⟨ln, g1, g2, g3, g4⟩ := ok.lines (s := i) (by unfold Mach.size; omega)
  have hsh := ok.shp ln g4
  walk_at "v"
  refine w_B (d := linesD ln) (bIx_F (x := movesD M.mv) (k := .int (i : Nat)) rfl rfl (ixT_map g1)) ?_
  walk_at "v"
  refine w_run rfl rfl (p_law_draw hs3 (by omega) (by omega)) ?_
  rintro _ _ ⟨y, s4, rfl, rfl, hs4, y0, y1⟩
  refine ⟨rfl, ?_⟩
  have hm4 := hs4.mu
  obtain ⟨j, rfl⟩ : ∃ j : Nat, y = (j : Int) := ⟨y.toNat, by omega⟩
  have hj : j < ln.length := by omega
  have e2 : ln[j]? = some ln[j] := List.getElem?_eq_getElem hj
  obtain ⟨x1, x2⟩ := hsh.2 _ (List.getElem_mem hj)
  have gln : Gd (linesD ln) := hg.mem _ (List.mem_map_of_mem g4)
  have gx : Gd (lineD ln[j]) := gln.mem _ (List.mem_map_of_mem (List.getElem_mem hj))
  generalize ln[j] = x at e2 x1 x2 gx
  walk_at "v"
  refine w_B (d := lineD x) (bIx_F (x := linesD ln) (k := .int (j : Nat)) rfl rfl (ixT_map e2)) ?_
  walk_at "v"
  refine v_iteD (fun hk => ?_) fun hk => ?_
  · walk_at "v"
    refine v_lf1 (s := .mu .lst ((M.mv.map linesD).map .fz)) rfl ?_
    walk_at "v"
    refine v_addT (by rw [List.length_map]; show _ + 1 ≤ _; omega) ?_
    walk_at "v"
    obtain ⟨R, hmul, gR⟩ : ∃ R, mulF (.tup (M.mv.map linesD)) (.int 12) = some (.fz (.tup R)) ∧ Gd (.tup R) := ⟨_, mulF_T (n := 12) (by intro e; have := congrArg List.length e; rw [List.length_map] at this; simp at this; rw [this] at s1; simp at s1) (by decide) (by decide) (by rw [List.length_map]; omega), gd_tup (by simp [List.length_flatten]; omega) fun d hd => by
      obtain ⟨l, hl, hd⟩ := List.mem_flatten.mp hd
      rw [(List.mem_replicate.mp hl).2] at hd
      exact hg.mem d hd⟩
    refine v_lf2 hmul ?_
    walk_at "v"
    refine w_run rfl rfl (pj_law_odd hs4) ?_
    rintro _ _ ⟨od, s5, rfl, rfl, hs5, hod⟩
    refine ⟨rfl, ?_⟩
    have hm5 := hs5.mu
    walk_at "v"
    refine w_run rfl rfl (p_law_draw hs5 (by decide) (by decide)) ?_
    rintro _ _ ⟨y, s6, rfl, rfl, hs6, y0, y1⟩
    refine ⟨rfl, ?_⟩
    have hm6 := hs6.mu
    walk_at "v"
    refine Exists.elim (six (gd_cons gd_non (gd_cons gd_empty (gd_cons (gd_lst hg.mem) (gd_cons (gd_tup (by rw [List.length_append, List.length_map]; show _ + 1 ≤ _; omega) (gd_app hg.mem (gd_cons gln gd_nil))) (gd_cons (gd_tup (Nat.le_trans (cutD_len _ _ _) hg.len) fun d hd => hg.mem d (cutD_mem hd)) (gd_cons gR (gd_cons gd_dct (gd_cons hod gd_nil)))))))) y0 y1) fun d hd => ⟨_, hd.1, ?_⟩
    walk_at "v"
    exact ⟨d, s6, rfl, rfl, hs6, hd.2⟩
  · walk_at "v"
    refine v_iteD (fun hk => ?_) fun hk => ?_
    · walk_at "v"
      refine v_lf1 (s := .mu .lst ((ln.map lineD).map .fz)) rfl ?_
      walk_at "v"
      refine v_addT (by rw [List.length_map]; show _ + 1 ≤ _; omega) ?_
      walk_at "v"
      refine w_run rfl rfl (pj_law_odd hs4) ?_
      rintro _ _ ⟨od, s5, rfl, rfl, hs5, hod⟩
      refine ⟨rfl, ?_⟩
      have hm5 := hs5.mu
      walk_at "v"
      refine w_run rfl rfl (p_law_draw hs5 (by decide) (by decide)) ?_
      rintro _ _ ⟨y, s6, rfl, rfl, hs6, y0, y1⟩
      refine ⟨rfl, ?_⟩
      have hm6 := hs6.mu
      walk_at "v"
      refine Exists.elim (six (gd_cons (gd_lst gln.mem) (gd_cons (gd_tup (by rw [List.length_append, List.length_map]; show _ + 1 ≤ _; omega) (gd_app gln.mem (gd_cons gx gd_nil))) (gd_cons (gd_tup (Nat.le_trans (cutD_len _ _ _) gln.len) fun d hd => gln.mem d (cutD_mem hd)) (gd_cons gd_non (gd_cons gd_empty (gd_cons hod gd_nil)))))) y0 y1) fun d hd => ⟨_, hd.1, ?_⟩
      walk_at "v"
      refine w_ret rfl rfl (p_law_put (l := M.mv.map linesD) (i := i) hg.len) rfl ?_
      walk_at "v"
      exact ⟨_, s6, rfl, rfl, hs6, gd_put (by rw [List.length_map]; omega) hg.mem hd.2⟩
    · walk_at "v"
      refine v_iteD (fun hk => ?_) fun hk => ?_
      · obtain ⟨x0, hx0⟩ : ∃ x0, x[0]? = some x0 := ⟨_, List.getElem?_eq_getElem (by omega)⟩
        walk_at "v"
        refine v_lf1 (s := .mu .lst ((x.map moveD).map .fz)) rfl ?_
        walk_at "v"
        refine v_addT (by have := cutD_len (x.map moveD) none (some 1); rw [List.length_map] at this ⊢; omega) ?_
        walk_at "v"
        refine w_B (d := moveD x0) (bIx_F (x := lineD x) (k := .int 0) rfl rfl (ixT_map (n := 0) hx0)) ?_
        walk_at "v"
        refine w_run rfl rfl (p_law_draw hs4 (by decide) (by decide)) ?_
        rintro _ _ ⟨y, s6, rfl, rfl, hs6, y0, y1⟩
        refine ⟨rfl, ?_⟩
        have hm6 := hs6.mu
        walk_at "v"
        refine Exists.elim (six (gd_cons (gd_lst gx.mem) (gd_cons (gd_tup (by rw [List.length_append]; have := cutD_len (x.map moveD) none (some 1); rw [List.length_map] at this ⊢; omega) (gd_app gx.mem fun d hd => gx.mem d (cutD_mem hd))) (gd_cons (gd_tup (Nat.le_trans (cutD_len _ _ _) gx.len) fun d hd => gx.mem d (cutD_mem hd)) (gd_cons gd_non (gd_cons gd_empty (gd_cons (gd_move x0) gd_nil)))))) y0 y1) fun d hd => ⟨_, hd.1, ?_⟩
        walk_at "v"
        refine w_ret rfl rfl (p_law_put (l := ln.map lineD) (i := j) gln.len) rfl ?_
        walk_at "v"
        refine w_ret rfl rfl (p_law_put (l := M.mv.map linesD) (i := i) hg.len) rfl ?_
        walk_at "v"
        exact ⟨_, s6, rfl, rfl, hs6, gd_put (by rw [List.length_map]; omega) hg.mem (gd_put (by rw [List.length_map]; omega) gln.mem hd.2)⟩
      · walk_at "v"
        refine w_run rfl rfl (p_law_draw hs4 (by omega) (by omega)) ?_
        rintro _ _ ⟨y, s6, rfl, rfl, hs6, y0, y1⟩
        refine ⟨rfl, ?_⟩
        have hm6 := hs6.mu
        obtain ⟨k, rfl⟩ : ∃ k : Nat, y = (k : Int) := ⟨y.toNat, by omega⟩
        have e3 : x[k]? = some x[k] := List.getElem?_eq_getElem (by omega)
        generalize x[k] = p at e3
        walk_at "v"
        refine w_B (d := moveD p) (bIx_F (x := lineD x) (k := .int (k : Nat)) rfl rfl (ixT_map e3)) ?_
        walk_at "v"
        refine w_run rfl rfl (p_law_spoiled_move (p := p) hs6) ?_
        rintro _ _ ⟨d, s7, rfl, rfl, hs7, hd⟩
        refine ⟨rfl, ?_⟩
        have hm7 := hs7.mu
        walk_at "v"
        refine w_ret rfl rfl (p_law_put (l := x.map moveD) (i := k) gx.len) rfl ?_
        walk_at "v"
        refine w_ret rfl rfl (p_law_put (l := ln.map lineD) (i := j) gln.len) rfl ?_
        walk_at "v"
        refine w_ret rfl rfl (p_law_put (l := M.mv.map linesD) (i := i) hg.len) rfl ?_
        walk_at "v"
        exact ⟨_, s7, rfl, rfl, hs7, gd_put (by rw [List.length_map]; omega) hg.mem (gd_put (by rw [List.length_map]; omega) gln.mem (gd_put (by rw [List.length_map]; omega) gx.mem hd))⟩

-- use law_due
-- use law_world
-- use law_spoiled_moves
theorem len_app (a b : Str) : (a ++ b).length = a.length + b.length := by
  rw [← ofL_cps a, ← ofL_cps b, ofL_app, ofL_len, ofL_len, ofL_len, List.length_append]
theorem gd_sign (c : Nat) : Gd (.str ⟨#[c]⟩) := gd_str (by show 1 ≤ _; rw [sizeLine_eq]; decide)
theorem len_rev (z : Str) : (revS z).length = z.length := by unfold revS Str.length; simp
theorem sh_moves (mv : List (List (List (Int × Nat)))) : Sh 4 (movesD mv) := sh_tupX fun l _ => sh_tupX fun x _ => sh_tupX fun p _ => sh_tup (n := 0) fun d hd => by
  simp only [List.mem_cons, List.not_mem_nil, or_false] at hd
  rcases hd with rfl | rfl
  · exact sh_int _
  · exact sh_int _
theorem law_pure : ∀ ns : List Int, ns.length ≤ 63 → ∃ o, f_law [scr ns] = some (.ok (.fz (.bl true)), o) := by
  intro ns hns
  suffices h : RunF f_law [scr ns] fun r os => r = .ok (.fz (.bl true)) by
    obtain ⟨r, os, e, rfl⟩ := h
    exact ⟨os, e⟩
  have hs : (sizeLine : Nat) = 16777216 := sizeLine_eq
  have st : ∀ z : Str, z.length ≤ 100 → Gd (.str z) := fun z h => gd_str (by omega)
  unfold f_law m_law
  refine w_fn rfl rfl ?_
  walk_at "v"
  refine w_run rfl rfl (p_law_hand hns) ?_
  rintro _ _ ⟨rfl, s0, rfl, hh0⟩
  refine ⟨rfl, ?_⟩
  walk_at "v"
  refine w_loopR (fun i τ => ∃ s o2 o3 o4 o5 o6 o7 o8 o9 o10 o11, τ = [some (scr ns), some s, o2, o3, o4, o5, o6, o7, o8, o9, o10, o11] ∧ Hand s) ⟨_, _, _, _, _, _, _, _, _, _, _, rfl, hh0⟩ ?_ ?_
  · rintro i τ hi ⟨s, o2, o3, o4, o5, o6, o7, o8, o9, o10, o11, rfl, hh⟩
    have hm := hh.mu
    walk_at "v"
    refine w_run rfl rfl (p_law_draw hh (by decide) (by decide)) ?_
    rintro _ _ ⟨y, s1, rfl, rfl, hh1, y0, y1⟩
    refine ⟨rfl, ?_⟩
    have hm1 := hh1.mu
    obtain ⟨k, rfl⟩ : ∃ k : Nat, y = (k : Int) := ⟨y.toNat, by omega⟩
    obtain ⟨n, en, n1, n12⟩ : ∃ n : Int, ixF (.ob .lst [.int 3, .int 12]) (.int (k : Nat)) = some (.fz (.int n)) ∧ 1 ≤ n ∧ n ≤ 12 := by
      have hk : k < 2 := by omega
      match k, hk with
      | 0, _ => exact ⟨3, rfl, by decide, by decide⟩
      | 1, _ => exact ⟨12, rfl, by decide, by decide⟩
    walk_at "v"
    refine v_lf2 en ?_
    walk_at "v"
    refine w_run rfl rfl (p_law_world hh1 (by decide) (by decide) n1 n12) ?_
    rintro _ _ ⟨M, s2, rfl, rfl, hh2, ok, -, -⟩
    refine ⟨rfl, ?_⟩
    have hm2 := hh2.mu
    have hg := gd_moves ok
    walk_at "v"
    refine ⟨_, rfl, ?_⟩
    walk_at "v"
    refine w_run rfl rfl (p_law_draw hh2 (by decide) (by decide)) ?_
    rintro _ _ ⟨y, s3, rfl, rfl, hh3, y0, y1⟩
    refine ⟨rfl, ?_⟩
    have hm3 := hh3.mu
    obtain ⟨w, rfl⟩ : ∃ w : Nat, y = (w : Int) := ⟨y.toNat, by omega⟩
    have hw : w < 7 := by omega
    have isin : ∀ l ∈ [[D.int 1, .int 4], [.int 2, .int 4, .int 5], [.int 3, .int 5, .int 6]], ∃ b, inF false (.int (w : Nat)) (.ob .lst l) = some (.fz (.bl b)) := fun l hl => by
      simp only [List.mem_cons, List.not_mem_nil, or_false] at hl
      match w, hw with
      | 0, _ => rcases hl with rfl | rfl | rfl <;> exact ⟨_, rfl⟩
      | 1, _ => rcases hl with rfl | rfl | rfl <;> exact ⟨_, rfl⟩
      | 2, _ => rcases hl with rfl | rfl | rfl <;> exact ⟨_, rfl⟩
      | 3, _ => rcases hl with rfl | rfl | rfl <;> exact ⟨_, rfl⟩
      | 4, _ => rcases hl with rfl | rfl | rfl <;> exact ⟨_, rfl⟩
      | 5, _ => rcases hl with rfl | rfl | rfl <;> exact ⟨_, rfl⟩
      | 6, _ => rcases hl with rfl | rfl | rfl <;> exact ⟨_, rfl⟩
    obtain ⟨b1, hb1⟩ := isin _ List.mem_cons_self
    obtain ⟨b2, hb2⟩ := isin _ (List.mem_cons_of_mem _ List.mem_cons_self)
    obtain ⟨b3, hb3⟩ := isin _ (List.mem_cons_of_mem _ (List.mem_cons_of_mem _ List.mem_cons_self))
    have hzr : isRows (.str (ofL M.rows)) = true := ok.rows
    obtain ⟨-, zp, z4, -⟩ := rows_parts hzr
    generalize hz0 : ofL M.rows = z at hzr zp z4
    walk_at "vs"
    refine w_seqM (fun τ => ∃ s d1 o2 o7, τ = [some (scr ns), some s, o2, some (.fz d1), some (.fz (.int M.na)), some (.fz (movesD M.mv)), some (.fz (.int (w : Nat))), o7, o8, o9, o10, o11] ∧ Hand s ∧ Gd d1) ?_ ?_
    · walk_at "v"
      refine v_lf2 hb1 ?_
      walk_at "v"
      refine v_ite (fun _ => ?_) fun _ => ?_
      · rw [show rowsD M = .str z from congrArg D.str hz0]
        walk_at "v"
        refine v_addS (by show 2 + _ ≤ _; omega) ?_
        walk_at "v"
        refine v_lf1 (s := .fz (.str (revS z))) (if_pos (by omega)) ?_
        walk_at "v"
        refine v_addS (by rw [len_rev]; omega) ?_
        walk_at "v"
        refine v_lf1 (s := .fz (.str (Txt.upper z))) (if_pos (by omega)) ?_
        walk_at "v"
        refine v_addS (by show _ + 1 ≤ _; omega) ?_
        walk_at "v"
        refine v_lf1 (s := .mu .lst ((VS.signs z).map .fz)) (by simp only [listF]; exact if_pos (by omega)) ?_
        walk_at "v"
        refine w_run rfl rfl (pj_law_odd hh3) ?_
        rintro _ _ ⟨od, s5, rfl, rfl, hs5, hod⟩
        refine ⟨rfl, ?_⟩
        have hm5 := hs5.mu
        walk_at "v"
        refine w_run rfl rfl (p_law_draw hs5 (by decide) (by decide)) ?_
        rintro _ _ ⟨y, s6, rfl, rfl, hs6, y0, y1⟩
        refine ⟨rfl, ?_⟩
        have hm6 := hs6.mu
        walk_at "v"
        have hup := PyProof.Rows.len_upper z
        refine Exists.elim (six (gd_cons (st _ (by decide)) (gd_cons (gd_str (by rw [len_app]; show 2 + z.length ≤ _; omega)) (gd_cons (gd_str (by rw [len_app, len_rev]; omega)) (gd_cons (gd_str (by omega)) (gd_cons (gd_str (by rw [len_app]; show z.length + 1 ≤ _; omega)) (gd_cons (st _ (by decide)) (gd_cons (gd_lst (gd_map fun c _ => gd_sign c)) (gd_cons (gd_one (gd_str (by omega))) (gd_cons (st _ (by decide)) (gd_cons (st _ (by decide)) (gd_cons hod gd_nil))))))))))) y0 y1) fun d hd => ⟨_, hd.1, ?_⟩
        exact ⟨_, _, _, _, rfl, hs6, hd.2⟩
      · walk_at "v"
        exact ⟨_, _, _, _, rfl, hh3, by rw [← hz0] at z4; exact st _ (by omega)⟩
    rintro τ ⟨s4, d1, o2, o7, rfl, hh4, hd1⟩
    have hm4 := hh4.mu
    walk_at "vs"
    refine w_seqM (fun τ => ∃ s d2 o2, τ = [some (scr ns), some s, o2, some (.fz d1), some (.fz d2), some (.fz (movesD M.mv)), some (.fz (.int (w : Nat))), o7, o8, o9, o10, o11] ∧ Hand s ∧ Gd d2) ?_ ?_
    · walk_at "v"
      refine v_lf2 hb2 ?_
      walk_at "v"
      refine v_ite (fun _ => ?_) fun _ => ?_
      · walk_at "v"
        refine w_run rfl rfl (p_law_draw hh4 (by decide) (by decide)) ?_
        rintro _ _ ⟨y, s6, rfl, rfl, hs6, y0, y1⟩
        refine ⟨rfl, ?_⟩
        have hm6 := hs6.mu
        walk_at "v"
        refine Exists.elim (six (gd_cons (gd_int _) (gd_cons (gd_int _) (gd_cons (gd_int _) (gd_cons (gd_int _) (gd_cons (gd_int _) (gd_cons (gd_bl _) (gd_cons gd_non (gd_cons (st _ (by decide)) (gd_cons (gd_int _) (gd_cons (gd_one (gd_int _)) (gd_cons (gd_int _) gd_nil))))))))))) y0 y1) fun d hd => ⟨_, hd.1, ?_⟩
        exact ⟨_, _, _, rfl, hs6, hd.2⟩
      · walk_at "v"
        exact ⟨_, _, _, rfl, hh4, gd_int _⟩
    rintro τ ⟨s6, d2, o2, rfl, hh6, hd2⟩
    have hm6 := hh6.mu
    walk_at "vs"
    refine w_seqM (fun τ => ∃ s d3 o2, τ = [some (scr ns), some s, o2, some (.fz d1), some (.fz d2), some (.fz d3), some (.fz (.int (w : Nat))), o7, o8, o9, o10, o11] ∧ Hand s ∧ Gd d3) ?_ ?_
    · walk_at "v"
      refine v_lf2 hb3 ?_
      walk_at "v"
      refine v_ite (fun _ => ?_) fun _ => ?_
      · walk_at "v"
        refine w_run rfl rfl (p_law_spoiled_moves hh6 ok) ?_
        rintro _ _ ⟨d, s7, rfl, rfl, hh7, hd⟩
        refine ⟨rfl, ?_⟩
        have hm7 := hh7.mu
        walk_at "v"
        exact ⟨_, _, _, rfl, hh7, hd⟩
      · walk_at "v"
        exact ⟨_, _, _, rfl, hh6, hg⟩
    rintro τ ⟨s8, d3, o2, rfl, hh8, hd3⟩
    have hm8 := hh8.mu
    walk_at "v"
    refine w_ret rfl rfl (p_law_due hd1.1 hd2.1 hd3.1) rfl ?_
    walk_at "v"
    refine w_makeC rfl rfl (RunF.mono (pj_Machine_init hd1.1 hd2.1 hd3.1 hd3.short) ?_)
    rintro r os (⟨N, okN, rfl, rfl, rfl, hdue, rfl, rfl⟩ | ⟨s0, rfl, rfl⟩)
    · refine ⟨_, _, rfl, rfl, .inl ⟨rfl, ?_⟩⟩
      have im : IsM (macO N) N := .inl rfl
      rw [hdue]
      walk_at "v"
      refine v_iteD (fun _ => ?_) fun h => absurd trivial h
      walk_at "v"
      refine v_iteD (fun _ => ?_) fun h => absurd trivial h
      walk_at "v"
      refine v_lf2 (eqF_self (sh_moves N.mv).ok) ?_
      walk_at "v"
      refine v_iteD (fun _ => ?_) fun h => absurd rfl h
      walk_at "v"
      refine v_iteN (fun h => absurd trivial h) fun _ => ?_
      walk_at "v"
      exact ⟨_, _, _, _, _, _, _, _, _, _, _, rfl, hh8⟩
    · refine ⟨_, _, rfl, rfl, .inr ⟨_, _, _, rfl, ?_⟩⟩
      walk_at "v"
      refine w_hnT rfl ?_
      refine w_hnX (by show 11 < 12; decide) (d := .str (dueJ d1 d2 d3)) rfl ?_
      walk_at "v"
      refine v_iteN (fun h => absurd trivial h) fun _ => ?_
      walk_at "v"
      exact ⟨_, _, _, _, _, _, _, _, _, _, _, rfl, hh8⟩
  · rintro τ ⟨s, o2, o3, o4, o5, o6, o7, o8, o9, o10, o11, rfl, hh⟩
    walk_at "v"
    all_goals rfl

end Lw
namespace Lw
open PySem PySem.Spec PyProof.Rows L2 VS
theorem all_mk {l : PySem.W.OpenLaw} {w : World} {K : PySem.W.Frag} {h : Heap} {mg : Str → Option Value} {fa : Addr} (X : K.In h) (G : h.Ns mainGlobals mg) (hfa : mg "law" = some (.ref fa))
    {o_Machine : Addr}
    {f0 : Addr} {od0 an0 : Option Addr} {sl0 : Array (Option Value)} {oc0 kV0 dc0 pm0 cd0 ct0 : Value}
    {f1 : Addr} {od1 an1 : Option Addr} {sl1 : Array (Option Value)} {oc1 kV1 dc1 pm1 cd1 ct1 : Value}
    {f2 : Addr} {od2 an2 : Option Addr} {sl2 : Array (Option Value)} {oc2 kV2 dc2 pm2 cd2 ct2 : Value}
    {f3 : Addr} {od3 an3 : Option Addr} {sl3 : Array (Option Value)} {oc3 kV3 dc3 pm3 cd3 ct3 : Value}
    {f4 : Addr} {od4 an4 : Option Addr} {sl4 : Array (Option Value)} {oc4 kV4 dc4 pm4 cd4 ct4 : Value}
    {f5 : Addr} {od5 an5 : Option Addr} {sl5 : Array (Option Value)} {oc5 kV5 dc5 pm5 cd5 ct5 : Value}
    {f6 : Addr} {od6 an6 : Option Addr} {sl6 : Array (Option Value)} {oc6 kV6 dc6 pm6 cd6 ct6 : Value}
    {f7 : Addr} {od7 an7 : Option Addr} {sl7 : Array (Option Value)} {oc7 kV7 dc7 pm7 cd7 ct7 : Value}
    {f8 : Addr} {od8 an8 : Option Addr} {sl8 : Array (Option Value)} {oc8 kV8 dc8 pm8 cd8 ct8 : Value}
    {f9 : Addr} {od9 an9 : Option Addr} {sl9 : Array (Option Value)} {oc9 kV9 dc9 pm9 cd9 ct9 : Value}
    {f10 : Addr} {od10 an10 : Option Addr} {sl10 : Array (Option Value)} {oc10 kV10 dc10 pm10 cd10 ct10 : Value}
    {f11 : Addr} {od11 an11 : Option Addr} {sl11 : Array (Option Value)} {oc11 kV11 dc11 pm11 cd11 ct11 : Value}
    {f12 : Addr} {od12 an12 : Option Addr} {sl12 : Array (Option Value)} {oc12 kV12 dc12 pm12 cd12 ct12 : Value}
    {f13 : Addr} {od13 an13 : Option Addr} {sl13 : Array (Option Value)} {oc13 kV13 dc13 pm13 cd13 ct13 : Value}
    {f14 : Addr} {od14 an14 : Option Addr} {sl14 : Array (Option Value)} {oc14 kV14 dc14 pm14 cd14 ct14 : Value}
    {f15 : Addr} {od15 an15 : Option Addr} {sl15 : Array (Option Value)} {oc15 kV15 dc15 pm15 cd15 ct15 : Value}
    {f16 : Addr} {od16 an16 : Option Addr} {sl16 : Array (Option Value)} {oc16 kV16 dc16 pm16 cd16 ct16 : Value}
    {f17 : Addr} {od17 an17 : Option Addr} {sl17 : Array (Option Value)} {oc17 kV17 dc17 pm17 cd17 ct17 : Value}
    {f18 : Addr} {od18 an18 : Option Addr} {sl18 : Array (Option Value)} {oc18 kV18 dc18 pm18 cd18 ct18 : Value}
    {f19 : Addr} {od19 an19 : Option Addr} {sl19 : Array (Option Value)} {oc19 kV19 dc19 pm19 cd19 ct19 : Value}
    {f20 : Addr} {od20 an20 : Option Addr} {sl20 : Array (Option Value)} {oc20 kV20 dc20 pm20 cd20 ct20 : Value}
    {f21 : Addr} {od21 an21 : Option Addr} {sl21 : Array (Option Value)} {oc21 kV21 dc21 pm21 cd21 ct21 : Value}
    {f22 : Addr} {od22 an22 : Option Addr} {sl22 : Array (Option Value)} {oc22 kV22 dc22 pm22 cd22 ct22 : Value}
    {f500 : Addr} {od500 an500 : Option Addr} {sl500 : Array (Option Value)} {oc500 kV500 dc500 pm500 cd500 ct500 : Value}
    {f501 : Addr} {od501 an501 : Option Addr} {sl501 : Array (Option Value)} {oc501 kV501 dc501 pm501 cd501 ct501 : Value}
    {t_MOST_ANSWERS : Tok}
    {t_MOST_ROWS : Tok}
    {t_MOST_STANDINGS : Tok}
    {t_MOST_TICKS : Tok}
    {t_SMALL : Tok}
    {C_BadMachine fi_BadMachine cc_BadMachine cda_BadMachine : Addr} {fod_BadMachine fan_BadMachine cld_BadMachine cdd_BadMachine : Option Addr} {fsl_BadMachine csl_BadMachine ccs_BadMachine : Array (Option Value)} {foc_BadMachine fkV_BadMachine fdc_BadMachine fpm_BadMachine fct_BadMachine ccl_BadMachine cll_BadMachine : Value} {cvs_BadMachine : Array Value} {file_BadMachine : Str} {tf_BadMachine : Tok}
    (oa_Machine : PySem.W.nsIn K mainGlobals "Machine" = some (some (.ref o_Machine)))
    (a0 : PySem.W.nsIn K mainGlobals "is_integer" = some (some (.ref f0)))
    (l0 : K.lookup f0 = some ⟨oc0, od0, .func (PySem.W.fnOf "is_integer" "is_integer" (defArgs s_is_integer) (defBody s_is_integer) (defScope s_is_integer) .none kV0 dc0 pm0 an0 cd0 ct0), sl0⟩)
    (c0 : PySem.W.codeIn K cd0 "is_integer" = true)
    (k0 : PySem.W.keepIn K (.ref f0) = true)
    (a1 : PySem.W.nsIn K mainGlobals "is_within" = some (some (.ref f1)))
    (l1 : K.lookup f1 = some ⟨oc1, od1, .func (PySem.W.fnOf "is_within" "is_within" (defArgs s_is_within) (defBody s_is_within) (defScope s_is_within) .none kV1 dc1 pm1 an1 cd1 ct1), sl1⟩)
    (c1 : PySem.W.codeIn K cd1 "is_within" = true)
    (k1 : PySem.W.keepIn K (.ref f1) = true)
    (a2 : PySem.W.nsIn K mainGlobals "is_pair" = some (some (.ref f2)))
    (l2 : K.lookup f2 = some ⟨oc2, od2, .func (PySem.W.fnOf "is_pair" "is_pair" (defArgs s_is_pair) (defBody s_is_pair) (defScope s_is_pair) .none kV2 dc2 pm2 an2 cd2 ct2), sl2⟩)
    (c2 : PySem.W.codeIn K cd2 "is_pair" = true)
    (k2 : PySem.W.keepIn K (.ref f2) = true)
    (a3 : PySem.W.nsIn K mainGlobals "is_string_of" = some (some (.ref f3)))
    (l3 : K.lookup f3 = some ⟨oc3, od3, .func (PySem.W.fnOf "is_string_of" "is_string_of" (defArgs s_is_string_of) (defBody s_is_string_of) (defScope s_is_string_of) .none kV3 dc3 pm3 an3 cd3 ct3), sl3⟩)
    (c3 : PySem.W.codeIn K cd3 "is_string_of" = true)
    (k3 : PySem.W.keepIn K (.ref f3) = true)
    (a4 : PySem.W.nsIn K mainGlobals "is_word" = some (some (.ref f4)))
    (l4 : K.lookup f4 = some ⟨oc4, od4, .func (PySem.W.fnOf "is_word" "is_word" (defArgs s_is_word) (defBody s_is_word) (defScope s_is_word) .none kV4 dc4 pm4 an4 cd4 ct4), sl4⟩)
    (c4 : PySem.W.codeIn K cd4 "is_word" = true)
    (k4 : PySem.W.keepIn K (.ref f4) = true)
    (a5 : PySem.W.nsIn K mainGlobals "is_ascending" = some (some (.ref f5)))
    (l5 : K.lookup f5 = some ⟨oc5, od5, .func (PySem.W.fnOf "is_ascending" "is_ascending" (defArgs s_is_ascending) (defBody s_is_ascending) (defScope s_is_ascending) .none kV5 dc5 pm5 an5 cd5 ct5), sl5⟩)
    (c5 : PySem.W.codeIn K cd5 "is_ascending" = true)
    (k5 : PySem.W.keepIn K (.ref f5) = true)
    (a6 : PySem.W.nsIn K mainGlobals "is_rows" = some (some (.ref f6)))
    (l6 : K.lookup f6 = some ⟨oc6, od6, .func (PySem.W.fnOf "is_rows" "is_rows" (defArgs s_is_rows) (defBody s_is_rows) (defScope s_is_rows) .none kV6 dc6 pm6 an6 cd6 ct6), sl6⟩)
    (c6 : PySem.W.codeIn K cd6 "is_rows" = true)
    (k6 : PySem.W.keepIn K (.ref f6) = true)
    (a7 : PySem.W.nsIn K mainGlobals "is_move" = some (some (.ref f7)))
    (l7 : K.lookup f7 = some ⟨oc7, od7, .func (PySem.W.fnOf "is_move" "is_move" (defArgs s_is_move) (defBody s_is_move) (defScope s_is_move) .none kV7 dc7 pm7 an7 cd7 ct7), sl7⟩)
    (c7 : PySem.W.codeIn K cd7 "is_move" = true)
    (k7 : PySem.W.keepIn K (.ref f7) = true)
    (a8 : PySem.W.nsIn K mainGlobals "are_moves" = some (some (.ref f8)))
    (l8 : K.lookup f8 = some ⟨oc8, od8, .func (PySem.W.fnOf "are_moves" "are_moves" (defArgs s_are_moves) (defBody s_are_moves) (defScope s_are_moves) .none kV8 dc8 pm8 an8 cd8 ct8), sl8⟩)
    (c8 : PySem.W.codeIn K cd8 "are_moves" = true)
    (k8 : PySem.W.keepIn K (.ref f8) = true)
    (a9 : PySem.W.nsIn K mainGlobals "_law_hand" = some (some (.ref f9)))
    (l9 : K.lookup f9 = some ⟨oc9, od9, .func (PySem.W.fnOf "_law_hand" "_law_hand" (defArgs s_law_hand) (defBody s_law_hand) (defScope s_law_hand) .none kV9 dc9 pm9 an9 cd9 ct9), sl9⟩)
    (c9 : PySem.W.codeIn K cd9 "_law_hand" = true)
    (k9 : PySem.W.keepIn K (.ref f9) = true)
    (a10 : PySem.W.nsIn K mainGlobals "_law_draw" = some (some (.ref f10)))
    (l10 : K.lookup f10 = some ⟨oc10, od10, .func (PySem.W.fnOf "_law_draw" "_law_draw" (defArgs s_law_draw) (defBody s_law_draw) (defScope s_law_draw) .none kV10 dc10 pm10 an10 cd10 ct10), sl10⟩)
    (c10 : PySem.W.codeIn K cd10 "_law_draw" = true)
    (k10 : PySem.W.keepIn K (.ref f10) = true)
    (a11 : PySem.W.nsIn K mainGlobals "_law_rows" = some (some (.ref f11)))
    (l11 : K.lookup f11 = some ⟨oc11, od11, .func (PySem.W.fnOf "_law_rows" "_law_rows" (defArgs s_law_rows) (defBody s_law_rows) (defScope s_law_rows) .none kV11 dc11 pm11 an11 cd11 ct11), sl11⟩)
    (c11 : PySem.W.codeIn K cd11 "_law_rows" = true)
    (k11 : PySem.W.keepIn K (.ref f11) = true)
    (a12 : PySem.W.nsIn K mainGlobals "_law_line" = some (some (.ref f12)))
    (l12 : K.lookup f12 = some ⟨oc12, od12, .func (PySem.W.fnOf "_law_line" "_law_line" (defArgs s_law_line) (defBody s_law_line) (defScope s_law_line) .none kV12 dc12 pm12 an12 cd12 ct12), sl12⟩)
    (c12 : PySem.W.codeIn K cd12 "_law_line" = true)
    (k12 : PySem.W.keepIn K (.ref f12) = true)
    (a13 : PySem.W.nsIn K mainGlobals "_law_world" = some (some (.ref f13)))
    (l13 : K.lookup f13 = some ⟨oc13, od13, .func (PySem.W.fnOf "_law_world" "_law_world" (defArgs s_law_world) (defBody s_law_world) (defScope s_law_world) .none kV13 dc13 pm13 an13 cd13 ct13), sl13⟩)
    (c13 : PySem.W.codeIn K cd13 "_law_world" = true)
    (k13 : PySem.W.keepIn K (.ref f13) = true)
    (a14 : PySem.W.nsIn K mainGlobals "_law_odd" = some (some (.ref f14)))
    (l14 : K.lookup f14 = some ⟨oc14, od14, .func (PySem.W.fnOf "_law_odd" "_law_odd" (defArgs s_law_odd) (defBody s_law_odd) (defScope s_law_odd) .none kV14 dc14 pm14 an14 cd14 ct14), sl14⟩)
    (c14 : PySem.W.codeIn K cd14 "_law_odd" = true)
    (k14 : PySem.W.keepIn K (.ref f14) = true)
    (a15 : PySem.W.nsIn K mainGlobals "_law_is_number" = some (some (.ref f15)))
    (l15 : K.lookup f15 = some ⟨oc15, od15, .func (PySem.W.fnOf "_law_is_number" "_law_is_number" (defArgs s_law_is_number) (defBody s_law_is_number) (defScope s_law_is_number) .none kV15 dc15 pm15 an15 cd15 ct15), sl15⟩)
    (c15 : PySem.W.codeIn K cd15 "_law_is_number" = true)
    (k15 : PySem.W.keepIn K (.ref f15) = true)
    (a16 : PySem.W.nsIn K mainGlobals "_law_are_rows" = some (some (.ref f16)))
    (l16 : K.lookup f16 = some ⟨oc16, od16, .func (PySem.W.fnOf "_law_are_rows" "_law_are_rows" (defArgs s_law_are_rows) (defBody s_law_are_rows) (defScope s_law_are_rows) .none kV16 dc16 pm16 an16 cd16 ct16), sl16⟩)
    (c16 : PySem.W.codeIn K cd16 "_law_are_rows" = true)
    (k16 : PySem.W.keepIn K (.ref f16) = true)
    (a17 : PySem.W.nsIn K mainGlobals "_law_are_moves" = some (some (.ref f17)))
    (l17 : K.lookup f17 = some ⟨oc17, od17, .func (PySem.W.fnOf "_law_are_moves" "_law_are_moves" (defArgs s_law_are_moves) (defBody s_law_are_moves) (defScope s_law_are_moves) .none kV17 dc17 pm17 an17 cd17 ct17), sl17⟩)
    (c17 : PySem.W.codeIn K cd17 "_law_are_moves" = true)
    (k17 : PySem.W.keepIn K (.ref f17) = true)
    (a18 : PySem.W.nsIn K mainGlobals "_law_due" = some (some (.ref f18)))
    (l18 : K.lookup f18 = some ⟨oc18, od18, .func (PySem.W.fnOf "_law_due" "_law_due" (defArgs s_law_due) (defBody s_law_due) (defScope s_law_due) .none kV18 dc18 pm18 an18 cd18 ct18), sl18⟩)
    (c18 : PySem.W.codeIn K cd18 "_law_due" = true)
    (k18 : PySem.W.keepIn K (.ref f18) = true)
    (a19 : PySem.W.nsIn K mainGlobals "_law_put" = some (some (.ref f19)))
    (l19 : K.lookup f19 = some ⟨oc19, od19, .func (PySem.W.fnOf "_law_put" "_law_put" (defArgs s_law_put) (defBody s_law_put) (defScope s_law_put) .none kV19 dc19 pm19 an19 cd19 ct19), sl19⟩)
    (c19 : PySem.W.codeIn K cd19 "_law_put" = true)
    (k19 : PySem.W.keepIn K (.ref f19) = true)
    (a20 : PySem.W.nsIn K mainGlobals "_law_spoiled_move" = some (some (.ref f20)))
    (l20 : K.lookup f20 = some ⟨oc20, od20, .func (PySem.W.fnOf "_law_spoiled_move" "_law_spoiled_move" (defArgs s_law_spoiled_move) (defBody s_law_spoiled_move) (defScope s_law_spoiled_move) .none kV20 dc20 pm20 an20 cd20 ct20), sl20⟩)
    (c20 : PySem.W.codeIn K cd20 "_law_spoiled_move" = true)
    (k20 : PySem.W.keepIn K (.ref f20) = true)
    (a21 : PySem.W.nsIn K mainGlobals "_law_spoiled_moves" = some (some (.ref f21)))
    (l21 : K.lookup f21 = some ⟨oc21, od21, .func (PySem.W.fnOf "_law_spoiled_moves" "_law_spoiled_moves" (defArgs s_law_spoiled_moves) (defBody s_law_spoiled_moves) (defScope s_law_spoiled_moves) .none kV21 dc21 pm21 an21 cd21 ct21), sl21⟩)
    (c21 : PySem.W.codeIn K cd21 "_law_spoiled_moves" = true)
    (k21 : PySem.W.keepIn K (.ref f21) = true)
    (a22 : PySem.W.nsIn K mainGlobals "law" = some (some (.ref f22)))
    (l22 : K.lookup f22 = some ⟨oc22, od22, .func (PySem.W.fnOf "law" "law" (defArgs s_law) (defBody s_law) (defScope s_law) .none kV22 dc22 pm22 an22 cd22 ct22), sl22⟩)
    (c22 : PySem.W.codeIn K cd22 "law" = true)
    (k22 : PySem.W.keepIn K (.ref f22) = true)
    (a500 : PySem.W.findIn K (.ref o_Machine) "__init__" = some (some (.ref f500)))
    (l500 : K.lookup f500 = some ⟨oc500, od500, .func (PySem.W.fnOf "__init__" "Machine.__init__" (defArgs s_Machine_init) (defBody s_Machine_init) (defScope s_Machine_init) .none kV500 dc500 pm500 an500 cd500 ct500), sl500⟩)
    (c500 : PySem.W.codeIn K cd500 "Machine.__init__" = true)
    (k500 : PySem.W.keepIn K (.ref f500) = true)
    (i500 : PySem.W.isFn K (.ref f500) = true)
    (a501 : PySem.W.findIn K (.ref o_Machine) "keep" = some (some (.ref f501)))
    (l501 : K.lookup f501 = some ⟨oc501, od501, .func (PySem.W.fnOf "keep" "Machine.keep" (defArgs s_Machine_keep) (defBody s_Machine_keep) (defScope s_Machine_keep) .none kV501 dc501 pm501 an501 cd501 ct501), sl501⟩)
    (c501 : PySem.W.codeIn K cd501 "Machine.keep" = true)
    (k501 : PySem.W.keepIn K (.ref f501) = true)
    (i501 : PySem.W.isFn K (.ref f501) = true)
    (pg_Machine : PySem.W.plainGet K o_Machine Str.empty = true)
    (hd_Machine : PySem.W.hasDictIn K o_Machine = true)
    (po_Machine : PySem.W.plainOver K o_Machine = true)
    (sa_Machine : PySem.W.findIn K (.ref o_Machine) "__setattr__" = some (some (.builtin "object.__setattr__")))
    (mk_Machine : PySem.W.makesIn K o_Machine = true)
    (kc_Machine : PySem.W.keepIn K (.ref o_Machine) = true)
    (n_Machine_answers : PySem.W.findIn K (.ref o_Machine) "answers" = some none)
    (n_Machine_kept_steps : PySem.W.findIn K (.ref o_Machine) "kept_steps" = some none)
    (n_Machine_kept_webs : PySem.W.findIn K (.ref o_Machine) "kept_webs" = some none)
    (n_Machine_moves : PySem.W.findIn K (.ref o_Machine) "moves" = some none)
    (n_Machine_rows : PySem.W.findIn K (.ref o_Machine) "rows" = some none)
    (n_Machine_size : PySem.W.findIn K (.ref o_Machine) "size" = some none)
    (z_abs : PySem.W.nsIn K mainGlobals "abs" = some none)
    (z_all : PySem.W.nsIn K mainGlobals "all" = some none)
    (z_bool : PySem.W.nsIn K mainGlobals "bool" = some none)
    (z_enumerate : PySem.W.nsIn K mainGlobals "enumerate" = some none)
    (z_int : PySem.W.nsIn K mainGlobals "int" = some none)
    (z_isinstance : PySem.W.nsIn K mainGlobals "isinstance" = some none)
    (z_len : PySem.W.nsIn K mainGlobals "len" = some none)
    (z_list : PySem.W.nsIn K mainGlobals "list" = some none)
    (z_range : PySem.W.nsIn K mainGlobals "range" = some none)
    (z_str : PySem.W.nsIn K mainGlobals "str" = some none)
    (z_tuple : PySem.W.nsIn K mainGlobals "tuple" = some none)
    (z_zip : PySem.W.nsIn K mainGlobals "zip" = some none)
    (g_MOST_ANSWERS : PySem.W.nsIn K mainGlobals "MOST_ANSWERS" = some (some (.int 3 t_MOST_ANSWERS)))
    (g_MOST_ROWS : PySem.W.nsIn K mainGlobals "MOST_ROWS" = some (some (.int 4 t_MOST_ROWS)))
    (g_MOST_STANDINGS : PySem.W.nsIn K mainGlobals "MOST_STANDINGS" = some (some (.int 12 t_MOST_STANDINGS)))
    (g_MOST_TICKS : PySem.W.nsIn K mainGlobals "MOST_TICKS" = some (some (.int 99 t_MOST_TICKS)))
    (g_SMALL : PySem.W.nsIn K mainGlobals "SMALL" = some (some (.str "abcdefghijklmnopqrstuvwxyz" t_SMALL)))
    (xa_BadMachine : PySem.W.nsIn K mainGlobals "BadMachine" = some (some (.ref C_BadMachine)))
    (kxq_BadMachine : PySem.W.excInitIn K C_BadMachine [.type "ValueError", .type "Exception", .type "BaseException", .type "object"] "ValueError.__new__" = true)
    (xh_BadMachine : PySem.W.hasDictIn K C_BadMachine = true)
    (xk_BadMachine : PySem.W.keepIn K (.ref C_BadMachine) = true)
    (xs_BadMachine : PySem.W.subIn K (.ref C_BadMachine) (.type "BaseException") = some true)
    (xt_BadMachine : PySem.W.typeIn K (.ref C_BadMachine) = some (.type "type"))
    (xsa_BadMachine : PySem.W.findIn K (.ref C_BadMachine) "__setattr__" = some (some (.builtin "object.__setattr__")))
    (xi0_BadMachine : PySem.W.findIn K (.ref C_BadMachine) "__init__" = some (some (.ref fi_BadMachine)))
    (xi1_BadMachine : PySem.W.typeIn K (.ref fi_BadMachine) = some (.type "function"))
    (xl_BadMachine : K.lookup fi_BadMachine = some ⟨foc_BadMachine, fod_BadMachine, .func (PySem.W.ksFn "__init__" "BadMachine.__init__" (defArgs s_BadMachine_init) (defBody s_BadMachine_init) (defScope s_BadMachine_init) .none fkV_BadMachine fdc_BadMachine fpm_BadMachine fan_BadMachine (.ref cda_BadMachine) fct_BadMachine cc_BadMachine), fsl_BadMachine⟩)
    (xc_BadMachine : PySem.W.codeIn K (.ref cda_BadMachine) "BadMachine.__init__" = true)
    (xn_BadMachine : PySem.W.findIn K (.ref C_BadMachine) "part" = some none)
    (xce_BadMachine : K.lookup cc_BadMachine = some ⟨cll_BadMachine, cld_BadMachine, .cell (some (.ref C_BadMachine)), csl_BadMachine⟩)
    (xco_BadMachine : K.lookup cda_BadMachine = some ⟨ccl_BadMachine, cdd_BadMachine, .fields cvs_BadMachine, ccs_BadMachine⟩)
    (xv_BadMachine : cvs_BadMachine[2]? = some (.str file_BadMachine tf_BadMachine))
    (xfi_BadMachine : ((l.prog.main.file : Str) == file_BadMachine) = true)
    (xup_BadMachine : PySem.W.ks_superIn K C_BadMachine C_BadMachine "__init__" = some (some (.builtin "ValueError.__init__")))
    (xsu_BadMachine : PySem.W.subIn K (.ref C_BadMachine) (.type "ValueError") = some true)
    (xow_BadMachine : PySem.W.mroIn K C_BadMachine (.ref C_BadMachine) = some true)
    (xga_BadMachine : PySem.W.findIn K (.ref C_BadMachine) "__getattribute__" = some (some (.builtin "BaseException.__getattribute__")))
    (xgb_BadMachine : PySem.W.findIn K (.ref C_BadMachine) "__getattr__" = some none)
    (xst : PySem.W.nsIn K cStatics "thirdparty.any" = some none)
    (xsp : PySem.W.nsIn K mainGlobals "super" = some none)
    (xtp : (l.prog.main.scope.names.lookup ("super" : Str)).isSome = false)
    (xi_BadMachine : PySem.W.isClsIn K C_BadMachine = true)
    (xe_BadMachine_BadMachine : PySem.W.subIn K (.ref C_BadMachine) (.ref C_BadMachine) = some true)
    : ∃ fd : FuncData, (∀ (s : Shared) (v : Value), BindsTo s fd ⟨[v], []⟩ [("_law_script", v)]) ∧ ∀ base : Heap, K.In base → base.Ns mainGlobals mg → FnOk l.prog w K mg base (L2.CX l.prog w) 7 fa fd ["_law_script"] (spL K) := by
  have e := hfa.symm.trans (PySem.W.mg_of X G a22)
  cases e
  let T : Txt l.prog K mg := {
    f_is_integer := ⟨_, _, fun_mk (st := s_is_integer) l0 c0 k0, PySem.W.mg_of X G a0, (fun_mk (st := s_is_integer) l0 c0 k0).binds (ps := ["thing"]) fun _ _ _ _ _ _ us hl => match us, hl with | [_], _ => rfl⟩
    f_is_within := ⟨_, _, fun_mk (st := s_is_within) l1 c1 k1, PySem.W.mg_of X G a1, (fun_mk (st := s_is_within) l1 c1 k1).binds (ps := ["thing", "least", "most"]) fun _ _ _ _ _ _ us hl => match us, hl with | [_, _, _], _ => rfl⟩
    f_is_pair := ⟨_, _, fun_mk (st := s_is_pair) l2 c2 k2, PySem.W.mg_of X G a2, (fun_mk (st := s_is_pair) l2 c2 k2).binds (ps := ["thing"]) fun _ _ _ _ _ _ us hl => match us, hl with | [_], _ => rfl⟩
    f_is_string_of := ⟨_, _, fun_mk (st := s_is_string_of) l3 c3 k3, PySem.W.mg_of X G a3, (fun_mk (st := s_is_string_of) l3 c3 k3).binds (ps := ["thing", "signs"]) fun _ _ _ _ _ _ us hl => match us, hl with | [_, _], _ => rfl⟩
    f_is_word := ⟨_, _, fun_mk (st := s_is_word) l4 c4 k4, PySem.W.mg_of X G a4, (fun_mk (st := s_is_word) l4 c4 k4).binds (ps := ["thing"]) fun _ _ _ _ _ _ us hl => match us, hl with | [_], _ => rfl⟩
    f_is_ascending := ⟨_, _, fun_mk (st := s_is_ascending) l5 c5 k5, PySem.W.mg_of X G a5, (fun_mk (st := s_is_ascending) l5 c5 k5).binds (ps := ["word"]) fun _ _ _ _ _ _ us hl => match us, hl with | [_], _ => rfl⟩
    f_is_rows := ⟨_, _, fun_mk (st := s_is_rows) l6 c6 k6, PySem.W.mg_of X G a6, (fun_mk (st := s_is_rows) l6 c6 k6).binds (ps := ["thing"]) fun _ _ _ _ _ _ us hl => match us, hl with | [_], _ => rfl⟩
    f_is_move := ⟨_, _, fun_mk (st := s_is_move) l7 c7 k7, PySem.W.mg_of X G a7, (fun_mk (st := s_is_move) l7 c7 k7).binds (ps := ["thing", "size"]) fun _ _ _ _ _ _ us hl => match us, hl with | [_, _], _ => rfl⟩
    f_are_moves := ⟨_, _, fun_mk (st := s_are_moves) l8 c8 k8, PySem.W.mg_of X G a8, (fun_mk (st := s_are_moves) l8 c8 k8).binds (ps := ["thing", "rows", "answers"]) fun _ _ _ _ _ _ us hl => match us, hl with | [_, _, _], _ => rfl⟩
    f_law_hand := ⟨_, _, fun_mk (st := s_law_hand) l9 c9 k9, PySem.W.mg_of X G a9, (fun_mk (st := s_law_hand) l9 c9 k9).binds (ps := ["_law_script"]) fun _ _ _ _ _ _ us hl => match us, hl with | [_], _ => rfl⟩
    f_law_draw := ⟨_, _, fun_mk (st := s_law_draw) l10 c10 k10, PySem.W.mg_of X G a10, (fun_mk (st := s_law_draw) l10 c10 k10).binds (ps := ["_law_hand_here", "_law_many"]) fun _ _ _ _ _ _ us hl => match us, hl with | [_, _], _ => rfl⟩
    f_law_rows := ⟨_, _, fun_mk (st := s_law_rows) l11 c11 k11, PySem.W.mg_of X G a11, (fun_mk (st := s_law_rows) l11 c11 k11).binds (ps := ["_law_hand_here", "_law_most"]) fun _ _ _ _ _ _ us hl => match us, hl with | [_, _], _ => rfl⟩
    f_law_line := ⟨_, _, fun_mk (st := s_law_line) l12 c12 k12, PySem.W.mg_of X G a12, (fun_mk (st := s_law_line) l12 c12 k12).binds (ps := ["_law_hand_here", "_law_answers", "_law_size", "_law_top"]) fun _ _ _ _ _ _ us hl => match us, hl with | [_, _, _, _], _ => rfl⟩
    f_law_world := ⟨_, _, fun_mk (st := s_law_world) l13 c13 k13, PySem.W.mg_of X G a13, (fun_mk (st := s_law_world) l13 c13 k13).binds (ps := ["_law_hand_here", "_law_most", "_law_size"]) fun _ _ _ _ _ _ us hl => match us, hl with | [_, _, _], _ => rfl⟩
    f_law_odd := ⟨_, _, fun_mk (st := s_law_odd) l14 c14 k14, PySem.W.mg_of X G a14, (fun_mk (st := s_law_odd) l14 c14 k14).binds (ps := ["_law_hand_here"]) fun _ _ _ _ _ _ us hl => match us, hl with | [_], _ => rfl⟩
    f_law_is_number := ⟨_, _, fun_mk (st := s_law_is_number) l15 c15 k15, PySem.W.mg_of X G a15, (fun_mk (st := s_law_is_number) l15 c15 k15).binds (ps := ["_law_thing", "_law_least", "_law_most"]) fun _ _ _ _ _ _ us hl => match us, hl with | [_, _, _], _ => rfl⟩
    f_law_are_rows := ⟨_, _, fun_mk (st := s_law_are_rows) l16 c16 k16, PySem.W.mg_of X G a16, (fun_mk (st := s_law_are_rows) l16 c16 k16).binds (ps := ["_law_thing"]) fun _ _ _ _ _ _ us hl => match us, hl with | [_], _ => rfl⟩
    f_law_are_moves := ⟨_, _, fun_mk (st := s_law_are_moves) l17 c17 k17, PySem.W.mg_of X G a17, (fun_mk (st := s_law_are_moves) l17 c17 k17).binds (ps := ["_law_thing", "_law_rows_here", "_law_answers"]) fun _ _ _ _ _ _ us hl => match us, hl with | [_, _, _], _ => rfl⟩
    f_law_due := ⟨_, _, fun_mk (st := s_law_due) l18 c18 k18, PySem.W.mg_of X G a18, (fun_mk (st := s_law_due) l18 c18 k18).binds (ps := ["_law_rows_here", "_law_answers", "_law_moves"]) fun _ _ _ _ _ _ us hl => match us, hl with | [_, _, _], _ => rfl⟩
    f_law_put := ⟨_, _, fun_mk (st := s_law_put) l19 c19 k19, PySem.W.mg_of X G a19, (fun_mk (st := s_law_put) l19 c19 k19).binds (ps := ["_law_things", "_law_at", "_law_thing"]) fun _ _ _ _ _ _ us hl => match us, hl with | [_, _, _], _ => rfl⟩
    f_law_spoiled_move := ⟨_, _, fun_mk (st := s_law_spoiled_move) l20 c20 k20, PySem.W.mg_of X G a20, (fun_mk (st := s_law_spoiled_move) l20 c20 k20).binds (ps := ["_law_hand_here", "_law_move", "_law_size"]) fun _ _ _ _ _ _ us hl => match us, hl with | [_, _, _], _ => rfl⟩
    f_law_spoiled_moves := ⟨_, _, fun_mk (st := s_law_spoiled_moves) l21 c21 k21, PySem.W.mg_of X G a21, (fun_mk (st := s_law_spoiled_moves) l21 c21 k21).binds (ps := ["_law_hand_here", "_law_moves"]) fun _ _ _ _ _ _ us hl => match us, hl with | [_, _], _ => rfl⟩
    f_law := ⟨_, _, fun_mk (st := s_law) l22 c22 k22, PySem.W.mg_of X G a22, (fun_mk (st := s_law) l22 c22 k22).binds (ps := ["_law_script"]) fun _ _ _ _ _ _ us hl => match us, hl with | [_], _ => rfl⟩
    f_Machine_init := ⟨_, _, fun_mk (st := s_Machine_init) l500 c500 k500, (fun_mk (st := s_Machine_init) l500 c500 k500).binds (ps := ["self", "rows", "answers", "moves"]) fun _ _ _ _ _ _ us hl => match us, hl with | [_, _, _, _], _ => rfl⟩
    m_Machine := ⟨mk_Machine, a500, i500, kc_Machine⟩
    f_Machine_keep := ⟨_, _, fun_mk (st := s_Machine_keep) l501 c501 k501, (fun_mk (st := s_Machine_keep) l501 c501 k501).binds (ps := ["self", "rows", "answers", "moves"]) fun _ _ _ _ _ _ us hl => match us, hl with | [_, _, _, _], _ => rfl⟩
    mt_Machine_keep := ⟨a501, i501, k501⟩
    o_Machine := o_Machine
    k_Machine := PySem.W.mg_of X G oa_Machine
    cl_Machine := ⟨pg_Machine, hd_Machine, po_Machine, sa_Machine⟩
    n_Machine_answers := n_Machine_answers
    n_Machine_kept_steps := n_Machine_kept_steps
    n_Machine_kept_webs := n_Machine_kept_webs
    n_Machine_moves := n_Machine_moves
    n_Machine_rows := n_Machine_rows
    n_Machine_size := n_Machine_size
    b_abs := PySem.W.mg_none_of X G z_abs
    b_all := PySem.W.mg_none_of X G z_all
    b_bool := PySem.W.mg_none_of X G z_bool
    b_enumerate := PySem.W.mg_none_of X G z_enumerate
    b_int := PySem.W.mg_none_of X G z_int
    b_isinstance := PySem.W.mg_none_of X G z_isinstance
    b_len := PySem.W.mg_none_of X G z_len
    b_list := PySem.W.mg_none_of X G z_list
    b_range := PySem.W.mg_none_of X G z_range
    b_str := PySem.W.mg_none_of X G z_str
    b_tuple := PySem.W.mg_none_of X G z_tuple
    b_zip := PySem.W.mg_none_of X G z_zip
    t_MOST_ANSWERS := t_MOST_ANSWERS
    c_MOST_ANSWERS := PySem.W.mg_of X G g_MOST_ANSWERS
    t_MOST_ROWS := t_MOST_ROWS
    c_MOST_ROWS := PySem.W.mg_of X G g_MOST_ROWS
    t_MOST_STANDINGS := t_MOST_STANDINGS
    c_MOST_STANDINGS := PySem.W.mg_of X G g_MOST_STANDINGS
    t_MOST_TICKS := t_MOST_TICKS
    c_MOST_TICKS := PySem.W.mg_of X G g_MOST_TICKS
    t_SMALL := t_SMALL
    c_SMALL := PySem.W.mg_of X G g_SMALL
    x_BadMachine := ⟨C_BadMachine, fi_BadMachine, _, PySem.W.mg_of X G xa_BadMachine, ⟨oex_cls kxq_BadMachine xh_BadMachine, xsa_BadMachine, xs_BadMachine, xt_BadMachine, xk_BadMachine⟩, xn_BadMachine, xi0_BadMachine, xi1_BadMachine, fun w base CX => fn_sup (k := 0) xl_BadMachine xc_BadMachine ⟨rfl, rfl, rfl, rfl, rfl, rfl, rfl, (supS_fr (by decide +kernel)).1, (supS_fr (by decide +kernel)).2, by decide, by decide, by decide⟩ rfl rfl rfl ⟨⟨oex_cls kxq_BadMachine xh_BadMachine, xsa_BadMachine, xs_BadMachine, xt_BadMachine, xk_BadMachine⟩, xn_BadMachine, ⟨_, _, _, xce_BadMachine⟩, ⟨_, _, _, _, _, _, xco_BadMachine, xv_BadMachine, xfi_BadMachine⟩, xup_BadMachine, xsu_BadMachine, xow_BadMachine, xst, PySem.W.mg_none_of X G xsp, xtp⟩ (fun env => ⟨_, rfl⟩), .all fun us hl => match us, hl with | [_, _], _ => rfl, ⟨xga_BadMachine, xgb_BadMachine, xs_BadMachine, xh_BadMachine⟩⟩
    e_BadMachine_BadMachine := exm_of xs_BadMachine xi_BadMachine xt_BadMachine xe_BadMachine_BadMachine
  }
  exact ⟨T.f_law.fd, fun s v => .of_eq rfl, fun base _ _ => (ok_law T).imp fun vs H Q E h => spL_of law_pure h⟩
theorem walk {l : PySem.W.OpenLaw} {q : Program} {loose : List Str} {XP : (Str → Option Value) → Heap → Prop} {YP : World → Heap → Prop} {d : DefRec} {K : Params → PySem.W.Frag} (hn : l.most = some 63) (hdf : d.params.defaults = [])
    (hY : ∀ (w : World) (h : Heap), YP w h → (K w.params).In h)
    (F : ∀ (w : World) (mg : Str → Option Value) (fa : Addr) (h : Heap), (K w.params).In h → h.Ns mainGlobals mg → mg d.name = some (.ref fa) →
      ∃ fd : FuncData, (∀ (s : Shared) (u : Value), BindsTo s fd ⟨[u], []⟩ [("_law_script", u)]) ∧ ∀ base : Heap, (K w.params).In base → base.Ns mainGlobals mg → FnOk l.prog w (K w.params) mg base (L2.CX l.prog w) 7 fa fd ["_law_script"] (spL (K w.params))) :
    PySem.W.WalkO q loose XP YP l.row.toRowW d [] (fun f vs => PySem.call f vs) :=
  L2.walk_of (n := 63) (k := 7) (x := "_law_script") (CX := fun w => L2.CX l.prog w) (sp := fun w => spL (K w.params)) hn (by decide) hdf ⟨rfl, by decide, by decide⟩ hY F (fun _ H a ns hl hO hS => ⟨a, ns, rfl, hl, hO, hS, fun _ => rfl⟩) fun _ _ _ _ _ z => law_cx z
end Lw
open PySem PySem.W PyProof.Rows
set_option maxRecDepth 100000 in
set_option maxHeartbeats 0 in
theorem PySem.Challenge.cw_stretchprices_k00_machines_judged_holds : PySem.Challenge.rw_stretchprices_k00_machines_judged.Holds := by
  w_on; o_law; k_head; (case hw => w_witness2)
  k_fill
  refine Lw.walk (l := PySem.Challenge.rw_stretchprices_k00_machines_judged) rfl rfl (fun w h Y => PySem.W.kIn_of Y) ?F
  case F =>
    intro w mg fa h KX G hmg
    refine' Lw.all_mk KX G hmg ?oa_Machine ?a0 ?l0 ?c0 ?k0 ?a1 ?l1 ?c1 ?k1 ?a2 ?l2 ?c2 ?k2 ?a3 ?l3 ?c3 ?k3 ?a4 ?l4 ?c4 ?k4 ?a5 ?l5 ?c5 ?k5 ?a6 ?l6 ?c6 ?k6 ?a7 ?l7 ?c7 ?k7 ?a8 ?l8 ?c8 ?k8 ?a9 ?l9 ?c9 ?k9 ?a10 ?l10 ?c10 ?k10 ?a11 ?l11 ?c11 ?k11 ?a12 ?l12 ?c12 ?k12 ?a13 ?l13 ?c13 ?k13 ?a14 ?l14 ?c14 ?k14 ?a15 ?l15 ?c15 ?k15 ?a16 ?l16 ?c16 ?k16 ?a17 ?l17 ?c17 ?k17 ?a18 ?l18 ?c18 ?k18 ?a19 ?l19 ?c19 ?k19 ?a20 ?l20 ?c20 ?k20 ?a21 ?l21 ?c21 ?k21 ?a22 ?l22 ?c22 ?k22 ?a500 ?l500 ?c500 ?k500 ?i500 ?a501 ?l501 ?c501 ?k501 ?i501 ?pg_Machine ?hd_Machine ?po_Machine ?sa_Machine ?mk_Machine ?kc_Machine ?n_Machine_answers ?n_Machine_kept_steps ?n_Machine_kept_webs ?n_Machine_moves ?n_Machine_rows ?n_Machine_size ?z_abs ?z_all ?z_bool ?z_enumerate ?z_int ?z_isinstance ?z_len ?z_list ?z_range ?z_str ?z_tuple ?z_zip ?g_MOST_ANSWERS ?g_MOST_ROWS ?g_MOST_STANDINGS ?g_MOST_TICKS ?g_SMALL ?xa_BadMachine ?kxq_BadMachine ?xh_BadMachine ?xk_BadMachine ?xs_BadMachine ?xt_BadMachine ?xsa_BadMachine ?xi0_BadMachine ?xi1_BadMachine ?xl_BadMachine ?xc_BadMachine ?xn_BadMachine ?xce_BadMachine ?xco_BadMachine ?xv_BadMachine ?xfi_BadMachine ?xup_BadMachine ?xsu_BadMachine ?xow_BadMachine ?xga_BadMachine ?xgb_BadMachine ?xst ?xsp ?xtp ?xi_BadMachine ?xe_BadMachine_BadMachine
    (case oa_Machine => first | k_is | rfl)
    (case a0 => first | k_is | rfl)
    (case l0 => first | k_is | rfl)
    (case c0 => first | k_is | rfl)
    (case k0 => first | k_is | rfl)
    (case a1 => first | k_is | rfl)
    (case l1 => first | k_is | rfl)
    (case c1 => first | k_is | rfl)
    (case k1 => first | k_is | rfl)
    (case a2 => first | k_is | rfl)
    (case l2 => first | k_is | rfl)
    (case c2 => first | k_is | rfl)
    (case k2 => first | k_is | rfl)
    (case a3 => first | k_is | rfl)
    (case l3 => first | k_is | rfl)
    (case c3 => first | k_is | rfl)
    (case k3 => first | k_is | rfl)
    (case a4 => first | k_is | rfl)
    (case l4 => first | k_is | rfl)
    (case c4 => first | k_is | rfl)
    (case k4 => first | k_is | rfl)
    (case a5 => first | k_is | rfl)
    (case l5 => first | k_is | rfl)
    (case c5 => first | k_is | rfl)
    (case k5 => first | k_is | rfl)
    (case a6 => first | k_is | rfl)
    (case l6 => first | k_is | rfl)
    (case c6 => first | k_is | rfl)
    (case k6 => first | k_is | rfl)
    (case a7 => first | k_is | rfl)
    (case l7 => first | k_is | rfl)
    (case c7 => first | k_is | rfl)
    (case k7 => first | k_is | rfl)
    (case a8 => first | k_is | rfl)
    (case l8 => first | k_is | rfl)
    (case c8 => first | k_is | rfl)
    (case k8 => first | k_is | rfl)
    (case a9 => first | k_is | rfl)
    (case l9 => first | k_is | rfl)
    (case c9 => first | k_is | rfl)
    (case k9 => first | k_is | rfl)
    (case a10 => first | k_is | rfl)
    (case l10 => first | k_is | rfl)
    (case c10 => first | k_is | rfl)
    (case k10 => first | k_is | rfl)
    (case a11 => first | k_is | rfl)
    (case l11 => first | k_is | rfl)
    (case c11 => first | k_is | rfl)
    (case k11 => first | k_is | rfl)
    (case a12 => first | k_is | rfl)
    (case l12 => first | k_is | rfl)
    (case c12 => first | k_is | rfl)
    (case k12 => first | k_is | rfl)
    (case a13 => first | k_is | rfl)
    (case l13 => first | k_is | rfl)
    (case c13 => first | k_is | rfl)
    (case k13 => first | k_is | rfl)
    (case a14 => first | k_is | rfl)
    (case l14 => first | k_is | rfl)
    (case c14 => first | k_is | rfl)
    (case k14 => first | k_is | rfl)
    (case a15 => first | k_is | rfl)
    (case l15 => first | k_is | rfl)
    (case c15 => first | k_is | rfl)
    (case k15 => first | k_is | rfl)
    (case a16 => first | k_is | rfl)
    (case l16 => first | k_is | rfl)
    (case c16 => first | k_is | rfl)
    (case k16 => first | k_is | rfl)
    (case a17 => first | k_is | rfl)
    (case l17 => first | k_is | rfl)
    (case c17 => first | k_is | rfl)
    (case k17 => first | k_is | rfl)
    (case a18 => first | k_is | rfl)
    (case l18 => first | k_is | rfl)
    (case c18 => first | k_is | rfl)
    (case k18 => first | k_is | rfl)
    (case a19 => first | k_is | rfl)
    (case l19 => first | k_is | rfl)
    (case c19 => first | k_is | rfl)
    (case k19 => first | k_is | rfl)
    (case a20 => first | k_is | rfl)
    (case l20 => first | k_is | rfl)
    (case c20 => first | k_is | rfl)
    (case k20 => first | k_is | rfl)
    (case a21 => first | k_is | rfl)
    (case l21 => first | k_is | rfl)
    (case c21 => first | k_is | rfl)
    (case k21 => first | k_is | rfl)
    (case a22 => first | k_is | rfl)
    (case l22 => first | k_is | rfl)
    (case c22 => first | k_is | rfl)
    (case k22 => first | k_is | rfl)
    (case a500 => first | k_is | rfl)
    (case l500 => first | k_is | rfl)
    (case c500 => first | k_is | rfl)
    (case k500 => first | k_is | rfl)
    (case i500 => first | k_is | rfl)
    (case a501 => first | k_is | rfl)
    (case l501 => first | k_is | rfl)
    (case c501 => first | k_is | rfl)
    (case k501 => first | k_is | rfl)
    (case i501 => first | k_is | rfl)
    (case pg_Machine => first | k_is | rfl)
    (case hd_Machine => first | k_is | rfl)
    (case po_Machine => first | k_is | rfl)
    (case sa_Machine => first | k_is | rfl)
    (case mk_Machine => first | k_is | rfl)
    (case kc_Machine => first | k_is | rfl)
    (case n_Machine_answers => first | k_is | rfl)
    (case n_Machine_kept_steps => first | k_is | rfl)
    (case n_Machine_kept_webs => first | k_is | rfl)
    (case n_Machine_moves => first | k_is | rfl)
    (case n_Machine_rows => first | k_is | rfl)
    (case n_Machine_size => first | k_is | rfl)
    (case z_abs => first | k_is | rfl)
    (case z_all => first | k_is | rfl)
    (case z_bool => first | k_is | rfl)
    (case z_enumerate => first | k_is | rfl)
    (case z_int => first | k_is | rfl)
    (case z_isinstance => first | k_is | rfl)
    (case z_len => first | k_is | rfl)
    (case z_list => first | k_is | rfl)
    (case z_range => first | k_is | rfl)
    (case z_str => first | k_is | rfl)
    (case z_tuple => first | k_is | rfl)
    (case z_zip => first | k_is | rfl)
    (case g_MOST_ANSWERS => first | k_is | rfl)
    (case g_MOST_ROWS => first | k_is | rfl)
    (case g_MOST_STANDINGS => first | k_is | rfl)
    (case g_MOST_TICKS => first | k_is | rfl)
    (case g_SMALL => first | k_is | rfl)
    (case xa_BadMachine => first | k_is | rfl)
    (case kxq_BadMachine => kx_is)
    (case xh_BadMachine => first | k_is | rfl)
    (case xk_BadMachine => first | k_is | rfl)
    (case xs_BadMachine => first | k_is | rfl)
    (case xt_BadMachine => first | k_is | rfl)
    (case xsa_BadMachine => first | k_is | rfl)
    (case xi0_BadMachine => first | k_is | rfl)
    (case xi1_BadMachine => first | k_is | rfl)
    (case xl_BadMachine => first | k_is | rfl)
    (case xc_BadMachine => first | k_is | rfl)
    (case xn_BadMachine => first | k_is | rfl)
    (case xce_BadMachine => first | k_is | rfl)
    (case xco_BadMachine => first | k_is | rfl)
    (case xv_BadMachine => first | k_is | rfl)
    (case xfi_BadMachine => first | k_is | rfl)
    (case xup_BadMachine => first | k_is | rfl)
    (case xsu_BadMachine => first | k_is | rfl)
    (case xow_BadMachine => first | k_is | rfl)
    (case xga_BadMachine => first | k_is | rfl)
    (case xgb_BadMachine => first | k_is | rfl)
    (case xst => first | k_is | rfl)
    (case xsp => first | k_is | rfl)
    (case xtp => first | k_is | rfl)
    (case xi_BadMachine => first | k_is | rfl)
    (case xe_BadMachine_BadMachine => first | k_is | rfl)
#print axioms PySem.Challenge.cw_stretchprices_k00_machines_judged_holds
