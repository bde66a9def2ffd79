import PyProof.Rows.All
import HandS.TupLen
import Wide.All
import OpenK.AllK
import Wide.FinOn
import HandS.ForMost
import HandS.ForExc
import HandS.Wide
import HandS.TryMany
import HandS.IsInst
import HandS.TupAny
import HandS.Walk
import HandS.Conv
import HandS.Small
import HandS.CallSlots
import HandS.FStr
import HandS.Zip
import HandS.DictComp
import KE.GoesEnum
import KE.KStrOpen
import PyProof.Rows.SortShellAny
import KE.GoesZip
import HandS.ExcIs
import HandS.Exc
import PySem.Challenge.RW_stretchprices_k14_whole_prices_of_codes
set_option Elab.async false
set_option linter.all false
set_option maxRecDepth 100000
set_option maxHeartbeats 4000000


/-! ## G1: operators that look at their values, data, heaps that grow -/
namespace L2
open PySem PySem.Spec PyProof.Rows
section
variable {X : Cx}
theorem PSet.or {t t' : TSet} (h : PSet X t) (h' : PSet X t') : PSet X (fun o i v H Q => t o i v H Q ∨ t' o i v H Q) := by
  intro pins s σ H o i v ov iv u Q I r1 r2 r3 q
  rcases q with q | q
  · exact h pins s σ H o i v ov iv u Q I r1 r2 r3 q
  · exact h' pins s σ H o i v ov iv u Q I r1 r2 r3 q
theorem PIp.or {op : Operator} {t t' : TIp} (h : PIp X op t) (h' : PIp X op t') : PIp X op (fun x y H Q => t x y H Q ∨ t' x y H Q) := by
  intro pins s σ H x y v u Q I r1 r2 q
  rcases q with q | q
  · exact h pins s σ H x y v u Q I r1 r2 q
  · exact h' pins s σ H x y v u Q I r1 r2 q

/-! ### subscripts -/
def rIxdU : R2 := fun x y H Q => ∃ a w, x = .ref a ∧ DGet H a y (some w) ∧ Q w H
theorem ix_dictU (hu : X.A.units + 1 < cLine) : IxR X rIxdU := by
  intro value slice pins s σ H x y v u Q I rx ry h hs
  obtain ⟨a, w, rfl, g, q⟩ := h
  cases rx
  exact tail_any (dict_typeIs I g) PySem.F.slot_dict_getitem.lookup (d_getItem hu I g ry fun w' s' I' rw' => ⟨w, H, I', rw', q⟩) hs
def rIxU (K : PySem.W.Frag) : R2 := fun x y H Q => rIx K x y H Q ∨ rIxdU x y H Q
theorem ix_U {K : PySem.W.Frag} (hu : X.A.units + 1 < cLine) (hK : X.K = K := by rfl) : IxR X (rIxU K) := hK ▸ ix_seq.or (ix_dictU hu)
def rSetU : TSet := fun o i v H Q => rSetL o i v H Q ∨ rSetD o i v H Q
theorem set_U (hu : X.A.units + 1 < cLine) : PSet X rSetU := set_list.or (set_dict hu)
def rSlU (K : PySem.W.Frag) : V → Option Int → Option Int → Hp → VK → Prop := fun x lo hi H Q => rSlL K x lo hi H Q ∨ (rSlA K x lo hi H Q ∨ rSlS x lo hi H Q)
theorem sl_U {K : PySem.W.Frag} (hK : X.K = K := by rfl) : SlR X (rSlU K) := hK ▸ sl_list.or (sl_tupA.or sl_str)

/-- a display, indexed: opened as one -/
def tOpP (r : R2) (ta tb : TE) : TE := tOp r ta tb
theorem pe_P {e : Expr} {r : R2} {ta tb : TE} (h : PE X e (tOp r ta tb)) : PE X e (tOpP r ta tb) := h
/-- the class C, or one above -/
theorem exm_of {K : PySem.W.Frag} {C D : Addr} {b : Bool} (h1 : PySem.W.subIn K (.ref D) (.type "BaseException") = some true) (h2 : PySem.W.isClsIn K D = true) (h3 : PySem.W.typeIn K (.ref D) = some (.type "type")) (h4 : PySem.W.subIn K (.ref C) (.ref D) = some b) :
    PySem.W.exmOne K (.ref C) (.ref D) = some b := by
  have e1 : (PySem.W.subIn K (.ref D) (.type "BaseException") == some true) = true := by rw [h1] <;> rfl
  have e2 : ((PySem.W.clsIn K D).isSome && PySem.W.typeIn K (.ref D) == some (.type "type")) = true := by
    have h2' : (PySem.W.clsIn K D).isSome = true := h2
    rw [h2', h3] <;> rfl
  show (if (PySem.W.subIn K (.ref D) (.type "BaseException") == some true) = true then (if ((PySem.W.clsIn K D).isSome && PySem.W.typeIn K (.ref D) == some (.type "type")) = true then PySem.W.subIn K (.ref C) (.ref D) else none) else none) = some b
  rw [if_pos e1, if_pos e2]
  exact h4
/-! ### operators -/
def rAddS : R2 := fun x y H Q => ∃ i j, x = .str i ∧ y = .str j ∧ i.length + j.length ≤ sizeLine ∧ Q (.str (i ++ j)) H
def rAddU (K : PySem.W.Frag) : R2 := fun x y H Q => rI0 (fun i j => .int (i + j)) x y H Q ∨ (rAddS x y H Q ∨ (rCat x y H Q ∨ rCatA K x y H Q))
theorem op_addU {K : PySem.W.Frag} (hK : X.K = K := by rfl) : OpR X (binaryOp .Add) (rAddU K) := hK ▸ op_add.or (OpR.or (r := rAddS) op_add_str (op_cat.or op_catA))
def rMulU : R2 := fun x y H Q => rI CMul (fun i j => .int (i * j)) x y H Q ∨ (rI CMulW (fun i j => .int (i * j)) x y H Q ∨ rRep x y H Q)
theorem op_mulU : OpR X (binaryOp .Mult) rMulU := op_mul.or (op_mulW.or op_rep)
def rModU : R2 := fun x y H Q => rI (fun _ j => 0 < j) (fun i j => .int (i % j)) x y H Q ∨ rI (fun _ j => j ≠ 0) (fun i j => .int (i.fmod j)) x y H Q
theorem op_modU : OpR X (binaryOp .Mod) rModU := op_mod.or op_modN
def rFdivU : R2 := fun x y H Q => rI CDiv (fun i j => .int (i / j)) x y H Q ∨ (rI CDivN (fun i j => .int (i.fdiv j)) x y H Q ∨ rI CDivW (fun i j => .int (i / j)) x y H Q)
theorem op_fdivU : OpR X (binaryOp .FloorDiv) rFdivU := op_fdiv.or (op_fdivN.or op_fdivW)
def rEqU (K : PySem.W.Frag) : R2 := fun x y H Q => rEq x y H Q ∨ rEqD K x y H Q
def rNeU (K : PySem.W.Frag) : R2 := fun x y H Q => rNe x y H Q ∨ rNeD K x y H Q
theorem op_eqU {K : PySem.W.Frag} (_ : X.A.units + 1 < cLine) (hu : X.A.units + 64 < cLine) (hK : X.K = K := by rfl) : OpR X (compareOp .Eq) (rEqU K) := hK ▸ op_eq.or (op_eqD hu)
theorem op_neU {K : PySem.W.Frag} (_ : X.A.units + 1 < cLine) (hu : X.A.units + 64 < cLine) (hK : X.K = K := by rfl) : OpR X (compareOp .NotEq) (rNeU K) := hK ▸ op_ne.or (op_neD hu)
def rCmpS (f : Str → Str → Bool) : R2 := fun x y H Q => ∃ i j, x = .str i ∧ y = .str j ∧ Q (.bl (f i j)) H
def rLtU : R2 := fun x y H Q => rI0 (fun i j => .bl (decide (i < j))) x y H Q ∨ rCmpS (fun i j => decide (i.cps.toList < j.cps.toList)) x y H Q
def rLeU : R2 := fun x y H Q => rI0 (fun i j => .bl (decide (i ≤ j))) x y H Q ∨ rCmpS (fun i j => !decide (j.cps.toList < i.cps.toList)) x y H Q
def rGtU : R2 := fun x y H Q => rI0 (fun i j => .bl (decide (j < i))) x y H Q ∨ rCmpS (fun i j => decide (j.cps.toList < i.cps.toList)) x y H Q
def rGeU : R2 := fun x y H Q => rI0 (fun i j => .bl (decide (j ≤ i))) x y H Q ∨ rCmpS (fun i j => !decide (i.cps.toList < j.cps.toList)) x y H Q
theorem op_ltU : OpR X (compareOp .Lt) rLtU := op_lt.or op_lt_str
theorem op_leU : OpR X (compareOp .LtE) rLeU := op_le.or op_le_str
theorem op_gtU : OpR X (compareOp .Gt) rGtU := op_gt.or op_gt_str
theorem op_geU : OpR X (compareOp .GtE) rGeU := op_ge.or op_ge_str
def rDInU (neg : Bool) : R2 := fun y x H Q => ∃ a o, x = .ref a ∧ DGet H a y o ∧ Q (.bl (if neg then !o.isSome else o.isSome)) H
theorem op_inDictU (hu : X.A.units + 1 < cLine) : OpR X (compareOp .In) (rDInU false) := by
  intro pins s σ H x y v u Q I rx ry h
  obtain ⟨a, o, rfl, g, q⟩ := h
  cases ry
  exact d_in hu I g rx fun s' I' => ⟨.bl o.isSome, H, I', rfl, q⟩
theorem op_notInDictU (hu : X.A.units + 1 < cLine) : OpR X (compareOp .NotIn) (rDInU true) := by
  intro pins s σ H x y v u Q I rx ry h
  obtain ⟨a, o, rfl, g, q⟩ := h
  cases ry
  exact d_notIn hu I g rx fun s' I' => ⟨.bl (!o.isSome), H, I', rfl, q⟩
def rSignIn (neg : Bool) : R2 := fun x y H Q => ∃ (c : Nat) (z : Str), x = .str ⟨#[c]⟩ ∧ y = .str z ∧ Q (.bl (if neg then !decide (c ∈ z.cps.toList) else decide (c ∈ z.cps.toList))) H
theorem op_inSign : OpR X (compareOp .In) (rSignIn false) := op_in_sign
theorem op_notInSign : OpR X (compareOp .NotIn) (rSignIn true) := op_notIn_sign
def rInU (K : PySem.W.Frag) (neg : Bool) : R2 := fun x y H Q => rSignIn neg x y H Q ∨ (rIn K neg x y H Q ∨ rDInU neg x y H Q)
theorem op_inU {K : PySem.W.Frag} (hu : X.A.units + 1 < cLine) (_ : X.A.units + 64 < cLine) (hK : X.K = K := by rfl) : OpR X (compareOp .In) (rInU K false) := hK ▸ op_inSign.or (op_in_seq.or (op_inDictU hu))
theorem op_notInU {K : PySem.W.Frag} (hu : X.A.units + 1 < cLine) (_ : X.A.units + 64 < cLine) (hK : X.K = K := by rfl) : OpR X (compareOp .NotIn) (rInU K true) := hK ▸ op_notInSign.or (op_notIn_seq.or (op_notInDictU hu))
def ipAddU : R2 := fun x y H Q => ipI (fun i j => i + j) x y H Q ∨ rAddS x y H Q
theorem ip_addU : PIp X .Add ipAddU := ip_add.or fun pins s σ H x y v u Q I rx ry h => iop_add_str pins s σ H x y v u Q I rx ry h
theorem ip_subU : PIp X .Sub (ipI fun i j => i - j) := ip_sub

/-! ### fields, pairs -/
theorem pe_fldU {K : PySem.W.Frag} {e : Expr} {f : Str} {pos : Pos} {ta : TE} (he : PE X e ta) (hb : attributeBase e f X.env (eval e X.env) = eval e X.env) (hK : X.K = K := by rfl) : PE X (.Attribute e f pos) (tFld K ta f) := hK ▸ pe_fld he hb
theorem ps_fldU {K : PySem.W.Frag} {o value : Expr} {f : Str} {pos pos' : Pos} {ta tv : TE} (ha : PE X o ta) (hv : PE X value tv) (hs : swapsWith value (some (.Attribute o f pos')) pos.line X.env = pure false) (hK : X.K = K := by rfl) : PS X (.Assign [.Attribute o f pos'] value pos) (sFld K ta tv f) := hK ▸ ps_fld ha hv hs
theorem pg_tupU {K : PySem.W.Frag} {es : List Expr} {k : Nat} {pos : Pos} {t : TGs} {n : Nat} (hc : X.calm = true) (h : PGs X es t) (hn : (assignEach es X.env).length = n := by rfl) (hst : (assignEach es X.env).findIdx? (·.1) = none := by rfl) (hK : X.K = K := by rfl) : PG X (.Tuple es k pos) (gTup K n t) := hK ▸ pg_tup hc h hn hst
/-! ### calls of built-ins -/
def rLenU (K : PySem.W.Frag) : List V → Hp → VK → Prop := fun xs H Q => (∃ x n, xs = [x] ∧ LenV K x H n ∧ Q (.int n) H) ∨ ∃ a kvs, xs = [V.ref a] ∧ H a = some (.dK kvs) ∧ Q (.int kvs.length) H
theorem call_lenU {K : PySem.W.Frag} (hK : X.K = K := by rfl) : CallR X (.builtin "len") (rLenU K) := hK ▸ call_len.or call_lenD
def rIsiU (K : PySem.W.Frag) : List V → Hp → VK → Prop := fun xs H Q => rIsi K xs H Q ∨ rIsiT K xs H Q
theorem call_isiU {K : PySem.W.Frag} (hK : X.K = K := by rfl) : CallR X (.builtin "isinstance") (rIsiU K) := hK ▸ call_isi.or call_isiT
def rIntU : List V → Hp → VK → Prop := fun xs H Q => (∃ i, xs = [.int i] ∧ Q (.int i) H) ∨ ∃ k, xs = [.bl k] ∧ Q (.int (if k then 1 else 0)) H
theorem call_intU : CallR X (.type "int") rIntU := call_int1
def rBoolU : List V → Hp → VK → Prop := fun xs H Q => (∃ i, xs = [.int i] ∧ Q (.bl (i != 0)) H) ∨ ∃ k, xs = [.bl k] ∧ Q (.bl k) H
theorem call_boolU : CallR X (.type "bool") rBoolU := call_bool1
def rStrU : List V → Hp → VK → Prop := fun xs H Q => ∃ i, xs = [.int i] ∧ i.natAbs.log2 < 1920 ∧ Q (.str (toString i)) H
theorem call_strU : CallR X (.type "str") rStrU := call_str_int
def rTupleU (K : PySem.W.Frag) : List V → Hp → VK → Prop := fun xs H Q => ∃ p ys, xs = [.ref p] ∧ ((SqL K H p ys ∧ ∀ l, H l = none → Q (.ref l) (upd H l (.tup ys))) ∨ (SqT K H p ys ∧ Q (.ref p) H))
theorem call_tupleU {K : PySem.W.Frag} (hK : X.K = K := by rfl) : CallR X (.type "tuple") (rTupleU K) := hK ▸ call_tuple_of
def rAbsU : List V → Hp → VK → Prop := fun xs H Q => ∃ i, xs = [.int i] ∧ Q (.int (if i < 0 then -i else i)) H
theorem call_absU : CallR X (.builtin "abs") rAbsU := call_abs
def rUpperU : V → List V → Hp → VK → Prop := fun x xs H Q => ∃ a, x = .str a ∧ xs = [] ∧ a.length ≤ 5592405 ∧ Q (.str (Txt.upper a)) H
theorem mt_upperU : MtR X "str.upper" rUpperU := mt_upper
def rStartU : V → List V → Hp → VK → Prop := fun x xs H Q => ∃ a b, x = .str a ∧ xs = [.str b] ∧ Q (.bl (Txt.startswith a b)) H
theorem mt_startswithU : MtR X "str.startswith" rStartU := mt_startswith
def rFindU : V → List V → Hp → VK → Prop := fun x xs H Q => ∃ a b, x = .str a ∧ xs = [.str b] ∧ Q (.int (Txt.find a b)) H
theorem mt_findU : MtR X "str.find" rFindU := mt_find
def rCountU : V → List V → Hp → VK → Prop := fun x xs H Q => ∃ a b, x = .str a ∧ xs = [.str b] ∧ Q (.int (Txt.count a b)) H
theorem mt_countU : MtR X "str.count" rCountU := mt_count
def rJoinU (K : PySem.W.Frag) : V → List V → Hp → VK → Prop := fun x xs H Q => ∃ a p, ∃ ys : List Str, x = .str a ∧ xs = [.ref p] ∧ (SqL K H p (ys.map V.str) ∨ SqT K H p (ys.map V.str)) ∧
  (ys.map (·.length)).sum + ys.length * a.length ≤ 16777216 ∧ Q (.str (Txt.join a ys)) H
theorem pe_joinU {K : PySem.W.Frag} {o e : Expr} {to te : TE} {apos pos : Pos} (ho : PE X o to) (he : PE X e te) (hK : X.K = K := by rfl) (hs : starEach [e] X.env = [(false, eval e X.env)] := by rfl) (hbase : attributeBase o "join" X.env (eval o X.env) = eval o X.env := by rfl) (hline : (apos.endLine == pos.line) = true := by rfl) :
    PE X (.Call (.Attribute o "join" apos) [e] [] pos) (tM1 (rJoinU K) to te) := hK ▸ pe_join ho he hs hbase hline
theorem pe_bmU {K : PySem.W.Frag} {T : String} {name : Str} {id : String} {r : V → List V → Hp → VK → Prop} {o e : Expr} {es : List Expr} {to : TE} {t : TA} {apos cpos : Pos} (pa : PlainAttrs T) (slot : Slot T name id) (hty : typeOf (.builtin id) = pure (.type "method_descriptor")) (hm : MtR X id r) (ho : PE X o to) (ha : PA X (e :: es) t) (hK : X.K = K := by rfl)
    (hbase : attributeBase o name X.env (eval o X.env) = eval o X.env := by rfl)
    (hfew : ((backTo cpos (starEach (e :: es) X.env)).all (fun x => !x.1) && (backToKw cpos (keywordEach [] X.env)).all (fun x => x.1.isSome)
      && decide ((e :: es).length + ([] : List Keyword).length + (if ([] : List Keyword).isEmpty then 0 else 1) < 30)) = true := by rfl)
    (hline : (apos.endLine == cpos.line) = true := by rfl) (hs : starEach (e :: es) X.env = (false, eval e X.env) :: starEach es X.env := by rfl) (hplain : (backTo cpos (starEach es X.env)).any (·.1) = false := by rfl) :
    PE X (.Call (.Attribute o name apos) (e :: es) [] cpos) (tBM K T r to t) := hK ▸ pe_bm pa slot hty hm ho ha hbase hfew hline hs hplain
theorem pe_bm0U {K : PySem.W.Frag} {T : String} {name : Str} {id : String} {r : V → List V → Hp → VK → Prop} {o : Expr} {to : TE} {apos cpos : Pos} (pa : PlainAttrs T) (slot : Slot T name id) (hty : typeOf (.builtin id) = pure (.type "method_descriptor")) (hm : MtR X id r) (ho : PE X o to) (hK : X.K = K := by rfl)
    (hbase : attributeBase o name X.env (eval o X.env) = eval o X.env := by rfl) (hline : (apos.endLine == cpos.line) = true := by rfl) : PE X (.Call (.Attribute o name apos) [] [] cpos) (tBM0 K T r to) := hK ▸ pe_bm0 pa slot hty hm ho hbase hline
theorem paired_of {α β : Type} {R : α → β → Prop} : ∀ {l : List α} {m : List β}, l.length = m.length → (∀ (j : Nat) x u, l[j]? = some x → m[j]? = some u → R x u) → Paired R l m
  | [], [], _, _ => .nil
  | x :: l, u :: m, h, q => .cons (q 0 x u rfl rfl) (paired_of (by simpa using h) fun j x u h1 h2 => q (j + 1) x u (by simpa using h1) (by simpa using h2))
  | [], _ :: _, h, _ => by simp at h
  | _ :: _, [], h, _ => by simp at h
/-- list(text) -/
def rListS : List V → Hp → VK → Prop := fun xs H Q => ∃ z : Str, xs = [.str z] ∧ z.length ≤ sizeLine ∧ ∀ p, H p = none → Q (.ref p) (upd H p (.lst (z.cps.toList.map fun c => V.str ⟨#[c]⟩)))
theorem call_listS (hc : X.calm = true := by rfl) : CallR X (.type "list") rListS := by
  intro pins s σ H xs us Q I r h
  obtain ⟨z, rfl, hz, q⟩ := h
  obtain ⟨u, rfl, rx⟩ := vals1 r
  obtain ⟨t, rfl⟩ := rx
  refine call_list_str (I.ok.hd hc) z t (hn := hz) fun h' tk acc' c' hk hS' hacc => ?_
  have hv : Vals (z.cps.toList.map fun c => V.str ⟨#[c]⟩) acc'.toList := by
    refine paired_of (by simp [hacc.1]) fun j x u hx hu => ?_
    rw [List.getElem?_map] at hx
    obtain ⟨c, u2, hc2, rfl⟩ := hacc.2 j u (by simpa using hu)
    have hc3 : z.cps.toList[j]? = some c := by simpa using hc2
    rw [hc3] at hx
    cases hx
    exact ⟨u2, rfl⟩
  exact ⟨.ref s.heap.objs.size, _, I.laid (t' := tk) hk (Nat.le_refl _) (show ObjOk X.prog X.w _ h' _ (.lst _) from ⟨by rw [List.length_map]; exact hz, acc'.toList, c', hv, hS'⟩), rfl, q _ (I.hok.fresh (Nat.le_refl _))⟩
def rListU (K : PySem.W.Frag) : List V → Hp → VK → Prop := fun xs H Q => (∃ p ys, xs = [.ref p] ∧ (SqL K H p ys ∨ SqT K H p ys) ∧ ∀ l, H l = none → Q (.ref l) (upd H l (.lst ys))) ∨ (rListD xs H Q ∨ rListS xs H Q)
theorem call_listU {K : PySem.W.Frag} (hK : X.K = K := by rfl) (hc : X.calm = true := by rfl) : CallR X (.type "list") (rListU K) := hK ▸ call_list_of.or ((call_list_dK hc).or (call_listS hc))
/-- sorted of texts, of any number -/
def rSortedSA (K : PySem.W.Frag) : List V → Hp → VK → Prop := fun vs H Q => ∃ (a : Addr) (xs : List Str), vs = [V.ref a] ∧ SqL K H a (xs.map V.str) ∧
  ∀ (p : Addr) (ys : List Str), H p = none → ys.Perm xs → PyProof.Rows.sortedS ys = true → Q (.ref p) (upd H p (.lst (ys.map V.str)))
theorem cr_sortedSA : CallR X (.builtin "sorted") (rSortedSA X.K) := by
  intro pins s σ H vs us Q I r h
  obtain ⟨a, xs, rfl, hs, q⟩ := h
  obtain ⟨its, rv, hl, hz⟩ := I.list hs
  rw [Vals.ref1 r]
  refine PyProof.Rows.sorted_strsAny hl.isList rv.strs (by rw [← rv.length]; exact hz) fun out ys h1 h2 h3 => ?_
  obtain ⟨ep, he'⟩ := PyProof.Rows.sortedAll_at s.heap its out
  have hlen : (ys.map V.str).length ≤ sizeLine := by
    rw [List.length_map, h2.length_eq]
    rw [List.length_map] at hz
    exact hz
  exact ⟨.ref _, upd H (s.heap.objs.size + 1) (.lst (ys.map V.str)), I.laid (t' := s.toks) (fun _ _ => PyProof.Rows.sortedAll_old) (Nat.le_succ _) ⟨hlen, out.toList, ep, vals_of_strs h1, he'⟩, rfl, q _ ys (I.hok.fresh (Nat.le_succ _)) h2 h3⟩
def rSortedU (K : PySem.W.Frag) : List V → Hp → VK → Prop := fun vs H Q => rSortedSA K vs H Q
theorem cr_sortedU {K : PySem.W.Frag} (hK : X.K = K := by rfl) : CallR X (.builtin "sorted") (rSortedU K) := hK ▸ cr_sortedSA
theorem cr_allU {K : PySem.W.Frag} (hK : X.K = K := by rfl) (hc : X.calm = true := by rfl) : CallR X (.builtin "all") (rAll K) := hK ▸ cr_all hc
theorem cr_anyU {K : PySem.W.Frag} (hK : X.K = K := by rfl) (hc : X.calm = true := by rfl) : CallR X (.builtin "any") (rAny K) := hK ▸ cr_any hc
theorem cr_sumU {K : PySem.W.Frag} (hK : X.K = K := by rfl) (hc : X.calm = true := by rfl) : CallR X (.builtin "sum") (rSum K) := hK ▸ cr_sum hc

/-! ### what is walked: a list, a tuple, a text -/
def iU (K : PySem.W.Frag) (te : TE) : TI := fun σ H R => te σ H fun v H1 => (∃ a, v = .ref a ∧ (∃ xs, SqL K H1 a xs) ∧ R (Itl K a) H1) ∨ ((∃ a, v = .ref a ∧ (∃ xs, SqT K H1 a xs) ∧ R (Itt K a) H1) ∨ ∃ x, v = .str x ∧ R (Its x) H1)
theorem pi_U {K : PySem.W.Frag} {tg l : Expr} {tl : TE} (hl : PE X l tl) (hK : X.K = K := by rfl) : PI X tg l (iU K tl) := by
  subst hK
  refine ⟨fun pins s σ H R I h => ?_⟩
  refine thn (hl.run pins s σ H _ I h) fun v s1 ⟨x, H1, I1, r1, q1⟩ => ?_
  rcases q1 with ⟨a, e, ⟨xs, hq⟩, q⟩ | ⟨a, e, ⟨xs, hq⟩, q⟩ | ⟨z, e, q⟩
  · subst e
    cases r1
    obtain ⟨its, rv, p, hz⟩ := I1.list hq
    refine wpAny_pyIter_list p.isList ?_
    refine ⟨s1.heap.objs.size, [s1.heap.objs.size], _, _, H1, rfl, I1.kept (t' := s1.toks) fun b o e => Heap.get?_push_of_some _ e, turn_list a _, ⟨_, Heap.get?_push_size _ rfl, rfl, rfl⟩, fun b hb => ?_, q⟩
    have e : b = s1.heap.objs.size := by simpa using hb
    subst e
    exact I1.fpOk (Nat.le_refl _) (I1.hok.fresh (Nat.le_refl _))
  · subst e
    cases r1
    obtain ⟨its, rv, p, hz⟩ := I1.tuple hq
    refine wpAny_pyIter_tuple (show s1.heap.IsTuple a its.toArray from p) ?_
    refine ⟨s1.heap.objs.size, [s1.heap.objs.size], _, _, H1, rfl, I1.kept (t' := s1.toks) fun b o e => Heap.get?_push_of_some _ e, turn_tuple a _, ⟨_, Heap.get?_push_size _ rfl, rfl, rfl⟩, fun b hb => ?_, q⟩
    have e : b = s1.heap.objs.size := by simpa using hb
    subst e
    exact I1.fpOk (Nat.le_refl _) (I1.hok.fresh (Nat.le_refl _))
  · subst e
    obtain ⟨t, rfl⟩ := r1
    cases ha : z.cps.all (· < 128)
    · exact wpAny_pyIter_wide ha (pi_one (tk := s1.toks) I1 _ (turn_str _ z t "str_iterator" (.inr rfl)) ⟨_, Heap.get?_push_size _ rfl, rfl, rfl⟩ q)
    · exact wpAny_pyIter_ascii ha (pi_one (tk := s1.toks) I1 _ (turn_str _ z t "str_ascii_iterator" (.inl rfl)) ⟨_, Heap.get?_push_size _ rfl, rfl, rfl⟩ q)
/-- an own exception's class, of those below ValueError, without own __init__ -/
structure ExcAt (K : PySem.W.Frag) (mg : Str → Option Value) (x : Str) where
  C : Addr
  gC : mg x = some (.ref C)
  ex : PySem.W.excIn K C [.type "ValueError", .type "Exception", .type "BaseException", .type "object"] "ValueError.__new__" = true
  kC : PySem.W.keepIn K (.ref C) = true
  sb : PySem.W.subIn K (.ref C) (.type "BaseException") = some true
  ty : PySem.W.typeIn K (.ref C) = some (.type "type")
/-- X() -/
theorem pmk_own0 {x : Str} {p pos : Pos} (T : ExcAt X.K X.mg x) (hg : Gl X x) (hdb : (x == ("__debug__" : Str)) = false := by decide) : PMk X (.Call (.Name x p) [] [] pos) (fun _ H Q => Q (.ref T.C) none H) := by
  intro pins s σ H Q I h
  refine wpAny_Call_Name_kw (ld_glob I hg T.gC ?_ hdb)
  refine PySem.W.callWith_K0 I.kIn T.kC ?_
  show wpAny _ _ (call (.ref T.C) []) _ _ _
  obtain ⟨bm, N, nm, qn, bs, hdct, sn, sub, ab, col, dd, k0, k1, k2, k3, k5, mN, hC, hN, hni, T'⟩ := exc_obj I.kIn T.ex
  refine wpAny_call_exc_subT PySem.F.excBase_ValueError T' hC hN hni (fun h' e hm => ?_) (Nat.zero_le _)
  exact mk_of I hm (raises_own T.sb T.ty) h (I.hok.gone hm.new)
/-- a def of the text, where the top has left it -/
structure DefAt (K : PySem.W.Frag) (mg : Str → Option Value) (x qual : Str) (st : Stmt) (ps : List Str) where
  f : Addr
  fd : FuncData
  F : Fun K x qual st f fd
  mg : mg x = some (.ref f)
  bd : Binds K fd ps []
/-- a method, where its class has left it -/
structure MDefAt (K : PySem.W.Frag) (x qual : Str) (st : Stmt) (ps : List Str) where
  f : Addr
  fd : FuncData
  F : Fun K x qual st f fd
  bd : Binds K fd ps []
theorem DefAt.kp {K : PySem.W.Frag} {mg : Str → Option Value} {x qual : Str} {st : Stmt} {ps : List Str} (D : DefAt K mg x qual st ps) : PySem.W.keepIn K (.ref D.f) = true := D.F.kp
end
end L2

/-! ## GZ: enumerate and zip of lists, tuples, texts in any mix -/
namespace PySem
open Sem (wp)
theorem meets_enumerate_newB1 {v : Value} {o : Obj} {H : Heap → Prop} (B : Begins v o H) :
    Meets (Builtin.«enumerate.__new__» ⟨[.type "enumerate", v], []⟩) (fun _ R s => H s.heap ∧
      R (.ok (.ret (.ref (s.heap.push o).objs.size))) { s with heap := (s.heap.push o).push { cls := .type "enumerate", data := .fields #[.none, .bool false, .ref s.heap.objs.size, rawInt 0, .none, .none] } }) :=
  .of_wp fun prog w A R s h => by
    obtain ⟨hp, g, d, tk, os⟩ := s; obtain ⟨h1, h⟩ := h
    have hsub := sub_enumerate
    have q1 : ∀ {A' : Around} {E : Value → Shared → Prop} {Q : Value → Shared → Prop}, Q (.ref hp.objs.size) ⟨hp.push o, g, d, tk, os⟩ → wpAny (model prog w) A' (pyIter v) Q E ⟨hp, g, d, tk, os⟩ :=
      fun q => B.iter prog w _ _ ⟨hp, g, d, tk, os⟩ _ h1 q
    wp_walk using q1
    refine wpAny_stack_any fun st => wpAny_pure ?_
    split
    · rename_i c _ _ _ _ _
      cases (c == Value.type "enumerate")
      · wp_walk using q1
        exact ⟨_, rfl, h⟩
      · wp_walk using q1
        exact ⟨_, rfl, h⟩
    · wp_walk using q1
      exact ⟨_, rfl, h⟩
section
variable {prog : Program} {w : World} {A : Around} {E : Value → Shared → Prop} {s : Shared}
/-- enumerate(v): its two new cells -/
theorem enum_begins1 {v : Value} {o : Obj} {H : Heap → Prop} {Q : Value → Shared → Prop} (B : Begins v o H) (h1 : H s.heap)
    (h : ∀ h', IsEnum h' (s.heap.objs.size + 1) s.heap.objs.size 0 .none → h'.get? s.heap.objs.size = some o → h'.objs.size = s.heap.objs.size + 2 →
      (∀ b o, s.heap.get? b = some o → h'.get? b = some o) → Q (.ref (s.heap.objs.size + 1)) { s with heap := h' }) :
    wpAny (model prog w) A (call (.type "enumerate") [v]) Q E s := by
  refine callType_new F.called_enumerate (by decide) (F.typeCall_enumerate_1 _) (F.newCall_enumerate_1 _) (fun obj => F.args_object_init_2 obj _) F.entry_enumerate_new
    (meets_enumerate_newB1 B) ⟨h1, ?_⟩
  have hz : (s.heap.push o).objs.size = s.heap.objs.size + 1 := Heap.size_push ..
  show _ ∧ _
  rw [hz]
  have he : IsEnum ((s.heap.push o).push { cls := .type "enumerate", data := .fields #[.none, .bool false, .ref s.heap.objs.size, rawInt 0, .none, .none] }) (s.heap.objs.size + 1) s.heap.objs.size 0 .none := by
    have := Heap.get?_push_size (s.heap.push o) (o := { cls := .type "enumerate", data := .fields #[.none, .bool false, .ref s.heap.objs.size, rawInt 0, .none, .none] }) rfl
    rw [hz] at this; exact this
  refine ⟨⟨_, he, rfl⟩, h _ he (Heap.get?_push_of_some _ (Heap.get?_push_size _ B.free)) (by rw [Heap.size_push, hz]) fun b o x => Heap.get?_push_of_some _ (Heap.get?_push_of_some _ x)⟩
end
end PySem

namespace L2
open PySem PySem.Spec PyProof.Rows
/-- a list, a tuple, a text -/
inductive Sk where
  | l
  | t
  | s
/-- x holds xs, one after the other -/
def SrcAt (k : Sk) (K : PySem.W.Frag) (H : Hp) (x : V) (xs : List V) : Prop := match k with
  | .l => ∃ a, x = .ref a ∧ SqL K H a xs
  | .t => ∃ a, x = .ref a ∧ SqT K H a xs
  | .s => ∃ z : Str, x = .str z ∧ xs = z.cps.toList.map fun c => V.str ⟨#[c]⟩
/-- the iterator at it over u, i gone -/
def IterAt (k : Sk) (u : Value) (it : Addr) (i : Nat) (h : Heap) : Prop := match k with
  | .l => ∃ a, u = .ref a ∧ a ≠ it ∧ h.IsListIter it a i
  | .t => ∃ a, u = .ref a ∧ a ≠ it ∧ h.IsTupleIter it a i
  | .s => ∃ z t, u = .str z t ∧ h.IsStrIter it (strIterType z) z t i
section
variable {X : Cx} {pins : List (Addr × Obj)} {σ : St} {H : Hp} {s : Shared} {k : Sk} {x : V} {xs ys : List V} {u : Value} {it : Addr} {i : Nat} {h h' : Heap} {A : Around}
theorem Vals.get' : ∀ {xs : List V} {us : List Value} {i : Nat} {u : Value}, Vals xs us → us[i]? = some u → ∃ x, xs[i]? = some x ∧ RelV x u
  | _, _, _, _, .nil, e => by simp at e
  | _, _, 0, _, .cons r _, e => by simp at e; subst e; exact ⟨_, rfl, r⟩
  | _, _, i + 1, u, .cons _ t, e => by
    obtain ⟨x, h1, h2⟩ := Vals.get' (i := i) (u := u) t (by simpa using e)
    exact ⟨x, by simpa using h1, h2⟩
theorem SrcAt.inj (I : Inv X pins σ H s) (h1 : SrcAt k X.K H x xs) (h2 : SrcAt k X.K H x ys) : xs = ys := by
  cases k with
  | l =>
    obtain ⟨a, e, q⟩ := h1
    obtain ⟨b, e', q'⟩ := h2
    have : a = b := V.ref.inj (e.symm.trans e')
    subst this
    exact I.list_inj q q'
  | t =>
    obtain ⟨a, e, q⟩ := h1
    obtain ⟨b, e', q'⟩ := h2
    have : a = b := V.ref.inj (e.symm.trans e')
    subst this
    exact I.tuple_inj q q'
  | s =>
    obtain ⟨a, e, q⟩ := h1
    obtain ⟨b, e', q'⟩ := h2
    have : a = b := V.str.inj (e.symm.trans e')
    subst this
    rw [q, q']
theorem IterAt.live (st : IterAt k u it i h) : ∃ o, h.get? it = some o ∧ ∀ v, o.data ≠ .cell v := by
  cases k with
  | l => obtain ⟨a, _, _, o, ho, _, d⟩ := st; exact ⟨o, ho, fun v q => by rw [d] at q; cases q⟩
  | t => obtain ⟨a, _, _, o, ho, _, d⟩ := st; exact ⟨o, ho, fun v q => by rw [d] at q; cases q⟩
  | s => obtain ⟨a, _, _, o, ho, _, d⟩ := st; exact ⟨o, ho, fun v q => by rw [d] at q; cases q⟩
theorem IterAt.at (st : IterAt k u it i h) (q : ∀ o, h.get? it = some o → h'.get? it = some o) : IterAt k u it i h' := by
  cases k with
  | l => obtain ⟨a, e, n, o, ho, r⟩ := st; exact ⟨a, e, n, o, q o ho, r⟩
  | t => obtain ⟨a, e, n, o, ho, r⟩ := st; exact ⟨a, e, n, o, q o ho, r⟩
  | s => obtain ⟨a, t, e, o, ho, r⟩ := st; exact ⟨a, t, e, o, q o ho, r⟩
theorem src_draw (I : Inv X pins σ H s) (hs : SrcAt k X.K H x xs) (r : RelV x u) (st : IterAt k u it i s.heap) (hh : A.handled = none) :
    ∃ (fp : List Addr) (P : Nat → Value → Prop) (St : Nat → Heap → Prop), Draws X.prog X.w A it fp xs.length P St ∧ St i s.heap ∧ (∀ j v, P j v → ∃ y, xs[j]? = some y ∧ RelV y v) ∧ (∀ h j, St j h → IterAt k u it j h) ∧ it ∈ fp ∧ ∀ b ∈ fp, b = it ∨ u = .ref b := by
  cases k with
  | l =>
    obtain ⟨a, rfl, hq⟩ := hs
    obtain ⟨b, e, n, hit⟩ := st
    cases (show u = Value.ref a from r)
    cases e
    obtain ⟨its, rv, p, hz⟩ := I.list hq
    have hl : its.toArray.size = xs.length := by rw [List.size_toArray, ← rv.length]
    refine ⟨_, _, _, hl ▸ Draws.list hh it a n its.toArray, ⟨hit, p.isList⟩, fun j v hp => ?_, fun h j q => ⟨a, rfl, n, q.1⟩, by simp, fun c hc => ?_⟩
    · have hp' : its[j]? = some v := by simpa using hp
      obtain ⟨y, hy, ry⟩ := Vals.get' rv hp'
      exact ⟨y, hy, ry⟩
    · have : c = it ∨ c = a := by simpa using hc
      exact this.imp id fun e => by rw [e]
  | t =>
    obtain ⟨a, rfl, hq⟩ := hs
    obtain ⟨b, e, n, hit⟩ := st
    cases (show u = Value.ref a from r)
    cases e
    obtain ⟨its, rv, p, hz⟩ := I.tuple hq
    have hl : its.toArray.size = xs.length := by rw [List.size_toArray, ← rv.length]
    refine ⟨_, _, _, hl ▸ Draws.tuple hh it a n its.toArray, ⟨hit, p⟩, fun j v hp => ?_, fun h j q => ⟨a, rfl, n, q.1⟩, by simp, fun c hc => ?_⟩
    · have hp' : its[j]? = some v := by simpa using hp
      obtain ⟨y, hy, ry⟩ := Vals.get' rv hp'
      exact ⟨y, hy, ry⟩
    · have : c = it ∨ c = a := by simpa using hc
      exact this.imp id fun e => by rw [e]
  | s =>
    obtain ⟨z, rfl, rfl⟩ := hs
    obtain ⟨z', t, e, hit⟩ := st
    obtain ⟨t', e'⟩ := (show ∃ t, u = Value.str z t from r)
    rw [e] at e'
    cases e'
    have hl : z.cps.size = (z.cps.toList.map fun c => V.str ⟨#[c]⟩).length := by simp
    refine ⟨_, _, _, hl ▸ Draws.text hh it z t, hit, fun j v hp => ?_, fun h j q => ⟨z, t, e, q⟩, by simp, fun c hc => .inl (by simpa using hc)⟩
    obtain ⟨c, t2, hc, ev⟩ := hp
    have hc' : z.cps.toList[j]? = some c := by simpa using hc
    exact ⟨.str ⟨#[c]⟩, by rw [List.getElem?_map, hc']; rfl, t2, ev⟩
end

theorem nq {a b : Nat} (h : a < b ∨ b < a) : a ≠ b := by omega
/-! ### enumerate -/
def ItE (k : Sk) (K : PySem.W.Frag) (x : V) : It :=
  ⟨fun i H => ∃ (xs : List V) (y : V), SrcAt k K H x xs ∧ xs[i]? = some y, fun i H v H' => ∃ T y, v = .ref T ∧ H T = none ∧ H' = upd H T (.tup [.int (i : Nat), y]) ∧ ∀ xs, SrcAt k K H x xs → xs[i]? = some y, fun i H => ∃ xs : List V, SrcAt k K H x xs ∧ xs.length = i⟩
theorem turn_enumU {P : Program} {w : World} {K : PySem.W.Frag} {elts : List Expr} {kk : Nat} {tpos : Pos} {k : Sk} {x : V} {u : Value} {e it : Addr} (r : RelV x u) (ne : e ≠ it) (nu : u ≠ .ref e) :
    Turn P w K (.Tuple elts kk tpos) (ItE k K x) [e, it] e (fun i h => (∃ old, IsEnum h e it ((i : Nat) : Int) old) ∧ IterAt k u it i h) where
  mem := by simp
  obj := fun i h st b hb => by
    obtain ⟨⟨old, he⟩, hi⟩ := st
    have e' : b = e ∨ b = it := by simpa using hb
    rcases e' with z | z
    · rw [z]; exact ⟨_, he, fun v q => nomatch q⟩
    · rw [z]; exact hi.live
  keep := fun i h h' st kp => let ⟨⟨old, he⟩, hi⟩ := st; ⟨⟨old, kp e (by simp) _ he⟩, hi.at fun o q => kp it (by simp) o q⟩
  item := by
    intro X hP hw hK hc i pins s σ H E I hf st hg
    subst hP hw hK
    obtain ⟨⟨old, he⟩, hit⟩ := st
    obtain ⟨xs, y, hq, hy⟩ := hg
    obtain ⟨fp, Pd, Sd, D, d0, dv, di, dm, df⟩ := src_draw (A := X.A.in1) I hq r hit (I.ok.hd hc)
    have hlt : i < xs.length := (List.getElem?_eq_some_iff.mp hy).1
    have hel : e < s.heap.objs.size := Heap.lt_size he
    have hil : it < s.heap.objs.size := by obtain ⟨_, q, _⟩ := hit.live; exact Heap.lt_size q
    refine wpAny_pyNext_enum_itemD D he d0 hlt ne (fun q => (df e q).elim ne fun q => nu q) fun v h' tk hv ho hd' hT hsz hk => ?_
    obtain ⟨y', hy', ry⟩ := dv i v hv
    obtain rfl : y = y' := Option.some.inj (hy.symm.trans hy')
    refine ⟨_, rfl, wpAny_letOwnedTupleGo_enum (s := { s with heap := h', toks := tk + 1 }) ho fun h'' he' sb => ?_⟩
    have hT2 : h''.get? s.heap.objs.size = some { cls := .type "tuple", data := .seq #[.int i tk, v] } := (sb.2 _ (Nat.ne_of_gt hel)).trans hT
    have new : ObjOk X.prog X.w (upd H s.heap.objs.size (.tup [.int (i : Nat), y])) h'' s.heap.objs.size (.tup [.int (i : Nat), y]) :=
      ⟨by show 2 ≤ sizeLine; decide, [.int i tk, v], .cons ⟨_, rfl⟩ (.cons ry .nil), ⟨_, hT2, rfl, _, rfl⟩⟩
    have I1 : Inv X pins σ (upd H s.heap.objs.size (.tup [.int (i : Nat), y])) { s with heap := h'', toks := tk + 1 } :=
      I.turnedNew (ch := [e, it]) (fun b ob hb q => (sb.2 b (fun z => hb (by simp [z]))).trans (hk b ob (fun z => hb (by simp [z])) (fun z => hb (by simp [z])) q)) hf (Nat.le_refl _) new
    refine ⟨.ref s.heap.objs.size, _, I1, rfl, ⟨_, y, rfl, I.hok.fresh (Nat.le_refl _), rfl, fun ys hys => by rw [SrcAt.inj I hys hq]; exact hy⟩, ⟨⟨v, ?_⟩, (di _ _ hd').at fun o q => (sb.2 it (Ne.symm ne)).trans q⟩, fun b hb => ?_⟩
    · have e1 : ((i + 1 : Nat) : Int) = (i : Int) + 1 := by omega
      rw [e1]; exact he'
    · have hb' : b < s.heap.objs.size := by
        have e' : b = e ∨ b = it := by simpa using hb
        rcases e' with z | z
        · rw [z]; exact hel
        · rw [z]; exact hil
      rw [upd_ne (Nat.ne_of_lt hb')]
      exact (hf b hb).1
  done := by
    intro X hP hw hK hc i pins s σ H E I hf st hg
    subst hP hw hK
    obtain ⟨⟨old, he⟩, hit⟩ := st
    obtain ⟨xs, hq, rfl⟩ := hg
    obtain ⟨fp, Pd, Sd, D, d0, dv, di, dm, df⟩ := src_draw (A := X.A.in1) I hq r hit (I.ok.hd hc)
    obtain ⟨f0, f1, f2, f3, f4, f5⟩ := hf it (by simp)
    exact wpAny_pyNext_enum_endD D he d0 fun h' eb => ⟨rfl, I.turned (t' := s.toks) (fun b o hb q => eb b o hb q) f0 f1 f3 f4 f5⟩
  self := fun A i s Q E st h => let ⟨⟨_, he⟩, _⟩ := st; wpAny_pyIter_enum he h
def iEnumU (K : PySem.W.Frag) (ta : TA) : TI := fun σ H R => ta σ H fun vs H1 => ∃ x k xs, vs = [x] ∧ SrcAt k K H1 x xs ∧ R (ItE k K x) H1
/-- what iter(v) makes -/
theorem src_begins {X : Cx} {pins : List (Addr × Obj)} {σ : St} {H : Hp} {s : Shared} {k : Sk} {x : V} {xs : List V} {u : Value} (I : Inv X pins σ H s) (hs : SrcAt k X.K H x xs) (r : RelV x u) :
    ∃ (o : Obj) (Hb : Heap → Prop), Begins u o Hb ∧ Hb s.heap ∧ (∀ h it, (∀ b, u = .ref b → b ≠ it) → h.get? it = some o → IterAt k u it 0 h) ∧ ∀ b : Nat, u = .ref b → b < s.heap.objs.size := by
  cases k with
  | l =>
    obtain ⟨a, rfl, hq⟩ := hs
    cases (show u = Value.ref a from r)
    obtain ⟨its, rv, p, hz⟩ := I.list hq
    exact ⟨_, _, begins_list a its.toArray, p.isList, fun h it n e => ⟨a, rfl, n a rfl, _, e, rfl, rfl⟩, fun b e => by cases e; exact p.lt⟩
  | t =>
    obtain ⟨a, rfl, hq⟩ := hs
    cases (show u = Value.ref a from r)
    obtain ⟨its, rv, p, hz⟩ := I.tuple hq
    exact ⟨_, _, begins_tuple a its.toArray, p, fun h it n e => ⟨a, rfl, n a rfl, _, e, rfl, rfl⟩, fun b e => by
      cases e
      obtain ⟨o, ho, _⟩ := id p
      exact Heap.lt_size ho⟩
  | s =>
    obtain ⟨z, rfl, rfl⟩ := hs
    obtain ⟨t, rfl⟩ := (show ∃ t, u = Value.str z t from r)
    exact ⟨_, _, begins_text z t, trivial, fun h it n e => ⟨z, t, rfl, _, e, rfl, rfl⟩, fun b e => nomatch e⟩
theorem pi_enumU {K : PySem.W.Frag} {X : Cx} {e : Expr} {ta : TA} {p pos tpos : Pos} {elts : List Expr} {kk : Nat} (hg : Gl X "enumerate") (hm : X.mg "enumerate" = none) (ha : PA X [e] ta) (hK : X.K = K := by rfl) (hs : starEach [e] X.env = [(false, eval e X.env)] := by rfl) :
    PI X (.Tuple elts kk tpos) (.Call (.Name "enumerate" p) [e] [] pos) (iEnumU K ta) := by
  subst hK
  refine ⟨fun pins s σ H R I h => ?_⟩
  refine Call_ (ld_blt I hg hm boot_enumerate (PyProof.Rows.callWith_type1 (thn (ha.run pos pins s σ H _ I h) fun us s1 ⟨vs, H1, I1, r1, q1⟩ => ?_) hs rfl))
  obtain ⟨x, k, xs, ex, hq, q⟩ := q1
  subst ex
  cases r1 with
  | @cons _ u _ _ r rr =>
    cases rr
    obtain ⟨o, Hb, B, hb, mk, lt⟩ := src_begins I1 hq r
    refine enum_begins1 B hb fun h' he hit hsz hk => wpAny_pyIter_enum he ?_
    have I2 : Inv X pins σ H1 { s1 with heap := h' } := I1.kept (t' := s1.toks) hk
    refine ⟨s1.heap.objs.size + 1, [s1.heap.objs.size + 1, s1.heap.objs.size], _, _, H1, rfl, I2, turn_enumU (k := k) r (Nat.succ_ne_self _) (fun q => absurd (lt _ q) (Nat.not_lt.mpr (Nat.le_succ _))), ⟨⟨.none, he⟩, mk _ _ (fun b e => nq (.inl (Nat.lt_of_lt_of_le (lt b e) (by omega)))) hit⟩, fun b hb => ?_, q⟩
    have e' : b = s1.heap.objs.size + 1 ∨ b = s1.heap.objs.size := by simpa using hb
    have hle : s1.heap.objs.size ≤ b := by
      rcases e' with z | z
      · rw [z]; exact Nat.le_add_right _ _
      · rw [z]; exact Nat.le_refl _
    exact I1.fpOk hle (I1.hok.fresh hle)

/-! ### zip of two -/
def ItZ (k1 k2 : Sk) (K : PySem.W.Frag) (x1 x2 : V) : It :=
  ⟨fun i H => ∃ (xs ys : List V) (y z : V), SrcAt k1 K H x1 xs ∧ SrcAt k2 K H x2 ys ∧ xs[i]? = some y ∧ ys[i]? = some z,
    fun i H v H' => ∃ T y z, v = .ref T ∧ H T = none ∧ H' = upd H T (.tup [y, z]) ∧ (∀ xs, SrcAt k1 K H x1 xs → xs[i]? = some y) ∧ ∀ ys, SrcAt k2 K H x2 ys → ys[i]? = some z,
    fun i H => ∃ xs ys : List V, SrcAt k1 K H x1 xs ∧ SrcAt k2 K H x2 ys ∧ i ≤ xs.length ∧ i ≤ ys.length ∧ (i = xs.length ∨ i = ys.length)⟩
structure Apart (z TI TO i1 i2 : Addr) (u1 u2 : Value) : Prop where
  TIz : TI ≠ z
  TOz : TO ≠ z
  TITO : TI ≠ TO
  TIi1 : TI ≠ i1
  TIi2 : TI ≠ i2
  zi1 : z ≠ i1
  zi2 : z ≠ i2
  Ti1 : TO ≠ i1
  Ti2 : TO ≠ i2
  i12 : i1 ≠ i2
  u1 : ∀ b, u1 = .ref b → b ≠ z ∧ b ≠ TI ∧ b ≠ TO ∧ b ≠ i1 ∧ b ≠ i2
  u2 : ∀ b, u2 = .ref b → b ≠ z ∧ b ≠ TI ∧ b ≠ TO ∧ b ≠ i1 ∧ b ≠ i2
theorem Apart.sep {z TI TO i1 i2 : Addr} {u1 u2 : Value} (D : Apart z TI TO i1 i2 u1 u2) {fp1 fp2 : List Addr} (m1 : i1 ∈ fp1) (m2 : i2 ∈ fp2) (f1 : ∀ b ∈ fp1, b = i1 ∨ u1 = .ref b) (f2 : ∀ b ∈ fp2, b = i2 ∨ u2 = .ref b) : ZipSep2 z TI TO i1 i2 fp1 fp2 :=
  ⟨D.TIz, D.TOz, D.TITO, D.TIi1, m1, fun q => (f1 _ q).elim D.zi1 fun e => (D.u1 _ e).1 rfl, fun q => (f1 _ q).elim D.Ti1 fun e => (D.u1 _ e).2.2.1 rfl,
    D.TIi2, m2, fun q => (f2 _ q).elim D.zi2 fun e => (D.u2 _ e).1 rfl, fun q => (f2 _ q).elim D.Ti2 fun e => (D.u2 _ e).2.2.1 rfl,
    fun q => (f2 _ q).elim D.i12 fun e => (D.u2 _ e).2.2.2.1 rfl, fun q => (f1 _ q).elim D.i12.symm fun e => (D.u1 _ e).2.2.2.2 rfl⟩
theorem turn_zipU {P : Program} {w : World} {K : PySem.W.Frag} {elts : List Expr} {kk : Nat} {tpos : Pos} {k1 k2 : Sk} {x1 x2 : V} {u1 u2 : Value} {z TI TO i1 i2 : Addr} (r1 : RelV x1 u1) (r2 : RelV x2 u2) (D : Apart z TI TO i1 i2 u1 u2) :
    Turn P w K (.Tuple elts kk tpos) (ItZ k1 k2 K x1 x2) [z, TI, TO, i1, i2] z (fun i h => IsZip h z TI TO .none ∧ IsTupOf2 h TI (.ref i1) (.ref i2) ∧ (∃ x y, IsTupOf2 h TO x y) ∧ IterAt k1 u1 i1 i h ∧ IterAt k2 u2 i2 i h) where
  mem := by simp
  obj := fun i h st c hc => by
    obtain ⟨hz, hTI, ⟨x, y, hTO⟩, h1, h2⟩ := st
    have e' : c = z ∨ c = TI ∨ c = TO ∨ c = i1 ∨ c = i2 := by simpa using hc
    rcases e' with q | q | q | q | q
    · rw [q]; exact ⟨_, hz, fun v q => nomatch q⟩
    · rw [q]; exact ⟨_, hTI, fun v q => nomatch q⟩
    · rw [q]; exact ⟨_, hTO, fun v q => nomatch q⟩
    · rw [q]; exact h1.live
    · rw [q]; exact h2.live
  keep := fun i h h' st k => by
    obtain ⟨hz, hTI, ⟨x, y, hTO⟩, h1, h2⟩ := st
    exact ⟨k z (by simp) _ hz, k TI (by simp) _ hTI, ⟨x, y, k TO (by simp) _ hTO⟩, h1.at fun o q => k i1 (by simp) o q, h2.at fun o q => k i2 (by simp) o q⟩
  item := by
    intro X hP hw hK hc i pins s σ H E I hf st hg
    subst hP hw hK
    obtain ⟨hz, hTI, ⟨x0, y0, hTO⟩, h1, h2⟩ := st
    obtain ⟨xs, ys, y, zz, hq1, hq2, hy, hzz⟩ := hg
    obtain ⟨fp1, P1, S1, D1, d1, dv1, di1, dm1, df1⟩ := src_draw (A := X.A.in1) I hq1 r1 h1 (I.ok.hd hc)
    obtain ⟨fp2, P2, S2, D2, d2, dv2, di2, dm2, df2⟩ := src_draw (A := X.A.in1) I hq2 r2 h2 (I.ok.hd hc)
    have hzl : z < s.heap.objs.size := Heap.lt_size hz
    refine wpAny_pyNext_zipD2_item (D.sep dm1 dm2 df1 df2) D1 D2 hz hTI hTO d1 d2 (List.getElem?_eq_some_iff.mp hy).1 (List.getElem?_eq_some_iff.mp hzz).1 fun v1 v2 h' tk hv1 hv2 z' TO' d1' d2' hT hsz hk => ?_
    obtain ⟨y', hy', ry⟩ := dv1 i v1 hv1
    obtain rfl : y = y' := Option.some.inj (hy.symm.trans hy')
    obtain ⟨z2, hz2, rz⟩ := dv2 i v2 hv2
    obtain rfl : zz = z2 := Option.some.inj (hzz.symm.trans hz2)
    refine ⟨_, rfl, wpAny_letOwnedTupleGo_zip (s := { s with heap := h', toks := tk }) z' fun h'' z'' sb => ?_⟩
    have hT2 : h''.get? s.heap.objs.size = some { cls := .type "tuple", data := .seq #[v1, v2] } := (sb.2 _ (Nat.ne_of_gt hzl)).trans hT
    have new : ObjOk X.prog X.w (upd H s.heap.objs.size (.tup [y, zz])) h'' s.heap.objs.size (.tup [y, zz]) :=
      ⟨by show 2 ≤ sizeLine; decide, [v1, v2], .cons ry (.cons rz .nil), ⟨_, hT2, rfl, _, rfl⟩⟩
    have I1 : Inv X pins σ (upd H s.heap.objs.size (.tup [y, zz])) { s with heap := h'', toks := tk } :=
      I.turnedNew (ch := [z, TI, TO, i1, i2]) (fun c o hb q => (sb.2 c (fun q' => hb (by simp [q']))).trans (hk c o (fun q' => hb (by simp [q'])) (fun q' => hb (by simp [q'])) (fun q' => hb (by simp [q'])) (fun q' => hb (by simp [q'])) q)) hf (Nat.le_refl _) new
    refine ⟨.ref s.heap.objs.size, _, I1, rfl, ⟨_, y, zz, rfl, I.hok.fresh (Nat.le_refl _), rfl, fun l hl => by rw [SrcAt.inj I hl hq1]; exact hy, fun l hl => by rw [SrcAt.inj I hl hq2]; exact hzz⟩, ⟨z'', ?_, ⟨v1, v2, ?_⟩, ?_, ?_⟩, fun c hcm => ?_⟩
    · exact (sb.2 _ D.TIz).trans (hk _ _ D.TIz D.TITO D.TIi1 D.TIi2 hTI)
    · exact (sb.2 _ D.TOz).trans TO'
    · exact (di1 _ _ d1').at fun o q => (sb.2 _ D.zi1.symm).trans q
    · exact (di2 _ _ d2').at fun o q => (sb.2 _ D.zi2.symm).trans q
    · have hlt : c < s.heap.objs.size := by
        have e' : c = z ∨ c = TI ∨ c = TO ∨ c = i1 ∨ c = i2 := by simpa using hcm
        rcases e' with q | q | q | q | q
        · rw [q]; exact hzl
        · rw [q]; exact Heap.lt_size hTI
        · rw [q]; exact Heap.lt_size hTO
        · rw [q]; obtain ⟨_, e1, _⟩ := h1.live; exact Heap.lt_size e1
        · rw [q]; obtain ⟨_, e2, _⟩ := h2.live; exact Heap.lt_size e2
      rw [upd_ne (Nat.ne_of_lt hlt)]
      exact (hf c hcm).1
  done := by
    intro X hP hw hK hc i pins s σ H E I hf st hg
    subst hP hw hK
    obtain ⟨hz, hTI, ⟨x0, y0, hTO⟩, h1, h2⟩ := st
    obtain ⟨xs, ys, hq1, hq2, l1, l2, hend⟩ := hg
    obtain ⟨fp1, P1, S1, D1, d1, dv1, di1, dm1, df1⟩ := src_draw (A := X.A.in1) I hq1 r1 h1 (I.ok.hd hc)
    obtain ⟨fp2, P2, S2, D2, d2, dv2, di2, dm2, df2⟩ := src_draw (A := X.A.in1) I hq2 r2 h2 (I.ok.hd hc)
    exact wpAny_pyNext_zipD2_end (D.sep dm1 dm2 df1 df2) D1 D2 hz hTI hTO d1 d2 l1 l2 hend fun h' tk hk => ⟨rfl, I.turnedL (ch := [z, TI, TO, i1, i2]) (fun c o hb q =>
      hk c o (fun q' => hb (by simp [q'])) (fun q' => hb (by simp [q'])) (fun q' => hb (by simp [q'])) (fun q' => hb (by simp [q'])) q) hf⟩
  self := fun A i s Q E st h => wpAny_pyIter_zip st.1 h
def iZipU (K : PySem.W.Frag) (ta : TA) : TI := fun σ H R => ta σ H fun vs H1 => ∃ x y k1 k2 xs ys, vs = [x, y] ∧ SrcAt k1 K H1 x xs ∧ SrcAt k2 K H1 y ys ∧ R (ItZ k1 k2 K x y) H1
theorem pi_zipU {K : PySem.W.Frag} {X : Cx} {e e2 : Expr} {ta : TA} {p pos tpos : Pos} {elts : List Expr} {kk : Nat} (hg : Gl X "zip") (hm : X.mg "zip" = none) (ha : PA X [e, e2] ta) (hK : X.K = K := by rfl)
    (hs : starEach [e, e2] X.env = (false, eval e X.env) :: starEach [e2] X.env := by rfl) (hpl : (backTo pos (starEach [e2] X.env)).any (·.1) = false := by rfl) :
    PI X (.Tuple elts kk tpos) (.Call (.Name "zip" p) [e, e2] [] pos) (iZipU K ta) := by
  subst hK
  refine ⟨fun pins s σ H R I h => ?_⟩
  refine Call_ (ld_blt I hg hm PyProof.Rows.boot_zip (PyProof.Rows.callWith_type1 (thn (ha.run pos pins s σ H _ I h) fun us s1 ⟨vs, H1, I1, r1, q1⟩ => ?_) hs hpl))
  obtain ⟨x, y, k1, k2, xs, ys, ex, hq1, hq2, q⟩ := q1
  subst ex
  cases r1 with
  | @cons _ u _ _ r rr =>
    cases rr with
    | @cons _ u' _ _ r' rr =>
      cases rr
      obtain ⟨o1, Hb1, B1, hb1, mk1, lt1⟩ := src_begins I1 hq1 r
      obtain ⟨o2, Hb2, B2, hb2, mk2, lt2⟩ := src_begins I1 hq2 r'
      have fresh5 : ∀ c, c ∈ [s1.heap.objs.size + 4, s1.heap.objs.size + 2, s1.heap.objs.size + 3, s1.heap.objs.size, s1.heap.objs.size + 1] → FpOk X pins H1 c := fun c hcm => by
        have e' : c = s1.heap.objs.size + 4 ∨ c = s1.heap.objs.size + 2 ∨ c = s1.heap.objs.size + 3 ∨ c = s1.heap.objs.size ∨ c = s1.heap.objs.size + 1 := by simpa using hcm
        have hle : s1.heap.objs.size ≤ c := by omega
        exact I1.fpOk hle (I1.hok.fresh hle)
      refine zip_begins2 B1 B2 hb1 hb2 fun h' hz hTI hTO h1 h2 hsz hk => wpAny_pyIter_zip hz ?_
      have I2 : Inv X pins σ H1 { s1 with heap := h' } := I1.kept (t' := s1.toks) hk
      refine ⟨s1.heap.objs.size + 4, [s1.heap.objs.size + 4, s1.heap.objs.size + 2, s1.heap.objs.size + 3, s1.heap.objs.size, s1.heap.objs.size + 1], _, _, H1, rfl, I2, turn_zipU (k1 := k1) (k2 := k2) r r' ?_, ⟨hz, hTI, ⟨_, _, hTO⟩, mk1 _ _ (fun b e => nq (.inl (Nat.lt_of_lt_of_le (lt1 b e) (by omega)))) h1, mk2 _ _ (fun b e => nq (.inl (Nat.lt_of_lt_of_le (lt2 b e) (by omega)))) h2⟩, fresh5, q⟩
      exact ⟨nq (by omega), nq (by omega), nq (by omega), nq (by omega), nq (by omega), nq (by omega), nq (by omega), nq (by omega), nq (by omega), nq (by omega), fun b e => ⟨nq (.inl (Nat.lt_of_lt_of_le (lt1 b e) (by omega))), nq (.inl (Nat.lt_of_lt_of_le (lt1 b e) (by omega))), nq (.inl (Nat.lt_of_lt_of_le (lt1 b e) (by omega))), nq (.inl (Nat.lt_of_lt_of_le (lt1 b e) (by omega))), nq (.inl (Nat.lt_of_lt_of_le (lt1 b e) (by omega)))⟩, fun b e => ⟨nq (.inl (Nat.lt_of_lt_of_le (lt2 b e) (by omega))), nq (.inl (Nat.lt_of_lt_of_le (lt2 b e) (by omega))), nq (.inl (Nat.lt_of_lt_of_le (lt2 b e) (by omega))), nq (.inl (Nat.lt_of_lt_of_le (lt2 b e) (by omega))), nq (.inl (Nat.lt_of_lt_of_le (lt2 b e) (by omega)))⟩⟩
/-! ### their walks -/
section
variable {K : PySem.W.Frag} {k k1 k2 : Sk} {x x1 x2 : V} {xs ys : List V}
theorem walk_enumU : Walk (ItE k K x) xs.length (fun H => SrcAt k K H x xs) (fun i H v H' => ∃ T y, v = .ref T ∧ H T = none ∧ H' = upd H T (.tup [.int (i : Nat), y]) ∧ xs[i]? = some y) :=
  ⟨fun i _ hi q => ⟨xs, xs[i], q, by simp [hi]⟩, fun _ q => ⟨xs, q, rfl⟩, fun _ _ _ _ _ q ⟨T, y, e, n, u, f⟩ => ⟨T, y, e, n, u, f xs q⟩⟩
theorem walk_zipU : Walk (ItZ k1 k2 K x1 x2) (min xs.length ys.length) (fun H => SrcAt k1 K H x1 xs ∧ SrcAt k2 K H x2 ys) (fun i H v H' => ∃ T y z, v = .ref T ∧ H T = none ∧ H' = upd H T (.tup [y, z]) ∧ xs[i]? = some y ∧ ys[i]? = some z) :=
  ⟨fun i _ hi q => ⟨xs, ys, xs[i]'(by omega), ys[i]'(by omega), q.1, q.2, by rw [List.getElem?_eq_getElem], by rw [List.getElem?_eq_getElem]⟩, fun _ q => ⟨xs, ys, q.1, q.2, by omega, by omega, by omega⟩, fun _ _ _ _ _ q ⟨T, y, z, e, n, u, f, f2⟩ => ⟨T, y, z, e, n, u, f xs q.1, f2 ys q.2⟩⟩
end
end L2

/-! ## GT: several except clauses, with a name or without -/
namespace L2
open PySem PySem.Spec PyProof.Rows
/-- what a clause is: its class, the slot of its name, its suite -/
abbrev Cl := Value × Option Nat × (Addr → Value → Option Addr → TS)
/-- the ends of a suite whose name stands in slot i -/
def endsU (o : Option Nat) (D : Ends) : Ends := match o with
  | none => D
  | some i => { nx := fun σ' H' => D.nx (σ'.set i none) H', rt := D.rt, bk := fun σ' H' => D.bk (σ'.set i none) H', ct := fun σ' H' => D.ct (σ'.set i none) H' }
def slotU (o : Option Nat) (σ : St) (a : Addr) : St := match o with
  | none => σ
  | some i => σ.set i (some (.ref a))
def wU (K : PySem.W.Frag) (Wout : WX) (D : Ends) : List Cl → WX
  | [] => Wout
  | (c, o, ts) :: r => fun cls d σ H => ∃ b, PySem.W.exmOne K cls c = some b ∧ (b = true → ∀ a, H a = none → ts a cls d (endsU o D) (slotU o σ a) H) ∧ (b = false → wU K Wout D r cls d σ H)
inductive HdsU (X : Cx) : List ExceptHandler → List Cl → Prop
  | nil : HdsU X [] []
  | cons {x : Str} {c : Value} {ts : Addr → Value → Option Addr → TS} {b₀ : Stmt} {suite : List Stmt} {np pos' : Pos} {hds : List ExceptHandler} {l : List Cl} (hc : Names X x c)
      (hsu : ∀ (a : Addr) (oe : Obj) (cls : Value) (d : Option Addr) (pn : List (Addr × Obj)), Zc cls d oe → (∃ vs, oe.data = .fields vs) → PSs (X.suite a ((a, oe) :: pn)) (b₀ :: suite) (ts a cls d)) (r : HdsU X hds l) :
      HdsU X (.ExceptHandler (some (.Name x np)) none (b₀ :: suite) pos' :: hds) ((c, none, ts) :: l)
  | named {x n : Str} {i : Nat} {c : Value} {ts : Addr → Value → Option Addr → TS} {b₀ : Stmt} {suite : List Stmt} {np pos' : Pos} {hds : List ExceptHandler} {l : List Cl} (hN : X.N.Nodup) (hi : X.N[i]? = some n) (hln : X.env.kindOf n = some .local) (hc : Names X x c)
      (hsu : ∀ (a : Addr) (oe : Obj) (cls : Value) (d : Option Addr) (pn : List (Addr × Obj)), Zc cls d oe → (∃ vs, oe.data = .fields vs) → PSs (X.suite a ((a, oe) :: pn)) (b₀ :: suite) (ts a cls d)) (r : HdsU X hds l) :
      HdsU X (.ExceptHandler (some (.Name x np)) (some n) (b₀ :: suite) pos' :: hds) ((c, some i, ts) :: l)
section
variable {X : Cx} {body : List Stmt} {h₀ : ExceptHandler} {hds : List ExceptHandler} {l : List Cl} {pos : Pos} {tb : WX → TS} {Wout : WX}
theorem ps_tryU (hs : X.stack = X.env :: X.outer) (hf : X.env.frame = some X.env.locals) (tk : Takes X Wout)
    (hb : ∀ (W : WX) (pn : List (Addr × Obj)) (xe : Value → Shared → Prop), Takes (X.tr pn xe) W → PassesOwn (model X.prog X.w) X.A X.env xe → PSs (X.tr pn xe) body (tb W))
    (hh : HdsU X (h₀ :: hds) l) : PS X (.Try body (h₀ :: hds) [] [] pos) (fun D σ H => tb (wU X.K Wout D l) D σ H) := by
  refine ⟨fun pins s σ H D I h => ?_⟩
  have ok := I.ok
  have hfr : X.A.frames = some (X.env :: X.outer) := by rw [ok.frames, hs]
  refine wpAny_Try_except ?_
  refine wpAny_mono ((hb (wU X.K Wout D l) (X.pn ++ pins) (fun e s₁ => wpAny (model X.prog X.w) X.A (noteFrame e X.env) (fun _ s₂ => wpAny (model X.prog X.w) X.A (setFlight e none) (fun _ s₃ =>
    wpAny (model X.prog X.w) X.A (handleBy e X.env (h₀ :: hds)) (SP X pins D) X.xe s₃) X.xe s₂) X.xe s₁) (fun u s' xx => ?_) PassesOwn.looking).run [] s σ H D (I.toTry _) h) (fun f s1 hsp => ?_) (fun e s1 he => he)
  · obtain ⟨a, B, sI, pins', σ', H', cls, d, rfl, J', nb, up, sky, na, os, ag, w⟩ := xx
    have J : Inv X pins σ' H' sI := J'.ofTry ok
    have sky' : Sky B (X.env :: X.outer) a (Zc cls d) X.env.locals s'.heap := by rw [← hs]; exact sky
    show wpAny (model X.prog X.w) X.A (noteFrame (.ref a) X.env) _ _ _
    refine Sky.land Zc.steady hfr hf sky' fun h3 fl3 up3 => ?_
    have J3 : Inv X pins σ' H' { s' with heap := h3 } := J.landed nb fl3.1 (up.trans up3) os ag
    obtain ⟨oe3, vs3, he3, hz3, hd3⟩ := fl3.there
    have notFr : ∀ {h : Heap} {o : Obj} {vs : Array Value}, h.FunFrames B (X.env :: X.outer) → h.get? a = some o → o.data = .fields vs → a ∉ frs (X.env :: X.outer) := fun {h o vs} ff e dd hm => by
      obtain ⟨_, o', e', hnf⟩ := ff.mem hm
      rw [e] at e'; cases e'
      exact hnf _ dd
    have nfr := notFr fl3.2.2.1 he3 hd3
    have nL : a ≠ X.env.locals := fun z => nfr (List.mem_filterMap.mpr ⟨X.env, List.mem_cons_self, by rw [hf, z]⟩)
    have nF : a ∉ X.fs := fun hm => by
      obtain ⟨e, he, q⟩ := List.mem_filterMap.mp hm
      exact nfr (List.mem_filterMap.mpr ⟨e, List.mem_cons_of_mem _ he, q⟩)
    have S3 := J3.suite he3 hd3 na nL nF
    have test : ∀ {x : Str} {c : Value} {np : Pos} {Q : Value → Shared → Prop} {E : Value → Shared → Prop}, Names X x c → Q c { s' with heap := h3 } → wpAny (model X.prog X.w) (X.A.mark (some (.ref a))) (eval (.Name x np) X.env) Q E { s' with heap := h3 } := fun {x c np Q E} hc q => by
      obtain ⟨hg, hdbg, hm | ⟨hm, hv, hnn⟩⟩ := hc
      · exact ld_glob (X := X.suite a ((a, oe3) :: (X.pn ++ pins))) S3 hg hm q hdbg
      · exact ld_blt (X := X.suite a ((a, oe3) :: (X.pn ++ pins))) S3 hg hm hv q hnn hdbg
    have go : ∀ {hds' : List ExceptHandler} {l' : List Cl}, HdsU X hds' l' → wU X.K Wout D l' cls d σ' H' →
        wpAny (model X.prog X.w) X.A (handleBy (.ref a) X.env hds') (SP X pins D) X.xe { s' with heap := h3 } := by
      intro hds' l' hk
      induction hk with
      | nil =>
        intro w
        refine wpAny_handleBy_nil ?_
        obtain ⟨k1, k2, k3, oe, vs, T, oT, ts', he, hz, hd, h1, hr⟩ := id fl3
        unfold PySem.passOn
        refine wpAny_bind (wpAny_field he hd h1 ?_)
        rw [if_neg (show ¬ ((Value.ref T == Value.none) = true) from by simp)]
        have fin : wpAny (model X.prog X.w) X.A (setFlight (.ref a) X.env.frame) (fun _ s4 => wpAny (model X.prog X.w) X.A (throw (.ref a) : Sem Flow) (SP X pins D) X.xe s4) X.xe { s' with heap := h3 } := by
          rw [hf]
          refine HandSPX.setFlight_upZ fl3 fun h4 hh4 up4 => wpAny_throw (tk _ _ ?_)
          exact ⟨a, B, sI, pins, σ', H', cls, d, rfl, J, nb, (up.trans up3).trans up4, .inr (.inr (by rw [hs]; exact hh4)), na, os, ag, w⟩
        first
          | exact wpAny_bind (wpAny_pure (wpAny_bind fin))
          | exact wpAny_bind fin
      | @cons x c ts b₀ suite np pos' hds2 l2 hc hsu r ih =>
        intro w
        obtain ⟨b, hb1, hyes, hno⟩ := w
        refine wpAny_handleBy_cons (codeAny_handlers_test ?_) (by intro q; cases q)
        have LT : PySem.W.Looks (model X.prog X.w) h3 (typeOf (.ref a)) cls := fun A Q E s k q => wpAny_typeOf_ref (k _ _ he3) (by rw [hz3.1]; exact q)
        have LM := PySem.W.exm_one (M := model X.prog X.w) (J3.kIn) LT hb1
        refine test hc (LM.here ?_)
        cases b with
        | true =>
          refine codeAny_handlers_suite ?_
          refine HandSPX.lands_againZ fl3 fun h4 fl4 up4 => ?_
          have J4 : Inv X pins σ' H' { s' with heap := h4 } := J.landed nb fl4.1 ((up.trans up3).trans up4) os ag
          obtain ⟨oe4, vs4, he4, hz4, hd4⟩ := fl4.there
          have S4 := J4.suite he4 hd4 na nL nF
          refine wpAny_mono ((hsu a oe4 cls d (X.pn ++ pins) hz4 ⟨_, hd4⟩).run [] _ _ H' _ S4 (hyes rfl a na)) (fun f s6 hsp => ?_) (fun _ _ z => False.elim z)
          cases f with
          | next =>
            obtain ⟨σ6, H6, S6, q6⟩ := hsp
            exact ⟨_, _, S6.unsuite ok, q6⟩
          | brk =>
            obtain ⟨σ6, H6, S6, q6⟩ := hsp
            exact ⟨_, _, S6.unsuite ok, q6⟩
          | cont =>
            obtain ⟨σ6, H6, S6, q6⟩ := hsp
            exact ⟨_, _, S6.unsuite ok, q6⟩
          | ret u =>
            obtain ⟨v6, σ6, H6, S6, r6, q6⟩ := hsp
            exact ⟨_, _, _, S6.unsuite ok, r6, q6⟩
        | false =>
          show wpAny _ X.A (handleBy (.ref a) X.env hds2) _ _ _
          exact ih (hno rfl)
      | @named x n i c ts b₀ suite np pos' hds2 l2 hN hi hln hc hsu r ih =>
        intro w
        obtain ⟨b, hb1, hyes, hno⟩ := w
        refine wpAny_handleBy_cons (codeAny_handlers_test ?_) (by intro q; cases q)
        have LT : PySem.W.Looks (model X.prog X.w) h3 (typeOf (.ref a)) cls := fun A Q E s k q => wpAny_typeOf_ref (k _ _ he3) (by rw [hz3.1]; exact q)
        have LM := PySem.W.exm_one (M := model X.prog X.w) (J3.kIn) LT hb1
        refine test hc (LM.here ?_)
        cases b with
        | true =>
          refine codeAny_handlers_suite_as ?_
          refine HandSPX.lands_againZ fl3 fun h4 fl4 up4 => ?_
          have J4 : Inv X pins σ' H' { s' with heap := h4 } := J.landed nb fl4.1 ((up.trans up3).trans up4) os ag
          obtain ⟨oe4, vs4, he4, hz4, hd4⟩ := fl4.there
          have S4 := J4.suite he4 hd4 na nL nF
          refine store_ok (X := X.suite a ((a, oe4) :: (X.pn ++ pins))) (v := .ref a) S4 hN hi (.inl hln) rfl (fun s5 S5 => ?_) (.inr hln)
          refine wpAny_mono ((hsu a oe4 cls d (X.pn ++ pins) hz4 ⟨_, hd4⟩).run [] s5 _ H' _ S5 (hyes rfl a na)) (fun f s6 hsp => ?_) (fun _ _ z => False.elim z)
          have end_ : ∀ {σ6 : St} {H6 : Hp} {Q : Shared → Prop}, Inv (X.suite a ((a, oe4) :: (X.pn ++ pins))) [] σ6 H6 s6 → (∀ s7, Inv X pins (σ6.set i none) H6 s7 → Q s7) →
              wpAny (model X.prog X.w) X.A (do bindName X.env n .none; unbindBehindTheSuite X.env n pos') (fun _ s7 => Q s7) X.xe s6 := fun {σ6 H6 Q} S6 hq => gone_ok (S6.unsuite ok) hN hi hln hq
          cases f with
          | next =>
            obtain ⟨σ6, H6, S6, q6⟩ := hsp
            exact end_ S6 fun s7 J7 => ⟨_, _, J7, q6⟩
          | brk =>
            obtain ⟨σ6, H6, S6, q6⟩ := hsp
            exact end_ S6 fun s7 J7 => ⟨_, _, J7, q6⟩
          | cont =>
            obtain ⟨σ6, H6, S6, q6⟩ := hsp
            exact end_ S6 fun s7 J7 => ⟨_, _, J7, q6⟩
          | ret u =>
            obtain ⟨v6, σ6, H6, S6, r6, q6⟩ := hsp
            exact end_ S6 fun s7 J7 => ⟨_, _, _, J7, r6, q6⟩
        | false =>
          show wpAny _ X.A (handleBy (.ref a) X.env hds2) _ _ _
          exact ih (hno rfl)
    exact go hh w
  · cases f with
    | next =>
      obtain ⟨σ', H', J', q⟩ := hsp
      exact wpAny_execs_nil ⟨σ', H', J'.ofTry ok, q⟩
    | brk =>
      obtain ⟨σ', H', J', q⟩ := hsp
      exact ⟨σ', H', J'.ofTry ok, q⟩
    | cont =>
      obtain ⟨σ', H', J', q⟩ := hsp
      exact ⟨σ', H', J'.ofTry ok, q⟩
    | ret u =>
      obtain ⟨v, σ', H', J', r, q⟩ := hsp
      exact ⟨v, σ', H', J'.ofTry ok, r, q⟩
end
/-- isinstance(e, c) in the suite that holds e -/
def rIsEU (K : PySem.W.Frag) (cls : Value) (d : Option Addr) (a : Addr) : List V → Hp → VK → Prop := fun xs H Q => ∃ D, cls = .ref D ∧ d = none ∧ ExcC K D ∧ rIsE K D a xs H Q
theorem call_isEU {K : PySem.W.Frag} {X : Cx} {a : Addr} {cls : Value} {d : Option Addr} {oe : Obj} {pn : List (Addr × Obj)} (hz : Zc cls d oe) (hf : ∃ vs, oe.data = .fields vs) (hK : X.K = K := by rfl) : CallR (X.suite a ((a, oe) :: pn)) (.builtin "isinstance") (rIsEU K cls d a) := by
  subst hK
  intro pins s σ H xs us Q I r h
  obtain ⟨D, rfl, rfl, C, h⟩ := h
  exact call_isE C hz hf pins s σ H xs us Q I r h
end L2

/-! ## G2: data, heaps that grow, steps -/
namespace L2
open PySem PySem.Spec PyProof.Rows

/-! ### heaps -/
def kindO : HO → Nat
  | .lst _ => 0
  | .tup _ => 1
  | .dK _ => 2
  | .dT _ => 3
  | .set _ _ => 4
  | .ins _ _ _ => 5
  | .own _ => 6
  | .xd _ => 7
  | .met _ _ => 8
  | .rng _ _ => 9
  | .frz _ _ => 10
  | .tbl _ => 11
  | .ext _ => 12
/-- H has become H'; at most the objects of S have changed, each of its kind -/
structure Ev (S : List Addr) (H H' : Hp) : Prop where
  keep : ∀ b o, H b = some o → b ∉ S → H' b = some o
  tups : ∀ b xs, H b = some (.tup xs) → H' b = some (.tup xs)
  frzs : ∀ b o u, H b = some (.frz o u) → H' b = some (.frz o u)
  kind : ∀ b o, H b = some o → ∃ o', H' b = some o' ∧ kindO o' = kindO o
section
variable {S S' : List Addr} {H H1 H2 : Hp} {p b : Addr} {o o' : HO}
theorem Ev.refl : Ev S H H := ⟨fun _ _ h _ => h, fun _ _ h => h, fun _ _ _ h => h, fun _ o h => ⟨o, h, rfl⟩⟩
theorem Ev.trans (a : Ev S H H1) (b : Ev S H1 H2) : Ev S H H2 :=
  ⟨fun c o h n => b.keep c o (a.keep c o h n) n, fun c xs h => b.tups c xs (a.tups c xs h), fun c o u h => b.frzs c o u (a.frzs c o u h), fun c o h => by
    obtain ⟨o1, h1, e1⟩ := a.kind c o h
    obtain ⟨o2, h2, e2⟩ := b.kind c o1 h1
    exact ⟨o2, h2, e2.trans e1⟩⟩
theorem Ev.mono (a : Ev S H H1) (h : ∀ x ∈ S, x ∈ S') : Ev S' H H1 := ⟨fun c o e n => a.keep c o e fun m => n (h c m), a.tups, a.frzs, a.kind⟩
theorem Ev.nil (a : Ev [] H H1) : Ev S H H1 := a.mono fun _ h => nomatch h
theorem Ev.new (h : H p = none) : Ev S H (upd H p o) :=
  ⟨fun c o e _ => by rw [upd_ne (ne_of_none e h)]; exact e, fun c xs e => by rw [upd_ne (ne_of_none e h)]; exact e, fun c _ _ e => by rw [upd_ne (ne_of_none e h)]; exact e, fun c o e => ⟨o, by rw [upd_ne (ne_of_none e h)]; exact e, rfl⟩⟩
theorem Ev.put (h : H p = some o) (k : kindO o' = kindO o) (n1 : kindO o ≠ 1) (n2 : kindO o ≠ 10) : Ev [p] H (upd H p o') where
  keep := fun c u e n => by rw [upd_ne (by simpa using n)]; exact e
  tups := fun c xs e => by
    have : c ≠ p := by
      rintro rfl
      rw [h] at e; cases e; exact n1 rfl
    rw [upd_ne this]; exact e
  frzs := fun c w u e => by
    have : c ≠ p := by
      rintro rfl
      rw [h] at e; cases e; exact n2 rfl
    rw [upd_ne this]; exact e
  kind := fun c u e => by
    by_cases q : c = p
    · subst q
      rw [h] at e; cases e
      exact ⟨_, upd_same, k⟩
    · exact ⟨u, by rw [upd_ne q]; exact e, rfl⟩
/-- what was not there at the beginning may change -/
theorem Ev.fresh (a : Ev S H H1) (n : H p = none) (b : Ev (p :: S) H1 H2) : Ev S H H2 :=
  ⟨fun c o e m => b.keep c o (a.keep c o e m) (by
    intro q
    rcases List.mem_cons.mp q with q | q
    · subst q; rw [n] at e; cases e
    · exact m q), fun c xs e => b.tups c xs (a.tups c xs e), fun c o u e => b.frzs c o u (a.frzs c o u e), fun c o h => by
    obtain ⟨o1, h1, e1⟩ := a.kind c o h
    obtain ⟨o2, h2, e2⟩ := b.kind c o1 h1
    exact ⟨o2, h2, e2.trans e1⟩⟩
theorem Ev.none (a : Ev S H H1) (h : H1 b = none) : H b = none := by
  cases q : H b with
  | none => rfl
  | some o =>
    obtain ⟨_, e, _⟩ := a.kind b o q
    rw [h] at e; cases e
theorem Ev.sqT {K : PySem.W.Frag} {a : Addr} {xs : List V} (e : Ev S H H1) (h : SqT K H a xs) : SqT K H1 a xs := by
  rcases h with (h | ⟨o, h⟩) | h
  · exact .inl (.inl (e.tups _ _ h))
  · exact .inl (.inr ⟨o, e.frzs _ _ _ h⟩)
  · exact .inr h
theorem Ev.sqL {K : PySem.W.Frag} {a : Addr} {xs : List V} (e : Ev S H H1) (h : SqL K H a xs) (n : a ∉ S) : SqL K H1 a xs := by
  rcases h with (h | ⟨o, h⟩) | h
  · exact .inl (.inl (e.keep _ _ h n))
  · exact .inl (.inr ⟨o, e.frzs _ _ _ h⟩)
  · exact .inr h
/-- a locked list -/
theorem Ev.sqLf {K : PySem.W.Frag} {a : Addr} {o : Obj} {xs : List V} (e : Ev S H H1) (h : H a = some (.frz o (.lst xs))) : SqL K H1 a xs := .inl (.inr ⟨o, e.frzs _ _ _ h⟩)
end

/-! ### data without lists and dicts; these are leaves -/
inductive Da where
  | non | bl (b : Bool) | int (i : Int) | str (s : Str) | tup (l : List Da) | lst | dct
def IsDct (H : Hp) (a : Addr) : Prop := ∃ o, H a = some o ∧ (kindO o = 2 ∨ kindO o = 3)
mutual
inductive Th (K : PySem.W.Frag) (H : Hp) : V → Da → Prop
  | non : Th K H .non .non
  | bl (b : Bool) : Th K H (.bl b) (.bl b)
  | int (i : Int) : Th K H (.int i) (.int i)
  | str (x : Str) : Th K H (.str x) (.str x)
  | tup {a : Addr} {xs : List V} {ds : List Da} : SqT K H a xs → ThAll K H xs ds → Th K H (.ref a) (.tup ds)
  | lst {a : Addr} {o : HO} : H a = some o → kindO o = 0 → Th K H (.ref a) .lst
  | dct {a : Addr} {o : HO} : H a = some o → (kindO o = 2 ∨ kindO o = 3) → Th K H (.ref a) .dct
inductive ThAll (K : PySem.W.Frag) (H : Hp) : List V → List Da → Prop
  | nil : ThAll K H [] []
  | cons {v : V} {vs : List V} {d : Da} {ds : List Da} : Th K H v d → ThAll K H vs ds → ThAll K H (v :: vs) (d :: ds)
end
section
variable {K : PySem.W.Frag} {S : List Addr} {H H1 : Hp} {v : V} {vs : List V} {d : Da} {ds : List Da}
mutual
theorem Th.ev (e : Ev S H H1) : ∀ (d : Da) (v : V), Th K H v d → Th K H1 v d
  | .non, _, h => by cases h; exact .non
  | .bl b, _, h => by cases h; exact .bl b
  | .int i, _, h => by cases h; exact .int i
  | .str x, _, h => by cases h; exact .str x
  | .tup ds, _, h => by
    cases h with
    | tup q r => exact .tup (e.sqT q) (ThAll.ev e ds _ r)
  | .lst, _, h => by
    cases h with
    | lst q r =>
      obtain ⟨o', q', k⟩ := e.kind _ _ q
      exact .lst q' (k.trans r)
  | .dct, _, h => by
    cases h with
    | dct q r =>
      obtain ⟨o', q', k⟩ := e.kind _ _ q
      exact .dct q' (by rw [k]; exact r)
theorem ThAll.ev (e : Ev S H H1) : ∀ (ds : List Da) (vs : List V), ThAll K H vs ds → ThAll K H1 vs ds
  | [], _, h => by cases h; exact .nil
  | d :: ds, _, h => by
    cases h with
    | cons p q => exact .cons (Th.ev e d _ p) (ThAll.ev e ds _ q)
end
theorem Ev.th (e : Ev S H H1) (h : Th K H v d) : Th K H1 v d := Th.ev e d v h
theorem Ev.thAll (e : Ev S H H1) (h : ThAll K H vs ds) : ThAll K H1 vs ds := ThAll.ev e ds vs h
theorem ThAll.length : ∀ {vs : List V} {ds : List Da}, ThAll K H vs ds → vs.length = ds.length
  | _, _, .nil => rfl
  | _, _, .cons _ q => congrArg (· + 1) q.length
theorem ThAll.get : ∀ {vs : List V} {ds : List Da} {i : Nat} {d : Da}, ThAll K H vs ds → ds[i]? = some d → ∃ v, vs[i]? = some v ∧ Th K H v d
  | _, _, i, d, .nil, e => by simp at e
  | _, _, 0, d, .cons p q, e => by simp at e; subst e; exact ⟨_, rfl, p⟩
  | _, _, i + 1, d, .cons p q, e => by
    obtain ⟨v, h1, h2⟩ := ThAll.get (i := i) q (by simpa using e)
    exact ⟨v, by simpa using h1, h2⟩
theorem ThAll.getV : ∀ {vs : List V} {ds : List Da} {i : Nat} {v : V}, ThAll K H vs ds → vs[i]? = some v → ∃ d, ds[i]? = some d ∧ Th K H v d
  | _, _, i, d, .nil, e => by simp at e
  | _, _, 0, d, .cons p q, e => by simp at e; subst e; exact ⟨_, rfl, p⟩
  | _, _, i + 1, d, .cons p q, e => by
    obtain ⟨v, h1, h2⟩ := ThAll.getV (i := i) q (by simpa using e)
    exact ⟨v, by simpa using h1, h2⟩
theorem ThAll.app : ∀ {vs ws : List V} {ds es : List Da}, ThAll K H vs ds → ThAll K H ws es → ThAll K H (vs ++ ws) (ds ++ es)
  | _, _, _, _, .nil, q => q
  | _, _, _, _, .cons p r, q => .cons p (r.app q)
theorem ThAll.ints : ∀ l : List Int, ThAll K H (l.map V.int) (l.map Da.int)
  | [] => .nil
  | i :: l => .cons (.int i) (ThAll.ints l)
theorem ThAll.strs : ∀ l : List Str, ThAll K H (l.map V.str) (l.map Da.str)
  | [] => .nil
  | i :: l => .cons (.str i) (ThAll.strs l)
/-- the type of a thing -/
def tyD : Da → String
  | .non => "NoneType"
  | .bl _ => "bool"
  | .int _ => "int"
  | .str _ => "str"
  | .tup _ => "tuple"
  | .lst => "list"
  | .dct => "dict"
theorem SqT.ty {a : Addr} {xs : List V} (h : SqT K H a xs) : TyX K H (.ref a) (.type "tuple") := by
  rcases h with (h | ⟨o, h⟩) | ⟨o, its, n, h, c, _⟩
  · exact .base (.tup h)
  · exact .fTuple h
  · exact .kTuple h c
theorem Th.ty (h : Th K H v d) : TyX K H v (.type (tyD d)) := by
  cases h with
  | non => exact .base .non
  | bl b => exact .base (.bl b)
  | int i => exact .base (.int i)
  | str x => exact .base (.str x)
  | tup q r => exact q.ty
  | @lst a o q r =>
    cases o <;> simp [kindO] at r
    exact .base (.lst q)
  | @dct a o q r =>
    cases o <;> simp [kindO] at r
    · exact .base (.dK q)
    · exact .base (.dT q)
end

/-! ### steps -/
section
variable {K : PySem.W.Frag} {σ : St} {H : Hp} {Q : VK} {ta tb tc te : TE} {t : TA} {r r' : R2} {n : St → Hp → Prop} {rt : VK} {bk ct : St → Hp → Prop} {i j : Int} {x y v : V} {s z : Str} {b : Bool} {D : Ends} {t1 t2 : TS} {c c2 : TT} {QB : Bool → Hp → Prop} {QA : List V → Hp → Prop} {g : TG}
theorem y_var {i : Nat} (h : σ[i]? = some (some v)) (q : Q v H) : tVar i σ H Q := ⟨v, h, q⟩
theorem y_c (q : Q v H) : tC v σ H Q := q
theorem y_op (q : ta σ H fun x H1 => tb σ H1 fun y H2 => r x y H2 Q) : tOp r ta tb σ H Q := q
theorem y_un {ru : V → Hp → VK → Prop} (q : ta σ H fun x H1 => ru x H1 Q) : tUn ru ta σ H Q := q
theorem y_neg (q : Q (.int (-i)) H) : rU (fun i => .int (-i)) (.int i) H Q := ⟨i, rfl, q⟩
theorem y_nil (q : QA [] H) : tNil σ H QA := q
theorem y_cons (q : ta σ H fun x H1 => t σ H1 fun xs H2 => QA (x :: xs) H2) : tCons ta t σ H QA := q
theorem y_cb {rr : List V → Hp → VK → Prop} (q : t σ H fun vs H1 => rr vs H1 Q) : tCB rr t σ H Q := q
theorem y_seq (q : t1 ⟨fun σ H => t2 ⟨n, rt, bk, ct⟩ σ H, rt, bk, ct⟩ σ H) : tSeq t1 t2 ⟨n, rt, bk, ct⟩ σ H := q
theorem y_seqM (mid : St → Hp → Prop) (h2 : ∀ σ H, mid σ H → t2 ⟨n, rt, bk, ct⟩ σ H) (h1 : ∀ N : St → Hp → Prop, (∀ σ H, mid σ H → N σ H) → t1 ⟨N, rt, bk, ct⟩ σ H) : tSeq t1 t2 ⟨n, rt, bk, ct⟩ σ H := h1 _ h2
theorem y_next (q : n σ H) : tNext ⟨n, rt, bk, ct⟩ σ H := q
theorem y_set {i : Nat} (q : te σ H fun x H1 => n (σ.set i (some x)) H1) : tAsg te (gName i) ⟨n, rt, bk, ct⟩ σ H := q
theorem y_asg (q : te σ H fun x H1 => g x σ H1 n) : tAsg te g ⟨n, rt, bk, ct⟩ σ H := q
theorem y_gname {i : Nat} {QG : St → Hp → Prop} (q : QG (σ.set i (some x)) H) : gName i x σ H QG := q
theorem y_gsub {to ti : TE} {ts : TSet} {QG : St → Hp → Prop} (q : to σ H fun o H1 => ti σ H1 fun i H2 => ts o i v H2 fun H3 => QG σ H3) : gSub to ti ts v σ H QG := q
theorem y_gtup {m : Nat} {tg : TGs} {QG : St → Hp → Prop} {a : Addr} {xs : List V} (h : SqT K H a xs) (l : xs.length = m) (q : tg xs σ H QG) : gTup K m tg (.ref a) σ H QG := ⟨a, xs, rfl, h, l, q⟩
theorem y_gcons {tg : TG} {u : TGs} {QG : St → Hp → Prop} {vs : List V} (q : tg v σ H fun σ' H' => u vs σ' H' QG) : gCons tg u (v :: vs) σ H QG := ⟨v, vs, rfl, q⟩
theorem y_gnil {QG : St → Hp → Prop} (q : QG σ H) : gNil [] σ H QG := ⟨rfl, q⟩
theorem y_drop (q : te σ H fun _ H1 => n σ H1) : tDrop te ⟨n, rt, bk, ct⟩ σ H := q
theorem y_ret (q : te σ H rt) : tRet te ⟨n, rt, bk, ct⟩ σ H := q
theorem y_retN (q : rt .non H) : tRetN ⟨n, rt, bk, ct⟩ σ H := q
theorem y_brk (q : bk σ H) : tBreak ⟨n, rt, bk, ct⟩ σ H := q
theorem y_cont (q : ct σ H) : tCont ⟨n, rt, bk, ct⟩ σ H := q
theorem y_if (q : c σ H fun b H1 => if b = true then t1 D σ H1 else t2 D σ H1) : tIfS c t1 t2 D σ H := q
theorem y_ifE (q : c σ H fun b H1 => if b = true then ta σ H1 Q else tb σ H1 Q) : tIf c ta tb σ H Q := q
theorem y_test (q : ta σ H fun x H1 => ∃ k, x = .bl k ∧ QB k H1) : tTest ta σ H QB := q
theorem y_tB (q : ta σ H fun x H1 => ∃ k, x = .bl k ∧ QB k H1) : tB ta σ H QB := q
theorem y_isbl (q : QB b H) : ∃ k, V.bl b = .bl k ∧ QB k H := ⟨b, rfl, q⟩
theorem y_not (q : c σ H fun k H1 => QB (!k) H1) : tNot c σ H QB := q
theorem y_notV (q : ta σ H fun x H1 => ∃ k, x = .bl k ∧ Q (.bl (!k)) H1) : tNotV ta σ H Q := q
theorem y_and (q : c σ H fun k H1 => if k = true then c2 σ H1 QB else QB false H1) : tAnd c c2 σ H QB := q
theorem y_or (q : c σ H fun k H1 => if k = true then QB true H1 else c2 σ H1 QB) : tOr c c2 σ H QB := q
theorem y_andV (q : ta σ H fun x H1 => ∃ k, x = .bl k ∧ if k = true then tb σ H1 Q else Q (.bl false) H1) : tAndV ta tb σ H Q := q
theorem y_orV (q : ta σ H fun x H1 => ∃ k, x = .bl k ∧ if k = true then Q (.bl true) H1 else tb σ H1 Q) : tOrV ta tb σ H Q := q
theorem y_isblP {P : Bool → Prop} (q : P b) : ∃ k, V.bl b = .bl k ∧ P k := ⟨b, rfl, q⟩
theorem y_chain (q : ta σ H fun x H1 => tb σ H1 fun y H2 => r x y H2 fun z H3 => ∃ k, z = .bl k ∧ if k = true then tc σ H3 fun u H4 => r' y u H4 Q else Q (.bl false) H3) : tChain r r' ta tb tc σ H Q := q
theorem y_iteT {A B : Prop} (h : b = true) (q : A) : if b = true then A else B := by rw [if_pos h]; exact q
theorem y_iteF {A B : Prop} (h : b = false) (q : B) : if b = true then A else B := by rw [if_neg (by rw [h]; decide)]; exact q
theorem y_ite {A B : Prop} (p : b = true → A) (q : b = false → B) : if b = true then A else B := by
  cases b with
  | true => rw [if_pos rfl]; exact p rfl
  | false => rw [if_neg (by decide)]; exact q rfl
/-! operators by their values -/
theorem y_addI (q : Q (.int (i + j)) H) : rAddU K (.int i) (.int j) H Q := .inl ⟨i, j, rfl, rfl, q⟩
theorem y_addS (h : s.length + z.length ≤ sizeLine) (q : Q (.str (s ++ z)) H) : rAddU K (.str s) (.str z) H Q := .inr (.inl ⟨s, z, rfl, rfl, h, q⟩)
theorem y_subI (q : Q (.int (i - j)) H) : rI0 (fun i j => .int (i - j)) (.int i) (.int j) H Q := ⟨i, j, rfl, rfl, q⟩
theorem y_mulI (h : CMul i j) (q : Q (.int (i * j)) H) : rMulU (.int i) (.int j) H Q := .inl ⟨i, j, rfl, rfl, h, q⟩
theorem y_modI (h : 0 < j) (q : Q (.int (i % j)) H) : rModU (.int i) (.int j) H Q := .inl ⟨i, j, rfl, rfl, h, q⟩
theorem y_fdivI (h : CDiv i j) (q : Q (.int (i / j)) H) : rFdivU (.int i) (.int j) H Q := .inl ⟨i, j, rfl, rfl, h, q⟩
theorem y_powI (h : CPow i j) (q : Q (.int (i ^ j.toNat)) H) : rI CPow (fun i j => .int (i ^ j.toNat)) (.int i) (.int j) H Q := ⟨i, j, rfl, rfl, h, q⟩
theorem y_ltI (q : Q (.bl (decide (i < j))) H) : rLtU (.int i) (.int j) H Q := .inl ⟨i, j, rfl, rfl, q⟩
theorem y_leI (q : Q (.bl (decide (i ≤ j))) H) : rLeU (.int i) (.int j) H Q := .inl ⟨i, j, rfl, rfl, q⟩
theorem y_gtI (q : Q (.bl (decide (j < i))) H) : rGtU (.int i) (.int j) H Q := .inl ⟨i, j, rfl, rfl, q⟩
theorem y_geI (q : Q (.bl (decide (j ≤ i))) H) : rGeU (.int i) (.int j) H Q := .inl ⟨i, j, rfl, rfl, q⟩
theorem y_ltS (q : Q (.bl (decide (s.cps.toList < z.cps.toList))) H) : rLtU (.str s) (.str z) H Q := .inr ⟨s, z, rfl, rfl, q⟩
theorem y_geS (q : Q (.bl (!decide (s.cps.toList < z.cps.toList))) H) : rGeU (.str s) (.str z) H Q := .inr ⟨s, z, rfl, rfl, q⟩
theorem y_eqI (q : Q (.bl (decide (i = j))) H) : rEqU K (.int i) (.int j) H Q := .inl ⟨rfl, by
  have e : decide (V.int i = V.int j) = decide (i = j) := by simp
  rw [e]; exact q⟩
theorem y_neI (q : Q (.bl (!decide (i = j))) H) : rNeU K (.int i) (.int j) H Q := .inl ⟨rfl, by
  have e : decide (V.int i = V.int j) = decide (i = j) := by simp
  rw [e]; exact q⟩
theorem y_eqS (q : Q (.bl (decide (s = z))) H) : rEqU K (.str s) (.str z) H Q := .inl ⟨rfl, by
  have e : decide (V.str s = V.str z) = decide (s = z) := by simp
  rw [e]; exact q⟩
theorem y_neS (q : Q (.bl (!decide (s = z))) H) : rNeU K (.str s) (.str z) H Q := .inl ⟨rfl, by
  have e : decide (V.str s = V.str z) = decide (s = z) := by simp
  rw [e]; exact q⟩
theorem y_inS {c : Nat} (q : Q (.bl (decide (c ∈ z.cps.toList))) H) : rInU K false (.str ⟨#[c]⟩) (.str z) H Q := .inl ⟨c, z, rfl, rfl, q⟩
theorem y_notInS {c : Nat} (q : Q (.bl (!decide (c ∈ z.cps.toList))) H) : rInU K true (.str ⟨#[c]⟩) (.str z) H Q := .inl ⟨c, z, rfl, rfl, q⟩
/-! built-ins -/
theorem y_lenS (h : s.length ≤ sizeLine) (q : Q (.int s.length) H) : rLenU K [.str s] H Q := .inl ⟨_, _, rfl, ⟨h, rfl⟩, q⟩
theorem y_lenL {a : Addr} {xs : List V} (h : SqL K H a xs) (q : Q (.int xs.length) H) : rLenU K [.ref a] H Q := .inl ⟨_, _, rfl, .inl ⟨xs, h, rfl⟩, q⟩
theorem y_lenT {a : Addr} {xs : List V} (h : SqT K H a xs) (q : Q (.int xs.length) H) : rLenU K [.ref a] H Q := .inl ⟨_, _, rfl, .inr ⟨xs, h, rfl⟩, q⟩
theorem y_intI (q : Q (.int i) H) : rIntU [.int i] H Q := .inl ⟨i, rfl, q⟩
theorem y_abs (q : Q (.int (if i < 0 then -i else i)) H) : rAbsU [.int i] H Q := ⟨i, rfl, q⟩
theorem y_isi {d : Da} {T : String} {k : Bool} (h : Th K H v d) (e : kitB (tyD d) T = some k) (q : Q (.bl k) H) : rIsiU K [v, .ty T] H Q := .inl ⟨v, .ty T, _, _, k, rfl, .ty T, h.ty, kit_ty e, q⟩
/-! subscripts -/
theorem y_ixL {a : Addr} {xs : List V} (h : SqL K H a xs) (e : atI xs i = some v) (q : Q v H) : rIxU K (.ref a) (.int i) H Q := .inl (.inl ⟨a, xs, i, v, rfl, rfl, h, e, q⟩)
theorem y_ixT {a : Addr} {xs : List V} (h : SqT K H a xs) (e : atI xs i = some v) (q : Q v H) : rIxU K (.ref a) (.int i) H Q := .inl (.inr (.inl ⟨a, xs, i, v, rfl, rfl, h, e, q⟩))
theorem y_ixS {c : Nat} (h : s.length ≤ sizeLine) (e : atI s.cps.toList i = some c) (q : Q (.str ⟨#[c]⟩) H) : rIxU K (.str s) (.int i) H Q := .inl (.inr (.inr ⟨s, i, c, rfl, rfl, h, e, q⟩))
theorem y_setL {a : Addr} {xs : List V} {k : Nat} {QG : Hp → Prop} (h : H a = some (.lst xs)) (e : ixN xs.length i = some k) (q : QG (upd H a (.lst (xs.set k v)))) : rSetU (.ref a) (.int i) v H QG := .inl ⟨a, xs, i, k, rfl, rfl, h, e, q⟩
/-! made things: the heap behind is told by what is known of it -/
theorem y_tup {xs : List V} (l : xs.length ≤ sizeLine) (q : ∀ p H', H p = none → H' p = some (.tup xs) → Ev [] H H' → Q (.ref p) H') : xs.length ≤ sizeLine ∧ ∀ p, H p = none → Q (.ref p) (upd H p (.tup xs)) := ⟨l, fun p h => q p _ h upd_same (Ev.new h)⟩
theorem y_new {o : HO} {P : V → Hp → Prop} (q : ∀ p H', H p = none → H' p = some o → Ev [] H H' → P (.ref p) H') : ∀ p, H p = none → P (.ref p) (upd H p o) := fun p h => q p _ h upd_same (Ev.new h)
end
end L2

/-! ## G3: loops and comprehensions, what a value is -/
namespace L2
open PySem PySem.Spec PyProof.Rows
def dInt : Da → Bool
  | .int _ => true
  | .bl _ => true
  | _ => false
def dBl : Da → Bool
  | .bl _ => true
  | _ => false
def dStr : Da → Bool
  | .str _ => true
  | _ => false
def dTup : Da → Bool
  | .tup _ => true
  | _ => false
def dLst : Da → Bool
  | .lst => true
  | _ => false
def dDct : Da → Bool
  | .dct => true
  | _ => false
theorem kit_int : ∀ d : Da, kitB (tyD d) "int" = some (dInt d)
  | .non => (by decide +kernel : kitB "NoneType" "int" = some false)
  | .bl b => (by decide +kernel : kitB "bool" "int" = some true)
  | .int i => (by decide +kernel : kitB "int" "int" = some true)
  | .str x => (by decide +kernel : kitB "str" "int" = some false)
  | .tup l => (by decide +kernel : kitB "tuple" "int" = some false)
  | .lst => (by decide +kernel : kitB "list" "int" = some false)
  | .dct => (by decide +kernel : kitB "dict" "int" = some false)
theorem kit_bl : ∀ d : Da, kitB (tyD d) "bool" = some (dBl d)
  | .non => (by decide +kernel : kitB "NoneType" "bool" = some false)
  | .bl b => (by decide +kernel : kitB "bool" "bool" = some true)
  | .int i => (by decide +kernel : kitB "int" "bool" = some false)
  | .str x => (by decide +kernel : kitB "str" "bool" = some false)
  | .tup l => (by decide +kernel : kitB "tuple" "bool" = some false)
  | .lst => (by decide +kernel : kitB "list" "bool" = some false)
  | .dct => (by decide +kernel : kitB "dict" "bool" = some false)
theorem kit_str : ∀ d : Da, kitB (tyD d) "str" = some (dStr d)
  | .non => (by decide +kernel : kitB "NoneType" "str" = some false)
  | .bl b => (by decide +kernel : kitB "bool" "str" = some false)
  | .int i => (by decide +kernel : kitB "int" "str" = some false)
  | .str x => (by decide +kernel : kitB "str" "str" = some true)
  | .tup l => (by decide +kernel : kitB "tuple" "str" = some false)
  | .lst => (by decide +kernel : kitB "list" "str" = some false)
  | .dct => (by decide +kernel : kitB "dict" "str" = some false)
theorem kit_tup : ∀ d : Da, kitB (tyD d) "tuple" = some (dTup d)
  | .non => (by decide +kernel : kitB "NoneType" "tuple" = some false)
  | .bl b => (by decide +kernel : kitB "bool" "tuple" = some false)
  | .int i => (by decide +kernel : kitB "int" "tuple" = some false)
  | .str x => (by decide +kernel : kitB "str" "tuple" = some false)
  | .tup l => (by decide +kernel : kitB "tuple" "tuple" = some true)
  | .lst => (by decide +kernel : kitB "list" "tuple" = some false)
  | .dct => (by decide +kernel : kitB "dict" "tuple" = some false)
theorem kit_lst : ∀ d : Da, kitB (tyD d) "list" = some (dLst d)
  | .non => (by decide +kernel : kitB "NoneType" "list" = some false)
  | .bl b => (by decide +kernel : kitB "bool" "list" = some false)
  | .int i => (by decide +kernel : kitB "int" "list" = some false)
  | .str x => (by decide +kernel : kitB "str" "list" = some false)
  | .tup l => (by decide +kernel : kitB "tuple" "list" = some false)
  | .lst => (by decide +kernel : kitB "list" "list" = some true)
  | .dct => (by decide +kernel : kitB "dict" "list" = some false)
theorem kit_dct : ∀ d : Da, kitB (tyD d) "dict" = some (dDct d)
  | .non => (by decide +kernel : kitB "NoneType" "dict" = some false)
  | .bl b => (by decide +kernel : kitB "bool" "dict" = some false)
  | .int i => (by decide +kernel : kitB "int" "dict" = some false)
  | .str x => (by decide +kernel : kitB "str" "dict" = some false)
  | .tup l => (by decide +kernel : kitB "tuple" "dict" = some false)
  | .lst => (by decide +kernel : kitB "list" "dict" = some false)
  | .dct => (by decide +kernel : kitB "dict" "dict" = some true)
section
variable {K : PySem.W.Frag} {H : Hp} {Q : VK} {v : V} {d : Da}
theorem y_isiI (h : Th K H v d) (q : Q (.bl (dInt d)) H) : rIsiU K [v, .ty "int"] H Q := y_isi h (kit_int d) q
theorem y_isiB (h : Th K H v d) (q : Q (.bl (dBl d)) H) : rIsiU K [v, .ty "bool"] H Q := y_isi h (kit_bl d) q
theorem y_isiS (h : Th K H v d) (q : Q (.bl (dStr d)) H) : rIsiU K [v, .ty "str"] H Q := y_isi h (kit_str d) q
theorem y_isiT (h : Th K H v d) (q : Q (.bl (dTup d)) H) : rIsiU K [v, .ty "tuple"] H Q := y_isi h (kit_tup d) q
theorem y_isiL (h : Th K H v d) (q : Q (.bl (dLst d)) H) : rIsiU K [v, .ty "list"] H Q := y_isi h (kit_lst d) q
theorem y_isiD (h : Th K H v d) (q : Q (.bl (dDct d)) H) : rIsiU K [v, .ty "dict"] H Q := y_isi h (kit_dct d) q
end
section
variable {K : PySem.W.Frag} {σ : St} {H H1 : Hp} {Q : VK} {te t1 t2 : TE} {n : St → Hp → Prop} {rt : VK} {bk ct : St → Hp → Prop} {g : TG} {tb : TS} {a : Addr} {xs : List V}
/-- the loop, its source's value known -/
def ForU (K : PySem.W.Frag) (g : TG) (tb : TS) (D : Ends) (σ : St) (v : V) (H1 : Hp) : Prop := tFor (iU K (tC v)) g tb D σ H1
theorem y_for (q : te σ H fun v H1 => ForU K g tb ⟨n, rt, bk, ct⟩ σ v H1) : tFor (iU K te) g tb ⟨n, rt, bk, ct⟩ σ H := q
def ForR (g : TG) (tb : TS) (D : Ends) (σ : St) (v : V) (H1 : Hp) : Prop := tFor (iRng1 (tCons (tC v) tNil)) g tb D σ H1
theorem y_forr (q : te σ H fun v H1 => ForR g tb ⟨n, rt, bk, ct⟩ σ v H1) : tFor (iRng1 (tCons te tNil)) g tb ⟨n, rt, bk, ct⟩ σ H := q
def ForR2 (g : TG) (tb : TS) (D : Ends) (σ : St) (v u : V) (H1 : Hp) : Prop := tFor (iRng2 (tCons (tC v) (tCons (tC u) tNil))) g tb D σ H1
theorem y_forr2 (q : t1 σ H fun v H1 => t2 σ H1 fun u H2 => ForR2 g tb ⟨n, rt, bk, ct⟩ σ v u H2) : tFor (iRng2 (tCons t1 (tCons t2 tNil))) g tb ⟨n, rt, bk, ct⟩ σ H := q
theorem y_forS {s : Str} (Pv : Nat → St → Hp → Prop) (h0 : Pv 0 σ H)
    (hs : ∀ (i : Nat) (c : Nat) (σ : St) (H : Hp), s.cps[i]? = some c → Pv i σ H → g (.str ⟨#[c]⟩) σ H fun σ2 H2 => tb ⟨Pv (i + 1), rt, n, Pv (i + 1)⟩ σ2 H2) (hd : ∀ σ H, Pv s.cps.size σ H → n σ H) : ForU K g tb ⟨n, rt, bk, ct⟩ σ (.str s) H := by
  refine .inr (.inr ⟨s, rfl, ?_⟩)
  refine for_it walk_str Pv h0 (fun _ _ _ _ _ => trivial) (fun i x σ H H' hi p y => ?_) hd
  obtain ⟨rfl, c, hc, rfl⟩ := y
  exact hs i c σ _ hc p
theorem y_forL (xs : List V) (hx : SqL K H a xs) (Pv : Nat → St → Hp → Prop) (h0 : Pv 0 σ H) (hl : ∀ i σ H, i ≤ xs.length → Pv i σ H → SqL K H a xs)
    (hs : ∀ (i : Nat) (x : V) (σ : St) (H : Hp), xs[i]? = some x → Pv i σ H → g x σ H fun σ2 H2 => tb ⟨Pv (i + 1), rt, n, Pv (i + 1)⟩ σ2 H2) (hd : ∀ σ H, Pv xs.length σ H → n σ H) : ForU K g tb ⟨n, rt, bk, ct⟩ σ (.ref a) H := by
  refine .inl ⟨a, rfl, ⟨xs, hx⟩, ?_⟩
  exact for_list Pv h0 hl hs hd
theorem y_forT (xs : List V) (hx : SqT K H a xs) (Pv : Nat → St → Hp → Prop) (h0 : Pv 0 σ H) (hl : ∀ i σ H, i ≤ xs.length → Pv i σ H → SqT K H a xs)
    (hs : ∀ (i : Nat) (x : V) (σ : St) (H : Hp), xs[i]? = some x → Pv i σ H → g x σ H fun σ2 H2 => tb ⟨Pv (i + 1), rt, n, Pv (i + 1)⟩ σ2 H2) (hd : ∀ σ H, Pv xs.length σ H → n σ H) : ForU K g tb ⟨n, rt, bk, ct⟩ σ (.ref a) H := by
  refine .inr (.inl ⟨a, rfl, ⟨xs, hx⟩, ?_⟩)
  exact for_tup Pv h0 hl hs hd
theorem y_forR {m : Int} (hm : -(2 ^ 62) ≤ m ∧ m < 2 ^ 62) (Pv : Nat → St → Hp → Prop) (h0 : Pv 0 σ H)
    (hs : ∀ (i : Nat) (σ : St) (H : Hp), (i : Int) < m → Pv i σ H → g (.int i) σ H fun σ2 H2 => tb ⟨Pv (i + 1), rt, n, Pv (i + 1)⟩ σ2 H2) (hd : ∀ σ H, Pv m.toNat σ H → n σ H) : ForR g tb ⟨n, rt, bk, ct⟩ σ (.int m) H := by
  refine ⟨m, rfl, hm.1, hm.2, ?_⟩
  refine for_range Pv h0 (fun i σ H hi p => ?_) hd
  have e : (0 : Int) + (i : Int) = i := Int.zero_add _
  rw [e]
  exact hs i σ H (by omega) p
theorem y_forR2 {lo hi : Int} (hm : -(2 ^ 62) ≤ lo ∧ lo < 2 ^ 62 ∧ -(2 ^ 62) ≤ hi ∧ hi < 2 ^ 62) (Pv : Nat → St → Hp → Prop) (h0 : Pv 0 σ H)
    (hs : ∀ (i : Nat) (σ : St) (H : Hp), lo + (i : Int) < hi → Pv i σ H → g (.int (lo + i)) σ H fun σ2 H2 => tb ⟨Pv (i + 1), rt, n, Pv (i + 1)⟩ σ2 H2) (hd : ∀ σ H, Pv (hi - lo).toNat σ H → n σ H) : ForR2 g tb ⟨n, rt, bk, ct⟩ σ (.int lo) (.int hi) H := by
  refine ⟨lo, hi, rfl, hm, ?_⟩
  exact for_range Pv h0 (fun i σ H hi p => hs i σ H (by omega) p) hd
end

/-! ### comprehensions -/
section
variable {K : PySem.W.Frag} {σ : St} {H H1 : Hp} {Q : VK} {te t0 t1 t2 : TE} {g : TG} {a : Addr} {xs : List V} {vs : List Nat} {J : It} {n : Nat} {G : Hp → Prop} {Y : Nat → Hp → V → Hp → Prop}
theorem lc_go (w : Walk J n G Y) (S : List Addr) (hS : ∀ s ∈ S, H1 s ≠ none) (Iv : Nat → List V → Hp → Prop) (hz : n ≤ sizeLine)
    (h0 : ∀ Hc, Ev [] H1 Hc → Iv 0 [] Hc) (hG : ∀ i acc Hc, i ≤ n → Ev S H1 Hc → Iv i acc Hc → G Hc)
    (hs : ∀ (i : Nat) (x : V) (acc : List V) (D : Addr) (Hc H' : Hp) (Qt : VK), i < n → H1 D = none → Ev S H1 Hc → acc.length = i → Iv i acc Hc → Y i Hc x H' →
      (∀ y H4, Ev S Hc H4 → (∀ H5, Ev [D] H4 H5 → Iv (i + 1) (acc ++ [y]) H5) → Qt y H4) → g x (wipe σ vs) H' fun σ2 H2 => wipe σ2 vs = wipe σ vs ∧ te σ2 H2 Qt)
    (hd : ∀ (D : Addr) (Hn : Hp) (acc : List V), H1 D = none → Ev S H1 Hn → Hn D = some (.lst acc) → acc.length = n → Iv n acc Hn → Q (.ref D) Hn) :
    ∀ D, H1 D = none → ∃ W : Nat → Nat → Hp → Prop, (∃ m, W 0 m (upd H1 D (.lst []))) ∧ ∀ i m H, W i m H →
      (J.stop i H ∧ Q (.ref D) H) ∨ (J.go i H ∧ ∃ Nx : Hp → Prop, (∀ H', Nx H' → ∃ m', m' < m ∧ W (i + 1) m' H') ∧ ∀ x H', J.yld i H x H' → g x (wipe σ vs) H' fun σ2 H2 => wipe σ2 vs = wipe σ vs ∧ tYes σ2 H2 fun b H3 =>
        if b = true then te σ2 H3 fun y H4 => ∃ acc, H4 D = some (.lst acc) ∧ acc.length < sizeLine ∧ Nx (upd H4 D (.lst (acc ++ [y]))) else Nx H3) := by
  intro D hD
  have nD : D ∉ S := fun m => hS D m hD
  refine lc_it (tt := tYes) (Qd := fun H => Q (.ref D) H) w (fun i Hc => Ev S H1 Hc ∧ ∃ acc, Hc D = some (.lst acc) ∧ acc.length = i ∧ Iv i acc Hc) ⟨(Ev.new hD), [], upd_same, rfl, h0 _ (Ev.new hD)⟩ (fun i Hc hi ⟨e, acc, _, _, iv⟩ => hG i acc Hc hi e iv) (fun i x Hc H' hi p y => ?_) (fun Hn p => ?_)
  · obtain ⟨e, acc, hDc, hl, iv⟩ := p
    refine hs i x acc D Hc H' (fun y H4 => ∃ acc, H4 D = some (.lst acc) ∧ acc.length < sizeLine ∧ _) hi hD e hl iv y fun y H4 e4 k => ?_
    have hD4 := e4.keep D _ hDc nD
    have e5 : Ev [D] H4 (upd H4 D (.lst (acc ++ [y]))) := Ev.put hD4 rfl (by simp [kindO]) (by simp [kindO])
    refine ⟨acc, hD4, by omega, ?_, acc ++ [y], upd_same, by simp [hl], k _ e5⟩
    exact (e.trans e4).fresh hD (e5.mono fun x hx => by simp at hx; subst hx; exact List.mem_cons_self)
  · obtain ⟨e, acc, hDc, hl, iv⟩ := p
    exact hd D Hn acc hD e hDc hl iv
/-- the comprehension, its source's value known -/
def LcU (K : PySem.W.Frag) (g : TG) (te : TE) (vs : List Nat) (σ : St) (v : V) (H1 : Hp) (Q : VK) : Prop := tLc (iU K (tC v)) g tYes te vs σ H1 Q
theorem y_lc (q : t0 σ H fun v H1 => LcU K g te vs σ v H1 Q) : tLc (iU K t0) g tYes te vs σ H Q := q
def LcR (g : TG) (te : TE) (vs : List Nat) (σ : St) (v : V) (H1 : Hp) (Q : VK) : Prop := tLc (iRng1 (tCons (tC v) tNil)) g tYes te vs σ H1 Q
theorem y_lcr (q : t0 σ H fun v H1 => LcR g te vs σ v H1 Q) : tLc (iRng1 (tCons t0 tNil)) g tYes te vs σ H Q := q
theorem y_lcL (xs : List V) (hx : SqL K H1 a xs) (S : List Addr) (hS : ∀ s ∈ S, H1 s ≠ none) (na : ∀ Hc, Ev S H1 Hc → SqL K Hc a xs) (Iv : Nat → List V → Hp → Prop) (hz : xs.length ≤ sizeLine)
    (h0 : ∀ Hc, Ev [] H1 Hc → Iv 0 [] Hc)
    (hs : ∀ (i : Nat) (x : V) (acc : List V) (D : Addr) (Hc : Hp) (Qt : VK), xs[i]? = some x → H1 D = none → Ev S H1 Hc → acc.length = i → Iv i acc Hc →
      (∀ y H4, Ev S Hc H4 → (∀ H5, Ev [D] H4 H5 → Iv (i + 1) (acc ++ [y]) H5) → Qt y H4) → g x (wipe σ vs) Hc fun σ2 H2 => wipe σ2 vs = wipe σ vs ∧ te σ2 H2 Qt)
    (hd : ∀ (D : Addr) (Hn : Hp) (acc : List V), H1 D = none → Ev S H1 Hn → Hn D = some (.lst acc) → acc.length = xs.length → Iv xs.length acc Hn → Q (.ref D) Hn) : LcU K g te vs σ (.ref a) H1 Q := by
  refine .inl ⟨a, rfl, ⟨xs, hx⟩, ?_⟩
  refine lc_go walk_list S hS Iv hz h0 (fun i acc Hc hi e iv => na Hc e) (fun i x acc D Hc H' Qt hi hD e hl iv y k => ?_) hd
  obtain ⟨rfl, ex⟩ := y
  exact hs i x acc D _ Qt ex hD e hl iv k
theorem y_lcT (xs : List V) (hx : SqT K H1 a xs) (S : List Addr) (hS : ∀ s ∈ S, H1 s ≠ none) (Iv : Nat → List V → Hp → Prop) (hz : xs.length ≤ sizeLine)
    (h0 : ∀ Hc, Ev [] H1 Hc → Iv 0 [] Hc)
    (hs : ∀ (i : Nat) (x : V) (acc : List V) (D : Addr) (Hc : Hp) (Qt : VK), xs[i]? = some x → H1 D = none → Ev S H1 Hc → acc.length = i → Iv i acc Hc →
      (∀ y H4, Ev S Hc H4 → (∀ H5, Ev [D] H4 H5 → Iv (i + 1) (acc ++ [y]) H5) → Qt y H4) → g x (wipe σ vs) Hc fun σ2 H2 => wipe σ2 vs = wipe σ vs ∧ te σ2 H2 Qt)
    (hd : ∀ (D : Addr) (Hn : Hp) (acc : List V), H1 D = none → Ev S H1 Hn → Hn D = some (.lst acc) → acc.length = xs.length → Iv xs.length acc Hn → Q (.ref D) Hn) : LcU K g te vs σ (.ref a) H1 Q := by
  refine .inr (.inl ⟨a, rfl, ⟨xs, hx⟩, ?_⟩)
  refine lc_go walk_tup S hS Iv hz h0 (fun i acc Hc hi e iv => e.sqT hx) (fun i x acc D Hc H' Qt hi hD e hl iv y k => ?_) hd
  obtain ⟨rfl, ex⟩ := y
  exact hs i x acc D _ Qt ex hD e hl iv k
theorem y_lcS {s : Str} (S : List Addr) (hS : ∀ s ∈ S, H1 s ≠ none) (Iv : Nat → List V → Hp → Prop) (hz : s.cps.size ≤ sizeLine)
    (h0 : ∀ Hc, Ev [] H1 Hc → Iv 0 [] Hc)
    (hs : ∀ (i : Nat) (c : Nat) (acc : List V) (D : Addr) (Hc : Hp) (Qt : VK), s.cps[i]? = some c → H1 D = none → Ev S H1 Hc → acc.length = i → Iv i acc Hc →
      (∀ y H4, Ev S Hc H4 → (∀ H5, Ev [D] H4 H5 → Iv (i + 1) (acc ++ [y]) H5) → Qt y H4) → g (.str ⟨#[c]⟩) (wipe σ vs) Hc fun σ2 H2 => wipe σ2 vs = wipe σ vs ∧ te σ2 H2 Qt)
    (hd : ∀ (D : Addr) (Hn : Hp) (acc : List V), H1 D = none → Ev S H1 Hn → Hn D = some (.lst acc) → acc.length = s.cps.size → Iv s.cps.size acc Hn → Q (.ref D) Hn) : LcU K g te vs σ (.str s) H1 Q := by
  refine .inr (.inr ⟨s, rfl, ?_⟩)
  refine lc_go walk_str S hS Iv hz h0 (fun _ _ _ _ _ _ => trivial) (fun i x acc D Hc H' Qt hi hD e hl iv y k => ?_) hd
  obtain ⟨rfl, c, ec, rfl⟩ := y
  exact hs i c acc D _ Qt ec hD e hl iv k
theorem y_lcR {m : Int} (hm : 0 ≤ m ∧ m ≤ 10000) (S : List Addr) (hS : ∀ s ∈ S, H1 s ≠ none) (Iv : Nat → List V → Hp → Prop)
    (h0 : ∀ Hc, Ev [] H1 Hc → Iv 0 [] Hc)
    (hs : ∀ (i : Nat) (acc : List V) (D : Addr) (Hc : Hp) (Qt : VK), (i : Int) < m → H1 D = none → Ev S H1 Hc → acc.length = i → Iv i acc Hc →
      (∀ y H4, Ev S Hc H4 → (∀ H5, Ev [D] H4 H5 → Iv (i + 1) (acc ++ [y]) H5) → Qt y H4) → g (.int i) (wipe σ vs) Hc fun σ2 H2 => wipe σ2 vs = wipe σ vs ∧ te σ2 H2 Qt)
    (hd : ∀ (D : Addr) (Hn : Hp) (acc : List V), H1 D = none → Ev S H1 Hn → Hn D = some (.lst acc) → (acc.length : Int) = m → Iv m.toNat acc Hn → Q (.ref D) Hn) : LcR g te vs σ (.int m) H1 Q := by
  refine ⟨m, rfl, by omega, by omega, ?_⟩
  refine lc_go walk_range S hS Iv (by rw [sizeLine_eq]; omega) h0 (fun _ _ _ _ _ _ => trivial) (fun i x acc D Hc H' Qt hi hD e hl iv y k => ?_) (fun D Hn acc h1 h2 h3 h4 h5 => hd D Hn acc h1 h2 h3 (by omega) h5)
  obtain ⟨rfl, rfl⟩ := y
  have e0 : (0 : Int) + (i : Int) = i := Int.zero_add _
  show g (.int ((0 : Int) + (i : Int))) (wipe σ vs) _ _
  rw [e0]
  exact hs i acc D _ Qt (by omega) hD e hl iv k
end
/-! ### comprehensions, their places given -/
section
variable {X : Cx}
theorem pe_lcU {elt tg iter : Expr} {ifs : List Expr} {scope : Scope} {own : List (Str × Nat)} {vs : List Nat} {pos : Pos} {wi : TI} {g : TG} {tt : TT} {te : TE} (hv : own.map (·.2) = vs) (hc : X.calm = true) (hN : X.N.Nodup) (hi : PI X tg iter wi) (ok : BlkOk X.N X.env.scope scope own)
    (hg : ∀ (s : Shared) (H : Hp) (C : Addr) (cl : List (Str × Addr)) (fp : List Addr), PG (X.blk s H scope (compEnvC scope cl C X.env) fp) tg g) (ht : ∀ (s : Shared) (H : Hp) (C : Addr) (cl : List (Str × Addr)) (fp : List Addr), PTs (X.blk s H scope (compEnvC scope cl C X.env) fp) ifs tt)
    (he : ∀ (s : Shared) (H : Hp) (C : Addr) (cl : List (Str × Addr)) (fp : List Addr), PE (X.blk s H scope (compEnvC scope cl C X.env) fp) elt te) (hs : ∀ x, foldedSetIterable iter X.env x = pure x := by intro _; rfl) :
    PE X (.ListComp elt [⟨tg, iter, ifs, 0⟩] scope pos) (tLc wi g tt te vs) := hv ▸ pe_lc hc hN hi ok hg ht he hs
theorem ps_setLcU {i : Nat} {y : Str} {py : Pos} {elt tg iter : Expr} {ifs : List Expr} {scope : Scope} {own : List (Str × Nat)} {vs : List Nat} {pos spos : Pos} {wi : TI} {g : TG} {tt : TT} {te : TE} (hv : own.map (·.2) = vs) (hc : X.calm = true) (hN : X.N.Nodup) (hy : X.N[i]? = some y) (hyl : X.env.scope.names.lookup y = some .local)
    (hsw : swapsWith (.ListComp elt [⟨tg, iter, ifs, 0⟩] scope pos) (some (.Name y py)) spos.line X.env = pure true) (hi : PI X tg iter wi) (ok : BlkOk X.N X.env.scope scope own)
    (hg : ∀ (s : Shared) (H : Hp) (C : Addr) (cl : List (Str × Addr)) (fp : List Addr), PG (X.blk s H scope (compEnvC scope cl C X.env) fp) tg g) (ht : ∀ (s : Shared) (H : Hp) (C : Addr) (cl : List (Str × Addr)) (fp : List Addr), PTs (X.blk s H scope (compEnvC scope cl C X.env) fp) ifs tt)
    (he : ∀ (s : Shared) (H : Hp) (C : Addr) (cl : List (Str × Addr)) (fp : List Addr), PE (X.blk s H scope (compEnvC scope cl C X.env) fp) elt te) (hs : ∀ x, foldedSetIterable iter X.env x = pure x := by intro _; rfl) :
    PS X (.Assign [.Name y py] (.ListComp elt [⟨tg, iter, ifs, 0⟩] scope pos) spos) (tAsg (tLc wi g tt te vs) (gName i)) := hv ▸ ps_setLc hc hN hy hyl hsw hi ok hg ht he hs
theorem ps_setLc2U {i : Nat} {y : Str} {py : Pos} {elt tg iter tg1 iter1 : Expr} {ifs ifs1 : List Expr} {scope : Scope} {own : List (Str × Nat)} {vs vs1 : List Nat} {pos spos : Pos} {wi wi1 : TI} {g g1 : TG} {tt tt1 : TT} {te : TE} (hv0 : own.map (·.2) = vs) (hc : X.calm = true) (hN : X.N.Nodup) (hy : X.N[i]? = some y) (hyl : X.env.scope.names.lookup y = some .local)
    (hsw : swapsWith (.ListComp elt [⟨tg, iter, ifs, 0⟩, ⟨tg1, iter1, ifs1, 0⟩] scope pos) (some (.Name y py)) spos.line X.env = pure true) (hi : PI X tg iter wi) (ok : BlkOk X.N X.env.scope scope own) (hv : ∀ i ∈ vs1, i ∈ own.map (·.2))
    (hg : ∀ (s : Shared) (H : Hp) (C : Addr) (cl : List (Str × Addr)) (fp : List Addr), PG (X.blk s H scope (compEnvC scope cl C X.env) fp) tg g) (ht : ∀ (s : Shared) (H : Hp) (C : Addr) (cl : List (Str × Addr)) (fp : List Addr), PTs (X.blk s H scope (compEnvC scope cl C X.env) fp) ifs tt)
    (hi1 : ∀ (s : Shared) (H : Hp) (C : Addr) (cl : List (Str × Addr)) (fp : List Addr), PI (X.blk s H scope (compEnvC scope cl C X.env) fp) tg1 iter1 wi1)
    (hg1 : ∀ (s : Shared) (H : Hp) (C : Addr) (cl : List (Str × Addr)) (fp : List Addr), PG (X.blk s H scope (compEnvC scope cl C X.env) fp) tg1 g1) (ht1 : ∀ (s : Shared) (H : Hp) (C : Addr) (cl : List (Str × Addr)) (fp : List Addr), PTs (X.blk s H scope (compEnvC scope cl C X.env) fp) ifs1 tt1)
    (he : ∀ (s : Shared) (H : Hp) (C : Addr) (cl : List (Str × Addr)) (fp : List Addr), PE (X.blk s H scope (compEnvC scope cl C X.env) fp) elt te) (hs : ∀ x, foldedSetIterable iter X.env x = pure x := by intro _; rfl) (hs1 : ∀ env x, foldedSetIterable iter1 env x = pure x := by intro _ _; rfl) :
    PS X (.Assign [.Name y py] (.ListComp elt [⟨tg, iter, ifs, 0⟩, ⟨tg1, iter1, ifs1, 0⟩] scope pos) spos) (tAsg (tLc2 wi g tt wi1 g1 tt1 te vs vs1) (gName i)) := hv0 ▸ ps_setLc2 hc hN hy hyl hsw hi ok hv hg ht hi1 hg1 ht1 he hs hs1
theorem pe_lc2U {elt tg iter tg1 iter1 : Expr} {ifs ifs1 : List Expr} {scope : Scope} {own : List (Str × Nat)} {vs vs1 : List Nat} {pos : Pos} {wi wi1 : TI} {g g1 : TG} {tt tt1 : TT} {te : TE} (hv0 : own.map (·.2) = vs) (hc : X.calm = true) (hN : X.N.Nodup) (hi : PI X tg iter wi) (ok : BlkOk X.N X.env.scope scope own) (hv : ∀ i ∈ vs1, i ∈ own.map (·.2))
    (hg : ∀ (s : Shared) (H : Hp) (C : Addr) (cl : List (Str × Addr)) (fp : List Addr), PG (X.blk s H scope (compEnvC scope cl C X.env) fp) tg g) (ht : ∀ (s : Shared) (H : Hp) (C : Addr) (cl : List (Str × Addr)) (fp : List Addr), PTs (X.blk s H scope (compEnvC scope cl C X.env) fp) ifs tt)
    (hi1 : ∀ (s : Shared) (H : Hp) (C : Addr) (cl : List (Str × Addr)) (fp : List Addr), PI (X.blk s H scope (compEnvC scope cl C X.env) fp) tg1 iter1 wi1)
    (hg1 : ∀ (s : Shared) (H : Hp) (C : Addr) (cl : List (Str × Addr)) (fp : List Addr), PG (X.blk s H scope (compEnvC scope cl C X.env) fp) tg1 g1) (ht1 : ∀ (s : Shared) (H : Hp) (C : Addr) (cl : List (Str × Addr)) (fp : List Addr), PTs (X.blk s H scope (compEnvC scope cl C X.env) fp) ifs1 tt1)
    (he : ∀ (s : Shared) (H : Hp) (C : Addr) (cl : List (Str × Addr)) (fp : List Addr), PE (X.blk s H scope (compEnvC scope cl C X.env) fp) elt te) (hs : ∀ x, foldedSetIterable iter X.env x = pure x := by intro _; rfl) (hs1 : ∀ env x, foldedSetIterable iter1 env x = pure x := by intro _ _; rfl) :
    PE X (.ListComp elt [⟨tg, iter, ifs, 0⟩, ⟨tg1, iter1, ifs1, 0⟩] scope pos) (tLc2 wi g tt wi1 g1 tt1 te vs vs1) := hv0 ▸ pe_lc2 hc hN hi ok hv hg ht hi1 hg1 ht1 he hs hs1
end
/-! ### [.. for x in a list for c in a text] -/
section
variable {K : PySem.W.Frag} {σ : St} {H H1 : Hp} {Q : VK} {te t0 t1 : TE} {g g1 : TG} {a : Addr} {vs vs1 : List Nat}
def LcU2 (K : PySem.W.Frag) (g : TG) (t1 : TE) (g1 : TG) (te : TE) (vs vs1 : List Nat) (σ : St) (v : V) (H1 : Hp) (Q : VK) : Prop := tLc2 (iU K (tC v)) g tYes (iU K t1) g1 tYes te vs vs1 σ H1 Q
theorem y_lc2 (q : t0 σ H fun v H1 => LcU2 K g t1 g1 te vs vs1 σ v H1 Q) : tLc2 (iU K t0) g tYes (iU K t1) g1 tYes te vs vs1 σ H Q := q
theorem y_yesT {A B : Hp → Prop} (q : A H) : tYes σ H fun b H3 => if b = true then A H3 else B H3 := by
  show (if true = true then A H else B H)
  rw [if_pos rfl]
  exact q
theorem y_lc2LS (xs : List V) (z : Str) (f : V → Nat → V) (σx : V → St) (σy : V → Nat → St) (hx : H1 a = some (.lst xs)) (hz : xs.length * z.cps.toList.length ≤ sizeLine)
    (hw : ∀ x, wipe (σx x) vs = wipe σ vs) (hw1 : ∀ x c, wipe (σy x c) vs1 = wipe (σx x) vs1)
    (hg : ∀ x Hc (QG : St → Hp → Prop), QG (σx x) Hc → g x (wipe σ vs) Hc QG) (ht1 : ∀ x Hc (Q' : VK), Q' (.str z) Hc → t1 (σx x) Hc Q')
    (hg1 : ∀ x c Hc (QG : St → Hp → Prop), QG (σy x c) Hc → g1 (.str ⟨#[c]⟩) (wipe (σx x) vs1) Hc QG)
    (hte : ∀ x c Hc (Q' : VK), x ∈ xs → c ∈ z.cps.toList → Q' (f x c) Hc → te (σy x c) Hc Q')
    (hd : ∀ D, H1 D = none → Q (.ref D) (upd H1 D (.lst (xs.flatMap fun x => z.cps.toList.map (f x))))) : LcU2 K g t1 g1 te vs vs1 σ (.ref a) H1 Q := by
  refine .inl ⟨a, rfl, ⟨_, SqL.of hx⟩, ?_⟩
  intro D hD
  have nD : a ≠ D := ne_of_none hx hD
  have len : ∀ l : List V, (l.flatMap fun x => z.cps.toList.map (f x)).length = l.length * z.cps.toList.length := by
    intro l
    induction l with
    | nil => simp
    | cons x r ih => rw [List.flatMap_cons, List.length_append, ih, List.length_map, List.length_cons, Nat.succ_mul, Nat.add_comm]
  have stp : ∀ i x, xs[i]? = some x → (xs.take (i + 1)).flatMap (fun x => z.cps.toList.map (f x)) = (xs.take i).flatMap (fun x => z.cps.toList.map (f x)) ++ z.cps.toList.map (f x) := by
    intro i x h
    rw [List.take_add_one, h, List.flatMap_append]
    simp
  refine ⟨fun i m H => m = xs.length - i ∧ i ≤ xs.length ∧ H = upd H1 D (.lst ((xs.take i).flatMap fun x => z.cps.toList.map (f x))), ⟨xs.length, by simp, Nat.zero_le _, by simp⟩, ?_⟩
  rintro i m H ⟨rfl, hi, rfl⟩
  have hL : ∀ l, SqL K (upd H1 D (.lst l)) a xs := fun l => SqL.of (by rw [upd_ne nD]; exact hx)
  by_cases hlt : i < xs.length
  · refine .inr ⟨walk_list.goes i _ hlt (hL _), fun H => H = upd H1 D (.lst ((xs.take (i + 1)).flatMap fun x => z.cps.toList.map (f x))), fun H' p' => ⟨xs.length - (i + 1), by omega, rfl, hlt, p'⟩, fun x H' y => ?_⟩
    obtain ⟨e1, ex⟩ := walk_list.yields i _ x H' hlt (hL _) y
    subst e1
    refine hg x _ _ ⟨hw x, ?_⟩
    refine y_yesT ?_
    refine ht1 x _ _ ?_
    refine .inr (.inr ⟨z, rfl, ?_⟩)
    refine ⟨fun j k H => k = z.cps.toList.length - j ∧ j ≤ z.cps.toList.length ∧ H = upd H1 D (.lst ((xs.take i).flatMap (fun x => z.cps.toList.map (f x)) ++ (z.cps.toList.take j).map (f x))), ⟨z.cps.toList.length, by simp, Nat.zero_le _, by simp⟩, ?_⟩
    rintro j k H ⟨rfl, hj, rfl⟩
    by_cases jl : j < z.cps.toList.length
    · refine .inr ⟨walk_str.goes j _ (by simpa using jl) trivial, fun H => H = upd H1 D (.lst ((xs.take i).flatMap (fun x => z.cps.toList.map (f x)) ++ (z.cps.toList.take (j + 1)).map (f x))), fun H' p' => ⟨z.cps.toList.length - (j + 1), by omega, rfl, jl, p'⟩, fun y H' yy => ?_⟩
      obtain ⟨e1, c, hc, rfl⟩ := walk_str.yields j _ y H' (by simpa using jl) trivial yy
      subst e1
      have hc' : z.cps.toList[j]? = some c := by simpa using hc
      refine hg1 x c _ _ ⟨hw1 x c, ?_⟩
      refine y_yesT ?_
      refine hte x c _ _ (List.mem_of_getElem? ex) (List.mem_of_getElem? hc') ?_
      refine ⟨_, upd_same, ?_, ?_⟩
      · have h1 : (i + 1) * z.cps.toList.length ≤ xs.length * z.cps.toList.length := Nat.mul_le_mul_right _ hlt
        rw [Nat.succ_mul] at h1
        rw [List.length_append, len, List.length_map, List.length_take, List.length_take, Nat.min_eq_left hi]
        omega
      · rw [upd_upd, List.take_add_one, hc', List.map_append, List.append_assoc]
        rfl
    · have e : j = z.cps.toList.length := by omega
      subst e
      refine .inl ⟨walk_str.stops _ trivial, ?_⟩
      rw [stp i x ex, List.take_of_length_le (Nat.le_refl _)]
  · have e : i = xs.length := by omega
    subst e
    refine .inl ⟨walk_list.stops _ (hL _), ?_⟩
    rw [List.take_of_length_le (Nat.le_refl _)]
    exact hd D hD
end
/-! ### except clauses -/
section
variable {K : PySem.W.Frag} {σ : St} {H : Hp} {Wout : WX} {n : St → Hp → Prop} {rt : VK} {bk ct : St → Hp → Prop} {D : Ends} {c cls : Value} {d : Option Addr} {ts : Addr → Value → Option Addr → TS} {r : List Cl} {Q : VK} {a C1 : Addr}
theorem y_we {W : WX} (q : W cls d σ H) : WE W σ cls d H := q
theorem y_hdT (h : PySem.W.exmOne K cls c = some true) (q : ∀ a, H a = none → ts a cls d D σ H) : wU K Wout D ((c, none, ts) :: r) cls d σ H := ⟨true, h, fun _ => q, fun e => nomatch e⟩
theorem y_hdA {i : Nat} {σ' : Addr → St} (h : PySem.W.exmOne K cls c = some true) (e : ∀ a, σ.set i (some (.ref a)) = σ' a) (q : ∀ a, H a = none → ts a cls d ⟨fun σ2 H' => n (σ2.set i none) H', rt, fun σ2 H' => bk (σ2.set i none) H', fun σ2 H' => ct (σ2.set i none) H'⟩ (σ' a) H) : wU K Wout ⟨n, rt, bk, ct⟩ ((c, some i, ts) :: r) cls d σ H := ⟨true, h, fun _ a na => by
  show ts a cls d _ (σ.set i (some (.ref a))) H
  rw [e a]
  exact q a na, fun e => nomatch e⟩
theorem y_hdF {o : Option Nat} (h : PySem.W.exmOne K cls c = some false) (q : wU K Wout D r cls d σ H) : wU K Wout D ((c, o, ts) :: r) cls d σ H := ⟨false, h, fun e => (nomatch e), fun _ => q⟩
theorem y_hdN (q : Wout cls d σ H) : wU K Wout D [] cls d σ H := q
theorem y_isE {C2 : Addr} {b : Bool} (C : ExcC K C1) (h : PySem.W.kitOne K (.ref C1) (.ref C2) = some b) (q : Q (.bl b) H) : rIsEU K (.ref C1) none a [.ref a, .ref C2] H Q := ⟨C1, rfl, rfl, C, .ref C2, .ref C2, b, rfl, fun u r => by cases r; rfl, h, q⟩
theorem y_isET {T : String} {b : Bool} (C : ExcC K C1) (h : PySem.W.kitOne K (.ref C1) (.type T) = some b) (q : Q (.bl b) H) : rIsEU K (.ref C1) none a [.ref a, .ty T] H Q := ⟨C1, rfl, rfl, C, .ty T, .type T, b, rfl, fun u r => by cases r; rfl, h, q⟩
end
/-! ### data compared -/
section
variable {K : PySem.W.Frag} {σ : St} {H H1 : Hp} {Q : VK} {x y : V} {d e : PyData} {a : Addr} {S : List Addr}
theorem y_neD (hd : Dp K H x d) (he : Dp K H y e) (sd : SeqAt.shaped d = true) (se : SeqAt.shaped e = true) (q : Q (.bl (!PyData.eqv d e)) H) : rNeU K x y H Q := .inr ⟨d, e, hd, he, sd, se, q⟩
theorem y_eqD (hd : Dp K H x d) (he : Dp K H y e) (sd : SeqAt.shaped d = true) (se : SeqAt.shaped e = true) (q : Q (.bl (PyData.eqv d e)) H) : rEqU K x y H Q := .inr ⟨d, e, hd, he, sd, se, q⟩
theorem y_neSame (hd : Dp K H x d) (he : Dp K H y d) (sd : SeqAt.shaped d = true) (q : Q (.bl false) H) : rNeU K x y H Q := y_neD hd he sd sd (by
  rw [SeqAt.eqv_refl d (SeqAt.canLay_of_shaped sd)]
  exact q)
theorem y_eqSame (hd : Dp K H x d) (he : Dp K H y d) (sd : SeqAt.shaped d = true) (q : Q (.bl true) H) : rEqU K x y H Q := y_eqD hd he sd sd (by
  rw [SeqAt.eqv_refl d (SeqAt.canLay_of_shaped sd)]
  exact q)
def dStrs (ys : List Str) : PyData := .list (ys.map PyData.str)
theorem dpAll_strs : ∀ ys : List Str, DpAll K H (ys.map V.str) (ys.map PyData.str)
  | [] => .nil
  | x :: r => .cons (.str x) (dpAll_strs r)
theorem dp_strs {ys : List Str} (h : SqL K H a (ys.map V.str)) : Dp K H (.ref a) (dStrs ys) := .lst h (dpAll_strs ys)
end
/-! ### sorted texts -/
theorem ltCps_dec (a b : List Nat) : ltCps a b = decide (a < b) := PyProof.Rows.ltCps_eq a b
theorem rising_pw : ∀ (l : List Str) (p : Str), PyProof.Rows.risingS p l = true → (p :: l).Pairwise fun a b : Str => a.cps.toList ≤ b.cps.toList
  | [], p, _ => by simp
  | x :: r, p, h => by
    have h' : (!ltCps x.cps.toList p.cps.toList && PyProof.Rows.risingS x r) = true := h
    simp only [Bool.and_eq_true, Bool.not_eq_true'] at h'
    have q := rising_pw r x h'.2
    have px : p.cps.toList ≤ x.cps.toList := by
      have := h'.1
      rw [ltCps_dec] at this
      exact of_decide_eq_false this
    refine List.pairwise_cons.mpr ⟨fun y hy => ?_, q⟩
    rcases List.mem_cons.mp hy with e | e
    · subst e; exact px
    · exact List.le_trans px ((List.pairwise_cons.mp q).1 y e)
theorem sorted_pw {l : List Str} (h : PyProof.Rows.sortedS l = true) : l.Pairwise fun a b : Str => a.cps.toList ≤ b.cps.toList := by
  cases l with
  | nil => exact .nil
  | cons x r => exact rising_pw r x h
theorem sorted_one {l m : List Str} (hl : PyProof.Rows.sortedS l = true) (hm : PyProof.Rows.sortedS m = true) (h : l.Perm m) : l = m :=
  List.Perm.eq_of_pairwise (fun a b _ _ h1 h2 => by
    have := List.le_antisymm h1 h2
    cases a; cases b
    congr 1
    exact Array.toList_inj.mp this) (sorted_pw hl) (sorted_pw hm) h
/-! ### texts in lists as data -/
theorem canLay_strs : ∀ {ys : List Str}, (∀ y ∈ ys, PyData.strOk y = true) → PyData.canLayAll0 (ys.map PyData.str) = true
  | [], _ => rfl
  | y :: r, h => by
    show (PyData.canLay0 (.str y) && PyData.canLayAll0 (r.map PyData.str)) = true
    rw [canLay_strs fun z hz => h z (List.mem_cons_of_mem _ hz)]
    show (PyData.strOk y && true) = true
    rw [h y List.mem_cons_self]
    rfl
theorem depth_strs : ∀ ys : List Str, PyData.depthAll (ys.map PyData.str) = 0
  | [] => rfl
  | y :: r => by
    show max 0 (PyData.depthAll (r.map PyData.str)) = 0
    rw [depth_strs r]
    rfl
theorem shaped_strs {ys : List Str} (h : ∀ y ∈ ys, PyData.strOk y = true) : SeqAt.shaped (dStrs ys) = true := by
  show (PyData.canLayAll0 (ys.map PyData.str) && decide (PyData.depthAll (ys.map PyData.str) + 1 ≤ 64)) = true
  rw [canLay_strs h, depth_strs]
  rfl
theorem shaped_two {ys zs : List Str} (h : ∀ y ∈ ys, PyData.strOk y = true) (h2 : ∀ y ∈ zs, PyData.strOk y = true) : SeqAt.shaped (.list [dStrs ys, dStrs zs]) = true := by
  show ((PyData.canLayAll0 (ys.map PyData.str) && (PyData.canLayAll0 (zs.map PyData.str) && true)) && decide (max (PyData.depthAll (ys.map PyData.str) + 1) (max (PyData.depthAll (zs.map PyData.str) + 1) 0) + 1 ≤ 64)) = true
  rw [canLay_strs h, canLay_strs h2, depth_strs, depth_strs]
  rfl
/-! ### objects -/
section
variable {K : PySem.W.Frag} {σ : St} {H : Hp} {Q : VK} {ta tv te : TE} {t : TA} {C dx a : Addr} {fs : List (Str × V)} {f : Str} {v : V} {n : St → Hp → Prop} {rt : VK} {bk ct : St → Hp → Prop}
def FldAt (K : PySem.W.Frag) (x : V) (f : Str) (H1 : Hp) (Q : VK) : Prop := ∃ a C dx fs v, x = .ref a ∧ H1 a = some (.ins C dx fs) ∧ Cls K C ∧ NoAttr K C f ∧ fs.lookup f = some v ∧ Q v H1
theorem y_fld (q : ta σ H fun x H1 => FldAt K x f H1 Q) : tFld K ta f σ H Q := q
theorem y_fldAt (h : H a = some (.ins C dx fs)) (c : Cls K C) (m : NoAttr K C f) (l : fs.lookup f = some v) (q : Q v H) : FldAt K (.ref a) f H Q := ⟨a, C, dx, fs, v, rfl, h, c, m, l, q⟩
def FldPut (K : PySem.W.Frag) (x : V) (f : Str) (y : V) (H2 : Hp) (QG : Hp → Prop) : Prop := ∃ a C dx fs, x = .ref a ∧ H2 a = some (.ins C dx fs) ∧ Cls K C ∧ NoAttr K C f ∧ fs.length < 1000 ∧ QG (upd H2 a (.ins C dx (putF f y fs)))
theorem y_sfld (q : tv σ H fun y H1 => ta σ H1 fun x H2 => FldPut K x f y H2 fun H3 => n σ H3) : sFld K ta tv f ⟨n, rt, bk, ct⟩ σ H := q
theorem y_fldPut {QG : Hp → Prop} (h : H a = some (.ins C dx fs)) (c : Cls K C) (m : NoAttr K C f) (l : fs.length < 1000) (q : ∀ H', H' a = some (.ins C dx (putF f v fs)) → Ev [a] H H' → QG H') : FldPut K (.ref a) f v H QG :=
  ⟨a, C, dx, fs, rfl, h, c, m, l, q _ upd_same (Ev.put h rfl (by simp [kindO]) (by simp [kindO]))⟩
def MethAt (C : Addr) (m : Str) (x : V) (H1 : Hp) (P : Prop) : Prop := ∃ a dx fs, x = .ref a ∧ H1 a = some (.ins C dx fs) ∧ fs.lookup m = none ∧ P
theorem y_meth {m : Str} {sp : Sp} {dvs : List V} {E : XK} (q : ta σ H fun x H1 => MethAt C m x H1 (t σ H1 fun vs H2 => sp (x :: (vs ++ dvs)) H2 Q E)) : tMeth C m sp dvs E ta t σ H Q := q
theorem y_methAt {m : Str} {P : Prop} (h : H a = some (.ins C dx fs)) (l : fs.lookup m = none) (q : P) : MethAt C m (.ref a) H P := ⟨a, dx, fs, rfl, h, l, q⟩
def MakeAt (C : Addr) (sp : Sp) (E : XK) (vs : List V) (H1 : Hp) (Q : VK) : Prop := ∀ x dx, H1 x = none → H1 dx = none → dx ≠ x → sp (.ref x :: vs) (upd (upd H1 dx (.own x)) x (.ins C dx [])) (fun v H2 => v = .non ∧ Q (.ref x) H2) E
theorem y_mk {sp : Sp} {dvs : List V} {E : XK} (q : t σ H fun vs H1 => MakeAt C sp E (vs ++ dvs) H1 Q) : tMake C sp dvs E t σ H Q := q
theorem y_makeAt {sp : Sp} {E : XK} {vs : List V} (q : ∀ x dx H2, H x = none → H2 x = some (.ins C dx []) → Ev [] H H2 → sp (.ref x :: vs) H2 (fun v H3 => v = .non ∧ Q (.ref x) H3) E) : MakeAt C sp E vs H Q := fun x dx nx nd ne =>
  q x dx _ nx upd_same ((Ev.new nd).trans (Ev.new (by rw [upd_ne ne.symm]; exact nx)))
end
/-! ### dicts with tuples as keys -/
section
variable {K : PySem.W.Frag} {σ : St} {H : Hp} {Q : VK} {a b : Addr} {v : V} {kvs : List (List Key × V)} {k : List Key}
theorem y_newDT (q : ∀ p H', H p = none → H' p = some (.dT []) → Ev [] H H' → Q (.ref p) H') : tDNewT σ H Q := fun p hp => q p _ hp upd_same (Ev.new hp)
theorem y_setDT {QG : Hp → Prop} (h : H a = some (.dT kvs)) (hb : H b = some (.tup (k.map kV))) (l : kvs.length < sizeLine) (q : ∀ H', H' a = some (.dT (putK kvs k v)) → Ev [a] H H' → QG H') : rSetU (.ref a) (.ref b) v H QG :=
  .inr ⟨a, _, rfl, .inr ⟨kvs, k, b, h, rfl, hb, l, rfl⟩, q _ upd_same (Ev.put h rfl (by simp [kindO]) (by simp [kindO]))⟩
theorem y_getDT (h : H a = some (.dT kvs)) (hb : H b = some (.tup (k.map kV))) (e : valV kvs k = some v) (q : Q v H) : rIxU K (.ref a) (.ref b) H Q := .inr ⟨a, v, rfl, by rw [← e]; exact DGet.t h hb, q⟩
end
/-! ### loops over enumerate and zip -/
section
variable {K : PySem.W.Frag} {g : TG} {tb : TS} {n : St → Hp → Prop} {rt : VK} {bk ct : St → Hp → Prop} {σ : St} {H H0 : Hp} {t0 t1 : TE} {k k1 k2 : Sk} {x x1 x2 : V}
def ForE (K : PySem.W.Frag) (g : TG) (tb : TS) (D : Ends) (σ : St) (v : V) (H : Hp) : Prop := tFor (iEnumU K (tCons (tC v) tNil)) g tb D σ H
theorem y_fore (q : t0 σ H fun v H1 => ForE K g tb ⟨n, rt, bk, ct⟩ σ v H1) : tFor (iEnumU K (tCons t0 tNil)) g tb ⟨n, rt, bk, ct⟩ σ H := q
def ForZ (K : PySem.W.Frag) (g : TG) (tb : TS) (D : Ends) (σ : St) (v w : V) (H : Hp) : Prop := tFor (iZipU K (tCons (tC v) (tCons (tC w) tNil))) g tb D σ H
theorem y_forz (q : t0 σ H fun v H1 => t1 σ H1 fun w H2 => ForZ K g tb ⟨n, rt, bk, ct⟩ σ v w H2) : tFor (iZipU K (tCons t0 (tCons t1 tNil))) g tb ⟨n, rt, bk, ct⟩ σ H := q
theorem y_forEn (xs : List V) (hx : SrcAt k K H x xs) (Pv : Nat → St → Hp → Prop) (h0 : Pv 0 σ H) (hl : ∀ i σ H, i ≤ xs.length → Pv i σ H → SrcAt k K H x xs)
    (hs : ∀ (i : Nat) (y : V) (T : Addr) (σ : St) (H0 H : Hp), xs[i]? = some y → Pv i σ H0 → H0 T = none → H T = some (.tup [.int (i : Nat), y]) → Ev [] H0 H → g (.ref T) σ H fun σ2 H2 => tb ⟨Pv (i + 1), rt, n, Pv (i + 1)⟩ σ2 H2) (hd : ∀ σ H, Pv xs.length σ H → n σ H) : ForE K g tb ⟨n, rt, bk, ct⟩ σ x H := by
  refine ⟨x, k, xs, rfl, hx, ?_⟩
  refine for_it walk_enumU Pv h0 hl (fun i v σ H H' hi p y => ?_) hd
  obtain ⟨T, y, rfl, nT, rfl, hy⟩ := y
  exact hs i y T σ H _ hy p nT upd_same (Ev.new nT)
theorem y_forZn (xs ys : List V) (hx : SrcAt k1 K H x1 xs) (hy : SrcAt k2 K H x2 ys) (Pv : Nat → St → Hp → Prop) (h0 : Pv 0 σ H) (hl : ∀ i σ H, i ≤ min xs.length ys.length → Pv i σ H → SrcAt k1 K H x1 xs ∧ SrcAt k2 K H x2 ys)
    (hs : ∀ (i : Nat) (y z : V) (T : Addr) (σ : St) (H0 H : Hp), xs[i]? = some y → ys[i]? = some z → Pv i σ H0 → H0 T = none → H T = some (.tup [y, z]) → Ev [] H0 H → g (.ref T) σ H fun σ2 H2 => tb ⟨Pv (i + 1), rt, n, Pv (i + 1)⟩ σ2 H2) (hd : ∀ σ H, Pv (min xs.length ys.length) σ H → n σ H) : ForZ K g tb ⟨n, rt, bk, ct⟩ σ x1 x2 H := by
  refine ⟨x1, x2, k1, k2, xs, ys, rfl, hx, hy, ?_⟩
  refine for_it walk_zipU Pv h0 hl (fun i v σ H H' hi p y => ?_) hd
  obtain ⟨T, y, z, rfl, nT, rfl, hy, hz⟩ := y
  exact hs i y z T σ H _ hy hz p nT upd_same (Ev.new nT)
theorem srcT {a : Addr} {xs : List V} (h : SqT K H a xs) : SrcAt .t K H (.ref a) xs := ⟨a, rfl, h⟩
theorem srcL {a : Addr} {xs : List V} (h : SqL K H a xs) : SrcAt .l K H (.ref a) xs := ⟨a, rfl, h⟩
theorem srcS {z : Str} : SrcAt .s K H (.str z) (z.cps.toList.map fun c => V.str ⟨#[c]⟩) := ⟨z, rfl, rfl⟩
end
/-! ### slices, texts -/
section
variable {K : PySem.W.Frag} {σ : St} {H : Hp} {Q : VK} {te to : TE} {tl th : TO} {r : V → Option Int → Option Int → Hp → VK → Prop} {lo hi : Option Int} {a : Addr} {xs : List V} {z : Str} {v : V}
theorem y_sl (q : te σ H fun x H1 => tl σ H1 fun l H2 => th σ H2 fun u H3 => r x l u H3 Q) : tSl r te tl th σ H Q := q
theorem y_nopart {QO : Option Int → Hp → Prop} (q : QO none H) : tNoPart σ H QO := q
theorem y_part {QO : Option Int → Hp → Prop} (q : te σ H fun x H1 => ∃ i, x = .int i ∧ QO (some i) H1) : tPart te σ H QO := q
theorem y_isint {i : Int} {P : Int → Prop} (q : P i) : ∃ j, V.int i = .int j ∧ P j := ⟨i, rfl, q⟩
theorem y_slL (xs : List V) (h : SqL K H a xs) (q : ∀ p H', H p = none → H' p = some (.lst (cutV xs lo hi)) → Ev [] H H' → Q (.ref p) H') : rSlU K (.ref a) lo hi H Q := .inl ⟨a, xs, rfl, h, fun p hp => q p _ hp upd_same (Ev.new hp)⟩
theorem y_slS (h : z.length ≤ sizeLine) (q : Q (.str (cutS z lo hi)) H) : rSlU K (.str z) lo hi H Q := .inr (.inr ⟨z, rfl, h, q⟩)
theorem y_slT (xs : List V) (h : SqT K H a xs) (q : ∀ p H', SqT K H' p (cutV xs lo hi) → Ev [] H H' → Q (.ref p) H') : rSlU K (.ref a) lo hi H Q := by
  refine .inr (.inl ⟨a, xs, rfl, h, fun e => q a H ?_ Ev.refl, fun _ p hp => q p _ (SqT.of upd_same) (Ev.new hp)⟩)
  have : cutV xs lo hi = xs := by unfold cutV; rw [e.1, e.2]; simp
  rw [this]; exact h
theorem y_m1 {r : V → List V → Hp → VK → Prop} (q : to σ H fun x H1 => (∃ a, x = .str a) ∧ te σ H1 fun y H2 => r x [y] H2 Q) : tM1 r to te σ H Q := q
theorem y_m0 {r : V → List V → Hp → VK → Prop} (q : to σ H fun x H1 => (∃ a, x = .str a) ∧ r x [] H1 Q) : tM0 r to σ H Q := q
theorem y_isstr {P : Prop} (q : P) : (∃ a, V.str z = .str a) ∧ P := ⟨⟨z, rfl⟩, q⟩
theorem y_bm {T : String} {r : V → List V → Hp → VK → Prop} {t : TA} (q : to σ H fun x H1 => tyV K T x H1 ∧ t σ H1 fun xs H2 => r x xs H2 Q) : tBM K T r to t σ H Q := q
theorem y_bm0 {T : String} {r : V → List V → Hp → VK → Prop} (q : to σ H fun x H1 => tyV K T x H1 ∧ r x [] H1 Q) : tBM0 K T r to σ H Q := q
theorem y_tyL {P : Prop} {xs : List V} (h : SqL K H a xs) (q : P) : tyV K "list" (.ref a) H ∧ P := ⟨.inl ⟨rfl, xs, h⟩, q⟩
theorem y_tyS {P : Prop} (q : P) : tyV K "str" (.str z) H ∧ P := ⟨rfl, q⟩
theorem y_append (xs : List V) (h : H a = some (.lst xs)) (l : xs.length < sizeLine) (q : ∀ H', H' a = some (.lst (xs ++ [v])) → Ev [a] H H' → Q .non H') : rAppend (.ref a) [v] H Q := ⟨a, xs, v, rfl, rfl, h, l, q _ upd_same (Ev.put h rfl (by simp [kindO]) (by simp [kindO]))⟩
theorem y_extend {b : Addr} (xs ys : List V) (h : H a = some (.lst xs)) (h2 : H b = some (.lst ys)) (l : xs.length + ys.length ≤ sizeLine) (q : ∀ H', H' a = some (.lst (xs ++ ys)) → Ev [a] H H' → Q .non H') : rExtend (.ref a) [.ref b] H Q := ⟨a, b, xs, ys, rfl, rfl, h, h2, l, q _ upd_same (Ev.put h rfl (by simp [kindO]) (by simp [kindO]))⟩
theorem y_clear (xs : List V) (h : H a = some (.lst xs)) (q : ∀ H', H' a = some (.lst []) → Ev [a] H H' → Q .non H') : rClear (.ref a) [] H Q := ⟨a, xs, rfl, rfl, h, q _ upd_same (Ev.put h rfl (by simp [kindO]) (by simp [kindO]))⟩
theorem y_tupd {t : TA} (q : t σ H fun xs H1 => xs.length ≤ sizeLine ∧ ∀ p H', H1 p = none → H' p = some (.tup xs) → Ev [] H1 H' → Q (.ref p) H') (mono : ∀ H (A B : List V → Hp → Prop), (∀ xs H1, A xs H1 → B xs H1) → t σ H A → t σ H B) : tTup t σ H Q := mono H _ _ (fun xs H1 ⟨l, k⟩ => ⟨l, fun p hp => k p _ hp upd_same (Ev.new hp)⟩) q
def NewT (xs : List V) (H : Hp) (Q : VK) : Prop := xs.length ≤ sizeLine ∧ ∀ p, H p = none → Q (.ref p) (upd H p (.tup xs))
def NewL (xs : List V) (H : Hp) (Q : VK) : Prop := xs.length ≤ sizeLine ∧ ∀ p, H p = none → Q (.ref p) (upd H p (.lst xs))
theorem y_setD {kvs : List (Key × V)} {k : Str} {QG : Hp → Prop} (h : H a = some (.dK kvs)) (l : kvs.length < sizeLine) (q : ∀ H', H' a = some (.dK (putK kvs (.inr k) v)) → Ev [a] H H' → QG H') : rSetU (.ref a) (.str k) v H QG :=
  .inr ⟨a, _, rfl, .inl ⟨kvs, .inr k, h, rfl, l, rfl⟩, q _ upd_same (Ev.put h rfl (by simp [kindO]) (by simp [kindO]))⟩
theorem y_listD {kvs : List (Key × V)} (h : H a = some (.dK kvs)) (q : ∀ p H', H p = none → H' p = some (.lst (kvs.map fun kv => kV kv.1)) → Ev [] H H' → Q (.ref p) H') : rListU K [.ref a] H Q := .inr (.inl ⟨a, kvs, rfl, h, fun p hp => q p _ hp upd_same (Ev.new hp)⟩)
theorem y_listS {z : Str} (l : z.length ≤ sizeLine) (q : ∀ p H', H p = none → H' p = some (.lst (z.cps.toList.map fun c => V.str ⟨#[c]⟩)) → Ev [] H H' → Q (.ref p) H') : rListU K [.str z] H Q := .inr (.inr ⟨z, rfl, l, fun p hp => q p _ hp upd_same (Ev.new hp)⟩)
theorem y_listL (xs : List V) (h : SqL K H a xs ∨ SqT K H a xs) (q : ∀ p H', H p = none → H' p = some (.lst xs) → Ev [] H H' → Q (.ref p) H') : rListU K [.ref a] H Q := .inl ⟨a, xs, rfl, h, fun p hp => q p _ hp upd_same (Ev.new hp)⟩
def NewD (H : Hp) (Q : VK) : Prop := ∀ p, H p = none → Q (.ref p) (upd H p (.dK []))
theorem y_newD (q : ∀ p H', H p = none → H' p = some (.dK []) → Ev [] H H' → Q (.ref p) H') : tDNewK σ H Q := fun p hp => q p _ hp upd_same (Ev.new hp)
theorem y_tTup {t : TA} (q : t σ H fun xs H1 => NewT xs H1 Q) : tTup t σ H Q := q
theorem y_tLst {t : TA} (q : t σ H fun xs H1 => NewL xs H1 Q) : tLst t σ H Q := q
theorem y_newT {xs : List V} (l : xs.length ≤ sizeLine) (q : ∀ p H', H p = none → H' p = some (.tup xs) → Ev [] H H' → Q (.ref p) H') : NewT xs H Q := ⟨l, fun p h => q p _ h upd_same (Ev.new h)⟩
theorem y_newL {xs : List V} (l : xs.length ≤ sizeLine) (q : ∀ p H', H p = none → H' p = some (.lst xs) → Ev [] H H' → Q (.ref p) H') : NewL xs H Q := ⟨l, fun p h => q p _ h upd_same (Ev.new h)⟩
theorem y_newL0 (q : ∀ p H', H p = none → H' p = some (.lst []) → Ev [] H H' → Q (.ref p) H') : NewL [] H Q := ⟨Nat.zero_le _, fun p h => q p _ h upd_same (Ev.new h)⟩
theorem y_catL {b : Addr} (xs ys : List V) (h : H a = some (.lst xs)) (h2 : H b = some (.lst ys)) (l : xs.length + ys.length ≤ sizeLine) (q : ∀ p H', H p = none → H' p = some (.lst (xs ++ ys)) → Ev [] H H' → Q (.ref p) H') : rAddU K (.ref a) (.ref b) H Q := .inr (.inr (.inl ⟨a, b, xs, ys, rfl, rfl, h, h2, l, fun p hp => q p _ hp upd_same (Ev.new hp)⟩))
theorem y_catT {b : Addr} (xs ys : List V) (h : SqT K H a xs) (h2 : SqT K H b ys) (l : xs.length + ys.length ≤ sizeLine) (q : ∀ p H', SqT K H' p (xs ++ ys) → Ev [] H H' → Q (.ref p) H') : rAddU K (.ref a) (.ref b) H Q :=
  .inr (.inr (.inr ⟨a, b, xs, ys, rfl, rfl, h, h2, l, fun e => q b H (by subst e; exact h2) Ev.refl, fun _ e => q a H (by subst e; rw [List.append_nil]; exact h) Ev.refl, fun _ _ p hp => q p _ (SqT.of upd_same) (Ev.new hp)⟩))
theorem y_sorted {xs : List Str} (h : SqL K H a (xs.map V.str)) (q : ∀ p H' ys, H p = none → H' p = some (.lst (ys.map V.str)) → Ev [] H H' → ys.Perm xs → PyProof.Rows.sortedS ys = true → Q (.ref p) H') : rSortedU K [.ref a] H Q := ⟨a, xs, rfl, h, fun p ys hp pm so => q p _ ys hp upd_same (Ev.new hp) pm so⟩
theorem y_join {a : Str} {p : Addr} (ys : List Str) (h : SqL K H p (ys.map V.str) ∨ SqT K H p (ys.map V.str)) (l : (ys.map (·.length)).sum + ys.length * a.length ≤ 16777216) (q : Q (.str (Txt.join a ys)) H) : rJoinU K (.str a) [.ref p] H Q := ⟨a, p, ys, rfl, rfl, h, l, q⟩
end
end L2

/-! ## G4: slots by their places (printed by a program) -/
namespace L2
open PySem PySem.Spec PyProof.Rows
section
variable {H : Hp} {Q Qt : VK} {te : TE} {n : St → Hp → Prop} {rt : VK} {bk ct : St → Hp → Prop} {x v : V} {QG : St → Hp → Prop} {t : List (Option V)} {a0 a1 a2 a3 a4 a5 a6 a7 a8 a9 a10 a11 a12 a13 a14 a15 a16 a17 a18 a19 a20 a21 a22 a23 a24 a25 a26 a27 a28 a29 a30 : Option V}
theorem y_var0 (q : Q v H) : tVar 0 (some v :: t) H Q := ⟨v, rfl, q⟩
theorem y_set0 (q : te (a0 :: t) H fun x H1 => n (some x :: t) H1) : tAsg te (gName 0) ⟨n, rt, bk, ct⟩ (a0 :: t) H := q
theorem y_gname0 (q : QG (some x :: t) H) : gName 0 x (a0 :: t) H QG := q
theorem y_wname0 (q : QG (some x :: t) H) : gName 0 x (wipe (a0 :: t) [0]) H fun σ2 H2 => wipe σ2 [0] = wipe (a0 :: t) [0] ∧ QG σ2 H2 := ⟨rfl, q⟩
theorem y_var1 (q : Q v H) : tVar 1 (a0 :: some v :: t) H Q := ⟨v, rfl, q⟩
theorem y_set1 (q : te (a0 :: a1 :: t) H fun x H1 => n (a0 :: some x :: t) H1) : tAsg te (gName 1) ⟨n, rt, bk, ct⟩ (a0 :: a1 :: t) H := q
theorem y_gname1 (q : QG (a0 :: some x :: t) H) : gName 1 x (a0 :: a1 :: t) H QG := q
theorem y_wname1 (q : QG (a0 :: some x :: t) H) : gName 1 x (wipe (a0 :: a1 :: t) [1]) H fun σ2 H2 => wipe σ2 [1] = wipe (a0 :: a1 :: t) [1] ∧ QG σ2 H2 := ⟨rfl, q⟩
theorem y_var2 (q : Q v H) : tVar 2 (a0 :: a1 :: some v :: t) H Q := ⟨v, rfl, q⟩
theorem y_set2 (q : te (a0 :: a1 :: a2 :: t) H fun x H1 => n (a0 :: a1 :: some x :: t) H1) : tAsg te (gName 2) ⟨n, rt, bk, ct⟩ (a0 :: a1 :: a2 :: t) H := q
theorem y_gname2 (q : QG (a0 :: a1 :: some x :: t) H) : gName 2 x (a0 :: a1 :: a2 :: t) H QG := q
theorem y_wname2 (q : QG (a0 :: a1 :: some x :: t) H) : gName 2 x (wipe (a0 :: a1 :: a2 :: t) [2]) H fun σ2 H2 => wipe σ2 [2] = wipe (a0 :: a1 :: a2 :: t) [2] ∧ QG σ2 H2 := ⟨rfl, q⟩
theorem y_var3 (q : Q v H) : tVar 3 (a0 :: a1 :: a2 :: some v :: t) H Q := ⟨v, rfl, q⟩
theorem y_set3 (q : te (a0 :: a1 :: a2 :: a3 :: t) H fun x H1 => n (a0 :: a1 :: a2 :: some x :: t) H1) : tAsg te (gName 3) ⟨n, rt, bk, ct⟩ (a0 :: a1 :: a2 :: a3 :: t) H := q
theorem y_gname3 (q : QG (a0 :: a1 :: a2 :: some x :: t) H) : gName 3 x (a0 :: a1 :: a2 :: a3 :: t) H QG := q
theorem y_wname3 (q : QG (a0 :: a1 :: a2 :: some x :: t) H) : gName 3 x (wipe (a0 :: a1 :: a2 :: a3 :: t) [3]) H fun σ2 H2 => wipe σ2 [3] = wipe (a0 :: a1 :: a2 :: a3 :: t) [3] ∧ QG σ2 H2 := ⟨rfl, q⟩
theorem y_var4 (q : Q v H) : tVar 4 (a0 :: a1 :: a2 :: a3 :: some v :: t) H Q := ⟨v, rfl, q⟩
theorem y_set4 (q : te (a0 :: a1 :: a2 :: a3 :: a4 :: t) H fun x H1 => n (a0 :: a1 :: a2 :: a3 :: some x :: t) H1) : tAsg te (gName 4) ⟨n, rt, bk, ct⟩ (a0 :: a1 :: a2 :: a3 :: a4 :: t) H := q
theorem y_gname4 (q : QG (a0 :: a1 :: a2 :: a3 :: some x :: t) H) : gName 4 x (a0 :: a1 :: a2 :: a3 :: a4 :: t) H QG := q
theorem y_wname4 (q : QG (a0 :: a1 :: a2 :: a3 :: some x :: t) H) : gName 4 x (wipe (a0 :: a1 :: a2 :: a3 :: a4 :: t) [4]) H fun σ2 H2 => wipe σ2 [4] = wipe (a0 :: a1 :: a2 :: a3 :: a4 :: t) [4] ∧ QG σ2 H2 := ⟨rfl, q⟩
theorem y_var5 (q : Q v H) : tVar 5 (a0 :: a1 :: a2 :: a3 :: a4 :: some v :: t) H Q := ⟨v, rfl, q⟩
theorem y_set5 (q : te (a0 :: a1 :: a2 :: a3 :: a4 :: a5 :: t) H fun x H1 => n (a0 :: a1 :: a2 :: a3 :: a4 :: some x :: t) H1) : tAsg te (gName 5) ⟨n, rt, bk, ct⟩ (a0 :: a1 :: a2 :: a3 :: a4 :: a5 :: t) H := q
theorem y_gname5 (q : QG (a0 :: a1 :: a2 :: a3 :: a4 :: some x :: t) H) : gName 5 x (a0 :: a1 :: a2 :: a3 :: a4 :: a5 :: t) H QG := q
theorem y_wname5 (q : QG (a0 :: a1 :: a2 :: a3 :: a4 :: some x :: t) H) : gName 5 x (wipe (a0 :: a1 :: a2 :: a3 :: a4 :: a5 :: t) [5]) H fun σ2 H2 => wipe σ2 [5] = wipe (a0 :: a1 :: a2 :: a3 :: a4 :: a5 :: t) [5] ∧ QG σ2 H2 := ⟨rfl, q⟩
theorem y_var6 (q : Q v H) : tVar 6 (a0 :: a1 :: a2 :: a3 :: a4 :: a5 :: some v :: t) H Q := ⟨v, rfl, q⟩
theorem y_set6 (q : te (a0 :: a1 :: a2 :: a3 :: a4 :: a5 :: a6 :: t) H fun x H1 => n (a0 :: a1 :: a2 :: a3 :: a4 :: a5 :: some x :: t) H1) : tAsg te (gName 6) ⟨n, rt, bk, ct⟩ (a0 :: a1 :: a2 :: a3 :: a4 :: a5 :: a6 :: t) H := q
theorem y_gname6 (q : QG (a0 :: a1 :: a2 :: a3 :: a4 :: a5 :: some x :: t) H) : gName 6 x (a0 :: a1 :: a2 :: a3 :: a4 :: a5 :: a6 :: t) H QG := q
theorem y_wname6 (q : QG (a0 :: a1 :: a2 :: a3 :: a4 :: a5 :: some x :: t) H) : gName 6 x (wipe (a0 :: a1 :: a2 :: a3 :: a4 :: a5 :: a6 :: t) [6]) H fun σ2 H2 => wipe σ2 [6] = wipe (a0 :: a1 :: a2 :: a3 :: a4 :: a5 :: a6 :: t) [6] ∧ QG σ2 H2 := ⟨rfl, q⟩
theorem y_var7 (q : Q v H) : tVar 7 (a0 :: a1 :: a2 :: a3 :: a4 :: a5 :: a6 :: some v :: t) H Q := ⟨v, rfl, q⟩
theorem y_set7 (q : te (a0 :: a1 :: a2 :: a3 :: a4 :: a5 :: a6 :: a7 :: t) H fun x H1 => n (a0 :: a1 :: a2 :: a3 :: a4 :: a5 :: a6 :: some x :: t) H1) : tAsg te (gName 7) ⟨n, rt, bk, ct⟩ (a0 :: a1 :: a2 :: a3 :: a4 :: a5 :: a6 :: a7 :: t) H := q
theorem y_gname7 (q : QG (a0 :: a1 :: a2 :: a3 :: a4 :: a5 :: a6 :: some x :: t) H) : gName 7 x (a0 :: a1 :: a2 :: a3 :: a4 :: a5 :: a6 :: a7 :: t) H QG := q
theorem y_wname7 (q : QG (a0 :: a1 :: a2 :: a3 :: a4 :: a5 :: a6 :: some x :: t) H) : gName 7 x (wipe (a0 :: a1 :: a2 :: a3 :: a4 :: a5 :: a6 :: a7 :: t) [7]) H fun σ2 H2 => wipe σ2 [7] = wipe (a0 :: a1 :: a2 :: a3 :: a4 :: a5 :: a6 :: a7 :: t) [7] ∧ QG σ2 H2 := ⟨rfl, q⟩
theorem y_var8 (q : Q v H) : tVar 8 (a0 :: a1 :: a2 :: a3 :: a4 :: a5 :: a6 :: a7 :: some v :: t) H Q := ⟨v, rfl, q⟩
theorem y_set8 (q : te (a0 :: a1 :: a2 :: a3 :: a4 :: a5 :: a6 :: a7 :: a8 :: t) H fun x H1 => n (a0 :: a1 :: a2 :: a3 :: a4 :: a5 :: a6 :: a7 :: some x :: t) H1) : tAsg te (gName 8) ⟨n, rt, bk, ct⟩ (a0 :: a1 :: a2 :: a3 :: a4 :: a5 :: a6 :: a7 :: a8 :: t) H := q
theorem y_gname8 (q : QG (a0 :: a1 :: a2 :: a3 :: a4 :: a5 :: a6 :: a7 :: some x :: t) H) : gName 8 x (a0 :: a1 :: a2 :: a3 :: a4 :: a5 :: a6 :: a7 :: a8 :: t) H QG := q
theorem y_wname8 (q : QG (a0 :: a1 :: a2 :: a3 :: a4 :: a5 :: a6 :: a7 :: some x :: t) H) : gName 8 x (wipe (a0 :: a1 :: a2 :: a3 :: a4 :: a5 :: a6 :: a7 :: a8 :: t) [8]) H fun σ2 H2 => wipe σ2 [8] = wipe (a0 :: a1 :: a2 :: a3 :: a4 :: a5 :: a6 :: a7 :: a8 :: t) [8] ∧ QG σ2 H2 := ⟨rfl, q⟩
theorem y_var9 (q : Q v H) : tVar 9 (a0 :: a1 :: a2 :: a3 :: a4 :: a5 :: a6 :: a7 :: a8 :: some v :: t) H Q := ⟨v, rfl, q⟩
theorem y_set9 (q : te (a0 :: a1 :: a2 :: a3 :: a4 :: a5 :: a6 :: a7 :: a8 :: a9 :: t) H fun x H1 => n (a0 :: a1 :: a2 :: a3 :: a4 :: a5 :: a6 :: a7 :: a8 :: some x :: t) H1) : tAsg te (gName 9) ⟨n, rt, bk, ct⟩ (a0 :: a1 :: a2 :: a3 :: a4 :: a5 :: a6 :: a7 :: a8 :: a9 :: t) H := q
theorem y_gname9 (q : QG (a0 :: a1 :: a2 :: a3 :: a4 :: a5 :: a6 :: a7 :: a8 :: some x :: t) H) : gName 9 x (a0 :: a1 :: a2 :: a3 :: a4 :: a5 :: a6 :: a7 :: a8 :: a9 :: t) H QG := q
theorem y_wname9 (q : QG (a0 :: a1 :: a2 :: a3 :: a4 :: a5 :: a6 :: a7 :: a8 :: some x :: t) H) : gName 9 x (wipe (a0 :: a1 :: a2 :: a3 :: a4 :: a5 :: a6 :: a7 :: a8 :: a9 :: t) [9]) H fun σ2 H2 => wipe σ2 [9] = wipe (a0 :: a1 :: a2 :: a3 :: a4 :: a5 :: a6 :: a7 :: a8 :: a9 :: t) [9] ∧ QG σ2 H2 := ⟨rfl, q⟩
theorem y_var10 (q : Q v H) : tVar 10 (a0 :: a1 :: a2 :: a3 :: a4 :: a5 :: a6 :: a7 :: a8 :: a9 :: some v :: t) H Q := ⟨v, rfl, q⟩
theorem y_set10 (q : te (a0 :: a1 :: a2 :: a3 :: a4 :: a5 :: a6 :: a7 :: a8 :: a9 :: a10 :: t) H fun x H1 => n (a0 :: a1 :: a2 :: a3 :: a4 :: a5 :: a6 :: a7 :: a8 :: a9 :: some x :: t) H1) : tAsg te (gName 10) ⟨n, rt, bk, ct⟩ (a0 :: a1 :: a2 :: a3 :: a4 :: a5 :: a6 :: a7 :: a8 :: a9 :: a10 :: t) H := q
theorem y_gname10 (q : QG (a0 :: a1 :: a2 :: a3 :: a4 :: a5 :: a6 :: a7 :: a8 :: a9 :: some x :: t) H) : gName 10 x (a0 :: a1 :: a2 :: a3 :: a4 :: a5 :: a6 :: a7 :: a8 :: a9 :: a10 :: t) H QG := q
theorem y_wname10 (q : QG (a0 :: a1 :: a2 :: a3 :: a4 :: a5 :: a6 :: a7 :: a8 :: a9 :: some x :: t) H) : gName 10 x (wipe (a0 :: a1 :: a2 :: a3 :: a4 :: a5 :: a6 :: a7 :: a8 :: a9 :: a10 :: t) [10]) H fun σ2 H2 => wipe σ2 [10] = wipe (a0 :: a1 :: a2 :: a3 :: a4 :: a5 :: a6 :: a7 :: a8 :: a9 :: a10 :: t) [10] ∧ QG σ2 H2 := ⟨rfl, q⟩
theorem y_var11 (q : Q v H) : tVar 11 (a0 :: a1 :: a2 :: a3 :: a4 :: a5 :: a6 :: a7 :: a8 :: a9 :: a10 :: some v :: t) H Q := ⟨v, rfl, q⟩
theorem y_set11 (q : te (a0 :: a1 :: a2 :: a3 :: a4 :: a5 :: a6 :: a7 :: a8 :: a9 :: a10 :: a11 :: t) H fun x H1 => n (a0 :: a1 :: a2 :: a3 :: a4 :: a5 :: a6 :: a7 :: a8 :: a9 :: a10 :: some x :: t) H1) : tAsg te (gName 11) ⟨n, rt, bk, ct⟩ (a0 :: a1 :: a2 :: a3 :: a4 :: a5 :: a6 :: a7 :: a8 :: a9 :: a10 :: a11 :: t) H := q
theorem y_gname11 (q : QG (a0 :: a1 :: a2 :: a3 :: a4 :: a5 :: a6 :: a7 :: a8 :: a9 :: a10 :: some x :: t) H) : gName 11 x (a0 :: a1 :: a2 :: a3 :: a4 :: a5 :: a6 :: a7 :: a8 :: a9 :: a10 :: a11 :: t) H QG := q
theorem y_wname11 (q : QG (a0 :: a1 :: a2 :: a3 :: a4 :: a5 :: a6 :: a7 :: a8 :: a9 :: a10 :: some x :: t) H) : gName 11 x (wipe (a0 :: a1 :: a2 :: a3 :: a4 :: a5 :: a6 :: a7 :: a8 :: a9 :: a10 :: a11 :: t) [11]) H fun σ2 H2 => wipe σ2 [11] = wipe (a0 :: a1 :: a2 :: a3 :: a4 :: a5 :: a6 :: a7 :: a8 :: a9 :: a10 :: a11 :: t) [11] ∧ QG σ2 H2 := ⟨rfl, q⟩
theorem y_var12 (q : Q v H) : tVar 12 (a0 :: a1 :: a2 :: a3 :: a4 :: a5 :: a6 :: a7 :: a8 :: a9 :: a10 :: a11 :: some v :: t) H Q := ⟨v, rfl, q⟩
theorem y_set12 (q : te (a0 :: a1 :: a2 :: a3 :: a4 :: a5 :: a6 :: a7 :: a8 :: a9 :: a10 :: a11 :: a12 :: t) H fun x H1 => n (a0 :: a1 :: a2 :: a3 :: a4 :: a5 :: a6 :: a7 :: a8 :: a9 :: a10 :: a11 :: some x :: t) H1) : tAsg te (gName 12) ⟨n, rt, bk, ct⟩ (a0 :: a1 :: a2 :: a3 :: a4 :: a5 :: a6 :: a7 :: a8 :: a9 :: a10 :: a11 :: a12 :: t) H := q
theorem y_gname12 (q : QG (a0 :: a1 :: a2 :: a3 :: a4 :: a5 :: a6 :: a7 :: a8 :: a9 :: a10 :: a11 :: some x :: t) H) : gName 12 x (a0 :: a1 :: a2 :: a3 :: a4 :: a5 :: a6 :: a7 :: a8 :: a9 :: a10 :: a11 :: a12 :: t) H QG := q
theorem y_wname12 (q : QG (a0 :: a1 :: a2 :: a3 :: a4 :: a5 :: a6 :: a7 :: a8 :: a9 :: a10 :: a11 :: some x :: t) H) : gName 12 x (wipe (a0 :: a1 :: a2 :: a3 :: a4 :: a5 :: a6 :: a7 :: a8 :: a9 :: a10 :: a11 :: a12 :: t) [12]) H fun σ2 H2 => wipe σ2 [12] = wipe (a0 :: a1 :: a2 :: a3 :: a4 :: a5 :: a6 :: a7 :: a8 :: a9 :: a10 :: a11 :: a12 :: t) [12] ∧ QG σ2 H2 := ⟨rfl, q⟩
theorem y_var13 (q : Q v H) : tVar 13 (a0 :: a1 :: a2 :: a3 :: a4 :: a5 :: a6 :: a7 :: a8 :: a9 :: a10 :: a11 :: a12 :: some v :: t) H Q := ⟨v, rfl, q⟩
theorem y_set13 (q : te (a0 :: a1 :: a2 :: a3 :: a4 :: a5 :: a6 :: a7 :: a8 :: a9 :: a10 :: a11 :: a12 :: a13 :: t) H fun x H1 => n (a0 :: a1 :: a2 :: a3 :: a4 :: a5 :: a6 :: a7 :: a8 :: a9 :: a10 :: a11 :: a12 :: some x :: t) H1) : tAsg te (gName 13) ⟨n, rt, bk, ct⟩ (a0 :: a1 :: a2 :: a3 :: a4 :: a5 :: a6 :: a7 :: a8 :: a9 :: a10 :: a11 :: a12 :: a13 :: t) H := q
theorem y_gname13 (q : QG (a0 :: a1 :: a2 :: a3 :: a4 :: a5 :: a6 :: a7 :: a8 :: a9 :: a10 :: a11 :: a12 :: some x :: t) H) : gName 13 x (a0 :: a1 :: a2 :: a3 :: a4 :: a5 :: a6 :: a7 :: a8 :: a9 :: a10 :: a11 :: a12 :: a13 :: t) H QG := q
theorem y_wname13 (q : QG (a0 :: a1 :: a2 :: a3 :: a4 :: a5 :: a6 :: a7 :: a8 :: a9 :: a10 :: a11 :: a12 :: some x :: t) H) : gName 13 x (wipe (a0 :: a1 :: a2 :: a3 :: a4 :: a5 :: a6 :: a7 :: a8 :: a9 :: a10 :: a11 :: a12 :: a13 :: t) [13]) H fun σ2 H2 => wipe σ2 [13] = wipe (a0 :: a1 :: a2 :: a3 :: a4 :: a5 :: a6 :: a7 :: a8 :: a9 :: a10 :: a11 :: a12 :: a13 :: t) [13] ∧ QG σ2 H2 := ⟨rfl, q⟩
theorem y_var14 (q : Q v H) : tVar 14 (a0 :: a1 :: a2 :: a3 :: a4 :: a5 :: a6 :: a7 :: a8 :: a9 :: a10 :: a11 :: a12 :: a13 :: some v :: t) H Q := ⟨v, rfl, q⟩
theorem y_set14 (q : te (a0 :: a1 :: a2 :: a3 :: a4 :: a5 :: a6 :: a7 :: a8 :: a9 :: a10 :: a11 :: a12 :: a13 :: a14 :: t) H fun x H1 => n (a0 :: a1 :: a2 :: a3 :: a4 :: a5 :: a6 :: a7 :: a8 :: a9 :: a10 :: a11 :: a12 :: a13 :: some x :: t) H1) : tAsg te (gName 14) ⟨n, rt, bk, ct⟩ (a0 :: a1 :: a2 :: a3 :: a4 :: a5 :: a6 :: a7 :: a8 :: a9 :: a10 :: a11 :: a12 :: a13 :: a14 :: t) H := q
theorem y_gname14 (q : QG (a0 :: a1 :: a2 :: a3 :: a4 :: a5 :: a6 :: a7 :: a8 :: a9 :: a10 :: a11 :: a12 :: a13 :: some x :: t) H) : gName 14 x (a0 :: a1 :: a2 :: a3 :: a4 :: a5 :: a6 :: a7 :: a8 :: a9 :: a10 :: a11 :: a12 :: a13 :: a14 :: t) H QG := q
theorem y_wname14 (q : QG (a0 :: a1 :: a2 :: a3 :: a4 :: a5 :: a6 :: a7 :: a8 :: a9 :: a10 :: a11 :: a12 :: a13 :: some x :: t) H) : gName 14 x (wipe (a0 :: a1 :: a2 :: a3 :: a4 :: a5 :: a6 :: a7 :: a8 :: a9 :: a10 :: a11 :: a12 :: a13 :: a14 :: t) [14]) H fun σ2 H2 => wipe σ2 [14] = wipe (a0 :: a1 :: a2 :: a3 :: a4 :: a5 :: a6 :: a7 :: a8 :: a9 :: a10 :: a11 :: a12 :: a13 :: a14 :: t) [14] ∧ QG σ2 H2 := ⟨rfl, q⟩
theorem y_var15 (q : Q v H) : tVar 15 (a0 :: a1 :: a2 :: a3 :: a4 :: a5 :: a6 :: a7 :: a8 :: a9 :: a10 :: a11 :: a12 :: a13 :: a14 :: some v :: t) H Q := ⟨v, rfl, q⟩
theorem y_set15 (q : te (a0 :: a1 :: a2 :: a3 :: a4 :: a5 :: a6 :: a7 :: a8 :: a9 :: a10 :: a11 :: a12 :: a13 :: a14 :: a15 :: t) H fun x H1 => n (a0 :: a1 :: a2 :: a3 :: a4 :: a5 :: a6 :: a7 :: a8 :: a9 :: a10 :: a11 :: a12 :: a13 :: a14 :: some x :: t) H1) : tAsg te (gName 15) ⟨n, rt, bk, ct⟩ (a0 :: a1 :: a2 :: a3 :: a4 :: a5 :: a6 :: a7 :: a8 :: a9 :: a10 :: a11 :: a12 :: a13 :: a14 :: a15 :: t) H := q
theorem y_gname15 (q : QG (a0 :: a1 :: a2 :: a3 :: a4 :: a5 :: a6 :: a7 :: a8 :: a9 :: a10 :: a11 :: a12 :: a13 :: a14 :: some x :: t) H) : gName 15 x (a0 :: a1 :: a2 :: a3 :: a4 :: a5 :: a6 :: a7 :: a8 :: a9 :: a10 :: a11 :: a12 :: a13 :: a14 :: a15 :: t) H QG := q
theorem y_wname15 (q : QG (a0 :: a1 :: a2 :: a3 :: a4 :: a5 :: a6 :: a7 :: a8 :: a9 :: a10 :: a11 :: a12 :: a13 :: a14 :: some x :: t) H) : gName 15 x (wipe (a0 :: a1 :: a2 :: a3 :: a4 :: a5 :: a6 :: a7 :: a8 :: a9 :: a10 :: a11 :: a12 :: a13 :: a14 :: a15 :: t) [15]) H fun σ2 H2 => wipe σ2 [15] = wipe (a0 :: a1 :: a2 :: a3 :: a4 :: a5 :: a6 :: a7 :: a8 :: a9 :: a10 :: a11 :: a12 :: a13 :: a14 :: a15 :: t) [15] ∧ QG σ2 H2 := ⟨rfl, q⟩
theorem y_var16 (q : Q v H) : tVar 16 (a0 :: a1 :: a2 :: a3 :: a4 :: a5 :: a6 :: a7 :: a8 :: a9 :: a10 :: a11 :: a12 :: a13 :: a14 :: a15 :: some v :: t) H Q := ⟨v, rfl, q⟩
theorem y_set16 (q : te (a0 :: a1 :: a2 :: a3 :: a4 :: a5 :: a6 :: a7 :: a8 :: a9 :: a10 :: a11 :: a12 :: a13 :: a14 :: a15 :: a16 :: t) H fun x H1 => n (a0 :: a1 :: a2 :: a3 :: a4 :: a5 :: a6 :: a7 :: a8 :: a9 :: a10 :: a11 :: a12 :: a13 :: a14 :: a15 :: some x :: t) H1) : tAsg te (gName 16) ⟨n, rt, bk, ct⟩ (a0 :: a1 :: a2 :: a3 :: a4 :: a5 :: a6 :: a7 :: a8 :: a9 :: a10 :: a11 :: a12 :: a13 :: a14 :: a15 :: a16 :: t) H := q
theorem y_gname16 (q : QG (a0 :: a1 :: a2 :: a3 :: a4 :: a5 :: a6 :: a7 :: a8 :: a9 :: a10 :: a11 :: a12 :: a13 :: a14 :: a15 :: some x :: t) H) : gName 16 x (a0 :: a1 :: a2 :: a3 :: a4 :: a5 :: a6 :: a7 :: a8 :: a9 :: a10 :: a11 :: a12 :: a13 :: a14 :: a15 :: a16 :: t) H QG := q
theorem y_wname16 (q : QG (a0 :: a1 :: a2 :: a3 :: a4 :: a5 :: a6 :: a7 :: a8 :: a9 :: a10 :: a11 :: a12 :: a13 :: a14 :: a15 :: some x :: t) H) : gName 16 x (wipe (a0 :: a1 :: a2 :: a3 :: a4 :: a5 :: a6 :: a7 :: a8 :: a9 :: a10 :: a11 :: a12 :: a13 :: a14 :: a15 :: a16 :: t) [16]) H fun σ2 H2 => wipe σ2 [16] = wipe (a0 :: a1 :: a2 :: a3 :: a4 :: a5 :: a6 :: a7 :: a8 :: a9 :: a10 :: a11 :: a12 :: a13 :: a14 :: a15 :: a16 :: t) [16] ∧ QG σ2 H2 := ⟨rfl, q⟩
theorem y_var17 (q : Q v H) : tVar 17 (a0 :: a1 :: a2 :: a3 :: a4 :: a5 :: a6 :: a7 :: a8 :: a9 :: a10 :: a11 :: a12 :: a13 :: a14 :: a15 :: a16 :: some v :: t) H Q := ⟨v, rfl, q⟩
theorem y_set17 (q : te (a0 :: a1 :: a2 :: a3 :: a4 :: a5 :: a6 :: a7 :: a8 :: a9 :: a10 :: a11 :: a12 :: a13 :: a14 :: a15 :: a16 :: a17 :: t) H fun x H1 => n (a0 :: a1 :: a2 :: a3 :: a4 :: a5 :: a6 :: a7 :: a8 :: a9 :: a10 :: a11 :: a12 :: a13 :: a14 :: a15 :: a16 :: some x :: t) H1) : tAsg te (gName 17) ⟨n, rt, bk, ct⟩ (a0 :: a1 :: a2 :: a3 :: a4 :: a5 :: a6 :: a7 :: a8 :: a9 :: a10 :: a11 :: a12 :: a13 :: a14 :: a15 :: a16 :: a17 :: t) H := q
theorem y_gname17 (q : QG (a0 :: a1 :: a2 :: a3 :: a4 :: a5 :: a6 :: a7 :: a8 :: a9 :: a10 :: a11 :: a12 :: a13 :: a14 :: a15 :: a16 :: some x :: t) H) : gName 17 x (a0 :: a1 :: a2 :: a3 :: a4 :: a5 :: a6 :: a7 :: a8 :: a9 :: a10 :: a11 :: a12 :: a13 :: a14 :: a15 :: a16 :: a17 :: t) H QG := q
theorem y_wname17 (q : QG (a0 :: a1 :: a2 :: a3 :: a4 :: a5 :: a6 :: a7 :: a8 :: a9 :: a10 :: a11 :: a12 :: a13 :: a14 :: a15 :: a16 :: some x :: t) H) : gName 17 x (wipe (a0 :: a1 :: a2 :: a3 :: a4 :: a5 :: a6 :: a7 :: a8 :: a9 :: a10 :: a11 :: a12 :: a13 :: a14 :: a15 :: a16 :: a17 :: t) [17]) H fun σ2 H2 => wipe σ2 [17] = wipe (a0 :: a1 :: a2 :: a3 :: a4 :: a5 :: a6 :: a7 :: a8 :: a9 :: a10 :: a11 :: a12 :: a13 :: a14 :: a15 :: a16 :: a17 :: t) [17] ∧ QG σ2 H2 := ⟨rfl, q⟩
theorem y_var18 (q : Q v H) : tVar 18 (a0 :: a1 :: a2 :: a3 :: a4 :: a5 :: a6 :: a7 :: a8 :: a9 :: a10 :: a11 :: a12 :: a13 :: a14 :: a15 :: a16 :: a17 :: some v :: t) H Q := ⟨v, rfl, q⟩
theorem y_set18 (q : te (a0 :: a1 :: a2 :: a3 :: a4 :: a5 :: a6 :: a7 :: a8 :: a9 :: a10 :: a11 :: a12 :: a13 :: a14 :: a15 :: a16 :: a17 :: a18 :: t) H fun x H1 => n (a0 :: a1 :: a2 :: a3 :: a4 :: a5 :: a6 :: a7 :: a8 :: a9 :: a10 :: a11 :: a12 :: a13 :: a14 :: a15 :: a16 :: a17 :: some x :: t) H1) : tAsg te (gName 18) ⟨n, rt, bk, ct⟩ (a0 :: a1 :: a2 :: a3 :: a4 :: a5 :: a6 :: a7 :: a8 :: a9 :: a10 :: a11 :: a12 :: a13 :: a14 :: a15 :: a16 :: a17 :: a18 :: t) H := q
theorem y_gname18 (q : QG (a0 :: a1 :: a2 :: a3 :: a4 :: a5 :: a6 :: a7 :: a8 :: a9 :: a10 :: a11 :: a12 :: a13 :: a14 :: a15 :: a16 :: a17 :: some x :: t) H) : gName 18 x (a0 :: a1 :: a2 :: a3 :: a4 :: a5 :: a6 :: a7 :: a8 :: a9 :: a10 :: a11 :: a12 :: a13 :: a14 :: a15 :: a16 :: a17 :: a18 :: t) H QG := q
theorem y_wname18 (q : QG (a0 :: a1 :: a2 :: a3 :: a4 :: a5 :: a6 :: a7 :: a8 :: a9 :: a10 :: a11 :: a12 :: a13 :: a14 :: a15 :: a16 :: a17 :: some x :: t) H) : gName 18 x (wipe (a0 :: a1 :: a2 :: a3 :: a4 :: a5 :: a6 :: a7 :: a8 :: a9 :: a10 :: a11 :: a12 :: a13 :: a14 :: a15 :: a16 :: a17 :: a18 :: t) [18]) H fun σ2 H2 => wipe σ2 [18] = wipe (a0 :: a1 :: a2 :: a3 :: a4 :: a5 :: a6 :: a7 :: a8 :: a9 :: a10 :: a11 :: a12 :: a13 :: a14 :: a15 :: a16 :: a17 :: a18 :: t) [18] ∧ QG σ2 H2 := ⟨rfl, q⟩
theorem y_var19 (q : Q v H) : tVar 19 (a0 :: a1 :: a2 :: a3 :: a4 :: a5 :: a6 :: a7 :: a8 :: a9 :: a10 :: a11 :: a12 :: a13 :: a14 :: a15 :: a16 :: a17 :: a18 :: some v :: t) H Q := ⟨v, rfl, q⟩
theorem y_set19 (q : te (a0 :: a1 :: a2 :: a3 :: a4 :: a5 :: a6 :: a7 :: a8 :: a9 :: a10 :: a11 :: a12 :: a13 :: a14 :: a15 :: a16 :: a17 :: a18 :: a19 :: t) H fun x H1 => n (a0 :: a1 :: a2 :: a3 :: a4 :: a5 :: a6 :: a7 :: a8 :: a9 :: a10 :: a11 :: a12 :: a13 :: a14 :: a15 :: a16 :: a17 :: a18 :: some x :: t) H1) : tAsg te (gName 19) ⟨n, rt, bk, ct⟩ (a0 :: a1 :: a2 :: a3 :: a4 :: a5 :: a6 :: a7 :: a8 :: a9 :: a10 :: a11 :: a12 :: a13 :: a14 :: a15 :: a16 :: a17 :: a18 :: a19 :: t) H := q
theorem y_gname19 (q : QG (a0 :: a1 :: a2 :: a3 :: a4 :: a5 :: a6 :: a7 :: a8 :: a9 :: a10 :: a11 :: a12 :: a13 :: a14 :: a15 :: a16 :: a17 :: a18 :: some x :: t) H) : gName 19 x (a0 :: a1 :: a2 :: a3 :: a4 :: a5 :: a6 :: a7 :: a8 :: a9 :: a10 :: a11 :: a12 :: a13 :: a14 :: a15 :: a16 :: a17 :: a18 :: a19 :: t) H QG := q
theorem y_wname19 (q : QG (a0 :: a1 :: a2 :: a3 :: a4 :: a5 :: a6 :: a7 :: a8 :: a9 :: a10 :: a11 :: a12 :: a13 :: a14 :: a15 :: a16 :: a17 :: a18 :: some x :: t) H) : gName 19 x (wipe (a0 :: a1 :: a2 :: a3 :: a4 :: a5 :: a6 :: a7 :: a8 :: a9 :: a10 :: a11 :: a12 :: a13 :: a14 :: a15 :: a16 :: a17 :: a18 :: a19 :: t) [19]) H fun σ2 H2 => wipe σ2 [19] = wipe (a0 :: a1 :: a2 :: a3 :: a4 :: a5 :: a6 :: a7 :: a8 :: a9 :: a10 :: a11 :: a12 :: a13 :: a14 :: a15 :: a16 :: a17 :: a18 :: a19 :: t) [19] ∧ QG σ2 H2 := ⟨rfl, q⟩
theorem y_var20 (q : Q v H) : tVar 20 (a0 :: a1 :: a2 :: a3 :: a4 :: a5 :: a6 :: a7 :: a8 :: a9 :: a10 :: a11 :: a12 :: a13 :: a14 :: a15 :: a16 :: a17 :: a18 :: a19 :: some v :: t) H Q := ⟨v, rfl, q⟩
theorem y_set20 (q : te (a0 :: a1 :: a2 :: a3 :: a4 :: a5 :: a6 :: a7 :: a8 :: a9 :: a10 :: a11 :: a12 :: a13 :: a14 :: a15 :: a16 :: a17 :: a18 :: a19 :: a20 :: t) H fun x H1 => n (a0 :: a1 :: a2 :: a3 :: a4 :: a5 :: a6 :: a7 :: a8 :: a9 :: a10 :: a11 :: a12 :: a13 :: a14 :: a15 :: a16 :: a17 :: a18 :: a19 :: some x :: t) H1) : tAsg te (gName 20) ⟨n, rt, bk, ct⟩ (a0 :: a1 :: a2 :: a3 :: a4 :: a5 :: a6 :: a7 :: a8 :: a9 :: a10 :: a11 :: a12 :: a13 :: a14 :: a15 :: a16 :: a17 :: a18 :: a19 :: a20 :: t) H := q
theorem y_gname20 (q : QG (a0 :: a1 :: a2 :: a3 :: a4 :: a5 :: a6 :: a7 :: a8 :: a9 :: a10 :: a11 :: a12 :: a13 :: a14 :: a15 :: a16 :: a17 :: a18 :: a19 :: some x :: t) H) : gName 20 x (a0 :: a1 :: a2 :: a3 :: a4 :: a5 :: a6 :: a7 :: a8 :: a9 :: a10 :: a11 :: a12 :: a13 :: a14 :: a15 :: a16 :: a17 :: a18 :: a19 :: a20 :: t) H QG := q
theorem y_wname20 (q : QG (a0 :: a1 :: a2 :: a3 :: a4 :: a5 :: a6 :: a7 :: a8 :: a9 :: a10 :: a11 :: a12 :: a13 :: a14 :: a15 :: a16 :: a17 :: a18 :: a19 :: some x :: t) H) : gName 20 x (wipe (a0 :: a1 :: a2 :: a3 :: a4 :: a5 :: a6 :: a7 :: a8 :: a9 :: a10 :: a11 :: a12 :: a13 :: a14 :: a15 :: a16 :: a17 :: a18 :: a19 :: a20 :: t) [20]) H fun σ2 H2 => wipe σ2 [20] = wipe (a0 :: a1 :: a2 :: a3 :: a4 :: a5 :: a6 :: a7 :: a8 :: a9 :: a10 :: a11 :: a12 :: a13 :: a14 :: a15 :: a16 :: a17 :: a18 :: a19 :: a20 :: t) [20] ∧ QG σ2 H2 := ⟨rfl, q⟩
theorem y_var21 (q : Q v H) : tVar 21 (a0 :: a1 :: a2 :: a3 :: a4 :: a5 :: a6 :: a7 :: a8 :: a9 :: a10 :: a11 :: a12 :: a13 :: a14 :: a15 :: a16 :: a17 :: a18 :: a19 :: a20 :: some v :: t) H Q := ⟨v, rfl, q⟩
theorem y_set21 (q : te (a0 :: a1 :: a2 :: a3 :: a4 :: a5 :: a6 :: a7 :: a8 :: a9 :: a10 :: a11 :: a12 :: a13 :: a14 :: a15 :: a16 :: a17 :: a18 :: a19 :: a20 :: a21 :: t) H fun x H1 => n (a0 :: a1 :: a2 :: a3 :: a4 :: a5 :: a6 :: a7 :: a8 :: a9 :: a10 :: a11 :: a12 :: a13 :: a14 :: a15 :: a16 :: a17 :: a18 :: a19 :: a20 :: some x :: t) H1) : tAsg te (gName 21) ⟨n, rt, bk, ct⟩ (a0 :: a1 :: a2 :: a3 :: a4 :: a5 :: a6 :: a7 :: a8 :: a9 :: a10 :: a11 :: a12 :: a13 :: a14 :: a15 :: a16 :: a17 :: a18 :: a19 :: a20 :: a21 :: t) H := q
theorem y_gname21 (q : QG (a0 :: a1 :: a2 :: a3 :: a4 :: a5 :: a6 :: a7 :: a8 :: a9 :: a10 :: a11 :: a12 :: a13 :: a14 :: a15 :: a16 :: a17 :: a18 :: a19 :: a20 :: some x :: t) H) : gName 21 x (a0 :: a1 :: a2 :: a3 :: a4 :: a5 :: a6 :: a7 :: a8 :: a9 :: a10 :: a11 :: a12 :: a13 :: a14 :: a15 :: a16 :: a17 :: a18 :: a19 :: a20 :: a21 :: t) H QG := q
theorem y_wname21 (q : QG (a0 :: a1 :: a2 :: a3 :: a4 :: a5 :: a6 :: a7 :: a8 :: a9 :: a10 :: a11 :: a12 :: a13 :: a14 :: a15 :: a16 :: a17 :: a18 :: a19 :: a20 :: some x :: t) H) : gName 21 x (wipe (a0 :: a1 :: a2 :: a3 :: a4 :: a5 :: a6 :: a7 :: a8 :: a9 :: a10 :: a11 :: a12 :: a13 :: a14 :: a15 :: a16 :: a17 :: a18 :: a19 :: a20 :: a21 :: t) [21]) H fun σ2 H2 => wipe σ2 [21] = wipe (a0 :: a1 :: a2 :: a3 :: a4 :: a5 :: a6 :: a7 :: a8 :: a9 :: a10 :: a11 :: a12 :: a13 :: a14 :: a15 :: a16 :: a17 :: a18 :: a19 :: a20 :: a21 :: t) [21] ∧ QG σ2 H2 := ⟨rfl, q⟩
theorem y_var22 (q : Q v H) : tVar 22 (a0 :: a1 :: a2 :: a3 :: a4 :: a5 :: a6 :: a7 :: a8 :: a9 :: a10 :: a11 :: a12 :: a13 :: a14 :: a15 :: a16 :: a17 :: a18 :: a19 :: a20 :: a21 :: some v :: t) H Q := ⟨v, rfl, q⟩
theorem y_set22 (q : te (a0 :: a1 :: a2 :: a3 :: a4 :: a5 :: a6 :: a7 :: a8 :: a9 :: a10 :: a11 :: a12 :: a13 :: a14 :: a15 :: a16 :: a17 :: a18 :: a19 :: a20 :: a21 :: a22 :: t) H fun x H1 => n (a0 :: a1 :: a2 :: a3 :: a4 :: a5 :: a6 :: a7 :: a8 :: a9 :: a10 :: a11 :: a12 :: a13 :: a14 :: a15 :: a16 :: a17 :: a18 :: a19 :: a20 :: a21 :: some x :: t) H1) : tAsg te (gName 22) ⟨n, rt, bk, ct⟩ (a0 :: a1 :: a2 :: a3 :: a4 :: a5 :: a6 :: a7 :: a8 :: a9 :: a10 :: a11 :: a12 :: a13 :: a14 :: a15 :: a16 :: a17 :: a18 :: a19 :: a20 :: a21 :: a22 :: t) H := q
theorem y_gname22 (q : QG (a0 :: a1 :: a2 :: a3 :: a4 :: a5 :: a6 :: a7 :: a8 :: a9 :: a10 :: a11 :: a12 :: a13 :: a14 :: a15 :: a16 :: a17 :: a18 :: a19 :: a20 :: a21 :: some x :: t) H) : gName 22 x (a0 :: a1 :: a2 :: a3 :: a4 :: a5 :: a6 :: a7 :: a8 :: a9 :: a10 :: a11 :: a12 :: a13 :: a14 :: a15 :: a16 :: a17 :: a18 :: a19 :: a20 :: a21 :: a22 :: t) H QG := q
theorem y_wname22 (q : QG (a0 :: a1 :: a2 :: a3 :: a4 :: a5 :: a6 :: a7 :: a8 :: a9 :: a10 :: a11 :: a12 :: a13 :: a14 :: a15 :: a16 :: a17 :: a18 :: a19 :: a20 :: a21 :: some x :: t) H) : gName 22 x (wipe (a0 :: a1 :: a2 :: a3 :: a4 :: a5 :: a6 :: a7 :: a8 :: a9 :: a10 :: a11 :: a12 :: a13 :: a14 :: a15 :: a16 :: a17 :: a18 :: a19 :: a20 :: a21 :: a22 :: t) [22]) H fun σ2 H2 => wipe σ2 [22] = wipe (a0 :: a1 :: a2 :: a3 :: a4 :: a5 :: a6 :: a7 :: a8 :: a9 :: a10 :: a11 :: a12 :: a13 :: a14 :: a15 :: a16 :: a17 :: a18 :: a19 :: a20 :: a21 :: a22 :: t) [22] ∧ QG σ2 H2 := ⟨rfl, q⟩
theorem y_var23 (q : Q v H) : tVar 23 (a0 :: a1 :: a2 :: a3 :: a4 :: a5 :: a6 :: a7 :: a8 :: a9 :: a10 :: a11 :: a12 :: a13 :: a14 :: a15 :: a16 :: a17 :: a18 :: a19 :: a20 :: a21 :: a22 :: some v :: t) H Q := ⟨v, rfl, q⟩
theorem y_set23 (q : te (a0 :: a1 :: a2 :: a3 :: a4 :: a5 :: a6 :: a7 :: a8 :: a9 :: a10 :: a11 :: a12 :: a13 :: a14 :: a15 :: a16 :: a17 :: a18 :: a19 :: a20 :: a21 :: a22 :: a23 :: t) H fun x H1 => n (a0 :: a1 :: a2 :: a3 :: a4 :: a5 :: a6 :: a7 :: a8 :: a9 :: a10 :: a11 :: a12 :: a13 :: a14 :: a15 :: a16 :: a17 :: a18 :: a19 :: a20 :: a21 :: a22 :: some x :: t) H1) : tAsg te (gName 23) ⟨n, rt, bk, ct⟩ (a0 :: a1 :: a2 :: a3 :: a4 :: a5 :: a6 :: a7 :: a8 :: a9 :: a10 :: a11 :: a12 :: a13 :: a14 :: a15 :: a16 :: a17 :: a18 :: a19 :: a20 :: a21 :: a22 :: a23 :: t) H := q
theorem y_gname23 (q : QG (a0 :: a1 :: a2 :: a3 :: a4 :: a5 :: a6 :: a7 :: a8 :: a9 :: a10 :: a11 :: a12 :: a13 :: a14 :: a15 :: a16 :: a17 :: a18 :: a19 :: a20 :: a21 :: a22 :: some x :: t) H) : gName 23 x (a0 :: a1 :: a2 :: a3 :: a4 :: a5 :: a6 :: a7 :: a8 :: a9 :: a10 :: a11 :: a12 :: a13 :: a14 :: a15 :: a16 :: a17 :: a18 :: a19 :: a20 :: a21 :: a22 :: a23 :: t) H QG := q
theorem y_wname23 (q : QG (a0 :: a1 :: a2 :: a3 :: a4 :: a5 :: a6 :: a7 :: a8 :: a9 :: a10 :: a11 :: a12 :: a13 :: a14 :: a15 :: a16 :: a17 :: a18 :: a19 :: a20 :: a21 :: a22 :: some x :: t) H) : gName 23 x (wipe (a0 :: a1 :: a2 :: a3 :: a4 :: a5 :: a6 :: a7 :: a8 :: a9 :: a10 :: a11 :: a12 :: a13 :: a14 :: a15 :: a16 :: a17 :: a18 :: a19 :: a20 :: a21 :: a22 :: a23 :: t) [23]) H fun σ2 H2 => wipe σ2 [23] = wipe (a0 :: a1 :: a2 :: a3 :: a4 :: a5 :: a6 :: a7 :: a8 :: a9 :: a10 :: a11 :: a12 :: a13 :: a14 :: a15 :: a16 :: a17 :: a18 :: a19 :: a20 :: a21 :: a22 :: a23 :: t) [23] ∧ QG σ2 H2 := ⟨rfl, q⟩
theorem y_var24 (q : Q v H) : tVar 24 (a0 :: a1 :: a2 :: a3 :: a4 :: a5 :: a6 :: a7 :: a8 :: a9 :: a10 :: a11 :: a12 :: a13 :: a14 :: a15 :: a16 :: a17 :: a18 :: a19 :: a20 :: a21 :: a22 :: a23 :: some v :: t) H Q := ⟨v, rfl, q⟩
theorem y_set24 (q : te (a0 :: a1 :: a2 :: a3 :: a4 :: a5 :: a6 :: a7 :: a8 :: a9 :: a10 :: a11 :: a12 :: a13 :: a14 :: a15 :: a16 :: a17 :: a18 :: a19 :: a20 :: a21 :: a22 :: a23 :: a24 :: t) H fun x H1 => n (a0 :: a1 :: a2 :: a3 :: a4 :: a5 :: a6 :: a7 :: a8 :: a9 :: a10 :: a11 :: a12 :: a13 :: a14 :: a15 :: a16 :: a17 :: a18 :: a19 :: a20 :: a21 :: a22 :: a23 :: some x :: t) H1) : tAsg te (gName 24) ⟨n, rt, bk, ct⟩ (a0 :: a1 :: a2 :: a3 :: a4 :: a5 :: a6 :: a7 :: a8 :: a9 :: a10 :: a11 :: a12 :: a13 :: a14 :: a15 :: a16 :: a17 :: a18 :: a19 :: a20 :: a21 :: a22 :: a23 :: a24 :: t) H := q
theorem y_gname24 (q : QG (a0 :: a1 :: a2 :: a3 :: a4 :: a5 :: a6 :: a7 :: a8 :: a9 :: a10 :: a11 :: a12 :: a13 :: a14 :: a15 :: a16 :: a17 :: a18 :: a19 :: a20 :: a21 :: a22 :: a23 :: some x :: t) H) : gName 24 x (a0 :: a1 :: a2 :: a3 :: a4 :: a5 :: a6 :: a7 :: a8 :: a9 :: a10 :: a11 :: a12 :: a13 :: a14 :: a15 :: a16 :: a17 :: a18 :: a19 :: a20 :: a21 :: a22 :: a23 :: a24 :: t) H QG := q
theorem y_wname24 (q : QG (a0 :: a1 :: a2 :: a3 :: a4 :: a5 :: a6 :: a7 :: a8 :: a9 :: a10 :: a11 :: a12 :: a13 :: a14 :: a15 :: a16 :: a17 :: a18 :: a19 :: a20 :: a21 :: a22 :: a23 :: some x :: t) H) : gName 24 x (wipe (a0 :: a1 :: a2 :: a3 :: a4 :: a5 :: a6 :: a7 :: a8 :: a9 :: a10 :: a11 :: a12 :: a13 :: a14 :: a15 :: a16 :: a17 :: a18 :: a19 :: a20 :: a21 :: a22 :: a23 :: a24 :: t) [24]) H fun σ2 H2 => wipe σ2 [24] = wipe (a0 :: a1 :: a2 :: a3 :: a4 :: a5 :: a6 :: a7 :: a8 :: a9 :: a10 :: a11 :: a12 :: a13 :: a14 :: a15 :: a16 :: a17 :: a18 :: a19 :: a20 :: a21 :: a22 :: a23 :: a24 :: t) [24] ∧ QG σ2 H2 := ⟨rfl, q⟩
theorem y_var25 (q : Q v H) : tVar 25 (a0 :: a1 :: a2 :: a3 :: a4 :: a5 :: a6 :: a7 :: a8 :: a9 :: a10 :: a11 :: a12 :: a13 :: a14 :: a15 :: a16 :: a17 :: a18 :: a19 :: a20 :: a21 :: a22 :: a23 :: a24 :: some v :: t) H Q := ⟨v, rfl, q⟩
theorem y_set25 (q : te (a0 :: a1 :: a2 :: a3 :: a4 :: a5 :: a6 :: a7 :: a8 :: a9 :: a10 :: a11 :: a12 :: a13 :: a14 :: a15 :: a16 :: a17 :: a18 :: a19 :: a20 :: a21 :: a22 :: a23 :: a24 :: a25 :: t) H fun x H1 => n (a0 :: a1 :: a2 :: a3 :: a4 :: a5 :: a6 :: a7 :: a8 :: a9 :: a10 :: a11 :: a12 :: a13 :: a14 :: a15 :: a16 :: a17 :: a18 :: a19 :: a20 :: a21 :: a22 :: a23 :: a24 :: some x :: t) H1) : tAsg te (gName 25) ⟨n, rt, bk, ct⟩ (a0 :: a1 :: a2 :: a3 :: a4 :: a5 :: a6 :: a7 :: a8 :: a9 :: a10 :: a11 :: a12 :: a13 :: a14 :: a15 :: a16 :: a17 :: a18 :: a19 :: a20 :: a21 :: a22 :: a23 :: a24 :: a25 :: t) H := q
theorem y_gname25 (q : QG (a0 :: a1 :: a2 :: a3 :: a4 :: a5 :: a6 :: a7 :: a8 :: a9 :: a10 :: a11 :: a12 :: a13 :: a14 :: a15 :: a16 :: a17 :: a18 :: a19 :: a20 :: a21 :: a22 :: a23 :: a24 :: some x :: t) H) : gName 25 x (a0 :: a1 :: a2 :: a3 :: a4 :: a5 :: a6 :: a7 :: a8 :: a9 :: a10 :: a11 :: a12 :: a13 :: a14 :: a15 :: a16 :: a17 :: a18 :: a19 :: a20 :: a21 :: a22 :: a23 :: a24 :: a25 :: t) H QG := q
theorem y_wname25 (q : QG (a0 :: a1 :: a2 :: a3 :: a4 :: a5 :: a6 :: a7 :: a8 :: a9 :: a10 :: a11 :: a12 :: a13 :: a14 :: a15 :: a16 :: a17 :: a18 :: a19 :: a20 :: a21 :: a22 :: a23 :: a24 :: some x :: t) H) : gName 25 x (wipe (a0 :: a1 :: a2 :: a3 :: a4 :: a5 :: a6 :: a7 :: a8 :: a9 :: a10 :: a11 :: a12 :: a13 :: a14 :: a15 :: a16 :: a17 :: a18 :: a19 :: a20 :: a21 :: a22 :: a23 :: a24 :: a25 :: t) [25]) H fun σ2 H2 => wipe σ2 [25] = wipe (a0 :: a1 :: a2 :: a3 :: a4 :: a5 :: a6 :: a7 :: a8 :: a9 :: a10 :: a11 :: a12 :: a13 :: a14 :: a15 :: a16 :: a17 :: a18 :: a19 :: a20 :: a21 :: a22 :: a23 :: a24 :: a25 :: t) [25] ∧ QG σ2 H2 := ⟨rfl, q⟩
theorem y_var26 (q : Q v H) : tVar 26 (a0 :: a1 :: a2 :: a3 :: a4 :: a5 :: a6 :: a7 :: a8 :: a9 :: a10 :: a11 :: a12 :: a13 :: a14 :: a15 :: a16 :: a17 :: a18 :: a19 :: a20 :: a21 :: a22 :: a23 :: a24 :: a25 :: some v :: t) H Q := ⟨v, rfl, q⟩
theorem y_set26 (q : te (a0 :: a1 :: a2 :: a3 :: a4 :: a5 :: a6 :: a7 :: a8 :: a9 :: a10 :: a11 :: a12 :: a13 :: a14 :: a15 :: a16 :: a17 :: a18 :: a19 :: a20 :: a21 :: a22 :: a23 :: a24 :: a25 :: a26 :: t) H fun x H1 => n (a0 :: a1 :: a2 :: a3 :: a4 :: a5 :: a6 :: a7 :: a8 :: a9 :: a10 :: a11 :: a12 :: a13 :: a14 :: a15 :: a16 :: a17 :: a18 :: a19 :: a20 :: a21 :: a22 :: a23 :: a24 :: a25 :: some x :: t) H1) : tAsg te (gName 26) ⟨n, rt, bk, ct⟩ (a0 :: a1 :: a2 :: a3 :: a4 :: a5 :: a6 :: a7 :: a8 :: a9 :: a10 :: a11 :: a12 :: a13 :: a14 :: a15 :: a16 :: a17 :: a18 :: a19 :: a20 :: a21 :: a22 :: a23 :: a24 :: a25 :: a26 :: t) H := q
theorem y_gname26 (q : QG (a0 :: a1 :: a2 :: a3 :: a4 :: a5 :: a6 :: a7 :: a8 :: a9 :: a10 :: a11 :: a12 :: a13 :: a14 :: a15 :: a16 :: a17 :: a18 :: a19 :: a20 :: a21 :: a22 :: a23 :: a24 :: a25 :: some x :: t) H) : gName 26 x (a0 :: a1 :: a2 :: a3 :: a4 :: a5 :: a6 :: a7 :: a8 :: a9 :: a10 :: a11 :: a12 :: a13 :: a14 :: a15 :: a16 :: a17 :: a18 :: a19 :: a20 :: a21 :: a22 :: a23 :: a24 :: a25 :: a26 :: t) H QG := q
theorem y_wname26 (q : QG (a0 :: a1 :: a2 :: a3 :: a4 :: a5 :: a6 :: a7 :: a8 :: a9 :: a10 :: a11 :: a12 :: a13 :: a14 :: a15 :: a16 :: a17 :: a18 :: a19 :: a20 :: a21 :: a22 :: a23 :: a24 :: a25 :: some x :: t) H) : gName 26 x (wipe (a0 :: a1 :: a2 :: a3 :: a4 :: a5 :: a6 :: a7 :: a8 :: a9 :: a10 :: a11 :: a12 :: a13 :: a14 :: a15 :: a16 :: a17 :: a18 :: a19 :: a20 :: a21 :: a22 :: a23 :: a24 :: a25 :: a26 :: t) [26]) H fun σ2 H2 => wipe σ2 [26] = wipe (a0 :: a1 :: a2 :: a3 :: a4 :: a5 :: a6 :: a7 :: a8 :: a9 :: a10 :: a11 :: a12 :: a13 :: a14 :: a15 :: a16 :: a17 :: a18 :: a19 :: a20 :: a21 :: a22 :: a23 :: a24 :: a25 :: a26 :: t) [26] ∧ QG σ2 H2 := ⟨rfl, q⟩
theorem y_var27 (q : Q v H) : tVar 27 (a0 :: a1 :: a2 :: a3 :: a4 :: a5 :: a6 :: a7 :: a8 :: a9 :: a10 :: a11 :: a12 :: a13 :: a14 :: a15 :: a16 :: a17 :: a18 :: a19 :: a20 :: a21 :: a22 :: a23 :: a24 :: a25 :: a26 :: some v :: t) H Q := ⟨v, rfl, q⟩
theorem y_set27 (q : te (a0 :: a1 :: a2 :: a3 :: a4 :: a5 :: a6 :: a7 :: a8 :: a9 :: a10 :: a11 :: a12 :: a13 :: a14 :: a15 :: a16 :: a17 :: a18 :: a19 :: a20 :: a21 :: a22 :: a23 :: a24 :: a25 :: a26 :: a27 :: t) H fun x H1 => n (a0 :: a1 :: a2 :: a3 :: a4 :: a5 :: a6 :: a7 :: a8 :: a9 :: a10 :: a11 :: a12 :: a13 :: a14 :: a15 :: a16 :: a17 :: a18 :: a19 :: a20 :: a21 :: a22 :: a23 :: a24 :: a25 :: a26 :: some x :: t) H1) : tAsg te (gName 27) ⟨n, rt, bk, ct⟩ (a0 :: a1 :: a2 :: a3 :: a4 :: a5 :: a6 :: a7 :: a8 :: a9 :: a10 :: a11 :: a12 :: a13 :: a14 :: a15 :: a16 :: a17 :: a18 :: a19 :: a20 :: a21 :: a22 :: a23 :: a24 :: a25 :: a26 :: a27 :: t) H := q
theorem y_gname27 (q : QG (a0 :: a1 :: a2 :: a3 :: a4 :: a5 :: a6 :: a7 :: a8 :: a9 :: a10 :: a11 :: a12 :: a13 :: a14 :: a15 :: a16 :: a17 :: a18 :: a19 :: a20 :: a21 :: a22 :: a23 :: a24 :: a25 :: a26 :: some x :: t) H) : gName 27 x (a0 :: a1 :: a2 :: a3 :: a4 :: a5 :: a6 :: a7 :: a8 :: a9 :: a10 :: a11 :: a12 :: a13 :: a14 :: a15 :: a16 :: a17 :: a18 :: a19 :: a20 :: a21 :: a22 :: a23 :: a24 :: a25 :: a26 :: a27 :: t) H QG := q
theorem y_wname27 (q : QG (a0 :: a1 :: a2 :: a3 :: a4 :: a5 :: a6 :: a7 :: a8 :: a9 :: a10 :: a11 :: a12 :: a13 :: a14 :: a15 :: a16 :: a17 :: a18 :: a19 :: a20 :: a21 :: a22 :: a23 :: a24 :: a25 :: a26 :: some x :: t) H) : gName 27 x (wipe (a0 :: a1 :: a2 :: a3 :: a4 :: a5 :: a6 :: a7 :: a8 :: a9 :: a10 :: a11 :: a12 :: a13 :: a14 :: a15 :: a16 :: a17 :: a18 :: a19 :: a20 :: a21 :: a22 :: a23 :: a24 :: a25 :: a26 :: a27 :: t) [27]) H fun σ2 H2 => wipe σ2 [27] = wipe (a0 :: a1 :: a2 :: a3 :: a4 :: a5 :: a6 :: a7 :: a8 :: a9 :: a10 :: a11 :: a12 :: a13 :: a14 :: a15 :: a16 :: a17 :: a18 :: a19 :: a20 :: a21 :: a22 :: a23 :: a24 :: a25 :: a26 :: a27 :: t) [27] ∧ QG σ2 H2 := ⟨rfl, q⟩
theorem y_var28 (q : Q v H) : tVar 28 (a0 :: a1 :: a2 :: a3 :: a4 :: a5 :: a6 :: a7 :: a8 :: a9 :: a10 :: a11 :: a12 :: a13 :: a14 :: a15 :: a16 :: a17 :: a18 :: a19 :: a20 :: a21 :: a22 :: a23 :: a24 :: a25 :: a26 :: a27 :: some v :: t) H Q := ⟨v, rfl, q⟩
theorem y_set28 (q : te (a0 :: a1 :: a2 :: a3 :: a4 :: a5 :: a6 :: a7 :: a8 :: a9 :: a10 :: a11 :: a12 :: a13 :: a14 :: a15 :: a16 :: a17 :: a18 :: a19 :: a20 :: a21 :: a22 :: a23 :: a24 :: a25 :: a26 :: a27 :: a28 :: t) H fun x H1 => n (a0 :: a1 :: a2 :: a3 :: a4 :: a5 :: a6 :: a7 :: a8 :: a9 :: a10 :: a11 :: a12 :: a13 :: a14 :: a15 :: a16 :: a17 :: a18 :: a19 :: a20 :: a21 :: a22 :: a23 :: a24 :: a25 :: a26 :: a27 :: some x :: t) H1) : tAsg te (gName 28) ⟨n, rt, bk, ct⟩ (a0 :: a1 :: a2 :: a3 :: a4 :: a5 :: a6 :: a7 :: a8 :: a9 :: a10 :: a11 :: a12 :: a13 :: a14 :: a15 :: a16 :: a17 :: a18 :: a19 :: a20 :: a21 :: a22 :: a23 :: a24 :: a25 :: a26 :: a27 :: a28 :: t) H := q
theorem y_gname28 (q : QG (a0 :: a1 :: a2 :: a3 :: a4 :: a5 :: a6 :: a7 :: a8 :: a9 :: a10 :: a11 :: a12 :: a13 :: a14 :: a15 :: a16 :: a17 :: a18 :: a19 :: a20 :: a21 :: a22 :: a23 :: a24 :: a25 :: a26 :: a27 :: some x :: t) H) : gName 28 x (a0 :: a1 :: a2 :: a3 :: a4 :: a5 :: a6 :: a7 :: a8 :: a9 :: a10 :: a11 :: a12 :: a13 :: a14 :: a15 :: a16 :: a17 :: a18 :: a19 :: a20 :: a21 :: a22 :: a23 :: a24 :: a25 :: a26 :: a27 :: a28 :: t) H QG := q
theorem y_wname28 (q : QG (a0 :: a1 :: a2 :: a3 :: a4 :: a5 :: a6 :: a7 :: a8 :: a9 :: a10 :: a11 :: a12 :: a13 :: a14 :: a15 :: a16 :: a17 :: a18 :: a19 :: a20 :: a21 :: a22 :: a23 :: a24 :: a25 :: a26 :: a27 :: some x :: t) H) : gName 28 x (wipe (a0 :: a1 :: a2 :: a3 :: a4 :: a5 :: a6 :: a7 :: a8 :: a9 :: a10 :: a11 :: a12 :: a13 :: a14 :: a15 :: a16 :: a17 :: a18 :: a19 :: a20 :: a21 :: a22 :: a23 :: a24 :: a25 :: a26 :: a27 :: a28 :: t) [28]) H fun σ2 H2 => wipe σ2 [28] = wipe (a0 :: a1 :: a2 :: a3 :: a4 :: a5 :: a6 :: a7 :: a8 :: a9 :: a10 :: a11 :: a12 :: a13 :: a14 :: a15 :: a16 :: a17 :: a18 :: a19 :: a20 :: a21 :: a22 :: a23 :: a24 :: a25 :: a26 :: a27 :: a28 :: t) [28] ∧ QG σ2 H2 := ⟨rfl, q⟩
theorem y_var29 (q : Q v H) : tVar 29 (a0 :: a1 :: a2 :: a3 :: a4 :: a5 :: a6 :: a7 :: a8 :: a9 :: a10 :: a11 :: a12 :: a13 :: a14 :: a15 :: a16 :: a17 :: a18 :: a19 :: a20 :: a21 :: a22 :: a23 :: a24 :: a25 :: a26 :: a27 :: a28 :: some v :: t) H Q := ⟨v, rfl, q⟩
theorem y_set29 (q : te (a0 :: a1 :: a2 :: a3 :: a4 :: a5 :: a6 :: a7 :: a8 :: a9 :: a10 :: a11 :: a12 :: a13 :: a14 :: a15 :: a16 :: a17 :: a18 :: a19 :: a20 :: a21 :: a22 :: a23 :: a24 :: a25 :: a26 :: a27 :: a28 :: a29 :: t) H fun x H1 => n (a0 :: a1 :: a2 :: a3 :: a4 :: a5 :: a6 :: a7 :: a8 :: a9 :: a10 :: a11 :: a12 :: a13 :: a14 :: a15 :: a16 :: a17 :: a18 :: a19 :: a20 :: a21 :: a22 :: a23 :: a24 :: a25 :: a26 :: a27 :: a28 :: some x :: t) H1) : tAsg te (gName 29) ⟨n, rt, bk, ct⟩ (a0 :: a1 :: a2 :: a3 :: a4 :: a5 :: a6 :: a7 :: a8 :: a9 :: a10 :: a11 :: a12 :: a13 :: a14 :: a15 :: a16 :: a17 :: a18 :: a19 :: a20 :: a21 :: a22 :: a23 :: a24 :: a25 :: a26 :: a27 :: a28 :: a29 :: t) H := q
theorem y_gname29 (q : QG (a0 :: a1 :: a2 :: a3 :: a4 :: a5 :: a6 :: a7 :: a8 :: a9 :: a10 :: a11 :: a12 :: a13 :: a14 :: a15 :: a16 :: a17 :: a18 :: a19 :: a20 :: a21 :: a22 :: a23 :: a24 :: a25 :: a26 :: a27 :: a28 :: some x :: t) H) : gName 29 x (a0 :: a1 :: a2 :: a3 :: a4 :: a5 :: a6 :: a7 :: a8 :: a9 :: a10 :: a11 :: a12 :: a13 :: a14 :: a15 :: a16 :: a17 :: a18 :: a19 :: a20 :: a21 :: a22 :: a23 :: a24 :: a25 :: a26 :: a27 :: a28 :: a29 :: t) H QG := q
theorem y_wname29 (q : QG (a0 :: a1 :: a2 :: a3 :: a4 :: a5 :: a6 :: a7 :: a8 :: a9 :: a10 :: a11 :: a12 :: a13 :: a14 :: a15 :: a16 :: a17 :: a18 :: a19 :: a20 :: a21 :: a22 :: a23 :: a24 :: a25 :: a26 :: a27 :: a28 :: some x :: t) H) : gName 29 x (wipe (a0 :: a1 :: a2 :: a3 :: a4 :: a5 :: a6 :: a7 :: a8 :: a9 :: a10 :: a11 :: a12 :: a13 :: a14 :: a15 :: a16 :: a17 :: a18 :: a19 :: a20 :: a21 :: a22 :: a23 :: a24 :: a25 :: a26 :: a27 :: a28 :: a29 :: t) [29]) H fun σ2 H2 => wipe σ2 [29] = wipe (a0 :: a1 :: a2 :: a3 :: a4 :: a5 :: a6 :: a7 :: a8 :: a9 :: a10 :: a11 :: a12 :: a13 :: a14 :: a15 :: a16 :: a17 :: a18 :: a19 :: a20 :: a21 :: a22 :: a23 :: a24 :: a25 :: a26 :: a27 :: a28 :: a29 :: t) [29] ∧ QG σ2 H2 := ⟨rfl, q⟩
theorem nox_K {X : Cx} : X.nox.K = X.K := rfl
theorem tr_K {X : Cx} {pn : List (Addr × Obj)} {xe : Value → Shared → Prop} : (X.tr pn xe).K = X.K := rfl
theorem cxOf_K {CX : CXT} {P : Program} {w : World} {K : PySem.W.Frag} {mg : Str → Option Value} {base : Heap} {N : List Str} {qual : Str} {scope : Scope} {f : Addr} {cd : Value} {A : Around} {outer : List Env} {s : Shared} {H : Hp} {E : XK} : (cxOf CX P w K mg base N qual scope f cd A outer s H E).K = K := rfl
theorem y_call {sp : Sp} {dvs : List V} {E : XK} {ta : TA} {σ : L2.St} (q : ta σ H fun vs H1 => sp (vs ++ dvs) H1 Q E) : tCall sp dvs E ta σ H Q := q
theorem y_callS {sp : Sp} {E : L2.St → XK} {ta : TA} {σ : L2.St} (q : ta σ H fun vs H1 => sp vs H1 Q (E σ)) : tCallS sp E ta σ H Q := q
theorem y_start {tt : TS} {D : Ends} {σ σ' : L2.St} (h : σ = σ') (q : tt D σ' H) : tt D σ H := h ▸ q
end
end L2

/-! ## G5: texts as lists of signs -/
namespace L2
open PySem PySem.Spec PyProof.Rows
/-- the text of a list of signs -/
def ofL (l : List Nat) : Str := ⟨l.toArray⟩
theorem ofL_cps (s : Str) : ofL s.cps.toList = s := by cases s; rfl
theorem ofL_app (a b : List Nat) : ofL a ++ ofL b = ofL (a ++ b) := by
  show Str.append (ofL a) (ofL b) = _
  simp [Str.append, ofL]
theorem ofL_len (a : List Nat) : (ofL a).length = a.length := by simp [Str.length, ofL]
theorem ofL_inj {a b : List Nat} (h : ofL a = ofL b) : a = b := by
  have : (ofL a).cps.toList = (ofL b).cps.toList := by rw [h]
  simpa [ofL] using this
theorem sIx_i (n d : Nat) (k : Int) (h : 0 ≤ k) : HT.sIx n d (some k) = min k.toNat n := by
  have e : k = (k.toNat : Int) := by omega
  have q := HT.sIx_nat n d k.toNat
  rw [← e] at q
  exact q
theorem cut_to (s : Str) (k : Int) (h : 0 ≤ k) : cutS s none (some k) = ofL (s.cps.toList.take k.toNat) := by
  unfold cutS
  rw [HT.sIx_none, sIx_i _ _ _ h]
  show ofL _ = _
  congr 1
  have : s.cps.toList.length = s.length := by simp [Str.length]
  rw [List.drop_zero, Nat.sub_zero, List.take_eq_take_iff]
  omega
theorem cut_of (s : Str) (j k : Int) (h : 0 ≤ j) (h2 : j ≤ k) : cutS s (some j) (some k) = ofL ((s.cps.toList.drop j.toNat).take (k.toNat - j.toNat)) := by
  unfold cutS
  rw [sIx_i _ _ _ h, sIx_i _ _ _ (by omega)]
  show ofL _ = _
  congr 1
  have : s.cps.toList.length = s.length := by simp [Str.length]
  by_cases c : j.toNat ≤ s.length
  · rw [Nat.min_eq_left c, List.take_eq_take_iff, List.length_drop]
    omega
  · rw [List.drop_eq_nil_of_le (by omega), List.drop_eq_nil_of_le (by omega)]
    simp
theorem cut_from (s : Str) (j : Int) (h : 0 ≤ j) : cutS s (some j) none = ofL (s.cps.toList.drop j.toNat) := by
  unfold cutS
  rw [sIx_i _ _ _ h, HT.sIx_none]
  show ofL _ = _
  congr 1
  have : s.cps.toList.length = s.length := by simp [Str.length]
  by_cases c : j.toNat ≤ s.length
  · rw [Nat.min_eq_left c, List.take_of_length_le]
    rw [List.length_drop]; omega
  · rw [List.drop_eq_nil_of_le (by omega), List.drop_eq_nil_of_le (by omega)]
    simp
def txts (ls : List (List Nat)) : List V := ls.map fun l => V.str (ofL l)
theorem txts_app (a b : List (List Nat)) : txts (a ++ b) = txts a ++ txts b := List.map_append
theorem txts_len (a : List (List Nat)) : (txts a).length = a.length := List.length_map ..
theorem txts_strs (a : List (List Nat)) : txts a = (a.map ofL).map V.str := by simp [txts]
theorem range_snoc {α : Type} (f : Nat → α) (i : Nat) : (List.range (i + 1)).map f = (List.range i).map f ++ [f i] := by simp [List.range_succ]
/-! ## augmented slots (printed by a program) -/
section
variable {H : Hp} {te : TE} {ti : TIp} {n : St → Hp → Prop} {rt : VK} {bk ct : St → Hp → Prop} {x : V} {t : List (Option V)} {a0 a1 a2 a3 a4 a5 a6 a7 a8 a9 a10 a11 a12 a13 a14 a15 a16 a17 a18 a19 a20 a21 a22 a23 a24 a25 a26 a27 a28 a29 : Option V}
theorem y_aug0 (q : te (some x :: t) H fun y H1 => ti x y H1 fun z H2 => n (some z :: t) H2) : tAug 0 te ti ⟨n, rt, bk, ct⟩ (some x :: t) H := ⟨x, rfl, q⟩
theorem y_aug1 (q : te (a0 :: some x :: t) H fun y H1 => ti x y H1 fun z H2 => n (a0 :: some z :: t) H2) : tAug 1 te ti ⟨n, rt, bk, ct⟩ (a0 :: some x :: t) H := ⟨x, rfl, q⟩
theorem y_aug2 (q : te (a0 :: a1 :: some x :: t) H fun y H1 => ti x y H1 fun z H2 => n (a0 :: a1 :: some z :: t) H2) : tAug 2 te ti ⟨n, rt, bk, ct⟩ (a0 :: a1 :: some x :: t) H := ⟨x, rfl, q⟩
theorem y_aug3 (q : te (a0 :: a1 :: a2 :: some x :: t) H fun y H1 => ti x y H1 fun z H2 => n (a0 :: a1 :: a2 :: some z :: t) H2) : tAug 3 te ti ⟨n, rt, bk, ct⟩ (a0 :: a1 :: a2 :: some x :: t) H := ⟨x, rfl, q⟩
theorem y_aug4 (q : te (a0 :: a1 :: a2 :: a3 :: some x :: t) H fun y H1 => ti x y H1 fun z H2 => n (a0 :: a1 :: a2 :: a3 :: some z :: t) H2) : tAug 4 te ti ⟨n, rt, bk, ct⟩ (a0 :: a1 :: a2 :: a3 :: some x :: t) H := ⟨x, rfl, q⟩
theorem y_aug5 (q : te (a0 :: a1 :: a2 :: a3 :: a4 :: some x :: t) H fun y H1 => ti x y H1 fun z H2 => n (a0 :: a1 :: a2 :: a3 :: a4 :: some z :: t) H2) : tAug 5 te ti ⟨n, rt, bk, ct⟩ (a0 :: a1 :: a2 :: a3 :: a4 :: some x :: t) H := ⟨x, rfl, q⟩
theorem y_aug6 (q : te (a0 :: a1 :: a2 :: a3 :: a4 :: a5 :: some x :: t) H fun y H1 => ti x y H1 fun z H2 => n (a0 :: a1 :: a2 :: a3 :: a4 :: a5 :: some z :: t) H2) : tAug 6 te ti ⟨n, rt, bk, ct⟩ (a0 :: a1 :: a2 :: a3 :: a4 :: a5 :: some x :: t) H := ⟨x, rfl, q⟩
theorem y_aug7 (q : te (a0 :: a1 :: a2 :: a3 :: a4 :: a5 :: a6 :: some x :: t) H fun y H1 => ti x y H1 fun z H2 => n (a0 :: a1 :: a2 :: a3 :: a4 :: a5 :: a6 :: some z :: t) H2) : tAug 7 te ti ⟨n, rt, bk, ct⟩ (a0 :: a1 :: a2 :: a3 :: a4 :: a5 :: a6 :: some x :: t) H := ⟨x, rfl, q⟩
theorem y_aug8 (q : te (a0 :: a1 :: a2 :: a3 :: a4 :: a5 :: a6 :: a7 :: some x :: t) H fun y H1 => ti x y H1 fun z H2 => n (a0 :: a1 :: a2 :: a3 :: a4 :: a5 :: a6 :: a7 :: some z :: t) H2) : tAug 8 te ti ⟨n, rt, bk, ct⟩ (a0 :: a1 :: a2 :: a3 :: a4 :: a5 :: a6 :: a7 :: some x :: t) H := ⟨x, rfl, q⟩
theorem y_aug9 (q : te (a0 :: a1 :: a2 :: a3 :: a4 :: a5 :: a6 :: a7 :: a8 :: some x :: t) H fun y H1 => ti x y H1 fun z H2 => n (a0 :: a1 :: a2 :: a3 :: a4 :: a5 :: a6 :: a7 :: a8 :: some z :: t) H2) : tAug 9 te ti ⟨n, rt, bk, ct⟩ (a0 :: a1 :: a2 :: a3 :: a4 :: a5 :: a6 :: a7 :: a8 :: some x :: t) H := ⟨x, rfl, q⟩
theorem y_aug10 (q : te (a0 :: a1 :: a2 :: a3 :: a4 :: a5 :: a6 :: a7 :: a8 :: a9 :: some x :: t) H fun y H1 => ti x y H1 fun z H2 => n (a0 :: a1 :: a2 :: a3 :: a4 :: a5 :: a6 :: a7 :: a8 :: a9 :: some z :: t) H2) : tAug 10 te ti ⟨n, rt, bk, ct⟩ (a0 :: a1 :: a2 :: a3 :: a4 :: a5 :: a6 :: a7 :: a8 :: a9 :: some x :: t) H := ⟨x, rfl, q⟩
theorem y_aug11 (q : te (a0 :: a1 :: a2 :: a3 :: a4 :: a5 :: a6 :: a7 :: a8 :: a9 :: a10 :: some x :: t) H fun y H1 => ti x y H1 fun z H2 => n (a0 :: a1 :: a2 :: a3 :: a4 :: a5 :: a6 :: a7 :: a8 :: a9 :: a10 :: some z :: t) H2) : tAug 11 te ti ⟨n, rt, bk, ct⟩ (a0 :: a1 :: a2 :: a3 :: a4 :: a5 :: a6 :: a7 :: a8 :: a9 :: a10 :: some x :: t) H := ⟨x, rfl, q⟩
theorem y_aug12 (q : te (a0 :: a1 :: a2 :: a3 :: a4 :: a5 :: a6 :: a7 :: a8 :: a9 :: a10 :: a11 :: some x :: t) H fun y H1 => ti x y H1 fun z H2 => n (a0 :: a1 :: a2 :: a3 :: a4 :: a5 :: a6 :: a7 :: a8 :: a9 :: a10 :: a11 :: some z :: t) H2) : tAug 12 te ti ⟨n, rt, bk, ct⟩ (a0 :: a1 :: a2 :: a3 :: a4 :: a5 :: a6 :: a7 :: a8 :: a9 :: a10 :: a11 :: some x :: t) H := ⟨x, rfl, q⟩
theorem y_aug13 (q : te (a0 :: a1 :: a2 :: a3 :: a4 :: a5 :: a6 :: a7 :: a8 :: a9 :: a10 :: a11 :: a12 :: some x :: t) H fun y H1 => ti x y H1 fun z H2 => n (a0 :: a1 :: a2 :: a3 :: a4 :: a5 :: a6 :: a7 :: a8 :: a9 :: a10 :: a11 :: a12 :: some z :: t) H2) : tAug 13 te ti ⟨n, rt, bk, ct⟩ (a0 :: a1 :: a2 :: a3 :: a4 :: a5 :: a6 :: a7 :: a8 :: a9 :: a10 :: a11 :: a12 :: some x :: t) H := ⟨x, rfl, q⟩
theorem y_aug14 (q : te (a0 :: a1 :: a2 :: a3 :: a4 :: a5 :: a6 :: a7 :: a8 :: a9 :: a10 :: a11 :: a12 :: a13 :: some x :: t) H fun y H1 => ti x y H1 fun z H2 => n (a0 :: a1 :: a2 :: a3 :: a4 :: a5 :: a6 :: a7 :: a8 :: a9 :: a10 :: a11 :: a12 :: a13 :: some z :: t) H2) : tAug 14 te ti ⟨n, rt, bk, ct⟩ (a0 :: a1 :: a2 :: a3 :: a4 :: a5 :: a6 :: a7 :: a8 :: a9 :: a10 :: a11 :: a12 :: a13 :: some x :: t) H := ⟨x, rfl, q⟩
theorem y_aug15 (q : te (a0 :: a1 :: a2 :: a3 :: a4 :: a5 :: a6 :: a7 :: a8 :: a9 :: a10 :: a11 :: a12 :: a13 :: a14 :: some x :: t) H fun y H1 => ti x y H1 fun z H2 => n (a0 :: a1 :: a2 :: a3 :: a4 :: a5 :: a6 :: a7 :: a8 :: a9 :: a10 :: a11 :: a12 :: a13 :: a14 :: some z :: t) H2) : tAug 15 te ti ⟨n, rt, bk, ct⟩ (a0 :: a1 :: a2 :: a3 :: a4 :: a5 :: a6 :: a7 :: a8 :: a9 :: a10 :: a11 :: a12 :: a13 :: a14 :: some x :: t) H := ⟨x, rfl, q⟩
theorem y_aug16 (q : te (a0 :: a1 :: a2 :: a3 :: a4 :: a5 :: a6 :: a7 :: a8 :: a9 :: a10 :: a11 :: a12 :: a13 :: a14 :: a15 :: some x :: t) H fun y H1 => ti x y H1 fun z H2 => n (a0 :: a1 :: a2 :: a3 :: a4 :: a5 :: a6 :: a7 :: a8 :: a9 :: a10 :: a11 :: a12 :: a13 :: a14 :: a15 :: some z :: t) H2) : tAug 16 te ti ⟨n, rt, bk, ct⟩ (a0 :: a1 :: a2 :: a3 :: a4 :: a5 :: a6 :: a7 :: a8 :: a9 :: a10 :: a11 :: a12 :: a13 :: a14 :: a15 :: some x :: t) H := ⟨x, rfl, q⟩
theorem y_aug17 (q : te (a0 :: a1 :: a2 :: a3 :: a4 :: a5 :: a6 :: a7 :: a8 :: a9 :: a10 :: a11 :: a12 :: a13 :: a14 :: a15 :: a16 :: some x :: t) H fun y H1 => ti x y H1 fun z H2 => n (a0 :: a1 :: a2 :: a3 :: a4 :: a5 :: a6 :: a7 :: a8 :: a9 :: a10 :: a11 :: a12 :: a13 :: a14 :: a15 :: a16 :: some z :: t) H2) : tAug 17 te ti ⟨n, rt, bk, ct⟩ (a0 :: a1 :: a2 :: a3 :: a4 :: a5 :: a6 :: a7 :: a8 :: a9 :: a10 :: a11 :: a12 :: a13 :: a14 :: a15 :: a16 :: some x :: t) H := ⟨x, rfl, q⟩
theorem y_aug18 (q : te (a0 :: a1 :: a2 :: a3 :: a4 :: a5 :: a6 :: a7 :: a8 :: a9 :: a10 :: a11 :: a12 :: a13 :: a14 :: a15 :: a16 :: a17 :: some x :: t) H fun y H1 => ti x y H1 fun z H2 => n (a0 :: a1 :: a2 :: a3 :: a4 :: a5 :: a6 :: a7 :: a8 :: a9 :: a10 :: a11 :: a12 :: a13 :: a14 :: a15 :: a16 :: a17 :: some z :: t) H2) : tAug 18 te ti ⟨n, rt, bk, ct⟩ (a0 :: a1 :: a2 :: a3 :: a4 :: a5 :: a6 :: a7 :: a8 :: a9 :: a10 :: a11 :: a12 :: a13 :: a14 :: a15 :: a16 :: a17 :: some x :: t) H := ⟨x, rfl, q⟩
theorem y_aug19 (q : te (a0 :: a1 :: a2 :: a3 :: a4 :: a5 :: a6 :: a7 :: a8 :: a9 :: a10 :: a11 :: a12 :: a13 :: a14 :: a15 :: a16 :: a17 :: a18 :: some x :: t) H fun y H1 => ti x y H1 fun z H2 => n (a0 :: a1 :: a2 :: a3 :: a4 :: a5 :: a6 :: a7 :: a8 :: a9 :: a10 :: a11 :: a12 :: a13 :: a14 :: a15 :: a16 :: a17 :: a18 :: some z :: t) H2) : tAug 19 te ti ⟨n, rt, bk, ct⟩ (a0 :: a1 :: a2 :: a3 :: a4 :: a5 :: a6 :: a7 :: a8 :: a9 :: a10 :: a11 :: a12 :: a13 :: a14 :: a15 :: a16 :: a17 :: a18 :: some x :: t) H := ⟨x, rfl, q⟩
theorem y_aug20 (q : te (a0 :: a1 :: a2 :: a3 :: a4 :: a5 :: a6 :: a7 :: a8 :: a9 :: a10 :: a11 :: a12 :: a13 :: a14 :: a15 :: a16 :: a17 :: a18 :: a19 :: some x :: t) H fun y H1 => ti x y H1 fun z H2 => n (a0 :: a1 :: a2 :: a3 :: a4 :: a5 :: a6 :: a7 :: a8 :: a9 :: a10 :: a11 :: a12 :: a13 :: a14 :: a15 :: a16 :: a17 :: a18 :: a19 :: some z :: t) H2) : tAug 20 te ti ⟨n, rt, bk, ct⟩ (a0 :: a1 :: a2 :: a3 :: a4 :: a5 :: a6 :: a7 :: a8 :: a9 :: a10 :: a11 :: a12 :: a13 :: a14 :: a15 :: a16 :: a17 :: a18 :: a19 :: some x :: t) H := ⟨x, rfl, q⟩
theorem y_aug21 (q : te (a0 :: a1 :: a2 :: a3 :: a4 :: a5 :: a6 :: a7 :: a8 :: a9 :: a10 :: a11 :: a12 :: a13 :: a14 :: a15 :: a16 :: a17 :: a18 :: a19 :: a20 :: some x :: t) H fun y H1 => ti x y H1 fun z H2 => n (a0 :: a1 :: a2 :: a3 :: a4 :: a5 :: a6 :: a7 :: a8 :: a9 :: a10 :: a11 :: a12 :: a13 :: a14 :: a15 :: a16 :: a17 :: a18 :: a19 :: a20 :: some z :: t) H2) : tAug 21 te ti ⟨n, rt, bk, ct⟩ (a0 :: a1 :: a2 :: a3 :: a4 :: a5 :: a6 :: a7 :: a8 :: a9 :: a10 :: a11 :: a12 :: a13 :: a14 :: a15 :: a16 :: a17 :: a18 :: a19 :: a20 :: some x :: t) H := ⟨x, rfl, q⟩
theorem y_aug22 (q : te (a0 :: a1 :: a2 :: a3 :: a4 :: a5 :: a6 :: a7 :: a8 :: a9 :: a10 :: a11 :: a12 :: a13 :: a14 :: a15 :: a16 :: a17 :: a18 :: a19 :: a20 :: a21 :: some x :: t) H fun y H1 => ti x y H1 fun z H2 => n (a0 :: a1 :: a2 :: a3 :: a4 :: a5 :: a6 :: a7 :: a8 :: a9 :: a10 :: a11 :: a12 :: a13 :: a14 :: a15 :: a16 :: a17 :: a18 :: a19 :: a20 :: a21 :: some z :: t) H2) : tAug 22 te ti ⟨n, rt, bk, ct⟩ (a0 :: a1 :: a2 :: a3 :: a4 :: a5 :: a6 :: a7 :: a8 :: a9 :: a10 :: a11 :: a12 :: a13 :: a14 :: a15 :: a16 :: a17 :: a18 :: a19 :: a20 :: a21 :: some x :: t) H := ⟨x, rfl, q⟩
theorem y_aug23 (q : te (a0 :: a1 :: a2 :: a3 :: a4 :: a5 :: a6 :: a7 :: a8 :: a9 :: a10 :: a11 :: a12 :: a13 :: a14 :: a15 :: a16 :: a17 :: a18 :: a19 :: a20 :: a21 :: a22 :: some x :: t) H fun y H1 => ti x y H1 fun z H2 => n (a0 :: a1 :: a2 :: a3 :: a4 :: a5 :: a6 :: a7 :: a8 :: a9 :: a10 :: a11 :: a12 :: a13 :: a14 :: a15 :: a16 :: a17 :: a18 :: a19 :: a20 :: a21 :: a22 :: some z :: t) H2) : tAug 23 te ti ⟨n, rt, bk, ct⟩ (a0 :: a1 :: a2 :: a3 :: a4 :: a5 :: a6 :: a7 :: a8 :: a9 :: a10 :: a11 :: a12 :: a13 :: a14 :: a15 :: a16 :: a17 :: a18 :: a19 :: a20 :: a21 :: a22 :: some x :: t) H := ⟨x, rfl, q⟩
theorem y_aug24 (q : te (a0 :: a1 :: a2 :: a3 :: a4 :: a5 :: a6 :: a7 :: a8 :: a9 :: a10 :: a11 :: a12 :: a13 :: a14 :: a15 :: a16 :: a17 :: a18 :: a19 :: a20 :: a21 :: a22 :: a23 :: some x :: t) H fun y H1 => ti x y H1 fun z H2 => n (a0 :: a1 :: a2 :: a3 :: a4 :: a5 :: a6 :: a7 :: a8 :: a9 :: a10 :: a11 :: a12 :: a13 :: a14 :: a15 :: a16 :: a17 :: a18 :: a19 :: a20 :: a21 :: a22 :: a23 :: some z :: t) H2) : tAug 24 te ti ⟨n, rt, bk, ct⟩ (a0 :: a1 :: a2 :: a3 :: a4 :: a5 :: a6 :: a7 :: a8 :: a9 :: a10 :: a11 :: a12 :: a13 :: a14 :: a15 :: a16 :: a17 :: a18 :: a19 :: a20 :: a21 :: a22 :: a23 :: some x :: t) H := ⟨x, rfl, q⟩
theorem y_aug25 (q : te (a0 :: a1 :: a2 :: a3 :: a4 :: a5 :: a6 :: a7 :: a8 :: a9 :: a10 :: a11 :: a12 :: a13 :: a14 :: a15 :: a16 :: a17 :: a18 :: a19 :: a20 :: a21 :: a22 :: a23 :: a24 :: some x :: t) H fun y H1 => ti x y H1 fun z H2 => n (a0 :: a1 :: a2 :: a3 :: a4 :: a5 :: a6 :: a7 :: a8 :: a9 :: a10 :: a11 :: a12 :: a13 :: a14 :: a15 :: a16 :: a17 :: a18 :: a19 :: a20 :: a21 :: a22 :: a23 :: a24 :: some z :: t) H2) : tAug 25 te ti ⟨n, rt, bk, ct⟩ (a0 :: a1 :: a2 :: a3 :: a4 :: a5 :: a6 :: a7 :: a8 :: a9 :: a10 :: a11 :: a12 :: a13 :: a14 :: a15 :: a16 :: a17 :: a18 :: a19 :: a20 :: a21 :: a22 :: a23 :: a24 :: some x :: t) H := ⟨x, rfl, q⟩
theorem y_aug26 (q : te (a0 :: a1 :: a2 :: a3 :: a4 :: a5 :: a6 :: a7 :: a8 :: a9 :: a10 :: a11 :: a12 :: a13 :: a14 :: a15 :: a16 :: a17 :: a18 :: a19 :: a20 :: a21 :: a22 :: a23 :: a24 :: a25 :: some x :: t) H fun y H1 => ti x y H1 fun z H2 => n (a0 :: a1 :: a2 :: a3 :: a4 :: a5 :: a6 :: a7 :: a8 :: a9 :: a10 :: a11 :: a12 :: a13 :: a14 :: a15 :: a16 :: a17 :: a18 :: a19 :: a20 :: a21 :: a22 :: a23 :: a24 :: a25 :: some z :: t) H2) : tAug 26 te ti ⟨n, rt, bk, ct⟩ (a0 :: a1 :: a2 :: a3 :: a4 :: a5 :: a6 :: a7 :: a8 :: a9 :: a10 :: a11 :: a12 :: a13 :: a14 :: a15 :: a16 :: a17 :: a18 :: a19 :: a20 :: a21 :: a22 :: a23 :: a24 :: a25 :: some x :: t) H := ⟨x, rfl, q⟩
theorem y_aug27 (q : te (a0 :: a1 :: a2 :: a3 :: a4 :: a5 :: a6 :: a7 :: a8 :: a9 :: a10 :: a11 :: a12 :: a13 :: a14 :: a15 :: a16 :: a17 :: a18 :: a19 :: a20 :: a21 :: a22 :: a23 :: a24 :: a25 :: a26 :: some x :: t) H fun y H1 => ti x y H1 fun z H2 => n (a0 :: a1 :: a2 :: a3 :: a4 :: a5 :: a6 :: a7 :: a8 :: a9 :: a10 :: a11 :: a12 :: a13 :: a14 :: a15 :: a16 :: a17 :: a18 :: a19 :: a20 :: a21 :: a22 :: a23 :: a24 :: a25 :: a26 :: some z :: t) H2) : tAug 27 te ti ⟨n, rt, bk, ct⟩ (a0 :: a1 :: a2 :: a3 :: a4 :: a5 :: a6 :: a7 :: a8 :: a9 :: a10 :: a11 :: a12 :: a13 :: a14 :: a15 :: a16 :: a17 :: a18 :: a19 :: a20 :: a21 :: a22 :: a23 :: a24 :: a25 :: a26 :: some x :: t) H := ⟨x, rfl, q⟩
theorem y_aug28 (q : te (a0 :: a1 :: a2 :: a3 :: a4 :: a5 :: a6 :: a7 :: a8 :: a9 :: a10 :: a11 :: a12 :: a13 :: a14 :: a15 :: a16 :: a17 :: a18 :: a19 :: a20 :: a21 :: a22 :: a23 :: a24 :: a25 :: a26 :: a27 :: some x :: t) H fun y H1 => ti x y H1 fun z H2 => n (a0 :: a1 :: a2 :: a3 :: a4 :: a5 :: a6 :: a7 :: a8 :: a9 :: a10 :: a11 :: a12 :: a13 :: a14 :: a15 :: a16 :: a17 :: a18 :: a19 :: a20 :: a21 :: a22 :: a23 :: a24 :: a25 :: a26 :: a27 :: some z :: t) H2) : tAug 28 te ti ⟨n, rt, bk, ct⟩ (a0 :: a1 :: a2 :: a3 :: a4 :: a5 :: a6 :: a7 :: a8 :: a9 :: a10 :: a11 :: a12 :: a13 :: a14 :: a15 :: a16 :: a17 :: a18 :: a19 :: a20 :: a21 :: a22 :: a23 :: a24 :: a25 :: a26 :: a27 :: some x :: t) H := ⟨x, rfl, q⟩
theorem y_aug29 (q : te (a0 :: a1 :: a2 :: a3 :: a4 :: a5 :: a6 :: a7 :: a8 :: a9 :: a10 :: a11 :: a12 :: a13 :: a14 :: a15 :: a16 :: a17 :: a18 :: a19 :: a20 :: a21 :: a22 :: a23 :: a24 :: a25 :: a26 :: a27 :: a28 :: some x :: t) H fun y H1 => ti x y H1 fun z H2 => n (a0 :: a1 :: a2 :: a3 :: a4 :: a5 :: a6 :: a7 :: a8 :: a9 :: a10 :: a11 :: a12 :: a13 :: a14 :: a15 :: a16 :: a17 :: a18 :: a19 :: a20 :: a21 :: a22 :: a23 :: a24 :: a25 :: a26 :: a27 :: a28 :: some z :: t) H2) : tAug 29 te ti ⟨n, rt, bk, ct⟩ (a0 :: a1 :: a2 :: a3 :: a4 :: a5 :: a6 :: a7 :: a8 :: a9 :: a10 :: a11 :: a12 :: a13 :: a14 :: a15 :: a16 :: a17 :: a18 :: a19 :: a20 :: a21 :: a22 :: a23 :: a24 :: a25 :: a26 :: a27 :: a28 :: some x :: t) H := ⟨x, rfl, q⟩
theorem y_ipI {Q : VK} {i j : Int} (q : Q (.int (i + j)) H) : ipAddU (.int i) (.int j) H Q := .inl ⟨i, j, rfl, rfl, q⟩
end
/-! ## data walked -/
section
variable {K : PySem.W.Frag} {σ : St} {H H1 : Hp} {Q : VK} {te : TE} {g : TG} {a : Addr} {xs : List V} {ds : List Da} {vs : List Nat}
theorem y_all {bs : List Bool} (h : SqL K H a (bs.map V.bl)) (q : Q (.bl (bs.all id)) H) : rAll K [.ref a] H Q := ⟨a, bs, rfl, h, q⟩
/-- [f(x) for x in a tuple of data], f a flag and nothing else -/
theorem y_lcFlag (f : Da → Bool) (hs : SqT K H1 a xs) (ht : ThAll K H1 xs ds) (hz : xs.length ≤ sizeLine)
    (he : ∀ (x : V) (d : Da) (Hc : Hp) (Qt : VK), d ∈ ds → Th K Hc x d → Ev [] H1 Hc → (∀ H4, Ev [] Hc H4 → Qt (.bl (f d)) H4) → g x (wipe σ vs) Hc fun σ2 H2 => wipe σ2 vs = wipe σ vs ∧ te σ2 H2 Qt)
    (hd : ∀ D Hn, H1 D = none → Hn D = some (.lst ((ds.map f).map V.bl)) → Ev [] H1 Hn → Q (.ref D) Hn) : LcU K g te vs σ (.ref a) H1 Q := by
  refine y_lcT xs hs [] (by simp) (fun i acc _ => acc = ((ds.take i).map f).map V.bl) hz (fun _ _ => rfl) (fun i x acc D Hc Qt hx hD e hl iv kq => ?_) (fun D Hn acc hD e hDn hl iv => ?_)
  · obtain ⟨d, hd', hx'⟩ := ht.getV hx
    refine he x d Hc Qt (List.mem_of_getElem? hd') (e.th hx') e fun H4 e4 => kq _ _ e4 fun H5 e5 => ?_
    rw [iv, List.take_add_one, hd']
    simp
  · subst iv
    rw [List.take_of_length_le (by rw [ht.length]; exact Nat.le_refl _)] at hDn
    exact hd D Hn hD hDn e
end
section
variable {K : PySem.W.Frag} {H : Hp} {Q : VK} {a : Addr} {xs : List V}
theorem y_tupleL (h : SqL K H a xs) (q : ∀ p H', H p = none → H' p = some (.tup xs) → Ev [] H H' → Q (.ref p) H') : rTupleU K [.ref a] H Q := ⟨a, xs, rfl, .inl ⟨h, fun p hp => q p _ hp upd_same (Ev.new hp)⟩⟩
theorem y_tupleT (h : SqT K H a xs) (q : Q (.ref a) H) : rTupleU K [.ref a] H Q := ⟨a, xs, rfl, .inr ⟨h, q⟩⟩
/-- where a sign stands in a text -/
theorem find_sign (z : Str) (c : Nat) : (Txt.find z (ofL [c]) = -1 ∧ c ∉ z.cps.toList) ∨ ∃ i : Nat, Txt.find z (ofL [c]) = (i : Int) ∧ z.cps.toList[i]? = some c := by
  have zl : z.cps.toList.length = z.length := by simp [Str.length]
  have sa : ∀ i, StrLaws.At z (ofL [c]) z.length i ↔ z.cps.toList[i]? = some c := fun i => by
    unfold StrLaws.At
    rw [ofL_len]
    constructor
    · rintro ⟨h1, h2⟩
      have e : z.cps.extract i (i + 1) = #[c] := eq_of_beq h2
      have e2 := congrArg Array.toList e
      rw [Array.toList_extract, List.extract_eq_drop_take] at e2
      have e3 := congrArg (fun l : List Nat => l[0]?) e2
      simpa [List.getElem?_take, List.getElem?_drop] using e3
    · intro h
      have hl := (List.getElem?_eq_some_iff.mp h).1
      refine ⟨by show i + 1 ≤ z.length; omega, ?_⟩
      show (z.cps.extract i (i + 1) == #[c]) = true
      refine beq_iff_eq.mpr (Array.toList_inj.mp ?_)
      rw [Array.toList_extract, List.extract_eq_drop_take, show i + 1 - i = 1 by omega]
      refine List.ext_getElem? fun k => ?_
      rw [List.getElem?_take, List.getElem?_drop]
      cases k with
      | zero => simpa using h
      | succ k => simp
  rcases PyProof.Rows.find_whole z (ofL [c]) with ⟨h, n⟩ | ⟨i, h, hi, _⟩
  · refine .inl ⟨h, fun q => ?_⟩
    obtain ⟨i, hi⟩ := List.mem_iff_getElem?.mp q
    exact n i ((sa i).mpr hi)
  · exact .inr ⟨i, h, (sa i).mp hi⟩
end
/-! ## while, pairs of names (places printed by a program) -/
section
variable {H : Hp} {σ : St} {ta : TA} {te : TE} {c : TT} {tb : TS} {n : St → Hp → Prop} {rt : VK} {bk ct : St → Hp → Prop}
def WhN (W : Nat → St → Hp → Prop) (m : Nat) (tb : TS) (D : Ends) (σ : St) (H : Hp) : Prop := ∃ N : St → Hp → Prop, (∀ σ' H', N σ' H' → ∃ m', m' < m ∧ W m' σ' H') ∧ tb { D with nx := N, ct := N, bk := D.nx } σ H
theorem y_whN {W : Nat → St → Hp → Prop} {m : Nat} (q : tb ⟨fun σ' H' => ∃ m', m' < m ∧ W m' σ' H', rt, n, fun σ' H' => ∃ m', m' < m ∧ W m' σ' H'⟩ σ H) : WhN W m tb ⟨n, rt, bk, ct⟩ σ H := ⟨_, fun _ _ h => h, q⟩
theorem y_while (W : Nat → St → Hp → Prop) (m : Nat) (h0 : W m σ H) (hs : ∀ m σ H, W m σ H → c σ H fun b H1 => if b = true then WhN W m tb ⟨n, rt, bk, ct⟩ σ H1 else n σ H1) : tWhile c tb ⟨n, rt, bk, ct⟩ σ H := ⟨W, ⟨m, h0⟩, hs⟩
def Par2 (i j : Nat) (n : St → Hp → Prop) (σ : St) (vs : List V) (H1 : Hp) : Prop := ∃ v w, vs = [v, w] ∧ n ((σ.set i (some v)).set j (some w)) H1
theorem y_par {i j : Nat} (q : ta σ H fun vs H1 => Par2 i j n σ vs H1) : tPar i j ta ⟨n, rt, bk, ct⟩ σ H := q
theorem y_par2 {i j : Nat} {v w : V} {σ' : St} (h : (σ.set i (some v)).set j (some w) = σ') (q : n σ' H) : Par2 i j n σ [v, w] H := ⟨v, w, rfl, by rw [h]; exact q⟩
end
/-! ## pairs -/
def isPair : Da → Bool
  | .tup ds => decide (ds.length = 2)
  | _ => false
theorem isPair_two {d : Da} (h : isPair d = true) : ∃ a b, d = .tup [a, b] := by
  cases d <;> simp [isPair] at h
  rename_i ds
  match ds, h with
  | [a, b], _ => exact ⟨a, b, rfl⟩
theorem th_two {K : PySem.W.Frag} {H : Hp} {v : V} {a b : Da} (h : Th K H v (.tup [a, b])) : ∃ p x y, v = .ref p ∧ SqT K H p [x, y] ∧ Th K H x a ∧ Th K H y b := by
  cases h with
  | @tup p xs _ hs ht =>
    cases ht with
    | cons h1 h2 =>
      cases h2 with
      | cons h3 h4 =>
        cases h4
        exact ⟨p, _, _, rfl, hs, h1, h3⟩
/-! ## wide whole numbers -/
section
variable {H : Hp} {Q : VK} {i j : Int}
theorem log2_lt {i : Int} {n : Nat} (h : i.natAbs < 2 ^ n) (hn : 0 < n) : i.natAbs.log2 < n := by
  by_cases z : i.natAbs = 0
  · rw [z]; exact hn
  · exact (Nat.log2_lt z).mpr h
theorem y_mulW {n m : Nat} (h1 : i.natAbs < 2 ^ n) (h2 : j.natAbs < 2 ^ m) (n0 : 0 < n) (m0 : 0 < m) (hn : n + m ≤ 1000000) (q : Q (.int (i * j)) H) : rMulU (.int i) (.int j) H Q := .inr (.inl ⟨i, j, rfl, rfl, by
  show i.natAbs.log2 + j.natAbs.log2 < 1000000
  have a := log2_lt h1 n0
  have b := log2_lt h2 m0
  omega, q⟩)
theorem y_fdivW {m : Nat} (h0 : 0 < j) (h2 : j.natAbs < 2 ^ m) (m0 : 0 < m) (hm : m ≤ 9000) (q : Q (.int (i / j)) H) : rFdivU (.int i) (.int j) H Q := .inr (.inr ⟨i, j, rfl, rfl, ⟨h0, by have := log2_lt h2 m0; omega⟩, q⟩)
end
/-! ## dicts by texts -/
section
variable {K : PySem.W.Frag} {H : Hp} {Q : VK} {a : Addr} {kvs : List (Key × V)} {k : Str} {v : V}
theorem y_getD (h : H a = some (.dK kvs)) (e : valV kvs (.inr k) = some v) (q : Q v H) : rIxU K (.ref a) (.str k) H Q := .inr ⟨a, v, rfl, by rw [← e]; exact DGet.k (k := .inr k) h, q⟩
theorem y_inD (h : H a = some (.dK kvs)) (q : Q (.bl (valV kvs (.inr k)).isSome) H) : rInU K false (.str k) (.ref a) H Q := .inr (.inr ⟨a, _, rfl, DGet.k (k := .inr k) h, q⟩)
theorem y_notInD (h : H a = some (.dK kvs)) (q : Q (.bl (!(valV kvs (.inr k)).isSome)) H) : rInU K true (.str k) (.ref a) H Q := .inr (.inr ⟨a, _, rfl, DGet.k (k := .inr k) h, q⟩)
theorem y_lenD (h : H a = some (.dK kvs)) (q : Q (.int kvs.length) H) : rLenU K [.ref a] H Q := .inr ⟨a, kvs, rfl, h, q⟩
theorem y_sum {ns : List Int} (h : SqL K H a (ns.map V.int)) (q : Q (.int ns.sum) H) : rSum K [.ref a] H Q := ⟨a, ns, rfl, h, q⟩
end
/-! ## {k(x): v(x) for x in a list of texts} -/
section
variable {X : Cx}
theorem pe_dcU {kx vx tg iter : Expr} {ifs : List Expr} {scope : Scope} {own : List (Str × Nat)} {vs : List Nat} {pos : Pos} {wi : TI} {g : TG} {tt : TT} {tk tv : TE} (hv : own.map (·.2) = vs) (hc : X.calm = true) (hN : X.N.Nodup) (hi : PI X tg iter wi) (ok : BlkOk X.N X.env.scope scope own)
    (hg : ∀ (s : Shared) (H : Hp) (C : Addr) (cl : List (Str × Addr)) (fp : List Addr), PG (X.blk s H scope (compEnvC scope cl C X.env) fp) tg g) (ht : ∀ (s : Shared) (H : Hp) (C : Addr) (cl : List (Str × Addr)) (fp : List Addr), PTs (X.blk s H scope (compEnvC scope cl C X.env) fp) ifs tt)
    (hk : ∀ (s : Shared) (H : Hp) (C : Addr) (cl : List (Str × Addr)) (fp : List Addr), PE (X.blk s H scope (compEnvC scope cl C X.env) fp) kx tk)
    (he : ∀ (s : Shared) (H : Hp) (C : Addr) (cl : List (Str × Addr)) (fp : List Addr), PE (X.blk s H scope (compEnvC scope cl C X.env) fp) vx tv) (hs : ∀ x, foldedSetIterable iter X.env x = pure x := by intro _; rfl) :
    PE X (.DictComp kx vx [⟨tg, iter, ifs, 0⟩] scope pos) (tDc wi g tt tk tv vs) := hv ▸ pe_dc hc hN hi ok hg ht hk he hs
end
section
variable {K : PySem.W.Frag} {σ : St} {H H1 : Hp} {Q : VK} {tk tv t0 : TE} {g : TG} {a : Addr} {vs : List Nat}
def DcU (K : PySem.W.Frag) (g : TG) (tk tv : TE) (vs : List Nat) (σ : St) (v : V) (H1 : Hp) (Q : VK) : Prop := tDc (iU K (tC v)) g tYes tk tv vs σ H1 Q
theorem y_dc (q : t0 σ H fun v H1 => DcU K g tk tv vs σ v H1 Q) : tDc (iU K t0) g tYes tk tv vs σ H Q := q
/-- over a list of texts, the texts themselves the keys -/
theorem y_dcStrs (ys : List Str) (hx : SqL K H1 a (ys.map V.str)) (na : ∀ Hc, Ev [] H1 Hc → SqL K Hc a (ys.map V.str)) (hz : ys.length < sizeLine) (Val : Str → V → Prop)
    (hb : ∀ (y : Str) (Hc : Hp) (P : V → V → Hp → Prop), y ∈ ys → Ev [] H1 Hc → (∀ v, Val y v → P (.str y) v Hc) → g (.str y) (wipe σ vs) Hc fun σ2 H2 => wipe σ2 vs = wipe σ vs ∧ tk σ2 H2 fun k H4 => tv σ2 H4 fun v H5 => P k v H5)
    (hd : ∀ D Hn kvs, H1 D = none → Hn D = some (.dK kvs) → kvs.length ≤ ys.length → (∀ y ∈ ys, ∃ v, valV kvs (.inr y) = some v ∧ Val y v) → Ev [] H1 Hn → Q (.ref D) Hn) : DcU K g tk tv vs σ (.ref a) H1 Q := by
  refine .inl ⟨a, rfl, ⟨_, hx⟩, ?_⟩
  intro D hD
  refine ⟨fun i m H => m = ys.length - i ∧ i ≤ ys.length ∧ ∃ kvs, H = upd H1 D (.dK kvs) ∧ kvs.length ≤ i ∧ ∀ y ∈ ys.take i, ∃ v, valV kvs (.inr y) = some v ∧ Val y v, ⟨ys.length, by simp, Nat.zero_le _, [], rfl, by simp, by simp⟩, ?_⟩
  rintro i m H ⟨rfl, hi, kvs, rfl, hl, hv⟩
  have e1 : Ev [] H1 (upd H1 D (.dK kvs)) := Ev.new hD
  by_cases hlt : i < ys.length
  · have hL := na _ e1
    refine .inr ⟨walk_list.goes i _ (by rw [List.length_map]; exact hlt) hL, fun H' => i + 1 ≤ ys.length ∧ ∃ kvs, H' = upd H1 D (.dK kvs) ∧ kvs.length ≤ i + 1 ∧ ∀ y ∈ ys.take (i + 1), ∃ v, valV kvs (.inr y) = some v ∧ Val y v, fun H' p' => ⟨ys.length - (i + 1), by omega, rfl, p'.1, p'.2⟩, fun x H' y => ?_⟩
    obtain ⟨rfl, ex⟩ := walk_list.yields i _ x H' (by rw [List.length_map]; exact hlt) hL y
    have ey : ys[i]? = some ys[i] := List.getElem?_eq_getElem hlt
    rw [List.getElem?_map, ey] at ex
    cases ex
    have hb' := hb ys[i] (upd H1 D (.dK kvs)) (fun k z H5 => ∃ kvs' k', k = kV k' ∧ H5 D = some (.dK kvs') ∧ kvs'.length < sizeLine ∧ (i + 1 ≤ ys.length ∧ ∃ kvs2, upd H5 D (.dK (putK kvs' k' z)) = upd H1 D (.dK kvs2) ∧ kvs2.length ≤ i + 1 ∧ ∀ y ∈ ys.take (i + 1), ∃ v, valV kvs2 (.inr y) = some v ∧ Val y v)) (List.getElem_mem hlt) e1 (fun v hval => by
      refine ⟨kvs, .inr ys[i], rfl, upd_same, by omega, hlt, putK kvs (.inr ys[i]) v, by rw [upd_upd], Nat.le_trans (length_putK _ _ _) (by omega), fun y hy => ?_⟩
      rw [valV_put]
      by_cases e : (Sum.inr y : Key) = Sum.inr ys[i]
      · rw [if_pos e]
        cases e
        exact ⟨v, rfl, hval⟩
      · rw [if_neg e]
        rw [List.take_add_one, ey] at hy
        rcases List.mem_append.mp hy with q | q
        · exact hv y q
        · simp at q
          exact absurd (by rw [q]) e)
    exact hb'
  · have e : i = ys.length := by omega
    subst e
    have st := (walk_list (K := K) (a := a) (xs := ys.map V.str)).stops _ (na _ e1)
    rw [List.length_map] at st
    refine .inl ⟨st, ?_⟩
    rw [List.take_of_length_le (Nat.le_refl _)] at hv
    exact hd D _ kvs hD upd_same hl hv e1
end
/-! ## [c for c in a text if ..] -/
section
variable {K : PySem.W.Frag} {σ : St} {H H1 : Hp} {Q : VK} {te t0 : TE} {tt : TT} {g : TG} {vs : List Nat}
def LcF (K : PySem.W.Frag) (g : TG) (tt : TT) (te : TE) (vs : List Nat) (σ : St) (v : V) (H1 : Hp) (Q : VK) : Prop := tLc (iU K (tC v)) g tt te vs σ H1 Q
theorem y_lcF (q : t0 σ H fun v H1 => LcF K g tt te vs σ v H1 Q) : tLc (iU K t0) g tt te vs σ H Q := q
theorem y_lcFS (s : Str) (f : Nat → Bool) (hz : s.cps.toList.length < sizeLine)
    (hs : ∀ (c : Nat) (Hc : Hp) (A : Hp → Prop) (B : V → Hp → Prop), c ∈ s.cps.toList → (f c = false → A Hc) → (f c = true → B (.str ⟨#[c]⟩) Hc) → g (.str ⟨#[c]⟩) (wipe σ vs) Hc fun σ2 H2 => wipe σ2 vs = wipe σ vs ∧ tt σ2 H2 fun b H3 => if b = true then te σ2 H3 B else A H3)
    (hd : ∀ D Hn, H1 D = none → Hn D = some (.lst ((s.cps.toList.filter f).map fun c => V.str ⟨#[c]⟩)) → Ev [] H1 Hn → Q (.ref D) Hn) : LcF K g tt te vs σ (.str s) H1 Q := by
  refine .inr (.inr ⟨s, rfl, ?_⟩)
  intro D hD
  refine ⟨fun i m H => m = s.cps.toList.length - i ∧ i ≤ s.cps.toList.length ∧ H = upd H1 D (.lst (((s.cps.toList.take i).filter f).map fun c => V.str ⟨#[c]⟩)), ⟨s.cps.toList.length, by simp, Nat.zero_le _, by simp⟩, ?_⟩
  rintro i m H ⟨rfl, hi, rfl⟩
  by_cases hlt : i < s.cps.toList.length
  · refine .inr ⟨walk_str.goes i _ (by simpa using hlt) trivial, fun H => i + 1 ≤ s.cps.toList.length ∧ H = upd H1 D (.lst (((s.cps.toList.take (i + 1)).filter f).map fun c => V.str ⟨#[c]⟩)), fun H' p' => ⟨s.cps.toList.length - (i + 1), by omega, rfl, p'.1, p'.2⟩, fun x H' y => ?_⟩
    obtain ⟨rfl, c, hc, rfl⟩ := walk_str.yields i _ x H' (by simpa using hlt) trivial y
    have hc' : s.cps.toList[i]? = some c := by simpa using hc
    have e : (s.cps.toList.take (i + 1)).filter f = (s.cps.toList.take i).filter f ++ (if f c = true then [c] else []) := by
      rw [List.take_add_one, hc', List.filter_append]
      congr 1
      simp [List.filter_cons]
    refine hs c _ (fun H => i + 1 ≤ s.cps.toList.length ∧ H = upd H1 D (.lst (((s.cps.toList.take (i + 1)).filter f).map fun c => V.str ⟨#[c]⟩))) (fun y H4 => ∃ acc, H4 D = some (.lst acc) ∧ acc.length < sizeLine ∧ (i + 1 ≤ s.cps.toList.length ∧ upd H4 D (.lst (acc ++ [y])) = upd H1 D (.lst (((s.cps.toList.take (i + 1)).filter f).map fun c => V.str ⟨#[c]⟩)))) (List.mem_of_getElem? hc') (fun ef => ⟨hlt, by rw [e, ef]; simp⟩) (fun ef => ⟨_, upd_same, ?_, hlt, ?_⟩)
    · rw [List.length_map]
      have := List.length_filter_le f (s.cps.toList.take i)
      rw [List.length_take] at this
      omega
    · rw [upd_upd, e, ef, if_pos rfl, List.map_append]
      rfl
  · have e : i = s.cps.toList.length := by omega
    subst e
    have st := (walk_str (z := s)).stops (upd H1 D (.lst (((s.cps.toList.take s.cps.toList.length).filter f).map fun c => V.str ⟨#[c]⟩))) trivial
    refine .inl ⟨by simpa using st, ?_⟩
    rw [List.take_of_length_le (Nat.le_refl _)]
    exact hd D _ hD upd_same (Ev.new hD)
end
end L2

/-! ## S1: data as trees, own objects, what a value stands for -/
namespace VS
open PySem PySem.Spec PyProof.Rows L2
/-- a dict's key -/
inductive DK where
  | k (k : Key)
  | tup (l : List Key)
  deriving DecidableEq
/-- what an object is, but for its items -/
inductive Hd where
  | lst
  | dct (t : Bool) (ks : List DK)
  | ins (c : Nat) (fs : List Str)
  deriving DecidableEq
/-- data -/
inductive D where
  | non | bl (b : Bool) | int (i : Int) | str (s : Str) | tup (l : List D) | ob (h : Hd) (l : List D) | fro (l : List D)
abbrev D.lst (l : List D) : D := .ob .lst l
abbrev D.dct (t : Bool) (ks : List DK) (l : List D) : D := .ob (.dct t ks) l
abbrev D.ins (c : Nat) (fs : List Str) (l : List D) : D := .ob (.ins c fs) l
/-- data that nobody changes, or an object that is one's own -/
inductive SV where
  | fz (d : D)
  | mu (h : Hd) (l : List SV)
mutual
def SV.toD : SV → D
  | .fz d => d
  | .mu h l => .ob h (toDs l)
def toDs : List SV → List D
  | [] => []
  | s :: r => s.toD :: toDs r
end
def allFz : List SV → Option (List D)
  | [] => some []
  | .fz d :: r => (allFz r).map (d :: ·)
  | .mu _ _ :: _ => none
def SV.view : SV → Option D
  | .fz d => some d
  | .mu h l => (allFz l).map (.ob h)
theorem toDs_eq : ∀ l : List SV, toDs l = l.map SV.toD
  | [] => rfl
  | s :: r => by rw [toDs, toDs_eq r]; rfl
theorem allFz_eq : ∀ {l : List SV} {ds : List D}, allFz l = some ds → l = ds.map SV.fz
  | [], ds, h => by cases h; rfl
  | .fz d :: r, ds, h => by
    simp only [allFz, Option.map_eq_some_iff] at h
    obtain ⟨ds', h, rfl⟩ := h
    rw [allFz_eq h]; rfl
  | .mu _ _ :: _, ds, h => by cases h
theorem allFz_map : ∀ l : List D, allFz (l.map SV.fz) = some l
  | [] => rfl
  | d :: r => by simp only [List.map_cons, allFz, allFz_map r, Option.map_some]
theorem toDs_fz : ∀ l : List D, toDs (l.map SV.fz) = l
  | [] => rfl
  | d :: r => by
    show SV.toD (.fz d) :: toDs (r.map SV.fz) = _
    rw [toDs_fz r]; rfl
structure Gx where
  K : PySem.W.Frag
  cl : Nat → Addr
  hid : Nat → List Str
  pin : List Nat
  ex : L2.St → XK
def keyT : Key → DK := DK.k
/-- the object of a head and items -/
def HOf (cl : Nat → Addr) (h : Hd) (xs : List V) (o : HO) : Prop :=
  match h with
  | .lst => o = .lst xs
  | .dct false ks => ∃ kvs : List (Key × V), o = .dK kvs ∧ ks = kvs.map (fun p => DK.k p.1) ∧ xs = kvs.map (·.2)
  | .dct true ks => ∃ kvs : List (List Key × V), o = .dT kvs ∧ ks = kvs.map (fun p => DK.tup p.1) ∧ xs = kvs.map (·.2)
  | .ins c fs => ∃ dx fsr, o = .ins (cl c) dx fsr ∧ fs = fsr.map (·.1) ∧ xs = fsr.map (·.2) ∧ (fsr.map (·.1)).Nodup
/-- .. as it is read: of an instance some attributes -/
def HOr (cl : Nat → Addr) (hid : Nat → List Str) (h : Hd) (xs : List V) (o : HO) : Prop :=
  match h with
  | .lst => o = .lst xs
  | .dct false ks => ∃ kvs : List (Key × V), o = .dK kvs ∧ ks = kvs.map (fun p => DK.k p.1) ∧ xs = kvs.map (·.2)
  | .dct true ks => ∃ kvs : List (List Key × V), o = .dT kvs ∧ ks = kvs.map (fun p => DK.tup p.1) ∧ xs = kvs.map (·.2)
  | .ins c fs => ∃ dx fsr, o = .ins (cl c) dx fsr ∧ fs.length = xs.length ∧ (∀ f, f ∉ fs → f ∉ hid c → fsr.lookup f = none) ∧ ∀ (i : Nat) f x, fs[i]? = some f → xs[i]? = some x → fsr.lookup f = some x
theorem lookup_nodup {l : List (Str × V)} : (l.map (·.1)).Nodup → ∀ {i : Nat} {p : Str × V}, l[i]? = some p → l.lookup p.1 = some p.2 := by
  induction l with
  | nil => intro _ i p h; cases h
  | cons q r ih =>
    intro nd i p h
    obtain ⟨k, v⟩ := q
    obtain ⟨n1, n2⟩ := List.nodup_cons.mp nd
    cases i with
    | zero => cases h; simp [List.lookup]
    | succ i =>
      have h' : r[i]? = some p := h
      have m : p.1 ∈ r.map (·.1) := List.mem_map_of_mem (List.mem_of_getElem? h')
      have e : (p.1 == k) = false := by
        rw [beq_eq_false_iff_ne]
        rintro rfl
        exact n1 m
      rw [List.lookup, e]
      exact ih n2 h'
theorem lookup_no {f : Str} : ∀ {l : List (Str × V)}, f ∉ l.map (·.1) → l.lookup f = none
  | [], _ => rfl
  | (k, v) :: r, h => by
    have e : (f == k) = false := by
      rw [beq_eq_false_iff_ne]
      rintro rfl
      exact h (by simp)
    rw [List.lookup, e]
    exact lookup_no fun m => h (by simp at m ⊢; exact .inr m)
theorem HOf.r {cl : Nat → Addr} {hid : Nat → List Str} {h : Hd} {xs : List V} {o : HO} (q : HOf cl h xs o) : HOr cl hid h xs o := by
  cases h with
  | lst => exact q
  | dct b ks => cases b <;> exact q
  | ins c fs =>
    obtain ⟨dx, fsr, e, e1, e2, nd⟩ := q
    subst e1; subst e2
    refine ⟨dx, fsr, e, by simp, fun f n _ => lookup_no n, fun i f x h1 h2 => ?_⟩
    rw [List.getElem?_map] at h1 h2
    cases q : fsr[i]? with
    | none => rw [q] at h1; cases h1
    | some p =>
      rw [q] at h1 h2
      cases h1; cases h2
      exact lookup_nodup nd q
theorem HOf.kind {cl : Nat → Addr} {h : Hd} {xs : List V} {o : HO} (q : HOf cl h xs o) : kindO o ≠ 1 ∧ kindO o ≠ 10 := by
  cases h with
  | lst => cases q; simp [kindO]
  | dct b ks => cases b <;> obtain ⟨kvs, rfl, _⟩ := q <;> simp [kindO]
  | ins c fs => obtain ⟨dx, fsr, rfl, _⟩ := q; simp [kindO]
/-! ### heaps that change at a set of addresses -/
abbrev Ad := Addr → Prop
structure Evp (S : Ad) (H H' : Hp) : Prop where
  keep : ∀ b o, H b = some o → ¬ S b → H' b = some o
  tups : ∀ b xs, H b = some (.tup xs) → H' b = some (.tup xs)
  frzs : ∀ b o u, H b = some (.frz o u) → H' b = some (.frz o u)
  kind : ∀ b o, H b = some o → ∃ o', H' b = some o' ∧ kindO o' = kindO o
abbrev Ev0 : Hp → Hp → Prop := Evp fun _ => False
section
variable {S S' M M1 M2 : Ad} {H H1 H2 : Hp} {p b : Addr} {o o' : HO}
theorem ev_p {L : List Addr} (e : Ev L H H1) : Evp (· ∈ L) H H1 := ⟨e.keep, e.tups, e.frzs, e.kind⟩
theorem ev_p0 (e : Ev [] H H1) : Ev0 H H1 := ⟨fun b o h _ => e.keep b o h (by simp), e.tups, e.frzs, e.kind⟩
theorem Evp.refl : Evp S H H := ⟨fun _ _ h _ => h, fun _ _ h => h, fun _ _ _ h => h, fun _ o h => ⟨o, h, rfl⟩⟩
theorem Evp.mono (a : Evp S H H1) (h : ∀ x, S x → S' x) : Evp S' H H1 := ⟨fun c o e n => a.keep c o e fun m => n (h c m), a.tups, a.frzs, a.kind⟩
theorem Evp.of0 (a : Ev0 H H1) : Evp S H H1 := a.mono fun _ h => h.elim
theorem Evp.non (a : Evp S H H1) (h : H1 b = none) : H b = none := by
  cases q : H b with
  | none => rfl
  | some o =>
    obtain ⟨_, e, _⟩ := a.kind b o q
    rw [h] at e; cases e
theorem Evp.live (a : Evp S H H1) (h : H b ≠ none) : H1 b ≠ none := fun q => h (a.non q)
/-- what the second step changes was not there at the beginning, or is of S -/
theorem Evp.trans (a : Evp S H H1) (b : Evp S' H1 H2) (g : ∀ x, S' x → S x ∨ H x = none) : Evp S H H2 :=
  ⟨fun c o h n => b.keep c o (a.keep c o h n) (fun q => by
    rcases g c q with q | q
    · exact n q
    · rw [h] at q; cases q), fun c xs h => b.tups c xs (a.tups c xs h), fun c o u h => b.frzs c o u (a.frzs c o u h), fun c o h => by
    obtain ⟨o1, h1, e1⟩ := a.kind c o h
    obtain ⟨o2, h2, e2⟩ := b.kind c o1 h1
    exact ⟨o2, h2, e2.trans e1⟩⟩
theorem Ev0.trans (a : Ev0 H H1) (b : Ev0 H1 H2) : Ev0 H H2 := Evp.trans a b fun _ h => .inl h
/-- the own objects M at H have become M1 at H1 -/
structure Le (M : Ad) (H : Hp) (M1 : Ad) (H1 : Hp) : Prop where
  ev : Evp M H H1
  grow : ∀ a, M1 a → M a ∨ H a = none
theorem Le.refl : Le M H M H := ⟨.refl, fun _ h => .inl h⟩
theorem Le.of0 (e : Ev0 H H1) (g : ∀ a, M1 a → M a ∨ H a = none) : Le M H M1 H1 := ⟨.of0 e, g⟩
theorem Le.trans (a : Le M H M1 H1) (b : Le M1 H1 M2 H2) : Le M H M2 H2 :=
  ⟨a.ev.trans b.ev a.grow, fun x h => by
    rcases b.grow x h with q | q
    · exact a.grow x q
    · exact .inr (a.ev.non q)⟩
end
/-- a locked list, or one of the written part -/
def Fro (K : PySem.W.Frag) (H : Hp) (a : Addr) (xs : List V) : Prop := (∃ u, H a = some (.frz u (.lst xs))) ∨
  ∃ (o : Obj) (its : Array Value) (n : Nat), K.lookup a = some o ∧ o.cls = .type "list" ∧ o.dict = none ∧ o.data = .seq its n ∧ its.size ≤ sizeLine ∧ Vals xs its.toList
theorem Fro.sqL {K : PySem.W.Frag} {H : Hp} {a : Addr} {xs : List V} (h : Fro K H a xs) : SqL K H a xs := by
  rcases h with ⟨u, h⟩ | h
  · exact .inl (.inr ⟨u, h⟩)
  · exact .inr h
/-! ### what a value stands for -/
mutual
inductive R (g : Gx) (M : Ad) (H : Hp) : V → D → Prop
  | non : R g M H .non .non
  | bl (b : Bool) : R g M H (.bl b) (.bl b)
  | int (i : Int) : R g M H (.int i) (.int i)
  | str (x : Str) : R g M H (.str x) (.str x)
  | tup {a : Addr} {xs : List V} {ds : List D} : SqT g.K H a xs → Rs g M H xs ds → R g M H (.ref a) (.tup ds)
  | ob {a : Addr} {o : HO} {h : Hd} {xs : List V} {ds : List D} : Rd H a o → ((∀ b ks, h ≠ .dct b ks) → H a = some o) → ¬ M a → HOr g.cl g.hid h xs o → Rs g M H xs ds → R g M H (.ref a) (.ob h ds)
  | fro {a : Addr} {xs : List V} {ds : List D} : Fro g.K H a xs → Rs g M H xs ds → R g M H (.ref a) (.fro ds)
inductive Rs (g : Gx) (M : Ad) (H : Hp) : List V → List D → Prop
  | nil : Rs g M H [] []
  | cons {v : V} {vs : List V} {d : D} {ds : List D} : R g M H v d → Rs g M H vs ds → Rs g M H (v :: vs) (d :: ds)
end
mutual
inductive Ow (g : Gx) (M : Ad) (H : Hp) : V → SV → List Addr → Prop
  | fz {v : V} {d : D} : R g M H v d → Ow g M H v (.fz d) []
  | mu {a : Addr} {o : HO} {h : Hd} {xs : List V} {l : List SV} {F : List Addr} : H a = some o → HOf g.cl h xs o → Ows g M H xs l F → Ow g M H (.ref a) (.mu h l) (a :: F)
inductive Ows (g : Gx) (M : Ad) (H : Hp) : List V → List SV → List Addr → Prop
  | nil : Ows g M H [] [] []
  | cons {v : V} {vs : List V} {s : SV} {l : List SV} {F F' : List Addr} : Ow g M H v s F → Ows g M H vs l F' → Ows g M H (v :: vs) (s :: l) (F ++ F')
end
section
variable {g : Gx} {S M M1 : Ad} {H H1 : Hp} {v : V} {vs : List V} {d : D} {ds : List D} {s : SV} {l : List SV} {F F' : List Addr}
theorem rd_le {a : Addr} {o : HO} (e : Le M H M1 H1) (h : Rd H a o) (n : ¬ M a) : Rd H1 a o ∧ ¬ M1 a := by
  have live : H a ≠ none := by
    rcases h with h | ⟨_, h⟩ <;> rw [h] <;> exact fun q => nomatch q
  refine ⟨?_, fun q => ?_⟩
  · rcases h with h | ⟨u, h⟩
    · exact .inl (e.ev.keep _ _ h n)
    · exact .inr ⟨u, e.ev.frzs _ _ _ h⟩
  · rcases e.grow a q with q | q
    · exact n q
    · exact live q
theorem Evp.sqT {K : PySem.W.Frag} {a : Addr} {xs : List V} (e : Evp S H H1) (h : SqT K H a xs) : SqT K H1 a xs := by
  rcases h with (h | ⟨o, h⟩) | h
  · exact .inl (.inl (e.tups _ _ h))
  · exact .inl (.inr ⟨o, e.frzs _ _ _ h⟩)
  · exact .inr h
mutual
theorem R.le (e : Le M H M1 H1) : ∀ (d : D) (v : V), R g M H v d → R g M1 H1 v d
  | .non, _, h => by cases h; exact .non
  | .bl b, _, h => by cases h; exact .bl b
  | .int i, _, h => by cases h; exact .int i
  | .str x, _, h => by cases h; exact .str x
  | .tup ds, _, h => by
    cases h with
    | tup q r => exact .tup (e.ev.sqT q) (Rs.le e ds _ r)
  | .ob hd ds, _, h => by
    cases h with
    | ob q qi n p r => exact .ob (rd_le e q n).1 (fun eh => e.ev.keep _ _ (qi eh) n) (rd_le e q n).2 p (Rs.le e ds _ r)
  | .fro ds, _, h => by
    cases h with
    | fro q r => exact .fro (q.imp (fun ⟨u, q⟩ => ⟨u, e.ev.frzs _ _ _ q⟩) id) (Rs.le e ds _ r)
theorem Rs.le (e : Le M H M1 H1) : ∀ (ds : List D) (vs : List V), Rs g M H vs ds → Rs g M1 H1 vs ds
  | [], _, h => by cases h; exact .nil
  | d :: ds, _, h => by
    cases h with
    | cons p q => exact .cons (R.le e d _ p) (Rs.le e ds _ q)
end
theorem Le.r (e : Le M H M1 H1) (h : R g M H v d) : R g M1 H1 v d := R.le e d v h
theorem Le.rs (e : Le M H M1 H1) (h : Rs g M H vs ds) : Rs g M1 H1 vs ds := Rs.le e ds vs h
theorem Le.sub (h : ∀ a, M1 a → M a) : Le M H M1 H := ⟨.refl, fun a q => .inl (h a q)⟩
theorem R.ev0 (e : Ev0 H H1) (h : R g M H v d) : R g M H1 v d := (Le.of0 e fun _ q => .inl q).r h
theorem Rs.ev0 (e : Ev0 H H1) (h : Rs g M H vs ds) : Rs g M H1 vs ds := (Le.of0 e fun _ q => .inl q).rs h
theorem Rs.length : ∀ {vs : List V} {ds : List D}, Rs g M H vs ds → vs.length = ds.length
  | _, _, .nil => rfl
  | _, _, .cons _ q => congrArg (· + 1) q.length
theorem Rs.get : ∀ {vs : List V} {ds : List D} {i : Nat} {d : D}, Rs g M H vs ds → ds[i]? = some d → ∃ v, vs[i]? = some v ∧ R g M H v d
  | _, _, i, d, .nil, e => by simp at e
  | _, _, 0, d, .cons p q, e => by simp at e; subst e; exact ⟨_, rfl, p⟩
  | _, _, i + 1, d, .cons p q, e => by
    obtain ⟨v, h1, h2⟩ := Rs.get (i := i) q (by simpa using e)
    exact ⟨v, by simpa using h1, h2⟩
theorem Rs.getV : ∀ {vs : List V} {ds : List D} {i : Nat} {v : V}, Rs g M H vs ds → vs[i]? = some v → ∃ d, ds[i]? = some d ∧ R g M H v d
  | _, _, i, d, .nil, e => by simp at e
  | _, _, 0, d, .cons p q, e => by simp at e; subst e; exact ⟨_, rfl, p⟩
  | _, _, i + 1, d, .cons p q, e => by
    obtain ⟨v, h1, h2⟩ := Rs.getV (i := i) q (by simpa using e)
    exact ⟨v, by simpa using h1, h2⟩
theorem Rs.app : ∀ {vs ws : List V} {ds es : List D}, Rs g M H vs ds → Rs g M H ws es → Rs g M H (vs ++ ws) (ds ++ es)
  | _, _, _, _, .nil, q => q
  | _, _, _, _, .cons p r, q => .cons p (r.app q)
mutual
/-- other objects of one's own have changed -/
theorem Ow.keep (e : Evp S H H1) (hS : ∀ a, S a → M a) (gr : ∀ a, M1 a → M a ∨ H a = none) : ∀ (s : SV) (v : V) (F : List Addr), (∀ a ∈ F, ¬ S a) → Ow g M H v s F → Ow g M1 H1 v s F
  | .fz d, _, _, n, h => by
    cases h with
    | fz r => exact .fz (Le.r ⟨e.mono hS, gr⟩ r)
  | .mu hd l, _, _, n, h => by
    cases h with
    | mu h1 h2 h3 => exact .mu (e.keep _ _ h1 (n _ List.mem_cons_self)) h2 (Ows.keep e hS gr l _ _ (fun a m => n a (List.mem_cons_of_mem _ m)) h3)
theorem Ows.keep (e : Evp S H H1) (hS : ∀ a, S a → M a) (gr : ∀ a, M1 a → M a ∨ H a = none) : ∀ (l : List SV) (vs : List V) (F : List Addr), (∀ a ∈ F, ¬ S a) → Ows g M H vs l F → Ows g M1 H1 vs l F
  | [], _, _, n, h => by cases h; exact .nil
  | s :: l, _, _, n, h => by
    cases h with
    | cons p q => exact .cons (Ow.keep e hS gr s _ _ (fun a m => n a (List.mem_append_left _ m)) p) (Ows.keep e hS gr l _ _ (fun a m => n a (List.mem_append_right _ m)) q)
end
theorem Ow.keep' (e : Evp S H H1) (hS : ∀ a, S a → M a) (gr : ∀ a, M1 a → M a ∨ H a = none) (n : ∀ a ∈ F, ¬ S a) (h : Ow g M H v s F) : Ow g M1 H1 v s F := Ow.keep e hS gr s v F n h
theorem Ows.keep' (e : Evp S H H1) (hS : ∀ a, S a → M a) (gr : ∀ a, M1 a → M a ∨ H a = none) (n : ∀ a ∈ F, ¬ S a) (h : Ows g M H vs l F) : Ows g M1 H1 vs l F := Ows.keep e hS gr l vs F n h
theorem Ow.ev0 (e : Ev0 H H1) (h : Ow g M H v s F) : Ow g M H1 v s F := h.keep' e (fun _ q => q.elim) (fun _ q => .inl q) fun _ _ q => q
theorem Ow.sub (sub : ∀ a, M1 a → M a) (h : Ow g M H v s F) : Ow g M1 H v s F := h.keep' (S := fun _ => False) .refl (fun _ q => q.elim) (fun a q => .inl (sub a q)) fun _ _ q => q
mutual
theorem Ow.live : ∀ (s : SV) (v : V) (F : List Addr), Ow g M H v s F → ∀ a ∈ F, H a ≠ none
  | .fz d, _, _, h, a, m => by cases h; simp at m
  | .mu hd l, _, _, h, a, m => by
    cases h with
    | mu h1 h2 h3 =>
      rcases List.mem_cons.mp m with m | m
      · subst m; rw [h1]; exact fun q => nomatch q
      · exact Ows.live l _ _ h3 a m
theorem Ows.live : ∀ (l : List SV) (vs : List V) (F : List Addr), Ows g M H vs l F → ∀ a ∈ F, H a ≠ none
  | [], _, _, h, a, m => by cases h; simp at m
  | s :: l, _, _, h, a, m => by
    cases h with
    | cons p q =>
      rcases List.mem_append.mp m with m | m
      · exact Ow.live s _ _ p a m
      · exact Ows.live l _ _ q a m
end
mutual
/-- nobody changes it any more -/
theorem Ow.freeze (h1 : ∀ a, M1 a → M a) : ∀ (s : SV) (v : V) (F : List Addr), (∀ a ∈ F, ¬ M1 a) → Ow g M H v s F → R g M1 H v s.toD
  | .fz d, _, _, n, h => by
    cases h with
    | fz r => exact (Le.sub h1).r r
  | .mu hd l, _, _, n, h => by
    cases h with
    | mu q1 q2 q3 => exact .ob (.inl q1) (fun _ => q1) (n _ List.mem_cons_self) q2.r (Ows.freeze h1 l _ _ (fun a m => n a (List.mem_cons_of_mem _ m)) q3)
theorem Ows.freeze (h1 : ∀ a, M1 a → M a) : ∀ (l : List SV) (vs : List V) (F : List Addr), (∀ a ∈ F, ¬ M1 a) → Ows g M H vs l F → Rs g M1 H vs (toDs l)
  | [], _, _, n, h => by cases h; exact .nil
  | s :: l, _, _, n, h => by
    cases h with
    | cons p q => exact .cons (Ow.freeze h1 s _ _ (fun a m => n a (List.mem_append_left _ m)) p) (Ows.freeze h1 l _ _ (fun a m => n a (List.mem_append_right _ m)) q)
end
theorem Rs.ws : ∀ {vs : List V} {ds : List D}, Rs g M H vs ds → Ows g M H vs (ds.map SV.fz) []
  | _, _, .nil => .nil
  | _, _, .cons p q => by
    have := Ows.cons (.fz p) q.ws
    exact this
theorem Ows.rs : ∀ {vs : List V} {ds : List D} {F : List Addr}, Ows g M H vs (ds.map SV.fz) F → Rs g M H vs ds ∧ F = []
  | _, [], _, h => by cases h; exact ⟨.nil, rfl⟩
  | _, d :: ds, _, h => by
    cases h with
    | cons p q =>
      cases p with
      | fz r =>
        obtain ⟨a, b⟩ := q.rs
        exact ⟨.cons r a, by rw [b]; rfl⟩
theorem Ows.length : ∀ {vs : List V} {l : List SV} {F : List Addr}, Ows g M H vs l F → vs.length = l.length
  | _, _, _, .nil => rfl
  | _, _, _, .cons _ q => congrArg (· + 1) q.length
end
theorem ow_fz {g : Gx} {M : Ad} {H : Hp} {v : V} {d : D} {F : List Addr} (h : Ow g M H v (.fz d) F) : R g M H v d ∧ F = [] := by
  cases h with
  | fz r => exact ⟨r, rfl⟩
/-- v stands for d; its own object may be one of M, its items are not -/
inductive RT (g : Gx) (M : Ad) (H : Hp) : V → D → Prop
  | of {v : V} {d : D} : R g M H v d → RT g M H v d
  | ob {a : Addr} {o : HO} {h : Hd} {xs : List V} {ds : List D} : H a = some o → HOr g.cl g.hid h xs o → Rs g M H xs ds → RT g M H (.ref a) (.ob h ds)
theorem Ow.rt {g : Gx} {M : Ad} {H : Hp} {v : V} {s : SV} {F : List Addr} {d : D} (h : Ow g M H v s F) (e : s.view = some d) : RT g M H v d := by
  cases h with
  | fz r => cases e; exact .of r
  | mu h1 h2 h3 =>
    simp only [SV.view, Option.map_eq_some_iff] at e
    obtain ⟨ds, e, rfl⟩ := e
    rw [allFz_eq e] at h3
    exact .ob h1 h2.r h3.rs.1
end VS

/-! ## S2: slots by what they stand for; what a computation promises -/
namespace VS
open PySem PySem.Spec PyProof.Rows L2
abbrev Tau := List (Option SV)
inductive Res (α : Type) where
  | ok (a : α)
  | ex (c : Nat) (fs : List Str) (l : List D)
abbrev CM (α : Type) := Tau → Option (Res α × Tau)
def ret {α : Type} (a : Option α) : CM α := fun τ => a.map fun x => (.ok x, τ)
def bnd {α β : Type} (m : CM α) (k : α → CM β) : CM β := fun τ =>
  match m τ with
  | some (.ok x, τ1) => k x τ1
  | some (.ex c fs l, τ1) => some (.ex c fs l, τ1)
  | none => none
theorem ret_some {α : Type} {a : Option α} {τ τ' : Tau} {r : Res α} (h : ret a τ = some (r, τ')) : ∃ x, a = some x ∧ r = .ok x ∧ τ' = τ := by
  simp only [ret, Option.map_eq_some_iff] at h
  obtain ⟨x, e, h⟩ := h
  cases h
  exact ⟨x, e, rfl, rfl⟩
theorem bnd_some {α β : Type} {m : CM α} {k : α → CM β} {τ τ' : Tau} {r : Res β} (h : bnd m k τ = some (r, τ')) :
    (∃ x τ1, m τ = some (.ok x, τ1) ∧ k x τ1 = some (r, τ')) ∨ ∃ c fs l, m τ = some (.ex c fs l, τ') ∧ r = .ex c fs l := by
  unfold bnd at h
  split at h
  · rename_i x τ1 e
    exact .inl ⟨x, τ1, e, h⟩
  · rename_i c fs l τ1 e
    cases h
    exact .inr ⟨c, fs, l, e, rfl⟩
  · cases h
def Mof (M0 : Ad) (φ : Nat → List Addr) : Ad := fun a => M0 a ∨ ∃ i, a ∈ φ i
def plus (M : Ad) (F : List Addr) : Ad := fun a => M a ∨ a ∈ F
def ran (φ : Nat → List Addr) : Ad := fun a => ∃ i, a ∈ φ i
theorem le_mof {M0 : Ad} {φ φ1 : Nat → List Addr} {H H1 : Hp} (l : Le (ran φ) H (ran φ1) H1) : Le (Mof M0 φ) H (Mof M0 φ1) H1 :=
  ⟨l.ev.mono fun _ q => .inr q, fun a q => by
    rcases q with q | q
    · exact .inl (.inl q)
    · exact (l.grow a q).imp .inr id⟩
structure Sim (g : Gx) (M0 : Ad) (φ : Nat → List Addr) (τ : Tau) (σ : L2.St) (H : Hp) : Prop where
  len : σ.length = τ.length
  at_ : ∀ i s, τ[i]? = some (some s) → ∃ v, σ[i]? = some (some v) ∧ Ow g (Mof M0 φ) H v s (φ i)
  nd : ∀ i, (φ i).Nodup
  dj : ∀ i j a, a ∈ φ i → a ∈ φ j → i = j
  d0 : ∀ i a, a ∈ φ i → ¬ M0 a
  al : ∀ a, Mof M0 φ a → H a ≠ none
section
variable {g : Gx} {M M0 M1 : Ad} {φ φ1 : Nat → List Addr} {τ τ1 τ2 : Tau} {σ σ1 : L2.St} {H H1 H2 : Hp} {v : V} {s : SV} {d : D} {F : List Addr}
theorem mof_plus {a : Addr} : Mof (plus M0 F) φ a ↔ Mof M0 φ a ∨ a ∈ F := by
  unfold Mof plus
  constructor
  · rintro ((h | h) | h)
    · exact .inl (.inl h)
    · exact .inr h
    · exact .inl (.inr h)
  · rintro ((h | h) | h)
    · exact .inl (.inl h)
    · exact .inr h
    · exact .inl (.inr h)
theorem plus_nil : plus M [] = M := by
  funext a
  simp [plus]
theorem Sim.ev0 (h : Sim g M0 φ τ σ H) (e : Ev0 H H1) : Sim g M0 φ τ σ H1 :=
  ⟨h.len, fun i s q => by
    obtain ⟨v, a, b⟩ := h.at_ i s q
    exact ⟨v, a, b.ev0 e⟩, h.nd, h.dj, h.d0, fun a q => e.live (h.al a q)⟩
theorem Sim.less (h : Sim g M1 φ τ σ H) (sub : ∀ a, M0 a → M1 a) : Sim g M0 φ τ σ H :=
  ⟨h.len, fun i s q => by
    obtain ⟨v, a, b⟩ := h.at_ i s q
    exact ⟨v, a, b.sub fun a q => q.imp (sub a) id⟩, h.nd, h.dj, fun i a q m => h.d0 i a q (sub a m), fun a q => h.al a (q.imp (sub a) id)⟩
theorem Sim.less1 (h : Sim g (plus M0 F) φ τ σ H) : Sim g M0 φ τ σ H := h.less fun _ q => .inl q
theorem Sim.more (h : Sim g M0 φ τ σ H) (e : Ev0 H H1) (n : ∀ a ∈ F, H a = none) (l : ∀ a ∈ F, H1 a ≠ none) : Sim g (plus M0 F) φ τ σ H1 :=
  ⟨h.len, fun i s q => by
    obtain ⟨v, a, b⟩ := h.at_ i s q
    exact ⟨v, a, b.keep' e (fun _ q => q.elim) (fun a q => (mof_plus.mp q).imp id (n a)) fun _ _ q => q⟩, h.nd, h.dj, fun i a q m => by
    rcases m with m | m
    · exact h.d0 i a q m
    · exact h.al a (.inr ⟨i, q⟩) (n a m), fun a q => by
    rcases mof_plus.mp q with q | q
    · exact e.live (h.al a q)
    · exact l a q⟩
def upF (φ : Nat → List Addr) (i : Nat) (F : List Addr) : Nat → List Addr := fun j => if j = i then F else φ j
theorem upF_same {i : Nat} : upF φ i F i = F := if_pos rfl
theorem upF_ne {i j : Nat} (h : j ≠ i) : upF φ i F j = φ j := if_neg h
theorem mof_up {i : Nat} {a : Addr} (h : Mof M0 (upF φ i F) a) : Mof (plus M0 F) φ a := by
  rcases h with h | ⟨j, h⟩
  · exact .inl (.inl h)
  · by_cases e : j = i
    · subst e
      rw [upF_same] at h
      exact .inl (.inr h)
    · rw [upF_ne e] at h
      exact .inr ⟨j, h⟩
theorem Sim.set {i : Nat} (h : Sim g (plus M0 F) φ τ σ H) (w : Ow g (Mof (plus M0 F) φ) H v s F) (nd : F.Nodup) (n0 : ∀ a ∈ F, ¬ M0 a) : Sim g M0 (upF φ i F) (τ.set i (some s)) (σ.set i (some v)) H where
  len := by rw [List.length_set, List.length_set, h.len]
  at_ := fun j s' q => by
    by_cases e : j = i
    · subst e
      rw [List.getElem?_set] at q
      rw [if_pos rfl] at q
      by_cases hl : j < τ.length
      · rw [if_pos hl] at q
        cases q
        refine ⟨v, ?_, ?_⟩
        · rw [List.getElem?_set, if_pos rfl, if_pos (by rw [h.len]; exact hl)]
        · rw [upF_same]
          exact w.sub fun a => mof_up
      · rw [if_neg hl] at q
        cases q
    · rw [List.getElem?_set_ne (Ne.symm e)] at q
      obtain ⟨v', a, b⟩ := h.at_ j s' q
      refine ⟨v', by rw [List.getElem?_set_ne (Ne.symm e)]; exact a, ?_⟩
      rw [upF_ne e]
      exact b.sub fun a => mof_up
  nd := fun j => by
    by_cases e : j = i
    · subst e; rw [upF_same]; exact nd
    · rw [upF_ne e]; exact h.nd j
  dj := fun j k a p q => by
    by_cases e : j = i
    · subst e
      rw [upF_same] at p
      by_cases e2 : k = j
      · exact e2.symm
      · rw [upF_ne e2] at q
        exact absurd (.inr p) (h.d0 k a q)
    · rw [upF_ne e] at p
      by_cases e2 : k = i
      · subst e2
        rw [upF_same] at q
        exact absurd (.inr q) (h.d0 j a p)
      · rw [upF_ne e2] at q
        exact h.dj j k a p q
  d0 := fun j a p m => by
    by_cases e : j = i
    · subst e; rw [upF_same] at p; exact n0 a p m
    · rw [upF_ne e] at p; exact h.d0 j a p (.inl m)
  al := fun a q => h.al a (mof_up q)
theorem Sim.setD {i : Nat} (h : Sim g M0 φ τ σ H) (w : R g (Mof M0 φ) H v d) : Sim g M0 (upF φ i []) (τ.set i (some (.fz d))) (σ.set i (some v)) H := by
  refine Sim.set (F := []) (v := v) ?_ ?_ .nil (fun a m => nomatch m)
  · rw [plus_nil]; exact h
  · rw [plus_nil]; exact .fz w
/-- the slot is given up -/
theorem Sim.drop {i : Nat} {o : Option V} (h : Sim g M0 φ τ σ H) : Sim g M0 φ (τ.set i none) (σ.set i o) H :=
  ⟨by rw [List.length_set, List.length_set, h.len], fun j s q => by
    by_cases e : j = i
    · subst e
      rw [List.getElem?_set, if_pos rfl] at q
      split at q <;> cases q
    · rw [List.getElem?_set_ne (Ne.symm e)] at q
      obtain ⟨v', a, b⟩ := h.at_ j s q
      exact ⟨v', by rw [List.getElem?_set_ne (Ne.symm e)]; exact a, b⟩, h.nd, h.dj, h.d0, h.al⟩
theorem Sim.drop' {i : Nat} (h : Sim g M0 φ τ σ H) : Sim g M0 φ (τ.set i none) σ H :=
  ⟨by rw [List.length_set, h.len], fun j s q => by
    by_cases e : j = i
    · subst e
      rw [List.getElem?_set, if_pos rfl] at q
      split at q <;> cases q
    · rw [List.getElem?_set_ne (Ne.symm e)] at q
      exact h.at_ j s q, h.nd, h.dj, h.d0, h.al⟩
theorem Sim.fz {i : Nat} (h : Sim g M0 φ τ σ H) (e : τ[i]? = some (some (.fz d))) : ∃ v, σ[i]? = some (some v) ∧ R g (Mof M0 φ) H v d := by
  obtain ⟨v, a, b⟩ := h.at_ i _ e
  exact ⟨v, a, (ow_fz b).1⟩
/-- an own object becomes data -/
theorem freeze (h : Sim g (plus M0 F) φ τ σ H) (w : Ow g (Mof (plus M0 F) φ) H v s F) (n0 : ∀ a ∈ F, ¬ M0 a) : Sim g M0 φ τ σ H ∧ R g (Mof M0 φ) H v s.toD := by
  refine ⟨h.less1, w.freeze (fun a q => mof_plus.mpr (.inl q)) s v F fun a m q => ?_⟩
  rcases q with q | ⟨i, q⟩
  · exact n0 a m q
  · exact h.d0 i a q (.inr m)
/-- the slot's own object becomes data -/
theorem Sim.frz {i : Nat} (h : Sim g M0 φ τ σ H) (e : τ[i]? = some (some s)) : ∃ v, σ[i]? = some (some v) ∧ Sim g M0 (upF φ i []) (τ.set i (some (.fz s.toD))) σ H ∧ R g (Mof M0 (upF φ i [])) H v s.toD := by
  obtain ⟨v, a, b⟩ := h.at_ i s e
  have sub : ∀ x, Mof M0 (upF φ i []) x → Mof M0 φ x := fun x q => by
    rcases q with q | ⟨j, q⟩
    · exact .inl q
    · by_cases ee : j = i
      · subst ee; rw [upF_same] at q; cases q
      · rw [upF_ne ee] at q; exact .inr ⟨j, q⟩
  have r : R g (Mof M0 (upF φ i [])) H v s.toD := Ow.freeze sub s v (φ i) (fun x m q => by
    rcases q with q | ⟨j, q⟩
    · exact h.d0 i x m q
    · by_cases ee : j = i
      · subst ee; rw [upF_same] at q; cases q
      · rw [upF_ne ee] at q; exact ee (h.dj j i x q m)) b
  refine ⟨v, a, ⟨by rw [List.length_set, h.len], fun j s' q => ?_, fun j => ?_, fun j k x p q => ?_, fun j x p => ?_, fun x q => h.al x (sub x q)⟩, r⟩
  · by_cases ee : j = i
    · subst ee
      rw [List.getElem?_set, if_pos rfl] at q
      split at q
      · cases q
        rw [upF_same]
        exact ⟨v, a, .fz r⟩
      · cases q
    · rw [List.getElem?_set_ne (Ne.symm ee)] at q
      obtain ⟨v', a', b'⟩ := h.at_ j s' q
      rw [upF_ne ee]
      exact ⟨v', a', b'.sub sub⟩
  · by_cases ee : j = i
    · subst ee; rw [upF_same]; exact .nil
    · rw [upF_ne ee]; exact h.nd j
  · by_cases ee : j = i
    · subst ee; rw [upF_same] at p; cases p
    · rw [upF_ne ee] at p
      by_cases e2 : k = i
      · subst e2; rw [upF_same] at q; cases q
      · rw [upF_ne e2] at q; exact h.dj j k x p q
  · by_cases ee : j = i
    · subst ee; rw [upF_same] at p; cases p
    · rw [upF_ne ee] at p; exact h.d0 j x p
theorem sub_up {i : Nat} {x : Addr} (q : Mof M0 (upF φ i []) x) : Mof M0 φ x := by
  rcases q with q | ⟨j, q⟩
  · exact .inl q
  · by_cases ee : j = i
    · subst ee; rw [upF_same] at q; cases q
    · rw [upF_ne ee] at q; exact .inr ⟨j, q⟩
end
/-! ### what is promised -/
def XRel (g : Gx) (M : Ad) (H : Hp) (d : Option Addr) (fs : List Str) (l : List D) : Prop :=
  (fs = [] ∧ l = [] ∧ d = none) ∨ ∃ p fsr xs, d = some p ∧ (H p = some (.xd fsr) ∧ fs ≠ []) ∧ ¬ M p ∧ fs.length = xs.length ∧ (∀ (i : Nat) f x, fs[i]? = some f → xs[i]? = some x → fsr.lookup f = some x) ∧ Rs g M H xs l
def EOk (g : Gx) (M0 : Ad) (φ : Nat → List Addr) (H : Hp) (σ : L2.St) (s : SV) (τ' : Tau) (v : V) (H' : Hp) : Prop :=
  ∃ F φ', Sim g (plus M0 F) φ' τ' σ H' ∧ Ow g (Mof (plus M0 F) φ') H' v s F ∧ F.Nodup ∧ (∀ a ∈ F, ¬ M0 a) ∧ Le (ran φ) H (plus (ran φ') F) H'
def DOk (g : Gx) (M0 : Ad) (φ : Nat → List Addr) (H : Hp) (σ : L2.St) (d : D) (τ' : Tau) (v : V) (H' : Hp) : Prop :=
  ∃ φ', Sim g M0 φ' τ' σ H' ∧ R g (Mof M0 φ') H' v d ∧ Le (ran φ) H (ran φ') H'
def AOk (g : Gx) (M0 : Ad) (φ : Nat → List Addr) (H : Hp) (σ : L2.St) (ds : List D) (τ' : Tau) (vs : List V) (H' : Hp) : Prop :=
  ∃ φ', Sim g M0 φ' τ' σ H' ∧ Rs g (Mof M0 φ') H' vs ds ∧ Le (ran φ) H (ran φ') H'
def TOk (g : Gx) (M0 : Ad) (φ : Nat → List Addr) (H : Hp) (σ : L2.St) (τ' : Tau) (H' : Hp) : Prop :=
  ∃ φ', Sim g M0 φ' τ' σ H' ∧ Le (ran φ) H (ran φ') H'
def XOk (g : Gx) (M0 : Ad) (φ : Nat → List Addr) (H : Hp) (σ : L2.St) (fs : List Str) (l : List D) (τ' : Tau) (d : Option Addr) (H' : Hp) : Prop :=
  ∃ φ', Sim g M0 φ' τ' σ H' ∧ XRel g (Mof M0 φ') H' d fs l ∧ Le (ran φ) H (ran φ') H'
section
variable {g : Gx} {M M0 M1 : Ad} {φ φ1 : Nat → List Addr} {τ τ1 τ2 τ' : Tau} {σ σ1 : L2.St} {H H1 H2 H' : Hp} {v : V} {vs : List V} {s : SV} {d : D} {ds l : List D} {F : List Addr} {fs : List Str} {o : Option Addr}
theorem XRel.le (e : Le M H M1 H1) (h : XRel g M H o fs l) (k : ∀ p fsr, o = some p → H p = some (.xd fsr) → ¬ M p → H1 p = some (.xd fsr)) : XRel g M1 H1 o fs l := by
  rcases h with h | ⟨p, fsr, xs, rfl, ⟨hp, ne⟩, n, hl, q, r⟩
  · exact .inl h
  · refine .inr ⟨p, fsr, xs, rfl, ⟨k p fsr rfl hp n, ne⟩, fun m => ?_, hl, q, e.rs r⟩
    rcases e.grow p m with m | m
    · exact n m
    · rw [hp] at m; cases m
theorem XRel.le' (e : Le M H M1 H1) (h : XRel g M H o fs l) : XRel g M1 H1 o fs l := h.le e fun p fsr _ hp n => e.ev.keep _ _ hp n
theorem EOk.after (e : Le (ran φ) H (ran φ1) H1) (h : EOk g M0 φ1 H1 σ s τ' v H') : EOk g M0 φ H σ s τ' v H' := by
  obtain ⟨F, φ', a, b, c, n, l⟩ := h
  exact ⟨F, φ', a, b, c, n, e.trans l⟩
theorem DOk.after (e : Le (ran φ) H (ran φ1) H1) (h : DOk g M0 φ1 H1 σ d τ' v H') : DOk g M0 φ H σ d τ' v H' := by
  obtain ⟨φ', a, b, l⟩ := h
  exact ⟨φ', a, b, e.trans l⟩
theorem AOk.after (e : Le (ran φ) H (ran φ1) H1) (h : AOk g M0 φ1 H1 σ ds τ' vs H') : AOk g M0 φ H σ ds τ' vs H' := by
  obtain ⟨φ', a, b, l⟩ := h
  exact ⟨φ', a, b, e.trans l⟩
theorem TOk.after (e : Le (ran φ) H (ran φ1) H1) (h : TOk g M0 φ1 H1 σ τ' H') : TOk g M0 φ H σ τ' H' := by
  obtain ⟨φ', a, l⟩ := h
  exact ⟨φ', a, e.trans l⟩
theorem XOk.after (e : Le (ran φ) H (ran φ1) H1) (h : XOk g M0 φ1 H1 σ fs l τ' o H') : XOk g M0 φ H σ fs l τ' o H' := by
  obtain ⟨φ', a, b, l⟩ := h
  exact ⟨φ', a, b, e.trans l⟩
theorem EOk.frz (h : EOk g M0 φ H σ s τ' v H') : DOk g M0 φ H σ s.toD τ' v H' := by
  obtain ⟨F, φ', a, b, c, n, l⟩ := h
  obtain ⟨q, r⟩ := freeze a b n
  exact ⟨φ', q, r, l.ev, fun x m => l.grow x (.inl m)⟩
theorem DOk.up (h : DOk g M0 φ H σ d τ' v H') : EOk g M0 φ H σ (.fz d) τ' v H' := by
  obtain ⟨φ', a, b, l⟩ := h
  refine ⟨[], φ', ?_, ?_, .nil, fun a m => (nomatch m), ?_⟩
  · rw [plus_nil]; exact a
  · rw [plus_nil]; exact .fz b
  · rw [plus_nil]; exact l
theorem DOk.here (hs : Sim g M0 φ τ σ H) (r : R g (Mof M0 φ) H v d) : DOk g M0 φ H σ d τ v H := ⟨φ, hs, r, .refl⟩
end
/-- a value made of nothing that may change -/
def POk (g : Gx) (M : Ad) (H : Hp) (s : SV) (v : V) (H' : Hp) : Prop := ∃ F, Ev0 H H' ∧ Ow g (plus M F) H' v s F ∧ F.Nodup ∧ ∀ a ∈ F, H a = none
section
variable {g : Gx} {M M0 M1 : Ad} {φ φ1 : Nat → List Addr} {τ τ1 τ2 τ' : Tau} {σ σ1 : L2.St} {H H1 H2 H' : Hp} {v : V} {vs xs : List V} {s : SV} {d : D} {ds : List D} {F : List Addr} {p : Addr}
theorem POk.fz (e : Ev0 H H') (r : R g M H' v d) : POk g M H (.fz d) v H' := ⟨[], e, by rw [plus_nil]; exact .fz r, .nil, fun a m => nomatch m⟩
theorem POk.here (r : R g M H v d) : POk g M H (.fz d) v H := .fz .refl r
theorem new0 {o : HO} (n : H p = none) : Ev0 H (upd H p o) := ev_p0 (Ev.new n)
theorem POk.new {h : Hd} {o : HO} {l : List SV} {F : List Addr} (n : H p = none) (q : HOf g.cl h xs o) (w : Ows g (plus M F) H xs l F) (nd : F.Nodup) (nF : ∀ a ∈ F, H a = none) (lF : F = []) : POk g M H (.mu h l) (.ref p) (upd H p o) := by
  subst lF
  refine ⟨[p], new0 n, ?_, List.nodup_cons.mpr ⟨List.not_mem_nil, .nil⟩, fun a m => by simp at m; subst m; exact n⟩
  refine .mu upd_same q ?_
  refine w.keep' (new0 n) (fun _ q => q.elim) (fun a m => ?_) fun _ _ q => q
  rcases m with m | m
  · exact .inl (.inl m)
  · simp at m; subst m; exact .inr n
theorem POk.ob {h : Hd} {o : HO} (n : H p = none) (q : HOf g.cl h xs o) (w : Rs g M H xs ds) : POk g M H (.mu h (ds.map .fz)) (.ref p) (upd H p o) :=
  .new n q (by rw [plus_nil]; exact w.ws) .nil (fun a m => nomatch m) rfl
theorem POk.lst (n : H p = none) (w : Rs g M H xs ds) : POk g M H (.mu .lst (ds.map .fz)) (.ref p) (upd H p (.lst xs)) := .ob n rfl w
theorem POk.tup (n : H p = none) (w : Rs g M H xs ds) : POk g M H (.fz (.tup ds)) (.ref p) (upd H p (.tup xs)) :=
  .fz (new0 n) (.tup (SqT.of upd_same) (w.ev0 (new0 n)))
theorem EOk.of (hs : Sim g M0 φ τ σ H) (p : POk g (Mof M0 φ) H s v H') : EOk g M0 φ H σ s τ v H' := by
  obtain ⟨F, e, w, nd, n⟩ := p
  have live : ∀ a ∈ F, H' a ≠ none := Ow.live _ _ _ w
  refine ⟨F, φ, hs.more e n live, w.sub fun a q => ?_, nd, fun a m q => hs.al a (.inl q) (n a m), .of0 e fun a q => ?_⟩
  · exact (mof_plus.mp q).imp id id
  · exact q.imp id (n a)
end
/-! ### readings -/
def rdE (g : Gx) (m : CM SV) : TE := fun σ H Q => ∃ M0 φ τ r τ', Sim g M0 φ τ σ H ∧ m τ = some (r, τ') ∧
  match r with
  | .ok s => ∀ v H', EOk g M0 φ H σ s τ' v H' → Q v H'
  | .ex c fs l => ∀ d H', XOk g M0 φ H σ fs l τ' d H' → g.ex σ (.ref (g.cl c)) d H'
def rdD (g : Gx) (m : CM D) : TE := fun σ H Q => ∃ M0 φ τ r τ', Sim g M0 φ τ σ H ∧ m τ = some (r, τ') ∧
  match r with
  | .ok s => ∀ v H', DOk g M0 φ H σ s τ' v H' → Q v H'
  | .ex c fs l => ∀ d H', XOk g M0 φ H σ fs l τ' d H' → g.ex σ (.ref (g.cl c)) d H'
def rdA (g : Gx) (m : CM (List D)) : TA := fun σ H Q => ∃ M0 φ τ r τ', Sim g M0 φ τ σ H ∧ m τ = some (r, τ') ∧
  match r with
  | .ok s => ∀ v H', AOk g M0 φ H σ s τ' v H' → Q v H'
  | .ex c fs l => ∀ d H', XOk g M0 φ H σ fs l τ' d H' → g.ex σ (.ref (g.cl c)) d H'
def rdT (g : Gx) (m : CM Bool) : TT := fun σ H Q => ∃ M0 φ τ r τ', Sim g M0 φ τ σ H ∧ m τ = some (r, τ') ∧
  match r with
  | .ok b => ∀ H', TOk g M0 φ H σ τ' H' → Q b H'
  | .ex c fs l => ∀ d H', XOk g M0 φ H σ fs l τ' d H' → g.ex σ (.ref (g.cl c)) d H'
/-- a place: nothing changes, the value is lent -/
def rdB (g : Gx) (m : Tau → Option SV) : TE := fun σ H Q => ∃ M0 φ τ s, Sim g M0 φ τ σ H ∧ m τ = some s ∧ ∀ v H', Ev0 H H' → (∃ F, Ow g (Mof M0 φ) H' v s F) → Q v H'
inductive Fl where
  | nx | bk | ct
  | rt (s : SV)
  | ex (c : Nat) (fs : List Str) (l : List D)
abbrev SC := Tau → Option (Fl × Tau)
def SOk (g : Gx) (M0 : Ad) (φ : Nat → List Addr) (H : Hp) (σ : L2.St) (τ' : Tau) (σ' : L2.St) (H' : Hp) : Prop :=
  (∃ φ', Sim g M0 φ' τ' σ' H' ∧ Le (ran φ) H (ran φ') H') ∧ ∀ i ∈ g.pin, σ'[i]? = σ[i]?
def ROk (g : Gx) (M0 : Ad) (φ : Nat → List Addr) (H : Hp) (σ : L2.St) (s : SV) (τ' : Tau) (σ' : L2.St) (v : V) (H' : Hp) : Prop :=
  EOk g M0 φ H σ' s τ' v H' ∧ ∀ i ∈ g.pin, σ'[i]? = σ[i]?
def YOk (g : Gx) (M0 : Ad) (φ : Nat → List Addr) (H : Hp) (σ : L2.St) (fs : List Str) (l : List D) (τ' : Tau) (σ' : L2.St) (d : Option Addr) (H' : Hp) : Prop :=
  XOk g M0 φ H σ' fs l τ' d H' ∧ ∀ i ∈ g.pin, σ'[i]? = σ[i]?
def rdS (g : Gx) (m : SC) : TS := fun E σ H => ∃ M0 φ τ fl τ', Sim g M0 φ τ σ H ∧ m τ = some (fl, τ') ∧
  match fl with
  | .nx => ∀ σ' H', SOk g M0 φ H σ τ' σ' H' → E.nx σ' H'
  | .bk => ∀ σ' H', SOk g M0 φ H σ τ' σ' H' → E.bk σ' H'
  | .ct => ∀ σ' H', SOk g M0 φ H σ τ' σ' H' → E.ct σ' H'
  | .rt s => ∀ σ' v H', ROk g M0 φ H σ s τ' σ' v H' → E.rt v H'
  | .ex c fs l => ∀ σ' d H', YOk g M0 φ H σ fs l τ' σ' d H' → g.ex σ' (.ref (g.cl c)) d H'
theorem pe_le {X : Cx} {e : Expr} {t t' : TE} (h : PE X e t) (k : ∀ σ H Q, t' σ H Q → t σ H Q) : PE X e t' := ⟨fun pins s σ H Q I w => h.run pins s σ H Q I (k _ _ _ w)⟩
theorem pt_le {X : Cx} {e : Expr} {t t' : TT} (h : PT X e t) (k : ∀ σ H Q, t' σ H Q → t σ H Q) : PT X e t' := ⟨fun pins s σ H Q I w => h.run pins s σ H Q I (k _ _ _ w)⟩
theorem pw_le {X : Cx} {e : Expr} {t t' : TT} (h : PW X e t) (k : ∀ σ H Q, t' σ H Q → t σ H Q) : PW X e t' := ⟨fun wh pins s σ H Q I w => h.run wh pins s σ H Q I (k _ _ _ w)⟩
theorem pa_le {X : Cx} {e : List Expr} {t t' : TA} (h : PA X e t) (k : ∀ σ H Q, t' σ H Q → t σ H Q) : PA X e t' := ⟨fun pos pins s σ H Q I w => h.run pos pins s σ H Q I (k _ _ _ w)⟩
theorem ps_le {X : Cx} {e : Stmt} {t t' : TS} (h : PS X e t) (k : ∀ E σ H, t' E σ H → t E σ H) : PS X e t' := ⟨fun pins s σ H E I w => h.run pins s σ H E I (k _ _ _ w)⟩
theorem pss_le {X : Cx} {e : List Stmt} {t t' : TS} (h : PSs X e t) (k : ∀ E σ H, t' E σ H → t E σ H) : PSs X e t' := ⟨fun pins s σ H E I w => h.run pins s σ H E I (k _ _ _ w)⟩
theorem pi_le {X : Cx} {tg e : Expr} {t t' : TI} (h : PI X tg e t) (k : ∀ σ H Q, t' σ H Q → t σ H Q) : PI X tg e t' := ⟨fun pins s σ H Q I w => h.run pins s σ H Q I (k _ _ _ w)⟩
end VS

/-! ## S3: expressions -/
namespace VS
open PySem PySem.Spec PyProof.Rows L2
section
variable {X : Cx} {g : Gx} {e : Expr} {M M0 : Ad} {φ : Nat → List Addr} {τ τ' : Tau} {σ : L2.St} {H H' : Hp} {v : V} {d : D} {s : SV} {i : Nat}
/-! ### leaves -/
def mC (d : D) : CM D := ret (some d)
theorem s_cst (h : PE X e (tC v)) (r : ∀ M H, R g M H v d) : PE X e (rdD g (mC d)) := pe_le h fun σ H Q q => by
  obtain ⟨M0, φ, τ, q, τ', hs, hm, k⟩ := q
  obtain ⟨x, ex, rfl, rfl⟩ := ret_some hm
  cases ex
  exact k v H (.here hs (r _ _))
def mVar (i : Nat) : CM D := fun τ => match τ[i]? with
  | some (some (.fz d)) => some (.ok d, τ)
  | some (some (.mu h l)) => some (.ok (SV.toD (.mu h l)), τ.set i (some (.fz (SV.toD (.mu h l)))))
  | _ => none
theorem Le.up {i : Nat} : Le (ran φ) H (ran (upF φ i [])) H := ⟨.refl, fun a q => by
  obtain ⟨j, q⟩ := q
  by_cases e : j = i
  · subst e; rw [upF_same] at q; cases q
  · rw [upF_ne e] at q; exact .inl ⟨j, q⟩⟩
theorem s_var (h : PE X e (tVar i)) : PE X e (rdD g (mVar i)) := pe_le h fun σ H Q q => by
  obtain ⟨M0, φ, τ, r, τ', hs, hm, k⟩ := q
  unfold mVar at hm
  split at hm
  · rename_i d he
    cases hm
    obtain ⟨v, hv, r⟩ := hs.fz he
    exact ⟨v, hv, k v H (.here hs r)⟩
  · rename_i hd l he
    cases hm
    obtain ⟨v, hv, hs2, r⟩ := hs.frz he
    exact ⟨v, hv, k v H ⟨_, hs2, r, .up⟩⟩
  · cases hm
def mMove (i : Nat) : CM SV := fun τ => match τ[i]? with
  | some (some (.fz d)) => some (.ok (.fz d), τ)
  | some (some (.mu h l)) => some (.ok (.mu h l), τ.set i none)
  | _ => none
theorem s_move (h : PE X e (tVar i)) : PE X e (rdE g (mMove i)) := pe_le h fun σ H Q q => by
  obtain ⟨M0, φ, τ, r, τ', hs, hm, k⟩ := q
  unfold mMove at hm
  split at hm
  · rename_i d he
    cases hm
    obtain ⟨v, hv, r⟩ := hs.fz he
    exact ⟨v, hv, k v H (DOk.up (.here hs r))⟩
  · rename_i hd l he
    cases hm
    obtain ⟨v, hv, w⟩ := hs.at_ _ _ he
    have sub : ∀ a, Mof (plus M0 (φ i)) (upF φ i []) a → Mof M0 φ a := fun a q => by
      rcases mof_plus.mp q with q | q
      · exact sub_up q
      · exact .inr ⟨i, q⟩
    refine ⟨v, hv, k v H ⟨φ i, upF φ i [], ⟨by rw [List.length_set]; exact hs.len, fun j s' q => ?_, fun j => ?_, fun j k a p q => ?_, fun j a p m => ?_, fun a q => hs.al a (sub a q)⟩, w.sub sub, hs.nd i, fun a m => hs.d0 i a m, .refl, fun a q => ?_⟩⟩
    · by_cases ee : j = i
      · subst ee
        rw [List.getElem?_set, if_pos rfl] at q
        split at q <;> cases q
      · rw [List.getElem?_set_ne (Ne.symm ee)] at q
        obtain ⟨v', a', b'⟩ := hs.at_ j s' q
        rw [upF_ne ee]
        exact ⟨v', a', b'.sub sub⟩
    · by_cases ee : j = i
      · subst ee; rw [upF_same]; exact .nil
      · rw [upF_ne ee]; exact hs.nd j
    · by_cases ee : j = i
      · subst ee; rw [upF_same] at p; cases p
      · rw [upF_ne ee] at p
        by_cases e2 : k = i
        · subst e2; rw [upF_same] at q; cases q
        · rw [upF_ne e2] at q; exact hs.dj j k a p q
    · by_cases ee : j = i
      · subst ee; rw [upF_same] at p; cases p
      · rw [upF_ne ee] at p
        rcases m with m | m
        · exact hs.d0 j a p m
        · exact ee (hs.dj j i a p m)
    · rcases q with ⟨j, q⟩ | q
      · by_cases ee : j = i
        · subst ee; rw [upF_same] at q; cases q
        · rw [upF_ne ee] at q; exact .inl ⟨j, q⟩
      · exact .inl ⟨i, q⟩
  · cases hm
/-! ### from one kind to the other -/
def frz (m : CM SV) : CM D := bnd m fun s => ret (some s.toD)
theorem s_frz {m : CM SV} (h : PE X e (rdE g m)) : PE X e (rdD g (frz m)) := pe_le h fun σ H Q q => by
  obtain ⟨M0, φ, τ, r, τ', hs, hm, k⟩ := q
  rcases bnd_some hm with ⟨x, τ1, e1, e2⟩ | ⟨c, fs, l, e1, rfl⟩
  · obtain ⟨y, ey, rfl, rfl⟩ := ret_some e2
    cases ey
    exact ⟨M0, φ, τ, _, _, hs, e1, fun v H' q => k v H' q.frz⟩
  · exact ⟨M0, φ, τ, _, _, hs, e1, k⟩
def up (m : CM D) : CM SV := bnd m fun d => ret (some (.fz d))
theorem s_up {m : CM D} (h : PE X e (rdD g m)) : PE X e (rdE g (up m)) := pe_le h fun σ H Q q => by
  obtain ⟨M0, φ, τ, r, τ', hs, hm, k⟩ := q
  rcases bnd_some hm with ⟨x, τ1, e1, e2⟩ | ⟨c, fs, l, e1, rfl⟩
  · obtain ⟨y, ey, rfl, rfl⟩ := ret_some e2
    cases ey
    exact ⟨M0, φ, τ, _, _, hs, e1, fun v H' q => k v H' q.up⟩
  · exact ⟨M0, φ, τ, _, _, hs, e1, k⟩
/-! ### places: nothing changes -/
abbrev PB := Tau → Option SV
def bVar (i : Nat) : PB := fun τ => (τ[i]?).bind id
theorem p_var (h : PE X e (tVar i)) : PE X e (rdB g (bVar i)) := pe_le h fun σ H Q q => by
  obtain ⟨M0, φ, τ, s, hs, hm, k⟩ := q
  have he : τ[i]? = some (some s) := by
    unfold bVar at hm
    cases q : τ[i]? with
    | none => rw [q] at hm; cases hm
    | some o => rw [q] at hm; cases o with
      | none => cases hm
      | some s' => cases hm; rfl
  obtain ⟨v, hv, w⟩ := hs.at_ _ _ he
  exact ⟨v, hv, k v H .refl ⟨_, w⟩⟩
def bC (d : D) : PB := fun _ => some (.fz d)
theorem p_cst (h : PE X e (tC v)) (r : ∀ M H, R g M H v d) : PE X e (rdB g (bC d)) := pe_le h fun σ H Q q => by
  obtain ⟨M0, φ, τ, s, hs, hm, k⟩ := q
  cases hm
  exact k v H .refl ⟨_, .fz (r _ _)⟩
def mB (o : PB) : CM D := fun τ => match o τ with
  | some (.fz d) => some (.ok d, τ)
  | _ => none
theorem s_B {o : PB} (h : PE X e (rdB g o)) : PE X e (rdD g (mB o)) := pe_le h fun σ H Q q => by
  obtain ⟨M0, φ, τ, r, τ', hs, hm, k⟩ := q
  unfold mB at hm
  split at hm
  · rename_i d he
    cases hm
    refine ⟨M0, φ, τ, _, hs, he, fun v H' e0 w => ?_⟩
    obtain ⟨F, w⟩ := w
    exact k v H' ⟨φ, hs.ev0 e0, (ow_fz w).1, .of0 e0 fun _ q => .inl q⟩
  · cases hm
/-! ### operators -/
def Op2 (g : Gx) (f : D → D → Option SV) (r : R2) : Prop := ∀ {M : Ad} {H : Hp} {x y : V} {d e : D} {s : SV} {Q : VK}, RT g M H x d → RT g M H y e → f d e = some s → (∀ v H', POk g M H s v H' → Q v H') → r x y H Q
def Op1 (g : Gx) (f : D → Option SV) (r : V → Hp → VK → Prop) : Prop := ∀ {M : Ad} {H : Hp} {x : V} {d : D} {s : SV} {Q : VK}, RT g M H x d → f d = some s → (∀ v H', POk g M H s v H' → Q v H') → r x H Q
def OpL (g : Gx) (f : List D → Option SV) (r : List V → Hp → VK → Prop) : Prop := ∀ {M : Ad} {H : Hp} {xs : List V} {ds : List D} {s : SV} {Q : VK}, Rs g M H xs ds → f ds = some s → (∀ v H', POk g M H s v H' → Q v H') → r xs H Q
def mOp2 (f : D → D → Option SV) (a b : CM D) : CM SV := bnd a fun x => bnd b fun y => ret (f x y)
def mOp1 (f : D → Option SV) (a : CM D) : CM SV := bnd a fun x => ret (f x)
def mOpL (f : List D → Option SV) (a : CM (List D)) : CM SV := bnd a fun x => ret (f x)
theorem POk.after {M1 : Ad} {H1 : Hp} (l : Le M H M1 H1) (h : POk g M1 H1 s v H') : True := trivial
theorem le_op2 {r : R2} {f : D → D → Option SV} {a b : CM D} (ho : Op2 g f r) (σ : L2.St) (H : Hp) (Q : VK) (q : (rdE g (mOp2 f a b)) σ H Q) : (tOp r (rdD g a) (rdD g b)) σ H Q := by
  obtain ⟨M0, φ, τ, rs, τ', hs, hm, k⟩ := q
  rcases bnd_some hm with ⟨x, τ1, e1, e2⟩ | ⟨c, fs, l, e1, rfl⟩
  · refine ⟨M0, φ, τ, _, _, hs, e1, fun v1 H1 q1 => ?_⟩
    obtain ⟨φ1, hs1, r1, l1⟩ := q1
    rcases bnd_some e2 with ⟨y, τ2, e3, e4⟩ | ⟨c, fs, l, e3, rfl⟩
    · refine ⟨M0, φ1, τ1, _, _, hs1, e3, fun v2 H2 q2 => ?_⟩
      obtain ⟨φ2, hs2, r2, l2⟩ := q2
      obtain ⟨s, es, rfl, rfl⟩ := ret_some e4
      exact ho (.of ((le_mof l2).r r1)) (.of r2) es fun v3 H3 p => k v3 H3 (EOk.after (l1.trans l2) (.of hs2 p))
    · exact ⟨M0, φ1, τ1, _, _, hs1, e3, fun d H' q => k d H' (q.after l1)⟩
  · exact ⟨M0, φ, τ, _, _, hs, e1, k⟩
theorem s_op2 {r : R2} {f : D → D → Option SV} {a b : CM D} (ho : Op2 g f r) (h : PE X e (tOp r (rdD g a) (rdD g b))) : PE X e (rdE g (mOp2 f a b)) := pe_le h (le_op2 ho)
theorem s_op1 {r : V → Hp → VK → Prop} {f : D → Option SV} {a : CM D} (ho : Op1 g f r) (h : PE X e (tUn r (rdD g a))) : PE X e (rdE g (mOp1 f a)) := pe_le h fun σ H Q q => by
  obtain ⟨M0, φ, τ, rs, τ', hs, hm, k⟩ := q
  rcases bnd_some hm with ⟨x, τ1, e1, e2⟩ | ⟨c, fs, l, e1, rfl⟩
  · refine ⟨M0, φ, τ, _, _, hs, e1, fun v1 H1 q1 => ?_⟩
    obtain ⟨φ1, hs1, r1, l1⟩ := q1
    obtain ⟨s, es, rfl, rfl⟩ := ret_some e2
    exact ho (.of r1) es fun v3 H3 p => k v3 H3 (EOk.after l1 (.of hs1 p))
  · exact ⟨M0, φ, τ, _, _, hs, e1, k⟩
theorem s_opL {r : List V → Hp → VK → Prop} {f : List D → Option SV} {a : CM (List D)} (ho : OpL g f r) (h : PE X e (tCB r (rdA g a))) : PE X e (rdE g (mOpL f a)) := pe_le h fun σ H Q q => by
  obtain ⟨M0, φ, τ, rs, τ', hs, hm, k⟩ := q
  rcases bnd_some hm with ⟨x, τ1, e1, e2⟩ | ⟨c, fs, l, e1, rfl⟩
  · refine ⟨M0, φ, τ, _, _, hs, e1, fun v1 H1 q1 => ?_⟩
    obtain ⟨φ1, hs1, r1, l1⟩ := q1
    obtain ⟨s, es, rfl, rfl⟩ := ret_some e2
    exact ho r1 es fun v3 H3 p => k v3 H3 (EOk.after l1 (.of hs1 p))
  · exact ⟨M0, φ, τ, _, _, hs, e1, k⟩
/-! an operator on places -/
def bView (o : PB) : Tau → Option D := fun τ => (o τ).bind SV.view
/-- both operands are places -/
def mOp2B (f : D → D → Option SV) (a b : PB) : CM SV := fun τ => (bView a τ).bind fun x => (bView b τ).bind fun y => (f x y).map fun s => (.ok s, τ)
/-- the second one is a place -/
def mOp2R (f : D → D → Option SV) (a : CM D) (b : PB) : CM SV := bnd a fun x τ => (bView b τ).bind fun y => (f x y).map fun s => (.ok s, τ)
def mOp1B (f : D → Option SV) (a : PB) : CM SV := fun τ => (bView a τ).bind fun x => (f x).map fun s => (.ok s, τ)
/-- a place again -/
def bOp2 (f : D → D → Option SV) (a b : PB) : PB := fun τ => (bView a τ).bind fun x => (bView b τ).bind fun y => f x y
def bOp1 (f : D → Option SV) (a : PB) : PB := fun τ => (bView a τ).bind fun x => f x
theorem bView_some {o : PB} (h : bView o τ = some d) : ∃ s, o τ = some s ∧ s.view = some d := by
  simp only [bView, Option.bind_eq_some_iff] at h
  exact h
theorem Sim.after0 (hs : Sim g M0 φ τ σ H) (e0 : Ev0 H H') : Le (ran φ) H (ran φ) H' := .of0 e0 fun _ q => .inl q
theorem RT.ev0 (h : RT g M H v d) (e : Ev0 H H') : RT g M H' v d := by
  cases h with
  | of r => exact .of (r.ev0 e)
  | ob h1 h2 h3 => exact .ob (e.keep _ _ h1 id) h2 (h3.ev0 e)
theorem le_op2B {r : R2} {f : D → D → Option SV} {a b : PB} (ho : Op2 g f r) (σ : L2.St) (H : Hp) (Q : VK) (q : (rdE g (mOp2B f a b)) σ H Q) : (tOp r (rdB g a) (rdB g b)) σ H Q := by
  obtain ⟨M0, φ, τ, rs, τ', hs, hm, k⟩ := q
  simp only [mOp2B, Option.bind_eq_some_iff, Option.map_eq_some_iff] at hm
  obtain ⟨x, hx, y, hy, s, es, e⟩ := hm
  cases e
  obtain ⟨sx, hx, vx⟩ := bView_some hx
  obtain ⟨sy, hy, vy⟩ := bView_some hy
  refine ⟨M0, φ, τ, _, hs, hx, fun v1 H1 e1 w1 => ?_⟩
  obtain ⟨F1, w1⟩ := w1
  refine ⟨M0, φ, τ, _, hs.ev0 e1, hy, fun v2 H2 e2 w2 => ?_⟩
  obtain ⟨F2, w2⟩ := w2
  exact ho ((w1.ev0 e2).rt vx) (w2.rt vy) es fun v3 H3 p => k v3 H3 (EOk.after (hs.after0 (e1.trans e2)) (.of ((hs.ev0 e1).ev0 e2) p))
theorem s_op2B {r : R2} {f : D → D → Option SV} {a b : PB} (ho : Op2 g f r) (h : PE X e (tOp r (rdB g a) (rdB g b))) : PE X e (rdE g (mOp2B f a b)) := pe_le h (le_op2B ho)
theorem le_op2R {r : R2} {f : D → D → Option SV} {a : CM D} {b : PB} (ho : Op2 g f r) (σ : L2.St) (H : Hp) (Q : VK) (q : (rdE g (mOp2R f a b)) σ H Q) : (tOp r (rdD g a) (rdB g b)) σ H Q := by
  obtain ⟨M0, φ, τ, rs, τ', hs, hm, k⟩ := q
  rcases bnd_some hm with ⟨x, τ1, e1, e2⟩ | ⟨c, fs, l, e1, rfl⟩
  · refine ⟨M0, φ, τ, _, _, hs, e1, fun v1 H1 q1 => ?_⟩
    obtain ⟨φ1, hs1, r1, l1⟩ := q1
    simp only [Option.bind_eq_some_iff, Option.map_eq_some_iff] at e2
    obtain ⟨y, hy, s, es, e⟩ := e2
    cases e
    obtain ⟨sy, hy, vy⟩ := bView_some hy
    refine ⟨M0, φ1, _, _, hs1, hy, fun v2 H2 e2 w2 => ?_⟩
    obtain ⟨F2, w2⟩ := w2
    exact ho (.of (r1.ev0 e2)) (w2.rt vy) es fun v3 H3 p => k v3 H3 (EOk.after (l1.trans (hs1.after0 e2)) (.of (hs1.ev0 e2) p))
  · exact ⟨M0, φ, τ, _, _, hs, e1, k⟩
theorem s_op2R {r : R2} {f : D → D → Option SV} {a : CM D} {b : PB} (ho : Op2 g f r) (h : PE X e (tOp r (rdD g a) (rdB g b))) : PE X e (rdE g (mOp2R f a b)) := pe_le h (le_op2R ho)
theorem s_op1B {r : V → Hp → VK → Prop} {f : D → Option SV} {a : PB} (ho : Op1 g f r) (h : PE X e (tUn r (rdB g a))) : PE X e (rdE g (mOp1B f a)) := pe_le h fun σ H Q q => by
  obtain ⟨M0, φ, τ, rs, τ', hs, hm, k⟩ := q
  simp only [mOp1B, Option.bind_eq_some_iff, Option.map_eq_some_iff] at hm
  obtain ⟨x, hx, s, es, e⟩ := hm
  cases e
  obtain ⟨sx, hx, vx⟩ := bView_some hx
  refine ⟨M0, φ, τ, _, hs, hx, fun v1 H1 e1 w1 => ?_⟩
  obtain ⟨F1, w1⟩ := w1
  exact ho (w1.rt vx) es fun v3 H3 p => k v3 H3 (EOk.after (hs.after0 e1) (.of (hs.ev0 e1) p))
/-- what is new may be lent -/
theorem POk.lent (hs : Sim g M0 φ τ σ H) (h : POk g (Mof M0 φ) H s v H') : Ev0 H H' ∧ ∃ F, Ow g (Mof M0 φ) H' v s F := by
  obtain ⟨F, e, w, _⟩ := h
  exact ⟨e, F, w.sub fun _ q => .inl q⟩
theorem p_op2 {r : R2} {f : D → D → Option SV} {a b : PB} (ho : Op2 g f r) (h : PE X e (tOp r (rdB g a) (rdB g b))) : PE X e (rdB g (bOp2 f a b)) := pe_le h fun σ H Q q => by
  obtain ⟨M0, φ, τ, s, hs, hm, k⟩ := q
  simp only [bOp2, Option.bind_eq_some_iff] at hm
  obtain ⟨x, hx, y, hy, es⟩ := hm
  obtain ⟨sx, hx, vx⟩ := bView_some hx
  obtain ⟨sy, hy, vy⟩ := bView_some hy
  refine ⟨M0, φ, τ, _, hs, hx, fun v1 H1 e1 w1 => ?_⟩
  obtain ⟨F1, w1⟩ := w1
  refine ⟨M0, φ, τ, _, hs.ev0 e1, hy, fun v2 H2 e2 w2 => ?_⟩
  obtain ⟨F2, w2⟩ := w2
  refine ho ((w1.ev0 e2).rt vx) (w2.rt vy) es fun v3 H3 p => ?_
  obtain ⟨e3, w3⟩ := p.lent ((hs.ev0 e1).ev0 e2)
  exact k v3 H3 ((e1.trans e2).trans e3) w3
theorem p_op1 {r : V → Hp → VK → Prop} {f : D → Option SV} {a : PB} (ho : Op1 g f r) (h : PE X e (tUn r (rdB g a))) : PE X e (rdB g (bOp1 f a)) := pe_le h fun σ H Q q => by
  obtain ⟨M0, φ, τ, s, hs, hm, k⟩ := q
  simp only [bOp1, Option.bind_eq_some_iff] at hm
  obtain ⟨x, hx, es⟩ := hm
  obtain ⟨sx, hx, vx⟩ := bView_some hx
  refine ⟨M0, φ, τ, _, hs, hx, fun v1 H1 e1 w1 => ?_⟩
  obtain ⟨F1, w1⟩ := w1
  refine ho (w1.rt vx) es fun v3 H3 p => ?_
  obtain ⟨e3, w3⟩ := p.lent (hs.ev0 e1)
  exact k v3 H3 (e1.trans e3) w3
/-! ### arguments -/
def aNil : CM (List D) := ret (some [])
def aCons (a : CM D) (r : CM (List D)) : CM (List D) := bnd a fun x => bnd r fun xs => ret (some (x :: xs))
theorem s_anil {es : List Expr} (h : PA X es tNil) : PA X es (rdA g aNil) := pa_le h fun σ H Q q => by
  obtain ⟨M0, φ, τ, r, τ', hs, hm, k⟩ := q
  obtain ⟨x, ex, rfl, rfl⟩ := ret_some hm
  cases ex
  exact k [] H ⟨φ, hs, .nil, .refl⟩
theorem s_acons {es : List Expr} {a : CM D} {r : CM (List D)} (h : PA X es (tCons (rdD g a) (rdA g r))) : PA X es (rdA g (aCons a r)) := pa_le h fun σ H Q q => by
  obtain ⟨M0, φ, τ, rs, τ', hs, hm, k⟩ := q
  rcases bnd_some hm with ⟨x, τ1, e1, e2⟩ | ⟨c, fs, l, e1, rfl⟩
  · refine ⟨M0, φ, τ, _, _, hs, e1, fun v1 H1 q1 => ?_⟩
    obtain ⟨φ1, hs1, r1, l1⟩ := q1
    rcases bnd_some e2 with ⟨y, τ2, e3, e4⟩ | ⟨c, fs, l, e3, rfl⟩
    · refine ⟨M0, φ1, τ1, _, _, hs1, e3, fun v2 H2 q2 => ?_⟩
      obtain ⟨φ2, hs2, r2, l2⟩ := q2
      obtain ⟨s, es, rfl, rfl⟩ := ret_some e4
      cases es
      exact k _ H2 ⟨φ2, hs2, .cons ((le_mof l2).r r1) r2, l1.trans l2⟩
    · exact ⟨M0, φ1, τ1, _, _, hs1, e3, fun d H' q => k d H' (q.after l1)⟩
  · exact ⟨M0, φ, τ, _, _, hs, e1, k⟩
/-! ### displays -/
def mTup (a : CM (List D)) : CM D := bnd a fun l => ret (if l.length ≤ sizeLine then some (.tup l) else none)
def mLst (a : CM (List D)) : CM SV := bnd a fun l => ret (if l.length ≤ sizeLine then some (.mu .lst (l.map .fz)) else none)
theorem s_tup {a : CM (List D)} (h : PE X e (tTup (rdA g a))) : PE X e (rdD g (mTup a)) := pe_le h fun σ H Q q => by
  obtain ⟨M0, φ, τ, rs, τ', hs, hm, k⟩ := q
  rcases bnd_some hm with ⟨x, τ1, e1, e2⟩ | ⟨c, fs, l, e1, rfl⟩
  · refine ⟨M0, φ, τ, _, _, hs, e1, fun v1 H1 q1 => ?_⟩
    obtain ⟨φ1, hs1, r1, l1⟩ := q1
    obtain ⟨s, es, rfl, rfl⟩ := ret_some e2
    split at es
    · rename_i hl
      cases es
      refine ⟨by rw [r1.length]; exact hl, fun p hp => k _ _ ⟨φ1, hs1.ev0 (new0 hp), .tup (SqT.of upd_same) (r1.ev0 (new0 hp)), l1.trans (hs1.after0 (new0 hp))⟩⟩
    · cases es
  · exact ⟨M0, φ, τ, _, _, hs, e1, k⟩
theorem s_lst {a : CM (List D)} (h : PE X e (tLst (rdA g a))) : PE X e (rdE g (mLst a)) := pe_le h fun σ H Q q => by
  obtain ⟨M0, φ, τ, rs, τ', hs, hm, k⟩ := q
  rcases bnd_some hm with ⟨x, τ1, e1, e2⟩ | ⟨c, fs, l, e1, rfl⟩
  · refine ⟨M0, φ, τ, _, _, hs, e1, fun v1 H1 q1 => ?_⟩
    obtain ⟨φ1, hs1, r1, l1⟩ := q1
    obtain ⟨s, es, rfl, rfl⟩ := ret_some e2
    split at es
    · rename_i hl
      cases es
      refine ⟨by rw [r1.length]; exact hl, fun p hp => k _ _ (EOk.after l1 (.of hs1 (.lst hp r1)))⟩
    · cases es
  · exact ⟨M0, φ, τ, _, _, hs, e1, k⟩
def bTup2 (a b : PB) : PB := fun τ => match a τ, b τ with
  | some (.fz x), some (.fz y) => some (.fz (.tup [x, y]))
  | _, _ => none
end
end VS

/-! ## S4: operators on data -/
namespace VS
open PySem PySem.Spec PyProof.Rows L2
section
variable {X : Cx} {g : Gx} {M : Ad} {H : Hp} {v x y : V} {d e : D} {ds : List D} {s : SV} {Q : VK} {i : Int} {z : Str}
theorem RT.int (h : RT g M H v (.int i)) : v = .int i := by
  cases h with
  | of r => cases r; rfl
theorem RT.str (h : RT g M H v (.str z)) : v = .str z := by
  cases h with
  | of r => cases r; rfl
theorem RT.bl {b : Bool} (h : RT g M H v (.bl b)) : v = .bl b := by
  cases h with
  | of r => cases r; rfl
theorem RT.non (h : RT g M H v .non) : v = .non := by
  cases h with
  | of r => cases r; rfl
theorem RT.tup (h : RT g M H v (.tup ds)) : ∃ a xs, v = .ref a ∧ SqT g.K H a xs ∧ Rs g M H xs ds := by
  cases h with
  | of r => cases r with
    | tup q r => exact ⟨_, _, rfl, q, r⟩
theorem RT.lst (h : RT g M H v (.ob .lst ds)) : ∃ a xs, v = .ref a ∧ H a = some (.lst xs) ∧ Rs g M H xs ds := by
  cases h with
  | of r => cases r with
    | ob q qi n p r =>
      cases p
      exact ⟨_, _, rfl, qi (fun b ks e => nomatch e), r⟩
  | ob q p r =>
    cases p
    exact ⟨_, _, rfl, q, r⟩
theorem RT.fro (h : RT g M H v (.fro ds)) : ∃ a xs, v = .ref a ∧ SqL g.K H a xs ∧ Rs g M H xs ds := by
  cases h with
  | of r => cases r with
    | fro q r => exact ⟨_, _, rfl, q.sqL, r⟩
theorem RT.dct {t : Bool} {ks : List DK} (h : RT g M H v (.ob (.dct t ks) ds)) : ∃ a o xs, v = .ref a ∧ Rd H a o ∧ HOr g.cl g.hid (.dct t ks) xs o ∧ Rs g M H xs ds := by
  cases h with
  | of r => cases r with
    | ob q qi n p r => exact ⟨_, _, _, rfl, q, p, r⟩
  | ob q p r => exact ⟨_, _, _, rfl, .inl q, p, r⟩
theorem RT.ins {c : Nat} {fs : List Str} (h : RT g M H v (.ob (.ins c fs) ds)) : ∃ a dx fsr xs, v = .ref a ∧ H a = some (.ins (g.cl c) dx fsr) ∧ fs.length = xs.length ∧ (∀ f, f ∉ fs → f ∉ g.hid c → fsr.lookup f = none) ∧ (∀ (i : Nat) f x, fs[i]? = some f → xs[i]? = some x → fsr.lookup f = some x) ∧ Rs g M H xs ds := by
  cases h with
  | of r => cases r with
    | ob q qi n p r =>
      obtain ⟨dx, fsr, rfl, p1, p3, p2⟩ := p
      exact ⟨_, _, _, _, rfl, qi (fun b ks e => nomatch e), p1, p3, p2, r⟩
  | ob q p r =>
    obtain ⟨dx, fsr, rfl, p1, p3, p2⟩ := p
    exact ⟨_, _, _, _, rfl, q, p1, p3, p2, r⟩
theorem POk.int (i : Int) : POk g M H (.fz (.int i)) (.int i) H := .here (.int i)
theorem POk.bl (b : Bool) : POk g M H (.fz (.bl b)) (.bl b) H := .here (.bl b)
theorem POk.str (z : Str) : POk g M H (.fz (.str z)) (.str z) H := .here (.str z)
/-! arithmetic -/
def addF : D → D → Option SV
  | .int i, .int j => some (.fz (.int (i + j)))
  | .str a, .str b => if a.length + b.length ≤ sizeLine then some (.fz (.str (a ++ b))) else none
  | .ob .lst a, .ob .lst b => if a.length + b.length ≤ sizeLine then some (.mu .lst ((a ++ b).map .fz)) else none
  | .tup a, .tup b => if a.length + b.length ≤ sizeLine then some (.fz (.tup (a ++ b))) else none
  | _, _ => none
theorem o_add : Op2 g addF (rAddU g.K) := by
  intro M H x y d e s Q h1 h2 hf k
  unfold addF at hf
  split at hf
  · cases h1.int; cases h2.int; cases hf
    exact .inl ⟨_, _, rfl, rfl, k _ _ (.int _)⟩
  · rename_i a b
    cases h1.str; cases h2.str
    split at hf
    · cases hf
      exact .inr (.inl ⟨a, b, rfl, rfl, by assumption, k _ _ (.str _)⟩)
    · cases hf
  · rename_i a b
    obtain ⟨p, xs, rfl, hp, r1⟩ := h1.lst
    obtain ⟨q, ys, rfl, hq, r2⟩ := h2.lst
    split at hf
    · cases hf
      refine .inr (.inr (.inl ⟨p, q, xs, ys, rfl, rfl, hp, hq, by rw [r1.length, r2.length]; assumption, fun t ht => k _ _ (.lst ht (r1.app r2))⟩))
    · cases hf
  · rename_i a b
    obtain ⟨p, xs, rfl, hp, r1⟩ := h1.tup
    obtain ⟨q, ys, rfl, hq, r2⟩ := h2.tup
    split at hf
    · cases hf
      refine .inr (.inr (.inr ⟨p, q, xs, ys, rfl, rfl, hp, hq, by rw [r1.length, r2.length]; assumption, fun e => ?_, fun _ e => ?_, fun _ _ t ht => k _ _ (.tup ht (r1.app r2))⟩))
      · subst e
        cases r1
        exact k _ _ (.here (.tup hq r2))
      · subst e
        cases r2
        rw [List.append_nil] at *
        exact k _ _ (.here (.tup hp r1))
    · cases hf
  · cases hf
def subF : D → D → Option SV
  | .int i, .int j => some (.fz (.int (i - j)))
  | _, _ => none
theorem o_sub : Op2 g subF (rI0 fun i j => .int (i - j)) := by
  intro M H x y d e s Q h1 h2 hf k
  unfold subF at hf
  split at hf
  · cases h1.int; cases h2.int; cases hf
    exact ⟨_, _, rfl, rfl, k _ _ (.int _)⟩
  · cases hf
/-- the product is made -/
def mulOk (i j : Int) : Bool := decide (-(2 ^ 64) < i ∧ i < 2 ^ 64) || (decide (-(2 ^ 64) < j ∧ j < 2 ^ 64) || decide (i.natAbs.log2 + j.natAbs.log2 < 1000000))
def mulF : D → D → Option SV
  | .int i, .int j => if mulOk i j = true then some (.fz (.int (i * j))) else none
  | .ob .lst a, .int k => if -(2 ^ 63) ≤ k ∧ k < 2 ^ 63 ∧ a.length * k.toNat ≤ sizeLine then some (.mu .lst ((List.replicate k.toNat a).flatten.map .fz)) else none
  | _, _ => none
theorem Rs.rep {xs : List V} {ds : List D} (r : Rs g M H xs ds) : ∀ n : Nat, Rs g M H (List.replicate n xs).flatten (List.replicate n ds).flatten
  | 0 => .nil
  | n + 1 => by
    rw [List.replicate_succ, List.replicate_succ, List.flatten_cons, List.flatten_cons]
    exact r.app (r.rep n)
theorem o_mul : Op2 g mulF rMulU := by
  intro M H x y d e s Q h1 h2 hf k
  unfold mulF at hf
  split at hf
  · rename_i i j
    cases h1.int; cases h2.int
    split at hf
    · rename_i hm
      cases hf
      unfold mulOk at hm
      simp only [Bool.or_eq_true, decide_eq_true_eq] at hm
      rcases hm with hm | hm | hm
      · exact .inl ⟨_, _, rfl, rfl, .inl hm, k _ _ (.int _)⟩
      · exact .inl ⟨_, _, rfl, rfl, .inr hm, k _ _ (.int _)⟩
      · exact .inr (.inl ⟨_, _, rfl, rfl, hm, k _ _ (.int _)⟩)
    · cases hf
  · rename_i a n
    obtain ⟨p, xs, rfl, hp, r1⟩ := h1.lst
    cases h2.int
    split at hf
    · rename_i hc
      cases hf
      exact .inr (.inr ⟨p, n, xs, rfl, rfl, hp, hc.1, hc.2.1, by rw [r1.length]; exact hc.2.2, fun t ht => k _ _ (.lst ht (r1.rep _))⟩)
    · cases hf
  · cases hf
def modF : D → D → Option SV
  | .int i, .int j => if 0 < j then some (.fz (.int (i % j))) else none
  | _, _ => none
theorem o_mod : Op2 g modF rModU := by
  intro M H x y d e s Q h1 h2 hf k
  unfold modF at hf
  split at hf
  · cases h1.int; cases h2.int
    split at hf
    · cases hf
      exact .inl ⟨_, _, rfl, rfl, by assumption, k _ _ (.int _)⟩
    · cases hf
  · cases hf
def divOk (j : Int) : Bool := decide (j < 1073741824) || decide (j.natAbs.log2 < 9000)
def fdivF : D → D → Option SV
  | .int i, .int j => if 0 < j ∧ divOk j = true then some (.fz (.int (i / j))) else none
  | _, _ => none
theorem o_fdiv : Op2 g fdivF rFdivU := by
  intro M H x y d e s Q h1 h2 hf k
  unfold fdivF at hf
  split at hf
  · cases h1.int; cases h2.int
    split at hf
    · rename_i hc
      cases hf
      obtain ⟨h0, hc⟩ := hc
      unfold divOk at hc
      simp only [Bool.or_eq_true, decide_eq_true_eq] at hc
      rcases hc with hc | hc
      · exact .inl ⟨_, _, rfl, rfl, ⟨h0, hc⟩, k _ _ (.int _)⟩
      · exact .inr (.inr ⟨_, _, rfl, rfl, ⟨h0, hc⟩, k _ _ (.int _)⟩)
    · cases hf
  · cases hf
def powF : D → D → Option SV
  | .int i, .int j => if 0 ≤ j ∧ j ≤ 1000000 ∧ i.natAbs < 2 ^ 64 then some (.fz (.int (i ^ j.toNat))) else none
  | _, _ => none
theorem o_pow : Op2 g powF (rI CPow fun i j => .int (i ^ j.toNat)) := by
  intro M H x y d e s Q h1 h2 hf k
  unfold powF at hf
  split at hf
  · cases h1.int; cases h2.int
    split at hf
    · rename_i hc
      cases hf
      exact ⟨_, _, rfl, rfl, hc, k _ _ (.int _)⟩
    · cases hf
  · cases hf
def negF : D → Option SV
  | .int i => some (.fz (.int (-i)))
  | _ => none
theorem o_neg : Op1 g negF (rU fun i => .int (-i)) := by
  intro M H x d s Q h1 hf k
  unfold negF at hf
  split at hf
  · cases h1.int; cases hf
    exact ⟨_, rfl, k _ _ (.int _)⟩
  · cases hf
def notF : D → Option SV
  | .bl b => some (.fz (.bl (!b)))
  | _ => none
/-! comparisons -/
def cmpF (f : Int → Int → Bool) (h : List Nat → List Nat → Bool) : D → D → Option SV
  | .int i, .int j => some (.fz (.bl (f i j)))
  | .str a, .str b => some (.fz (.bl (h a.cps.toList b.cps.toList)))
  | _, _ => none
theorem o_cmp {f : Int → Int → Bool} {h : List Nat → List Nat → Bool} : Op2 g (cmpF f h) (fun x y H Q => rI0 (fun i j => .bl (f i j)) x y H Q ∨ rCmpS (fun i j => h i.cps.toList j.cps.toList) x y H Q) := by
  intro M H x y d e s Q h1 h2 hf k
  unfold cmpF at hf
  split at hf
  · cases h1.int; cases h2.int; cases hf
    exact .inl ⟨_, _, rfl, rfl, k _ _ (.bl _)⟩
  · cases h1.str; cases h2.str; cases hf
    exact .inr ⟨_, _, rfl, rfl, k _ _ (.bl _)⟩
  · cases hf
def ltF : D → D → Option SV := cmpF (fun i j => decide (i < j)) (fun a b => decide (a < b))
def leF : D → D → Option SV := cmpF (fun i j => decide (i ≤ j)) (fun a b => !decide (b < a))
def gtF : D → D → Option SV := cmpF (fun i j => decide (j < i)) (fun a b => decide (b < a))
def geF : D → D → Option SV := cmpF (fun i j => decide (j ≤ i)) (fun a b => !decide (a < b))
theorem o_lt : Op2 g ltF rLtU := o_cmp
theorem o_le : Op2 g leF rLeU := o_cmp
theorem o_gt : Op2 g gtF rGtU := o_cmp
theorem o_ge : Op2 g geF rGeU := o_cmp
/-! equality of data -/
mutual
def toP : D → PyData
  | .non => .none
  | .bl b => .bool b
  | .int i => .int i
  | .str x => .str x
  | .tup l => .tuple (toPs l)
  | .ob .lst l => .list (toPs l)
  | .ob (.dct _ _) _ => .dict []
  | .ob (.ins _ _) _ => .dict []
  | .fro l => .list (toPs l)
def toPs : List D → List PyData
  | [] => []
  | d :: r => toP d :: toPs r
end
theorem toPs_eq : ∀ l : List D, toPs l = l.map toP
  | [] => rfl
  | d :: r => by rw [toPs, toPs_eq r]; rfl
mutual
theorem R.dp : ∀ (d : D) (v : V), PyData.canLay0 (toP d) = true → R g M H v d → Dp g.K H v (toP d)
  | .non, _, _, h => by cases h; exact .non
  | .bl b, _, _, h => by cases h; exact .bl b
  | .int i, _, _, h => by cases h; exact .int i
  | .str x, _, _, h => by cases h; exact .str x
  | .tup l, _, c, h => by
    cases h with
    | tup q r => exact .tup q (Rs.dp l _ c r)
  | .ob .lst l, _, c, h => by
    cases h with
    | ob q qi n p r =>
      cases p
      exact .lst (.inl q) (Rs.dp l _ c r)
  | .ob (.dct _ _) _, _, c, _ => by cases c
  | .ob (.ins _ _) _, _, c, _ => by cases c
  | .fro l, _, c, h => by
    cases h with
    | fro q r => exact .lst q.sqL (Rs.dp l _ c r)
theorem Rs.dp : ∀ (l : List D) (vs : List V), PyData.canLayAll0 (toPs l) = true → Rs g M H vs l → DpAll g.K H vs (toPs l)
  | [], _, _, h => by cases h; exact .nil
  | d :: r, _, c, h => by
    have c' : (PyData.canLay0 (toP d) && PyData.canLayAll0 (toPs r)) = true := c
    rw [Bool.and_eq_true] at c'
    cases h with
    | cons p q => exact .cons (R.dp d _ c'.1 p) (Rs.dp r _ c'.2 q)
end
theorem RT.dp (c : PyData.canLay0 (toP d) = true) (h : RT g M H v d) : Dp g.K H v (toP d) := by
  cases h with
  | of r => exact R.dp d v c r
  | @ob a o h xs ds h1 h2 h3 =>
    cases h with
    | lst =>
      cases h2
      exact .lst (SqL.of h1) (Rs.dp _ _ c h3)
    | dct t ks => cases c
    | ins c' fs => cases c
/-- the data may be compared -/
def shapeD (d : D) : Bool := SeqAt.shaped (toP d)
def eqB (d e : D) : Bool := PyData.eqv (toP d) (toP e)
def eqF : D → D → Option SV
  | .int i, .int j => some (.fz (.bl (decide (i = j))))
  | .str i, .str j => some (.fz (.bl (decide (i = j))))
  | .bl i, .bl j => some (.fz (.bl (decide (i = j))))
  | d, e => if shapeD d && shapeD e then some (.fz (.bl (eqB d e))) else none
theorem o_eq : Op2 g eqF (rEqU g.K) := by
  intro M H x y d e s Q h1 h2 hf k
  unfold eqF at hf
  split at hf
  · cases h1.int; cases h2.int; cases hf
    refine .inl ⟨rfl, k _ _ ?_⟩
    rw [show decide (V.int _ = V.int _) = _ from by simp; rfl]
    exact .bl _
  · cases h1.str; cases h2.str; cases hf
    refine .inl ⟨rfl, k _ _ ?_⟩
    rw [show decide (V.str _ = V.str _) = _ from by simp; rfl]
    exact .bl _
  · cases h1.bl; cases h2.bl; cases hf
    refine .inl ⟨rfl, k _ _ ?_⟩
    rw [show decide (V.bl _ = V.bl _) = _ from by simp; rfl]
    exact .bl _
  · split at hf
    · rename_i hc
      cases hf
      rw [Bool.and_eq_true] at hc
      exact .inr ⟨_, _, h1.dp (SeqAt.canLay_of_shaped hc.1), h2.dp (SeqAt.canLay_of_shaped hc.2), hc.1, hc.2, k _ _ (.bl _)⟩
    · cases hf
def neF : D → D → Option SV
  | .int i, .int j => some (.fz (.bl (!decide (i = j))))
  | .str i, .str j => some (.fz (.bl (!decide (i = j))))
  | .bl i, .bl j => some (.fz (.bl (!decide (i = j))))
  | d, e => if shapeD d && shapeD e then some (.fz (.bl (!eqB d e))) else none
theorem o_ne : Op2 g neF (rNeU g.K) := by
  intro M H x y d e s Q h1 h2 hf k
  unfold neF at hf
  split at hf
  · cases h1.int; cases h2.int; cases hf
    refine .inl ⟨rfl, k _ _ ?_⟩
    rw [show decide (V.int _ = V.int _) = _ from by simp; rfl]
    exact .bl _
  · cases h1.str; cases h2.str; cases hf
    refine .inl ⟨rfl, k _ _ ?_⟩
    rw [show decide (V.str _ = V.str _) = _ from by simp; rfl]
    exact .bl _
  · cases h1.bl; cases h2.bl; cases hf
    refine .inl ⟨rfl, k _ _ ?_⟩
    rw [show decide (V.bl _ = V.bl _) = _ from by simp; rfl]
    exact .bl _
  · split at hf
    · rename_i hc
      cases hf
      rw [Bool.and_eq_true] at hc
      exact .inr ⟨_, _, h1.dp (SeqAt.canLay_of_shaped hc.1), h2.dp (SeqAt.canLay_of_shaped hc.2), hc.1, hc.2, k _ _ (.bl _)⟩
    · cases hf
/-! is None -/
def isN : D → Bool
  | .non => true
  | _ => false
def isF (neg : Bool) (d : D) : D → Option SV
  | .non => some (.fz (.bl (if neg then !isN d else isN d)))
  | _ => none
theorem RT.isN (h : RT g M H v d) : decide (v = .non) = isN d := by
  cases h with
  | of r => cases r <;> rfl
  | ob _ _ _ => rfl
theorem o_is : Op2 g (isF false) (fun x y H Q => y = .non ∧ Q (.bl (decide (x = .non))) H) := by
  intro M H x y d e s Q h1 h2 hf k
  unfold isF at hf
  split at hf
  · cases h2.non; cases hf
    exact ⟨rfl, k _ _ (by rw [h1.isN]; exact .bl _)⟩
  · cases hf
theorem o_isnot : Op2 g (isF true) (fun x y H Q => y = .non ∧ Q (.bl (!decide (x = .non))) H) := by
  intro M H x y d e s Q h1 h2 hf k
  unfold isF at hf
  split at hf
  · cases h2.non; cases hf
    exact ⟨rfl, k _ _ (by rw [h1.isN]; exact .bl _)⟩
  · cases hf
/-! membership -/
def flatD : D → Option V
  | .non => some .non
  | .bl b => some (.bl b)
  | .int i => some (.int i)
  | .str x => some (.str x)
  | _ => none
def flatsD : List D → Option (List V)
  | [] => some []
  | d :: r => (flatD d).bind fun v => (flatsD r).map (v :: ·)
theorem R.flat {u : V} (h : R g M H v d) (e : flatD d = some u) : v = u ∧ flatV u = true := by
  cases h <;> first | (cases e; exact ⟨rfl, rfl⟩) | cases e
theorem Rs.flat : ∀ {vs us : List V} {ds : List D}, Rs g M H vs ds → flatsD ds = some us → vs = us ∧ us.all flatV = true
  | _, _, _, .nil, e => by cases e; exact ⟨rfl, rfl⟩
  | _, _, _, .cons p q, e => by
    simp only [flatsD, Option.bind_eq_some_iff, Option.map_eq_some_iff] at e
    obtain ⟨v, e1, us, e2, rfl⟩ := e
    obtain ⟨rfl, h1⟩ := p.flat e1
    obtain ⟨rfl, h2⟩ := q.flat e2
    exact ⟨rfl, by rw [List.all_cons, h1, h2]; rfl⟩
/-- a key of a dict -/
def keyOf : D → Option DK
  | .int i => some (.k (.inl i))
  | .str x => some (.k (.inr x))
  | .tup l => (flatsK l).map .tup
  | _ => none
where flatsK : List D → Option (List Key)
  | [] => some []
  | .int i :: r => (flatsK r).map (.inl i :: ·)
  | .str x :: r => (flatsK r).map (.inr x :: ·)
  | _ :: _ => none
def dLook : List DK → List D → DK → Option D
  | k :: ks, d :: ds, q => if k = q then some d else dLook ks ds q
  | _, _, _ => none
theorem keys_tup : ∀ {vs : List V} {ds : List D} {ks : List Key}, Rs g M H vs ds → keyOf.flatsK ds = some ks → vs = ks.map kV
  | _, _, _, .nil, e => by cases e; rfl
  | _, d :: r, ks, .cons p q, e => by
    cases d <;> simp only [keyOf.flatsK, Option.map_eq_some_iff] at e <;> try (cases e; done)
    · obtain ⟨ks', e, rfl⟩ := e
      cases p
      rw [keys_tup q e]; rfl
    · obtain ⟨ks', e, rfl⟩ := e
      cases p
      rw [keys_tup q e]; rfl
/-- the tuple stands as such in the heap (not in the written part) -/
def Trk (H : Hp) (v : V) : Prop := ∀ a, v = .ref a → ∃ xs, H a = some (.tup xs)
end
end VS

/-! ## S5: membership, items, slices, built-ins -/
namespace VS
open PySem PySem.Spec PyProof.Rows L2
/-- what d[y] finds, the key any tuple that is to be read -/
def DGetS (K : PySem.W.Frag) (H : Hp) (a : Addr) (y : V) (r : Option V) : Prop :=
  (∃ kvs k, Rd H a (.dK kvs) ∧ y = kV k ∧ r = valV kvs k) ∨ ∃ kvs k b, Rd H a (.dT kvs) ∧ y = .ref b ∧ SqT K H b (k.map kV) ∧ r = valV kvs k
section
variable {X : Cx} {pins : List (Addr × Obj)} {σ : L2.St} {H : Hp} {s : Shared} {a b : Addr} {y v : V} {u r : Value} {o : Option V} {A : Around} {E : Value → Shared → Prop}
theorem key_ofS (I : Inv X pins σ H s) {ks : List Key} (e : SqT X.K H b (ks.map kV)) : (tupleKind (mixKind X.prog X.w)).is s.heap ks b := by
  obtain ⟨its, r, ⟨o, h1, h2, n, h3⟩, _⟩ := I.tuple e
  exact ⟨o, its.toArray, n, h1, h2, h3, by simpa using items_are r⟩
theorem dS_getItem {Q : Value → Shared → Prop} (hu : A.units + 1 < cLine) (I : Inv X pins σ H s) (g : DGetS X.K H a y (some v)) (ry : RelV y u) (h : ∀ w' s', Inv X pins σ H s' → RelV v w' → Q w' s') :
    wpAny (model X.prog X.w) A (getItem (.ref a) u) Q E s := by
  rcases g with ⟨kvs, k, e, ey, l⟩ | ⟨kvs, k, b, e, ey, eb, l⟩
  · exact d_getItem hu I (.inl ⟨kvs, k, e, ey, l⟩) ry h
  · subst ey
    cases (show u = Value.ref b from ry)
    obtain ⟨z, hd, xs, rel, dd⟩ := dt_rd I.hok e
    obtain ⟨w', hw, rw'⟩ := RelO.some_of (v := v) (o := (atKey xs k).map (·.2)) (by rw [l]; exact rel.val k)
    obtain ⟨p, hp, hp2⟩ := Option.map_eq_some_iff.mp hw
    refine wpAny_getItem_heap (tupleKind_room_in1 hu) (key_ofS I eb) dd hp ?_
    rw [hp2]
    exact h w' _ (I.tok _) rw'
theorem dS_in {Q : Value → Shared → Prop} (hu : A.units + 1 < cLine) (I : Inv X pins σ H s) (g : DGetS X.K H a y o) (ry : RelV y u) (h : ∀ s', Inv X pins σ H s' → Q (.bool o.isSome) s') :
    wpAny (model X.prog X.w) A (compareOp .In u (.ref a)) Q E s := by
  rcases g with ⟨kvs, k, e, ey, l⟩ | ⟨kvs, k, b, e, ey, eb, l⟩
  · exact d_in hu I (.inl ⟨kvs, k, e, ey, l⟩) ry h
  · subst ey
    cases (show u = Value.ref b from ry)
    obtain ⟨z, hd, xs, rel, dd⟩ := dt_rd I.hok e
    refine wpAny_in_heap (tupleKind_room_in1 hu) (key_ofS I eb) hd dd ?_
    have q := (rel.val k).isSome_eq
    rw [Option.isSome_map] at q
    rw [← q, ← l]
    exact h _ (I.tok _)
theorem dS_notIn {Q : Value → Shared → Prop} (hu : A.units + 1 < cLine) (I : Inv X pins σ H s) (g : DGetS X.K H a y o) (ry : RelV y u) (h : ∀ s', Inv X pins σ H s' → Q (.bool (!o.isSome)) s') :
    wpAny (model X.prog X.w) A (compareOp .NotIn u (.ref a)) Q E s := by
  rcases g with ⟨kvs, k, e, ey, l⟩ | ⟨kvs, k, b, e, ey, eb, l⟩
  · exact d_notIn hu I (.inl ⟨kvs, k, e, ey, l⟩) ry h
  · subst ey
    cases (show u = Value.ref b from ry)
    obtain ⟨z, hd, xs, rel, dd⟩ := dt_rd I.hok e
    refine wpAny_notIn_heap (tupleKind_room_in1 hu) (key_ofS I eb) hd dd ?_
    have q := (rel.val k).isSome_eq
    rw [Option.isSome_map] at q
    rw [← q, ← l]
    exact h _ (I.tok _)
end
def rIxS2 (K : PySem.W.Frag) : R2 := fun x y H Q => rIx K x y H Q ∨ ∃ a w, x = .ref a ∧ DGetS K H a y (some w) ∧ Q w H
def rInS2 (K : PySem.W.Frag) (neg : Bool) : R2 := fun x y H Q => rSignIn neg x y H Q ∨ (rIn K neg x y H Q ∨ ∃ a o, y = .ref a ∧ DGetS K H a x o ∧ Q (.bl (if neg then !o.isSome else o.isSome)) H)
section
variable {X : Cx}
theorem ix_S (hu : X.A.units + 1 < cLine) {K : PySem.W.Frag} (hK : X.K = K := by rfl) : IxR X (rIxS2 K) := by
  subst hK
  refine ix_seq.or ?_
  intro value slice pins s σ H x y v u Q I rx ry h hs
  obtain ⟨a, w, rfl, g, q⟩ := h
  cases rx
  have hty : s.TypeIs (.ref a) "dict" := by
    rcases g with ⟨kvs, k, e, _⟩ | ⟨kvs, k, b, e, _⟩
    · obtain ⟨z, hd, vs, rel, dd⟩ := dk_rd I.hok e
      exact dd.typeIs
    · obtain ⟨z, hd, xs, rel, dd⟩ := dt_rd I.hok e
      exact dd.typeIs
  exact tail_any hty PySem.F.slot_dict_getitem.lookup (dS_getItem hu I g ry fun w' s' I' rw' => ⟨w, H, I', rw', q⟩) hs
theorem op_inS {K : PySem.W.Frag} (hu : X.A.units + 1 < cLine) (_ : X.A.units + 64 < cLine) (hK : X.K = K := by rfl) : OpR X (compareOp .In) (rInS2 K false) := by
  subst hK
  refine op_inSign.or (op_in_seq.or ?_)
  intro pins s σ H x y v u Q I rx ry h
  obtain ⟨a, o, rfl, g, q⟩ := h
  cases ry
  exact dS_in hu I g rx fun s' I' => ⟨.bl o.isSome, H, I', rfl, q⟩
theorem op_notInS {K : PySem.W.Frag} (hu : X.A.units + 1 < cLine) (_ : X.A.units + 64 < cLine) (hK : X.K = K := by rfl) : OpR X (compareOp .NotIn) (rInS2 K true) := by
  subst hK
  refine op_notInSign.or (op_notIn_seq.or ?_)
  intro pins s σ H x y v u Q I rx ry h
  obtain ⟨a, o, rfl, g, q⟩ := h
  cases ry
  exact dS_notIn hu I g rx fun s' I' => ⟨.bl (!o.isSome), H, I', rfl, q⟩
end
section
variable {X : Cx} {g : Gx} {M : Ad} {H : Hp} {v x y : V} {d e : D} {ds : List D} {s : SV} {Q : VK} {i : Int} {z : Str}
/-- a dict's answer, by values and by data -/
def LookR (g : Gx) (M : Ad) (H : Hp) : Option V → Option D → Prop
  | none, none => True
  | some v, some d => R g M H v d
  | _, _ => False
theorem look_k {κ : Type} [DecidableEq κ] (f : κ → DK) (hf : ∀ a b, f a = f b → a = b) (k : κ) : ∀ {kvs : List (κ × V)} {ds : List D}, Rs g M H (kvs.map (·.2)) ds → LookR g M H (valV kvs k) (dLook (kvs.map fun p => f p.1) ds (f k))
  | [], _, h => by cases h; exact trivial
  | p :: r, d :: ds, h => by
    cases h with
    | cons h1 h2 =>
      show LookR g M H _ (if f p.1 = f k then some d else dLook (r.map fun p => f p.1) ds (f k))
      by_cases e : p.1 = k
      · rw [if_pos (by rw [e]), valV_pos e]; exact h1
      · rw [if_neg (fun q => e (hf _ _ q)), valV_neg e]; exact look_k f hf k h2
theorem dk_k_inj (a b : Key) (h : DK.k a = DK.k b) : a = b := by cases h; rfl
theorem dk_t_inj (a b : List Key) (h : DK.tup a = DK.tup b) : a = b := by cases h; rfl
/-- the lookup of a key -/
def lookF (t : Bool) (ks : List DK) (l : List D) : D → Option (Option D)
  | .int i => if t then none else some (dLook ks l (.k (.inl i)))
  | .str x => if t then none else some (dLook ks l (.k (.inr x)))
  | .tup l' => if t then (keyOf.flatsK l').map fun q => dLook ks l (.tup q) else none
  | _ => none
theorem look_get {t : Bool} {ks : List DK} {k : D} {r : Option D} (h1 : RT g M H x (.ob (.dct t ks) ds)) (h2 : RT g M H y k) (h : lookF t ks ds k = some r) : ∃ a o, x = .ref a ∧ DGetS g.K H a y o ∧ LookR g M H o r := by
  obtain ⟨a, o, xs, rfl, hr, hp, rs⟩ := h1.dct
  cases k with
  | int i =>
    cases t with
    | true => cases h
    | false =>
      cases h
      obtain ⟨kvs, rfl, rfl, rfl⟩ := hp
      cases h2.int
      exact ⟨a, _, rfl, .inl ⟨kvs, .inl i, hr, rfl, rfl⟩, look_k DK.k dk_k_inj (.inl i) rs⟩
  | str z =>
    cases t with
    | true => cases h
    | false =>
      cases h
      obtain ⟨kvs, rfl, rfl, rfl⟩ := hp
      cases h2.str
      exact ⟨a, _, rfl, .inl ⟨kvs, .inr z, hr, rfl, rfl⟩, look_k DK.k dk_k_inj (.inr z) rs⟩
  | tup l =>
    cases t with
    | false => cases h
    | true =>
      have h' : (keyOf.flatsK l).map (fun q => dLook ks ds (.tup q)) = some r := h
      simp only [Option.map_eq_some_iff] at h'
      obtain ⟨q, hq, rfl⟩ := h'
      obtain ⟨kvs, rfl, rfl, rfl⟩ := hp
      obtain ⟨b, vs, rfl, hb, r2⟩ := h2.tup
      rw [keys_tup r2 hq] at hb
      exact ⟨a, _, rfl, .inr ⟨kvs, q, b, hr, rfl, hb, rfl⟩, look_k DK.tup dk_t_inj q rs⟩
  | non => cases h
  | bl b => cases h
  | ob hd l => cases h
  | fro l => cases h
theorem RT.seq (h : RT g M H v d) {l : List D} (e : d = .ob .lst l ∨ d = .tup l ∨ d = .fro l) : ∃ a xs, v = .ref a ∧ (SqL g.K H a xs ∨ SqT g.K H a xs) ∧ Rs g M H xs l := by
  rcases e with rfl | rfl | rfl
  · obtain ⟨a, xs, e, h1, h2⟩ := h.lst
    exact ⟨a, xs, e, .inl (SqL.of h1), h2⟩
  · obtain ⟨a, xs, e, h1, h2⟩ := h.tup
    exact ⟨a, xs, e, .inr h1, h2⟩
  · obtain ⟨a, xs, e, h1, h2⟩ := h.fro
    exact ⟨a, xs, e, .inl h1, h2⟩
/-- the items of a sequence -/
def seqD : D → Option (List D)
  | .ob .lst l => some l
  | .tup l => some l
  | .fro l => some l
  | _ => none
theorem seqD_or {l : List D} (h : seqD d = some l) : d = .ob .lst l ∨ d = .tup l ∨ d = .fro l := by
  unfold seqD at h
  split at h <;> cases h
  · exact .inl rfl
  · exact .inr (.inl rfl)
  · exact .inr (.inr rfl)
/-- x in c -/
def inB : D → D → Option Bool
  | d, .str z => match d with
    | .str a => match a.cps.toList with
      | [c] => some (decide (c ∈ z.cps.toList))
      | _ => none
    | _ => none
  | d, .ob (.dct t ks) l => (lookF t ks l d).map Option.isSome
  | d, e => (seqD e).bind fun l => (flatD d).bind fun u => (flatsD l).map fun us => inV u us
def inF (neg : Bool) (d e : D) : Option SV := (inB d e).map fun b => .fz (.bl (if neg then !b else b))
theorem str_one {a : Str} {c : Nat} (h : a.cps.toList = [c]) : a = ⟨#[c]⟩ := by
  cases a with
  | mk cps =>
    congr 1
    exact Array.toList_inj.mp h
theorem o_in (neg : Bool) : Op2 g (inF neg) (rInS2 g.K neg) := by
  intro M H x y d e s Q h1 h2 hf k
  simp only [inF, Option.map_eq_some_iff] at hf
  obtain ⟨b, hb, rfl⟩ := hf
  unfold inB at hb
  split at hb
  · split at hb
    · split at hb
      · rename_i z a c hc
        cases hb
        cases h1.str; cases h2.str
        exact .inl ⟨c, _, by rw [str_one hc], rfl, k _ _ (by cases neg <;> exact .bl _)⟩
      · cases hb
    · cases hb
  · simp only [Option.map_eq_some_iff] at hb
    obtain ⟨r, hr, rfl⟩ := hb
    obtain ⟨a, o, rfl, hg, hl⟩ := look_get h2 h1 hr
    have e : o.isSome = r.isSome := by
      cases o <;> cases r <;> first | rfl | exact hl.elim
    exact .inr (.inr ⟨a, o, rfl, hg, k _ _ (by rw [e]; cases neg <;> exact .bl _)⟩)
  · simp only [Option.bind_eq_some_iff, Option.map_eq_some_iff] at hb
    obtain ⟨l, hl, u, hu, us, hus, rfl⟩ := hb
    obtain ⟨a, xs, rfl, hs, rs⟩ := h2.seq (seqD_or hl)
    obtain ⟨rfl, fl⟩ := rs.flat hus
    have hx : x = u ∧ flatV u = true := by
      cases h1 with
      | of r => exact r.flat hu
      | ob _ _ _ => cases hu
    obtain ⟨rfl, fx⟩ := hx
    exact .inr (.inl ⟨a, xs, rfl, hs, fx, fl, k _ _ (by cases neg <;> exact .bl _)⟩)
/-- x[i] -/
def ixF : D → D → Option SV
  | .str z, .int i => if z.length ≤ sizeLine then (atI z.cps.toList i).map fun c => .fz (.str ⟨#[c]⟩) else none
  | .ob (.dct t ks) l, k => ((lookF t ks l k).bind id).map .fz
  | d, .int i => (seqD d).bind fun l => (atI l i).map .fz
  | _, _ => none
theorem Rs.atI {xs : List V} {ds : List D} (r : Rs g M H xs ds) (h : L2.atI ds i = some d) : ∃ v, L2.atI xs i = some v ∧ R g M H v d := by
  unfold L2.atI at *
  rw [r.length]
  simp only [Option.bind_eq_some_iff] at *
  obtain ⟨j, hj, hd⟩ := h
  obtain ⟨v, h1, h2⟩ := r.get hd
  exact ⟨v, ⟨j, hj, h1⟩, h2⟩
theorem o_ix : Op2 g ixF (rIxS2 g.K) := by
  intro M H x y d e s Q h1 h2 hf k
  unfold ixF at hf
  split at hf
  · rename_i z i
    cases h1.str; cases h2.int
    split at hf
    · simp only [Option.map_eq_some_iff] at hf
      obtain ⟨c, hc, rfl⟩ := hf
      exact .inl (.inr (.inr ⟨z, i, c, rfl, rfl, by assumption, hc, k _ _ (.str _)⟩))
    · cases hf
  · simp only [Option.map_eq_some_iff, Option.bind_eq_some_iff, id] at hf
    obtain ⟨d', ⟨r, hr, rfl⟩, rfl⟩ := hf
    obtain ⟨a, o, rfl, hg, hl⟩ := look_get h1 h2 hr
    cases o with
    | none => exact hl.elim
    | some w => exact .inr ⟨a, w, rfl, hg, k _ _ (.here hl)⟩
  · rename_i i _ _
    cases h2.int
    simp only [Option.map_eq_some_iff, Option.bind_eq_some_iff] at hf
    obtain ⟨l, hl, d', hd, rfl⟩ := hf
    obtain ⟨a, xs, rfl, hs, rs⟩ := h1.seq (seqD_or hl)
    obtain ⟨v, hv, r⟩ := rs.atI hd
    rcases hs with hs | hs
    · exact .inl (.inl ⟨a, xs, _, v, rfl, rfl, hs, hv, k _ _ (.here r)⟩)
    · exact .inl (.inr (.inl ⟨a, xs, _, v, rfl, rfl, hs, hv, k _ _ (.here r)⟩))
  · cases hf
end
end VS

/-! ## S6: built-ins, methods of texts, slices, fields, tests -/
namespace VS
open PySem PySem.Spec PyProof.Rows L2
/-- a dict locked with tuple keys is a dict -/
inductive TyY (K : PySem.W.Frag) (H : Hp) : V → Value → Prop where
  | base {x : V} {t : Value} (h : TyX K H x t) : TyY K H x t
  | fDT {a : Addr} {o : Obj} {kvs : List (List Key × V)} (e : H a = some (.frz o (.dT kvs))) : TyY K H (.ref a) (.type "dict")
def rIsiY (K : PySem.W.Frag) : List V → Hp → VK → Prop := fun xs H Q => (∃ (x c : V) (t u : Value) (b : Bool), xs = [x, c] ∧ ClsV c u ∧ TyY K H x t ∧ PySem.W.kitOne K t u = some b ∧ Q (.bl b) H) ∨
  ∃ (x : V) (tp : Addr) (cs : List V) (t : Value) (us : List Value) (b : Bool), xs = [x, .ref tp] ∧ H tp = some (.tup cs) ∧ Paired ClsV cs us ∧ TyY K H x t ∧ PySem.W.kitAny K t us = some b ∧ Q (.bl b) H
theorem kit_ofY {X : Cx} {pins : List (Addr × Obj)} {σ : L2.St} {H : Hp} {s : Shared} {x : V} {u t : Value} (I : Inv X pins σ H s) (rx : RelV x u) (ty : TyY X.K H x t) : ∃ P : Heap → Prop, PySem.W.KitX X.K u t P ∧ P s.heap ∧ u ≠ .builtin "__main__.__loader__#opaque" := by
  cases ty with
  | base b => exact kit_of I rx b
  | @fDT a ob kvs ea =>
    cases (show u = Value.ref a from rx)
    obtain ⟨_, _, _, xs, _, o, es, ep, h1, h2, _⟩ := (show ObjOk X.prog X.w H s.heap a (.frz ob (.dT kvs)) from I.hok a _ ea)
    exact ⟨_, PySem.W.kitx_dict, ⟨o, h1, h2.1⟩, fun z => nomatch z⟩
theorem call_isiY {X : Cx} {K : PySem.W.Frag} (hK : X.K = K := by rfl) : CallR X (.builtin "isinstance") (rIsiY K) := by
  subst hK
  intro pins s σ H xs us Q I r h
  rcases h with ⟨x, c, t, u, b, rfl, k, ty, e, q⟩ | ⟨x, tp, cs, t, ws, b, rfl, hT, k, ty, e, q⟩
  · obtain ⟨u1, u2, rfl, r1, r2⟩ := vals2 r
    have e2 := k.eq r2
    subst e2
    obtain ⟨P, Z, p, hx⟩ := kit_ofY I r1 ty
    exact PySem.W.kia_one Z I.kIn p e hx fun tk => ⟨.bl b, H, I.tok tk, rfl, q⟩
  · obtain ⟨u1, u2, rfl, r1, r2⟩ := vals2 r
    cases (show u2 = Value.ref tp from r2)
    obtain ⟨P, Z, p, hx⟩ := kit_ofY I r1 ty
    obtain ⟨_, its, rv, o, h1, h2, n, h3⟩ := (show ObjOk X.prog X.w H s.heap tp (.tup cs) from I.hok tp _ hT)
    have e3 := ClsV.all k rv
    subst e3
    obtain ⟨oc, od, dt, sl⟩ := o
    simp only at h2 h3
    subst h2 h3
    exact PySem.W.kia_tup Z I.kIn p h1 e hx fun tk => ⟨.bl b, H, I.tok tk, rfl, q⟩
/-- what isinstance asks of a class of instances -/
structure InsTy (K : PySem.W.Frag) (C : Addr) : Prop where
  cl : Cls K C
  ha : PySem.W.findIn K (.ref C) "__class__" = some (some (.builtin "object.__class__"))
  hn : PySem.W.specialIn K (.builtin "object.__class__") "__get__" = some (some (.builtin "getset_descriptor.__get__"))
  ht : PySem.W.takesIn K (.builtin "object.__class__") = some true
  hm : PySem.W.mroIn K C (.type "object") = some true
/-- the name of a built-in type -/
def tyN : D → Option String
  | .non => some "NoneType"
  | .bl _ => some "bool"
  | .int _ => some "int"
  | .str _ => some "str"
  | .tup _ => some "tuple"
  | .ob .lst _ => some "list"
  | .fro _ => some "list"
  | .ob (.dct _ _) _ => some "dict"
  | .ob (.ins _ _) _ => none
def clN : D → Option Nat
  | .ob (.ins c _) _ => some c
  | _ => none
section
variable {X : Cx} {g : Gx} {e : Expr} {M M0 : Ad} {φ : Nat → List Addr} {τ τ' : Tau} {σ : L2.St} {H H' : Hp} {v x y : V} {d : D} {ds : List D} {s : SV} {Q : VK} {i : Int} {z : Str} {n : String} {c : Nat}
theorem RT.ty (h : RT g M H v d) (e : tyN d = some n) : TyY g.K H v (.type n) := by
  cases d with
  | non => cases e; cases h.non; exact .base (.base .non)
  | bl b => cases e; cases h.bl; exact .base (.base (.bl b))
  | int i => cases e; cases h.int; exact .base (.base (.int i))
  | str z => cases e; cases h.str; exact .base (.base (.str z))
  | tup l => cases e; obtain ⟨a, xs, rfl, q, _⟩ := h.tup; exact .base q.ty
  | fro l =>
    cases e
    obtain ⟨a, xs, rfl, q, _⟩ := h.fro
    rcases q with (q | ⟨o, q⟩) | ⟨o, its, n, q, c, _⟩
    · exact .base (.base (.lst q))
    · exact .base (.base (.frz q))
    · exact .base (.kList q c)
  | ob hd l =>
    cases hd with
    | lst => cases e; obtain ⟨a, xs, rfl, q, _⟩ := h.lst; exact .base (.base (.lst q))
    | dct t ks =>
      cases e
      obtain ⟨a, o, xs, rfl, q, p, _⟩ := h.dct
      cases t with
      | false =>
        obtain ⟨kvs, rfl, _⟩ := p
        rcases q with q | ⟨u, q⟩
        · exact .base (.base (.dK q))
        · exact .base (.fDict q)
      | true =>
        obtain ⟨kvs, rfl, _⟩ := p
        rcases q with q | ⟨u, q⟩
        · exact .base (.base (.dT q))
        · exact .fDT q
    | ins c fs => cases e
theorem RT.tyC (h : RT g M H v d) (e : clN d = some c) (I : InsTy g.K (g.cl c)) : TyY g.K H v (.ref (g.cl c)) := by
  cases d with
  | ob hd l =>
    cases hd with
    | ins c' fs =>
      cases e
      obtain ⟨a, dx, fsr, xs, rfl, q, _⟩ := h.ins
      exact .base (.base (.ins q I.cl I.ha I.hn I.ht I.hm))
    | lst => cases e
    | dct t ks => cases e
  | non => cases e
  | bl b => cases e
  | int i => cases e
  | str z => cases e
  | tup l => cases e
  | fro l => cases e
/-! ### calls with one argument -/
def OpC (g : Gx) (f : D → Option SV) (r : List V → Hp → VK → Prop) (more : List V) : Prop := ∀ {M : Ad} {H : Hp} {x : V} {d : D} {s : SV} {Q : VK}, RT g M H x d → f d = some s → (∀ v H', POk g M H s v H' → Q v H') → r (x :: more) H Q
theorem s_call1 {r : List V → Hp → VK → Prop} {f : D → Option SV} {a : CM D} (ho : OpC g f r []) (h : PE X e (tCB r (tCons (rdD g a) tNil))) : PE X e (rdE g (mOp1 f a)) := pe_le h fun σ H Q q => by
  obtain ⟨M0, φ, τ, rs, τ', hs, hm, k⟩ := q
  rcases bnd_some hm with ⟨x, τ1, e1, e2⟩ | ⟨c, fs, l, e1, rfl⟩
  · refine ⟨M0, φ, τ, _, _, hs, e1, fun v1 H1 q1 => ?_⟩
    obtain ⟨φ1, hs1, r1, l1⟩ := q1
    obtain ⟨s, es, rfl, rfl⟩ := ret_some e2
    exact ho (.of r1) es fun v3 H3 p => k v3 H3 (EOk.after l1 (.of hs1 p))
  · exact ⟨M0, φ, τ, _, _, hs, e1, k⟩
theorem s_call1B {r : List V → Hp → VK → Prop} {f : D → Option SV} {a : PB} (ho : OpC g f r []) (h : PE X e (tCB r (tCons (rdB g a) tNil))) : PE X e (rdE g (mOp1B f a)) := pe_le h fun σ H Q q => by
  obtain ⟨M0, φ, τ, rs, τ', hs, hm, k⟩ := q
  simp only [mOp1B, Option.bind_eq_some_iff, Option.map_eq_some_iff] at hm
  obtain ⟨x, hx, s, es, e⟩ := hm
  cases e
  obtain ⟨sx, hx, vx⟩ := bView_some hx
  refine ⟨M0, φ, τ, _, hs, hx, fun v1 H1 e1 w1 => ?_⟩
  obtain ⟨F1, w1⟩ := w1
  exact ho (w1.rt vx) es fun v3 H3 p => k v3 H3 (EOk.after (hs.after0 e1) (.of (hs.ev0 e1) p))
theorem p_call1 {r : List V → Hp → VK → Prop} {f : D → Option SV} {a : PB} (ho : OpC g f r []) (h : PE X e (tCB r (tCons (rdB g a) tNil))) : PE X e (rdB g (bOp1 f a)) := pe_le h fun σ H Q q => by
  obtain ⟨M0, φ, τ, s, hs, hm, k⟩ := q
  simp only [bOp1, Option.bind_eq_some_iff] at hm
  obtain ⟨x, hx, es⟩ := hm
  obtain ⟨sx, hx, vx⟩ := bView_some hx
  refine ⟨M0, φ, τ, _, hs, hx, fun v1 H1 e1 w1 => ?_⟩
  obtain ⟨F1, w1⟩ := w1
  refine ho (w1.rt vx) es fun v3 H3 p => ?_
  obtain ⟨e3, w3⟩ := p.lent (hs.ev0 e1)
  exact k v3 H3 (e1.trans e3) w3
/-! isinstance -/
def isiF (tb : String → Bool) (cs : List Nat) (cb : Nat → Bool) (d : D) : Option SV :=
  match tyN d with
  | some n => some (.fz (.bl (tb n)))
  | none => match clN d with
    | some c => if c ∈ cs then some (.fz (.bl (cb c))) else none
    | none => none
/-- a class is known, a built-in or an own one -/
structure IsT (g : Gx) (u : Value) (tb : String → Bool) (cs : List Nat) (cb : Nat → Bool) : Prop where
  ty : ∀ n ∈ ["NoneType", "bool", "int", "str", "tuple", "list", "dict"], PySem.W.kitOne g.K (.type n) u = some (tb n)
  cl : ∀ c ∈ cs, InsTy g.K (g.cl c) ∧ PySem.W.kitOne g.K (.ref (g.cl c)) u = some (cb c)
theorem tyN_mem (h : tyN d = some n) : n ∈ ["NoneType", "bool", "int", "str", "tuple", "list", "dict"] := by
  cases d with
  | ob hd l => cases hd <;> cases h <;> decide
  | _ => cases h; decide
theorem o_isi {c : V} {u : Value} {tb : String → Bool} {cs : List Nat} {cb : Nat → Bool} (hc : ClsV c u) (T : IsT g u tb cs cb) : OpC g (isiF tb cs cb) (rIsiY g.K) [c] := by
  intro M H x d s Q h1 hf k
  unfold isiF at hf
  split at hf
  · rename_i n hn
    cases hf
    exact .inl ⟨x, c, _, u, _, rfl, hc, h1.ty hn, T.ty n (tyN_mem hn), k _ _ (.bl _)⟩
  · split at hf
    · rename_i c' hc'
      split at hf
      · rename_i hm
        cases hf
        obtain ⟨t1, t2⟩ := T.cl c' hm
        exact .inl ⟨x, c, _, u, _, rfl, hc, h1.tyC hc' t1, t2, k _ _ (.bl _)⟩
      · cases hf
    · cases hf
theorem s_isi {r : List V → Hp → VK → Prop} {f : D → Option SV} {a : CM D} {c : V} (ho : OpC g f r [c]) (h : PE X e (tCB r (tCons (rdD g a) (tCons (tC c) tNil)))) : PE X e (rdE g (mOp1 f a)) := pe_le h fun σ H Q q => by
  obtain ⟨M0, φ, τ, rs, τ', hs, hm, k⟩ := q
  rcases bnd_some hm with ⟨x, τ1, e1, e2⟩ | ⟨c, fs, l, e1, rfl⟩
  · refine ⟨M0, φ, τ, _, _, hs, e1, fun v1 H1 q1 => ?_⟩
    obtain ⟨φ1, hs1, r1, l1⟩ := q1
    obtain ⟨s, es, rfl, rfl⟩ := ret_some e2
    exact ho (.of r1) es fun v3 H3 p => k v3 H3 (EOk.after l1 (.of hs1 p))
  · exact ⟨M0, φ, τ, _, _, hs, e1, k⟩
/-- isinstance(x, (c1, c2)) -/
theorem s_isi2 {tb1 tb2 : String → Bool} {a : CM D} {n1 n2 : String} (T1 : IsT g (.type n1) tb1 [] fun _ => false) (T2 : IsT g (.type n2) tb2 [] fun _ => false) (h : PE X e (tCB (rIsiY g.K) (tCons (rdD g a) (tCons (tTup (tCons (tC (.ty n1)) (tCons (tC (.ty n2)) tNil))) tNil)))) :
    PE X e (rdE g (mOp1 (isiF (fun n => tb1 n || tb2 n) [] fun _ => false) a)) := pe_le h fun σ H Q q => by
  obtain ⟨M0, φ, τ, rs, τ', hs, hm, k⟩ := q
  rcases bnd_some hm with ⟨x, τ1, e1, e2⟩ | ⟨c, fs, l, e1, rfl⟩
  · refine ⟨M0, φ, τ, _, _, hs, e1, fun v1 H1 q1 => ?_⟩
    obtain ⟨φ1, hs1, r1, l1⟩ := q1
    obtain ⟨s, es, rfl, rfl⟩ := ret_some e2
    refine ⟨by show 2 ≤ sizeLine; decide, fun p hp => ?_⟩
    unfold isiF at es
    split at es
    · rename_i n hn
      cases es
      have t1 := T1.ty n (tyN_mem hn)
      have t2 := T2.ty n (tyN_mem hn)
      refine .inr ⟨_, p, _, _, [.type n1, .type n2], _, rfl, upd_same, .cons (.ty _) (.cons (.ty _) .nil), (RT.of (r1.ev0 (new0 hp))).ty hn, ?_, k _ _ (EOk.after (l1.trans (hs1.after0 (new0 hp))) (.of (hs1.ev0 (new0 hp)) (.bl _)))⟩
      unfold PySem.W.kitAny
      rw [t1]
      show _ = some (tb1 n || tb2 n)
      cases hb1 : tb1 n with
      | true => rfl
      | false =>
        show PySem.W.kitAny g.K (.type n) [.type n2] = some (tb2 n)
        unfold PySem.W.kitAny
        rw [t2]
        cases hb2 : tb2 n <;> rfl
    · split at es
      · split at es
        · rename_i hmm
          cases hmm
        · cases es
      · cases es
  · exact ⟨M0, φ, τ, _, _, hs, e1, k⟩
/-! other built-ins -/
def rLenS (K : PySem.W.Frag) : List V → Hp → VK → Prop := fun xs H Q => (∃ x n, xs = [x] ∧ LenV K x H n ∧ Q (.int n) H) ∨ ((∃ a kvs, xs = [V.ref a] ∧ Rd H a (.dK kvs) ∧ Q (.int kvs.length) H) ∨ ∃ a kvs, xs = [V.ref a] ∧ Rd H a (.dT kvs) ∧ Q (.int kvs.length) H)
theorem call_lenS {X : Cx} {K : PySem.W.Frag} (hK : X.K = K := by rfl) : CallR X (.builtin "len") (rLenS K) := by
  subst hK
  refine call_len.or (CallR.or (r := fun xs H Q => ∃ a kvs, xs = [V.ref a] ∧ Rd H a (.dK kvs) ∧ Q (.int kvs.length) H) ?_ ?_)
  · intro pins s σ H xs us Q I r h
    obtain ⟨a, kvs, rfl, hd, q⟩ := h
    rw [Vals.ref1 r]
    exact d_len I hd fun t s' I' => ⟨.int kvs.length, H, I', ⟨t, rfl⟩, q⟩
  · intro pins s σ H xs us Q I r h
    obtain ⟨a, kvs, rfl, hd, q⟩ := h
    rw [Vals.ref1 r]
    obtain ⟨z, hd', ys, rel, dd⟩ := dt_rd I.hok hd
    refine call_len_dictH hd' dd (by rw [← rel.length]; rw [sizeLine_eq] at z; omega) ?_
    rw [← rel.length]
    exact ⟨.int kvs.length, H, I.tok _, ⟨_, rfl⟩, q⟩
def lenF : D → Option SV
  | .str z => if z.length ≤ sizeLine then some (.fz (.int z.length)) else none
  | .ob (.dct _ _) l => some (.fz (.int l.length))
  | d => (seqD d).map fun l => .fz (.int l.length)
theorem o_len : OpC g lenF (rLenS g.K) [] := by
  intro M H x d s Q h1 hf k
  unfold lenF at hf
  split at hf
  · cases h1.str
    split at hf
    · cases hf
      exact .inl ⟨_, _, rfl, ⟨by assumption, rfl⟩, k _ _ (.int _)⟩
    · cases hf
  · rename_i t ks l
    cases hf
    obtain ⟨a, o, xs, rfl, q, p, rs⟩ := h1.dct
    cases t with
    | false =>
      obtain ⟨kvs, rfl, e1, e2⟩ := p
      have el : kvs.length = l.length := by have := rs.length; rw [e2, List.length_map] at this; exact this
      exact .inr (.inl ⟨a, kvs, rfl, q, k _ _ (by rw [el]; exact .int _)⟩)
    | true =>
      obtain ⟨kvs, rfl, e1, e2⟩ := p
      have el : kvs.length = l.length := by have := rs.length; rw [e2, List.length_map] at this; exact this
      exact .inr (.inr ⟨a, kvs, rfl, q, k _ _ (by rw [el]; exact .int _)⟩)
  · simp only [Option.map_eq_some_iff] at hf
    obtain ⟨l, hl, rfl⟩ := hf
    obtain ⟨a, xs, rfl, hs, rs⟩ := h1.seq (seqD_or hl)
    refine .inl ⟨_, _, rfl, ?_, k _ _ (.int _)⟩
    rcases hs with hs | hs
    · exact .inl ⟨xs, hs, rs.length.symm⟩
    · exact .inr ⟨xs, hs, rs.length.symm⟩
end
end VS

/-! ## S7: more built-ins, methods of texts, slices, fields, tests -/
namespace VS
open PySem PySem.Spec PyProof.Rows L2
section
variable {X : Cx} {g : Gx} {e : Expr} {M M0 : Ad} {φ : Nat → List Addr} {τ τ' : Tau} {σ : L2.St} {H H' : Hp} {v x y : V} {d : D} {ds : List D} {s : SV} {Q : VK} {i : Int} {z : Str} {n : String} {c : Nat}
def absF : D → Option SV
  | .int i => some (.fz (.int (if i < 0 then -i else i)))
  | _ => none
theorem o_abs : OpC g absF rAbsU [] := by
  intro M H x d s Q h1 hf k
  unfold absF at hf
  split at hf
  · cases h1.int; cases hf
    exact ⟨_, rfl, k _ _ (.int _)⟩
  · cases hf
def intF : D → Option SV
  | .int i => some (.fz (.int i))
  | .bl b => some (.fz (.int (if b then 1 else 0)))
  | _ => none
theorem o_int : OpC g intF rIntU [] := by
  intro M H x d s Q h1 hf k
  unfold intF at hf
  split at hf
  · cases h1.int; cases hf
    exact .inl ⟨_, rfl, k _ _ (.int _)⟩
  · cases h1.bl; cases hf
    exact .inr ⟨_, rfl, k _ _ (.int _)⟩
  · cases hf
def boolF : D → Option SV
  | .int i => some (.fz (.bl (i != 0)))
  | .bl b => some (.fz (.bl b))
  | _ => none
theorem o_bool : OpC g boolF rBoolU [] := by
  intro M H x d s Q h1 hf k
  unfold boolF at hf
  split at hf
  · cases h1.int; cases hf
    exact .inl ⟨_, rfl, k _ _ (.bl _)⟩
  · cases h1.bl; cases hf
    exact .inr ⟨_, rfl, k _ _ (.bl _)⟩
  · cases hf
def strF : D → Option SV
  | .int i => if i.natAbs.log2 < 1920 then some (.fz (.str (toString i))) else none
  | _ => none
theorem o_str : OpC g strF rStrU [] := by
  intro M H x d s Q h1 hf k
  unfold strF at hf
  split at hf
  · cases h1.int
    split at hf
    · cases hf
      exact ⟨_, rfl, by assumption, k _ _ (.str _)⟩
    · cases hf
  · cases hf
def tupleF : D → Option SV
  | .ob .lst l => some (.fz (.tup l))
  | .fro l => some (.fz (.tup l))
  | .tup l => some (.fz (.tup l))
  | _ => none
theorem o_tuple : OpC g tupleF (rTupleU g.K) [] := by
  intro M H x d s Q h1 hf k
  unfold tupleF at hf
  split at hf
  · cases hf
    obtain ⟨a, xs, rfl, h, r⟩ := h1.lst
    exact ⟨a, xs, rfl, .inl ⟨SqL.of h, fun p hp => k _ _ (.tup hp r)⟩⟩
  · cases hf
    obtain ⟨a, xs, rfl, h, r⟩ := h1.fro
    exact ⟨a, xs, rfl, .inl ⟨h, fun p hp => k _ _ (.tup hp r)⟩⟩
  · cases hf
    obtain ⟨a, xs, rfl, h, r⟩ := h1.tup
    exact ⟨a, xs, rfl, .inr ⟨h, k _ _ (.here (.tup h r))⟩⟩
  · cases hf
def keyD : DK → Option D
  | .k (.inl i) => some (.int i)
  | .k (.inr x) => some (.str x)
  | .tup _ => none
def keysD : List DK → Option (List D)
  | [] => some []
  | k :: r => (keyD k).bind fun d => (keysD r).map (d :: ·)
theorem keys_rs : ∀ {kvs : List (Key × V)} {l : List D}, keysD (kvs.map fun p => DK.k p.1) = some l → Rs g M H (kvs.map fun kv => kV kv.1) l
  | [], _, h => by cases h; exact .nil
  | (.inl i, v) :: r, l, h => by
    have h' : ((keysD (r.map fun p => DK.k p.1)).map (D.int i :: ·)) = some l := h
    simp only [Option.map_eq_some_iff] at h'
    obtain ⟨l', h', rfl⟩ := h'
    exact .cons (.int i) (keys_rs h')
  | (.inr x, v) :: r, l, h => by
    have h' : ((keysD (r.map fun p => DK.k p.1)).map (D.str x :: ·)) = some l := h
    simp only [Option.map_eq_some_iff] at h'
    obtain ⟨l', h', rfl⟩ := h'
    exact .cons (.str x) (keys_rs h')
def signs (z : Str) : List D := z.cps.toList.map fun c => D.str ⟨#[c]⟩
theorem signs_rs (z : Str) : Rs g M H (z.cps.toList.map fun c => V.str ⟨#[c]⟩) (signs z) := by
  unfold signs
  induction z.cps.toList with
  | nil => exact .nil
  | cons c r ih => exact .cons (.str _) ih
def rListR : List V → Hp → VK → Prop := fun xs H Q => ∃ (a : Addr) (kvs : List (Key × V)), xs = [.ref a] ∧ Rd H a (.dK kvs) ∧ ∀ p, H p = none → Q (.ref p) (upd H p (.lst (kvs.map fun kv => kV kv.1)))
def rListU2 (K : PySem.W.Frag) : List V → Hp → VK → Prop := fun xs H Q => rListR xs H Q ∨ rListU K xs H Q
theorem call_listU2 {X : Cx} {K : PySem.W.Frag} (hK : X.K = K := by rfl) (hc : X.calm = true := by rfl) : CallR X (.type "list") (rListU2 K) := (call_listD hc).or (call_listU hK hc)
def listF : D → Option SV
  | .ob .lst l => some (.mu .lst (l.map .fz))
  | .fro l => some (.mu .lst (l.map .fz))
  | .tup l => some (.mu .lst (l.map .fz))
  | .str z => if z.length ≤ sizeLine then some (.mu .lst ((signs z).map .fz)) else none
  | .ob (.dct false ks) _ => if ks.length ≤ sizeLine then (keysD ks).map fun l => .mu .lst (l.map .fz) else none
  | _ => none
theorem o_list : OpC g listF (rListU2 g.K) [] := by
  intro M H x d s Q h1 hf k
  unfold listF at hf
  split at hf
  · cases hf
    obtain ⟨a, xs, rfl, h, r⟩ := h1.lst
    exact .inr (.inl ⟨a, xs, rfl, .inl (SqL.of h), fun p hp => k _ _ (.lst hp r)⟩)
  · cases hf
    obtain ⟨a, xs, rfl, h, r⟩ := h1.fro
    exact .inr (.inl ⟨a, xs, rfl, .inl h, fun p hp => k _ _ (.lst hp r)⟩)
  · cases hf
    obtain ⟨a, xs, rfl, h, r⟩ := h1.tup
    exact .inr (.inl ⟨a, xs, rfl, .inr h, fun p hp => k _ _ (.lst hp r)⟩)
  · cases h1.str
    split at hf
    · cases hf
      exact .inr (.inr (.inr ⟨_, rfl, by assumption, fun p hp => k _ _ (.lst hp (signs_rs _))⟩))
    · cases hf
  · rename_i ks l
    split at hf
    · rename_i hz
      simp only [Option.map_eq_some_iff] at hf
      obtain ⟨l', hl', rfl⟩ := hf
      obtain ⟨a, o, xs, rfl, q, p, rs⟩ := h1.dct
      obtain ⟨kvs, rfl, e1, e2⟩ := p
      subst e1
      exact .inl ⟨a, kvs, rfl, q, fun p hp => k _ _ (.lst hp (keys_rs hl'))⟩
    · cases hf
  · cases hf
/-! flat lists -/
def intsD : List D → Option (List Int)
  | [] => some []
  | .int i :: r => (intsD r).map (i :: ·)
  | _ :: _ => none
def bsD : List D → Option (List Bool)
  | [] => some []
  | .bl i :: r => (bsD r).map (i :: ·)
  | _ :: _ => none
def strsD : List D → Option (List Str)
  | [] => some []
  | .str i :: r => (strsD r).map (i :: ·)
  | _ :: _ => none
theorem Rs.ints : ∀ {vs : List V} {ds : List D} {l : List Int}, Rs g M H vs ds → intsD ds = some l → vs = l.map V.int
  | _, _, _, .nil, e => by cases e; rfl
  | _, d :: r, l, .cons p q, e => by
    cases d <;> simp only [intsD, Option.map_eq_some_iff] at e <;> try (cases e; done)
    obtain ⟨l', e, rfl⟩ := e
    cases p
    rw [q.ints e]; rfl
theorem Rs.bls : ∀ {vs : List V} {ds : List D} {l : List Bool}, Rs g M H vs ds → bsD ds = some l → vs = l.map V.bl
  | _, _, _, .nil, e => by cases e; rfl
  | _, d :: r, l, .cons p q, e => by
    cases d <;> simp only [bsD, Option.map_eq_some_iff] at e <;> try (cases e; done)
    obtain ⟨l', e, rfl⟩ := e
    cases p
    rw [q.bls e]; rfl
theorem Rs.strs : ∀ {vs : List V} {ds : List D} {l : List Str}, Rs g M H vs ds → strsD ds = some l → vs = l.map V.str
  | _, _, _, .nil, e => by cases e; rfl
  | _, d :: r, l, .cons p q, e => by
    cases d <;> simp only [strsD, Option.map_eq_some_iff] at e <;> try (cases e; done)
    obtain ⟨l', e, rfl⟩ := e
    cases p
    rw [q.strs e]; rfl
theorem rs_ints (l : List Int) : Rs g M H (l.map V.int) (l.map D.int) := by
  induction l with
  | nil => exact .nil
  | cons c r ih => exact .cons (.int _) ih
theorem rs_strs (l : List Str) : Rs g M H (l.map V.str) (l.map D.str) := by
  induction l with
  | nil => exact .nil
  | cons c r ih => exact .cons (.str _) ih
theorem strsD_map (l : List Str) : strsD (l.map D.str) = some l := by
  induction l with
  | nil => rfl
  | cons c r ih => simp only [List.map_cons, strsD, ih, Option.map_some]
theorem intsD_map (l : List Int) : intsD (l.map D.int) = some l := by
  induction l with
  | nil => rfl
  | cons c r ih => simp only [List.map_cons, intsD, ih, Option.map_some]
theorem bsD_map (l : List Bool) : bsD (l.map D.bl) = some l := by
  induction l with
  | nil => rfl
  | cons c r ih => simp only [List.map_cons, bsD, ih, Option.map_some]
def lstD : D → Option (List D)
  | .ob .lst l => some l
  | .fro l => some l
  | _ => none
theorem RT.lstD {l : List D} (h : RT g M H v d) (e : lstD d = some l) : ∃ a xs, v = .ref a ∧ SqL g.K H a xs ∧ Rs g M H xs l := by
  unfold VS.lstD at e
  split at e <;> cases e
  · obtain ⟨a, xs, rfl, h, r⟩ := h.lst
    exact ⟨a, xs, rfl, SqL.of h, r⟩
  · exact h.fro
def sumF (d : D) : Option SV := (lstD d).bind fun l => (intsD l).map fun ns => .fz (.int ns.sum)
theorem o_sum : OpC g sumF (rSum g.K) [] := by
  intro M H x d s Q h1 hf k
  simp only [sumF, Option.bind_eq_some_iff, Option.map_eq_some_iff] at hf
  obtain ⟨l, hl, ns, hn, rfl⟩ := hf
  obtain ⟨a, xs, rfl, hs, rs⟩ := h1.lstD hl
  rw [rs.ints hn] at hs
  exact ⟨a, ns, rfl, hs, k _ _ (.int _)⟩
def allF (d : D) : Option SV := (lstD d).bind fun l => (bsD l).map fun ns => .fz (.bl (ns.all id))
theorem o_all : OpC g allF (rAll g.K) [] := by
  intro M H x d s Q h1 hf k
  simp only [allF, Option.bind_eq_some_iff, Option.map_eq_some_iff] at hf
  obtain ⟨l, hl, ns, hn, rfl⟩ := hf
  obtain ⟨a, xs, rfl, hs, rs⟩ := h1.lstD hl
  rw [rs.bls hn] at hs
  exact ⟨a, ns, rfl, hs, k _ _ (.bl _)⟩
def anyF (d : D) : Option SV := (lstD d).bind fun l => (bsD l).map fun ns => .fz (.bl (ns.any id))
theorem o_any : OpC g anyF (rAny g.K) [] := by
  intro M H x d s Q h1 hf k
  simp only [anyF, Option.bind_eq_some_iff, Option.map_eq_some_iff] at hf
  obtain ⟨l, hl, ns, hn, rfl⟩ := hf
  obtain ⟨a, xs, rfl, hs, rs⟩ := h1.lstD hl
  rw [rs.bls hn] at hs
  exact ⟨a, ns, rfl, hs, k _ _ (.bl _)⟩
/-- by insertion: texts -/
def insS (x : Str) : List Str → List Str
  | [] => [x]
  | y :: r => if x.cps.toList ≤ y.cps.toList then x :: y :: r else y :: insS x r
def sortS : List Str → List Str
  | [] => []
  | x :: r => insS x (sortS r)
theorem insS_perm (x : Str) : ∀ l : List Str, (insS x l).Perm (x :: l)
  | [] => .refl _
  | y :: r => by
    unfold insS
    split
    · exact .refl _
    · exact ((insS_perm x r).cons y).trans (.swap x y r)
theorem sortS_perm : ∀ l : List Str, (sortS l).Perm l
  | [] => .refl _
  | x :: r => (insS_perm x _).trans ((sortS_perm r).cons x)
theorem le_total' (a b : List Nat) (h : ¬ a ≤ b) : b ≤ a := by
  rcases List.le_total a b with q | q
  · exact absurd q h
  · exact q
theorem insS_pw (x : Str) : ∀ {l : List Str}, (l.Pairwise fun a b => a.cps.toList ≤ b.cps.toList) → (insS x l).Pairwise fun a b => a.cps.toList ≤ b.cps.toList
  | [], _ => by simp [insS]
  | y :: r, h => by
    obtain ⟨h1, h2⟩ := List.pairwise_cons.mp h
    unfold insS
    split
    · rename_i hle
      refine List.pairwise_cons.mpr ⟨fun z hz => ?_, h⟩
      rcases List.mem_cons.mp hz with e | e
      · subst e; exact hle
      · exact List.le_trans hle (h1 z e)
    · rename_i hle
      refine List.pairwise_cons.mpr ⟨fun z hz => ?_, insS_pw x h2⟩
      rcases List.mem_cons.mp ((insS_perm x r).mem_iff.mp hz) with e | e
      · subst e; exact le_total' _ _ hle
      · exact h1 z e
theorem sortS_pw : ∀ l : List Str, (sortS l).Pairwise fun a b => a.cps.toList ≤ b.cps.toList
  | [] => .nil
  | x :: r => insS_pw x (sortS_pw r)
theorem sortS_eq {l m : List Str} (hp : m.Perm l) (hs : PyProof.Rows.sortedS m = true) : m = sortS l :=
  List.Perm.eq_of_pairwise (fun a b _ _ h1 h2 => by
    have := List.le_antisymm h1 h2
    cases a; cases b
    congr 1
    exact Array.toList_inj.mp this) (sorted_pw hs) (sortS_pw l) (hp.trans (sortS_perm l).symm)
def sortedF (d : D) : Option SV := (lstD d).bind fun l => (strsD l).map fun ns => .mu .lst (((sortS ns).map D.str).map .fz)
theorem o_sorted : OpC g sortedF (rSortedU g.K) [] := by
  intro M H x d s Q h1 hf k
  simp only [sortedF, Option.bind_eq_some_iff, Option.map_eq_some_iff] at hf
  obtain ⟨l, hl, ns, hn, rfl⟩ := hf
  obtain ⟨a, xs, rfl, hs, rs⟩ := h1.lstD hl
  rw [rs.strs hn] at hs
  refine ⟨a, ns, rfl, hs, fun p ys hp pm so => ?_⟩
  rw [sortS_eq pm so]
  exact k _ _ (.lst hp (rs_strs _))
/-! ### methods of texts -/
def OpM (g : Gx) (f : D → D → Option SV) (r : V → List V → Hp → VK → Prop) : Prop := ∀ {M : Ad} {H : Hp} {x y : V} {d e : D} {s : SV} {Q : VK}, RT g M H x d → RT g M H y e → f d e = some s → (∀ v H', POk g M H s v H' → Q v H') → r x [y] H Q
def strM (f : D → D → Option SV) : D → D → Option SV
  | .str z, e => f (.str z) e
  | _, _ => none
theorem s_bm {r : V → List V → Hp → VK → Prop} {f : D → D → Option SV} {a b : CM D} (ho : OpM g f r) (h : PE X e (tBM g.K "str" r (rdD g a) (tCons (rdD g b) tNil))) (hf : ∀ d e s, f d e = some s → ∃ z, d = .str z) : PE X e (rdE g (bnd a fun x => match x with
    | .str _ => bnd b fun y => ret (f x y)
    | _ => fun _ => none)) := pe_le h fun σ H Q q => by
  obtain ⟨M0, φ, τ, rs, τ', hs, hm, k⟩ := q
  rcases bnd_some hm with ⟨x, τ1, e1, e2⟩ | ⟨c, fs, l, e1, rfl⟩
  · refine ⟨M0, φ, τ, _, _, hs, e1, fun v1 H1 q1 => ?_⟩
    obtain ⟨φ1, hs1, r1, l1⟩ := q1
    split at e2
    · rename_i z
      have hv : v1 = .str z := (RT.of r1).str
      refine ⟨by subst hv; exact rfl, ?_⟩
      rcases bnd_some e2 with ⟨y, τ2, e3, e4⟩ | ⟨c, fs, l, e3, rfl⟩
      · refine ⟨M0, φ1, τ1, _, _, hs1, e3, fun v2 H2 q2 => ?_⟩
        obtain ⟨φ2, hs2, r2, l2⟩ := q2
        obtain ⟨s, es, rfl, rfl⟩ := ret_some e4
        exact ho (.of ((le_mof l2).r r1)) (.of r2) es fun v3 H3 p => k v3 H3 (EOk.after (l1.trans l2) (.of hs2 p))
      · exact ⟨M0, φ1, τ1, _, _, hs1, e3, fun d H' q => k d H' (q.after l1)⟩
    · cases e2
  · exact ⟨M0, φ, τ, _, _, hs, e1, k⟩
def mBm (f : D → D → Option SV) (a b : CM D) : CM SV := bnd a fun x => match x with
    | .str _ => bnd b fun y => ret (f x y)
    | _ => fun _ => none
theorem s_bmS {r : V → List V → Hp → VK → Prop} {f : D → D → Option SV} {a b : CM D} (ho : OpM g f r) (hf : ∀ d e s, f d e = some s → ∃ z, d = .str z) (h : PE X e (tBM g.K "str" r (rdD g a) (tCons (rdD g b) tNil))) : PE X e (rdE g (mBm f a b)) := s_bm ho h hf
def findF : D → D → Option SV
  | .str a, .str b => some (.fz (.int (Txt.find a b)))
  | _, _ => none
def countF : D → D → Option SV
  | .str a, .str b => some (.fz (.int (Txt.count a b)))
  | _, _ => none
def startsF : D → D → Option SV
  | .str a, .str b => some (.fz (.bl (Txt.startswith a b)))
  | _, _ => none
theorem findF_str (d e : D) (s : SV) (h : findF d e = some s) : ∃ z, d = .str z := by
  unfold findF at h; split at h
  · exact ⟨_, rfl⟩
  · cases h
theorem countF_str (d e : D) (s : SV) (h : countF d e = some s) : ∃ z, d = .str z := by
  unfold countF at h; split at h
  · exact ⟨_, rfl⟩
  · cases h
theorem startsF_str (d e : D) (s : SV) (h : startsF d e = some s) : ∃ z, d = .str z := by
  unfold startsF at h; split at h
  · exact ⟨_, rfl⟩
  · cases h
theorem o_find : OpM g findF rFindU := by
  intro M H x y d e s Q h1 h2 hf k
  unfold findF at hf
  split at hf
  · cases h1.str; cases h2.str; cases hf
    exact ⟨_, _, rfl, rfl, k _ _ (.int _)⟩
  · cases hf
theorem o_count : OpM g countF rCountU := by
  intro M H x y d e s Q h1 h2 hf k
  unfold countF at hf
  split at hf
  · cases h1.str; cases h2.str; cases hf
    exact ⟨_, _, rfl, rfl, k _ _ (.int _)⟩
  · cases hf
theorem o_starts : OpM g startsF rStartU := by
  intro M H x y d e s Q h1 h2 hf k
  unfold startsF at hf
  split at hf
  · cases h1.str; cases h2.str; cases hf
    exact ⟨_, _, rfl, rfl, k _ _ (.bl _)⟩
  · cases hf
def upperF : D → Option SV
  | .str a => if a.length ≤ 5592405 then some (.fz (.str (Txt.upper a))) else none
  | _ => none
theorem s_upper {a : CM D} (h : PE X e (tBM0 g.K "str" rUpperU (rdD g a))) : PE X e (rdE g (mOp1 upperF a)) := pe_le h fun σ H Q q => by
  obtain ⟨M0, φ, τ, rs, τ', hs, hm, k⟩ := q
  rcases bnd_some hm with ⟨x, τ1, e1, e2⟩ | ⟨c, fs, l, e1, rfl⟩
  · refine ⟨M0, φ, τ, _, _, hs, e1, fun v1 H1 q1 => ?_⟩
    obtain ⟨φ1, hs1, r1, l1⟩ := q1
    obtain ⟨s, es, rfl, rfl⟩ := ret_some e2
    unfold upperF at es
    split at es
    · cases (RT.of r1).str
      split at es
      · cases es
        exact ⟨rfl, _, rfl, rfl, by assumption, k _ _ (EOk.after l1 (.of hs1 (.str _)))⟩
      · cases es
    · cases es
  · exact ⟨M0, φ, τ, _, _, hs, e1, k⟩
def joinF : D → D → Option SV
  | .str a, d => (seqD d).bind fun l => (strsD l).bind fun ys => if (ys.map (·.length)).sum + ys.length * a.length ≤ 16777216 then some (.fz (.str (Txt.join a ys))) else none
  | _, _ => none
def mJoin (a b : CM D) : CM SV := bnd a fun x => match x with
    | .str _ => bnd b fun y => ret (joinF x y)
    | _ => fun _ => none
theorem s_join {a b : CM D} (h : PE X e (tM1 (rJoinU g.K) (rdD g a) (rdD g b))) : PE X e (rdE g (mJoin a b)) := pe_le h fun σ H Q q => by
  obtain ⟨M0, φ, τ, rs, τ', hs, hm, k⟩ := q
  rcases bnd_some hm with ⟨x, τ1, e1, e2⟩ | ⟨c, fs, l, e1, rfl⟩
  · refine ⟨M0, φ, τ, _, _, hs, e1, fun v1 H1 q1 => ?_⟩
    obtain ⟨φ1, hs1, r1, l1⟩ := q1
    split at e2
    · rename_i z
      cases (RT.of r1).str
      refine ⟨⟨z, rfl⟩, ?_⟩
      rcases bnd_some e2 with ⟨y, τ2, e3, e4⟩ | ⟨c, fs, l, e3, rfl⟩
      · refine ⟨M0, φ1, τ1, _, _, hs1, e3, fun v2 H2 q2 => ?_⟩
        obtain ⟨φ2, hs2, r2, l2⟩ := q2
        obtain ⟨s, es, rfl, rfl⟩ := ret_some e4
        simp only [joinF, Option.bind_eq_some_iff] at es
        obtain ⟨l, hl, ys, hy, es⟩ := es
        obtain ⟨p, xs, rfl, hq, r3⟩ := (RT.of r2).seq (seqD_or hl)
        rw [r3.strs hy] at hq
        split at es
        · cases es
          exact ⟨z, p, ys, rfl, rfl, hq, by assumption, k _ _ (EOk.after (l1.trans l2) (.of hs2 (.str _)))⟩
        · cases es
      · exact ⟨M0, φ1, τ1, _, _, hs1, e3, fun d H' q => k d H' (q.after l1)⟩
    · cases e2
  · exact ⟨M0, φ, τ, _, _, hs, e1, k⟩
end
end VS

/-! ## S8: slices, fields, items of own objects, tests -/
namespace VS
open PySem PySem.Spec PyProof.Rows L2
section
variable {X : Cx} {g : Gx} {e : Expr} {M M0 : Ad} {φ : Nat → List Addr} {τ τ' : Tau} {σ : L2.St} {H H' : Hp} {v x y : V} {d : D} {ds : List D} {s : SV} {Q : VK} {i : Int} {z : Str} {n : String} {c : Nat}
/-! ### slices -/
def rdO (g : Gx) (m : CM (Option Int)) : TO := fun σ H Q => ∃ M0 φ τ r τ', Sim g M0 φ τ σ H ∧ m τ = some (r, τ') ∧
  match r with
  | .ok b => ∀ H', TOk g M0 φ H σ τ' H' → Q b H'
  | .ex c fs l => ∀ d H', XOk g M0 φ H σ fs l τ' d H' → g.ex σ (.ref (g.cl c)) d H'
def oNone : CM (Option Int) := ret (some none)
def oSome (a : CM D) : CM (Option Int) := bnd a fun x => match x with
  | .int i => ret (some (some i))
  | _ => fun _ => none
theorem o_none (σ : L2.St) (H : Hp) (Q : Option Int → Hp → Prop) (h : rdO g oNone σ H Q) : tNoPart σ H Q := by
  obtain ⟨M0, φ, τ, r, τ', hs, hm, k⟩ := h
  obtain ⟨x, ex, rfl, rfl⟩ := ret_some hm
  cases ex
  exact k H ⟨φ, hs, .refl⟩
theorem o_some {a : CM D} (σ : L2.St) (H : Hp) (Q : Option Int → Hp → Prop) (h : rdO g (oSome a) σ H Q) : tPart (rdD g a) σ H Q := by
  obtain ⟨M0, φ, τ, r, τ', hs, hm, k⟩ := h
  rcases bnd_some hm with ⟨x, τ1, e1, e2⟩ | ⟨c, fs, l, e1, rfl⟩
  · refine ⟨M0, φ, τ, _, _, hs, e1, fun v1 H1 q1 => ?_⟩
    obtain ⟨φ1, hs1, r1, l1⟩ := q1
    split at e2
    · obtain ⟨s, es, rfl, rfl⟩ := ret_some e2
      cases es
      exact ⟨_, (RT.of r1).int, k H1 ⟨φ1, hs1, l1⟩⟩
    · cases e2
  · exact ⟨M0, φ, τ, _, _, hs, e1, k⟩
def cutD (xs : List D) (lo hi : Option Int) : List D := (xs.drop (HT.sIx xs.length 0 lo)).take (HT.sIx xs.length xs.length hi - HT.sIx xs.length 0 lo)
theorem Rs.take {xs : List V} (r : Rs g M H xs ds) (n : Nat) : Rs g M H (xs.take n) (ds.take n) := by
  induction n generalizing xs ds with
  | zero => exact .nil
  | succ n ih => cases r with
    | nil => exact .nil
    | cons p q => exact .cons p (ih q)
theorem Rs.drop {xs : List V} (r : Rs g M H xs ds) (n : Nat) : Rs g M H (xs.drop n) (ds.drop n) := by
  induction n generalizing xs ds with
  | zero => exact r
  | succ n ih => cases r with
    | nil => exact .nil
    | cons p q => exact ih q
theorem Rs.cut {xs : List V} (r : Rs g M H xs ds) (lo hi : Option Int) : Rs g M H (cutV xs lo hi) (cutD ds lo hi) := by
  unfold cutV cutD
  rw [r.length]
  exact (r.drop _).take _
def sliceF (lo hi : Option Int) : D → Option SV
  | .str z => if z.length ≤ sizeLine then some (.fz (.str (cutS z lo hi))) else none
  | .ob .lst l => some (.mu .lst ((cutD l lo hi).map .fz))
  | .fro l => some (.mu .lst ((cutD l lo hi).map .fz))
  | .tup l => some (.fz (.tup (cutD l lo hi)))
  | _ => none
theorem o_slice {lo hi : Option Int} (h1 : RT g M H x d) (hf : sliceF lo hi d = some s) (k : ∀ v H', POk g M H s v H' → Q v H') : rSlU g.K x lo hi H Q := by
  unfold sliceF at hf
  split at hf
  · cases h1.str
    split at hf
    · cases hf
      exact .inr (.inr ⟨_, rfl, by assumption, k _ _ (.str _)⟩)
    · cases hf
  · cases hf
    obtain ⟨a, xs, rfl, h, r⟩ := h1.lst
    exact .inl ⟨a, xs, rfl, SqL.of h, fun p hp => k _ _ (.lst hp (r.cut lo hi))⟩
  · cases hf
    obtain ⟨a, xs, rfl, h, r⟩ := h1.fro
    exact .inl ⟨a, xs, rfl, h, fun p hp => k _ _ (.lst hp (r.cut lo hi))⟩
  · cases hf
    obtain ⟨a, xs, rfl, h, r⟩ := h1.tup
    refine .inr (.inl ⟨a, xs, rfl, h, fun q => k _ _ (.here (.tup h ?_)), fun _ p hp => k _ _ (.tup hp (r.cut lo hi))⟩)
    have e1 : cutV xs lo hi = xs := by unfold cutV; rw [q.1, q.2]; simp
    have := r.cut lo hi
    rw [e1] at this
    exact this
  · cases hf
def mSlice (a : CM D) (lo hi : CM (Option Int)) : CM SV := bnd a fun x => bnd lo fun l => bnd hi fun u => ret (sliceF l u x)
theorem s_slice {a : CM D} {lo hi : CM (Option Int)} {tl th : TO} (hl : ∀ σ H Q, rdO g lo σ H Q → tl σ H Q) (hh : ∀ σ H Q, rdO g hi σ H Q → th σ H Q) (h : PE X e (tSl (rSlU g.K) (rdD g a) tl th)) : PE X e (rdE g (mSlice a lo hi)) := pe_le h fun σ H Q q => by
  obtain ⟨M0, φ, τ, rs, τ', hs, hm, k⟩ := q
  rcases bnd_some hm with ⟨x, τ1, e1, e2⟩ | ⟨c, fs, l, e1, rfl⟩
  · refine ⟨M0, φ, τ, _, _, hs, e1, fun v1 H1 q1 => hl _ _ _ ?_⟩
    obtain ⟨φ1, hs1, r1, l1⟩ := q1
    rcases bnd_some e2 with ⟨y, τ2, e3, e4⟩ | ⟨c, fs, l, e3, rfl⟩
    · refine ⟨M0, φ1, τ1, _, _, hs1, e3, fun H2 q2 => hh _ _ _ ?_⟩
      obtain ⟨φ2, hs2, l2⟩ := q2
      rcases bnd_some e4 with ⟨w, τ3, e5, e6⟩ | ⟨c, fs, l, e5, rfl⟩
      · refine ⟨M0, φ2, τ2, _, _, hs2, e5, fun H3 q3 => ?_⟩
        obtain ⟨φ3, hs3, l3⟩ := q3
        obtain ⟨s, es, rfl, rfl⟩ := ret_some e6
        exact o_slice (.of ((le_mof l3).r ((le_mof l2).r r1))) es fun v4 H4 p => k v4 H4 (EOk.after ((l1.trans l2).trans l3) (.of hs3 p))
      · exact ⟨M0, φ2, τ2, _, _, hs2, e5, fun d H' q => k d H' (q.after (l1.trans l2))⟩
    · exact ⟨M0, φ1, τ1, _, _, hs1, e3, fun d H' q => k d H' (q.after l1)⟩
  · exact ⟨M0, φ, τ, _, _, hs, e1, k⟩
/-! ### fields, items of own objects -/
def fLook {α : Type} : List Str → List α → Str → Option α
  | f :: fs, d :: ds, q => if f = q then some d else fLook fs ds q
  | _, _, _ => none
theorem fLook_ix {α : Type} {q : Str} {a : α} : ∀ {fs : List Str} {l : List α}, fLook fs l q = some a → ∃ i : Nat, fs[i]? = some q ∧ l[i]? = some a
  | [], _, h => by cases h
  | _ :: _, [], h => by cases h
  | f :: fs, d :: ds, h => by
    unfold fLook at h
    split at h
    · rename_i e
      cases h
      exact ⟨0, by rw [e]; rfl, rfl⟩
    · obtain ⟨i, h1, h2⟩ := fLook_ix h
      exact ⟨i + 1, h1, h2⟩
def bFld (cs : List Nat) (f : Str) (a : PB) : PB := fun τ => match a τ with
  | some (.fz (.ob (.ins c fs) l)) => if c ∈ cs then (fLook fs l f).map .fz else none
  | some (.mu (.ins c fs) l) => if c ∈ cs then fLook fs l f else none
  | _ => none
theorem Ows.get {vs : List V} {l : List SV} {F : List Addr} {i : Nat} (h : Ows g M H vs l F) (e : l[i]? = some s) : ∃ v F', vs[i]? = some v ∧ Ow g M H v s F' := by
  induction i generalizing vs l F with
  | zero => cases h with
    | nil => cases e
    | cons p q => cases e; exact ⟨_, _, rfl, p⟩
  | succ i ih => cases h with
    | nil => cases e
    | cons p q => exact ih q e
theorem p_fld {cs : List Nat} {f : Str} {a : PB} (hc : ∀ c ∈ cs, Cls g.K (g.cl c) ∧ NoAttr g.K (g.cl c) f) (h : PE X e (tFld g.K (rdB g a) f)) : PE X e (rdB g (bFld cs f a)) := pe_le h fun σ H Q q => by
  obtain ⟨M0, φ, τ, s, hs, hm, k⟩ := q
  unfold bFld at hm
  split at hm
  · rename_i c fs l ha
    split at hm
    · rename_i hcc
      simp only [Option.map_eq_some_iff] at hm
      obtain ⟨d, hd, rfl⟩ := hm
      obtain ⟨t1, t2⟩ := hc c hcc
      refine ⟨M0, φ, τ, _, hs, ha, fun v1 H1 e1 w1 => ?_⟩
      obtain ⟨F1, w1⟩ := w1
      obtain ⟨p, dx, fsr, xs, rfl, hp, hl, _, hq, rs⟩ := (RT.of (ow_fz w1).1).ins
      obtain ⟨i, i1, i2⟩ := fLook_ix hd
      obtain ⟨v, i3, r⟩ := rs.get i2
      exact ⟨p, _, dx, fsr, v, rfl, hp, t1, t2, hq i f v i1 i3, k v H1 e1 ⟨_, .fz r⟩⟩
    · cases hm
  · rename_i c fs l ha
    split at hm
    · rename_i hcc
      obtain ⟨t1, t2⟩ := hc c hcc
      refine ⟨M0, φ, τ, _, hs, ha, fun v1 H1 e1 w1 => ?_⟩
      obtain ⟨F1, w1⟩ := w1
      obtain ⟨i, i1, i2⟩ := fLook_ix hm
      cases w1 with
      | mu hp ho ws =>
        obtain ⟨v, F', i3, w⟩ := ws.get i2
        obtain ⟨dx, fsr, rfl, hl, _, hq⟩ := ho.r (hid := g.hid)
        exact ⟨_, _, dx, fsr, v, rfl, hp, t1, t2, hq i f v i1 i3, k v H1 e1 ⟨_, w⟩⟩
    · cases hm
  · cases hm
/-- a field of data that a computation tells -/
def mFld (cs : List Nat) (f : Str) (a : CM D) : CM D := bnd a fun x => match x with
  | .ob (.ins c fs) l => ret (if c ∈ cs then fLook fs l f else none)
  | _ => fun _ => none
theorem s_fld {cs : List Nat} {f : Str} {a : CM D} (hc : ∀ c ∈ cs, Cls g.K (g.cl c) ∧ NoAttr g.K (g.cl c) f) (h : PE X e (tFld g.K (rdD g a) f)) : PE X e (rdD g (mFld cs f a)) := pe_le h fun σ H Q q => by
  obtain ⟨M0, φ, τ, rs, τ', hs, hm, k⟩ := q
  rcases bnd_some hm with ⟨x, τ1, e1, e2⟩ | ⟨c, fs, l, e1, rfl⟩
  · refine ⟨M0, φ, τ, _, _, hs, e1, fun v1 H1 q1 => ?_⟩
    obtain ⟨φ1, hs1, r1, l1⟩ := q1
    split at e2
    · rename_i c fs l
      obtain ⟨d, es, rfl, rfl⟩ := ret_some e2
      split at es
      · rename_i hcc
        obtain ⟨t1, t2⟩ := hc c hcc
        obtain ⟨p, dx, fsr, xs, rfl, hp, hl, _, hq, rs⟩ := (RT.of r1).ins
        obtain ⟨i, i1, i2⟩ := fLook_ix es
        obtain ⟨v, i3, r⟩ := rs.get i2
        exact ⟨p, _, dx, fsr, v, rfl, hp, t1, t2, hq i f v i1 i3, k v H1 ⟨φ1, hs1, r, l1⟩⟩
      · cases es
    · cases e2
  · exact ⟨M0, φ, τ, _, _, hs, e1, k⟩
def ixS (s t : SV) : Option SV := match s, t with
  | .mu .lst l, .fz (.int i) => atI l i
  | a, b => (a.view).bind fun x => (b.view).bind fun y => ixF x y
def bIx (a b : PB) : PB := fun τ => (a τ).bind fun x => (b τ).bind fun y => ixS x y
theorem Ows.atI {xs : List V} {l : List SV} {F : List Addr} (r : Ows g M H xs l F) (h : L2.atI l i = some s) : ∃ v F', L2.atI xs i = some v ∧ Ow g M H v s F' := by
  unfold L2.atI at *
  rw [r.length]
  simp only [Option.bind_eq_some_iff] at *
  obtain ⟨j, hj, hd⟩ := h
  obtain ⟨v, F', h1, h2⟩ := r.get hd
  exact ⟨v, F', ⟨j, hj, h1⟩, h2⟩
theorem p_ix {a b : PB} (h : PE X e (tOp (rIxS2 g.K) (rdB g a) (rdB g b))) : PE X e (rdB g (bIx a b)) := pe_le h fun σ H Q q => by
  obtain ⟨M0, φ, τ, s, hs, hm, k⟩ := q
  simp only [bIx, Option.bind_eq_some_iff] at hm
  obtain ⟨x, hx, y, hy, es⟩ := hm
  refine ⟨M0, φ, τ, _, hs, hx, fun v1 H1 e1 w1 => ?_⟩
  obtain ⟨F1, w1⟩ := w1
  refine ⟨M0, φ, τ, _, hs.ev0 e1, hy, fun v2 H2 e2 w2 => ?_⟩
  obtain ⟨F2, w2⟩ := w2
  have w1 := w1.ev0 e2
  unfold ixS at es
  split at es
  · cases (RT.of (ow_fz w2).1).int
    cases w1 with
    | mu hp ho ws =>
      cases ho
      obtain ⟨v, F', h1, h2⟩ := ws.atI es
      exact .inl (.inl ⟨_, _, _, v, rfl, rfl, SqL.of hp, h1, k v H2 (e1.trans e2) ⟨_, h2⟩⟩)
  · simp only [Option.bind_eq_some_iff] at es
    obtain ⟨x', vx, y', vy, es⟩ := es
    refine o_ix (w1.rt vx) (w2.rt vy) es fun v3 H3 p => ?_
    obtain ⟨e3, w3⟩ := p.lent ((hs.ev0 e1).ev0 e2)
    exact k v3 H3 ((e1.trans e2).trans e3) w3
def mIx (a b : CM D) : CM SV := mOp2 ixF a b
/-! ### tests -/
def cB (a : CM D) : CM Bool := bnd a fun x => match x with
  | .bl b => ret (some b)
  | _ => fun _ => none
theorem t_val {a : CM D} (h : PT X e (tB (rdD g a))) : PT X e (rdT g (cB a)) := pt_le h fun σ H Q q => by
  obtain ⟨M0, φ, τ, rs, τ', hs, hm, k⟩ := q
  rcases bnd_some hm with ⟨x, τ1, e1, e2⟩ | ⟨c, fs, l, e1, rfl⟩
  · refine ⟨M0, φ, τ, _, _, hs, e1, fun v1 H1 q1 => ?_⟩
    obtain ⟨φ1, hs1, r1, l1⟩ := q1
    split at e2
    · obtain ⟨b, es, rfl, rfl⟩ := ret_some e2
      cases es
      exact ⟨_, (RT.of r1).bl, k H1 ⟨φ1, hs1, l1⟩⟩
    · cases e2
  · exact ⟨M0, φ, τ, _, _, hs, e1, k⟩
def cNot (a : CM Bool) : CM Bool := bnd a fun b => ret (some (!b))
def cAnd (a b : CM Bool) : CM Bool := bnd a fun x => if x = true then b else ret (some false)
def cOr (a b : CM Bool) : CM Bool := bnd a fun x => if x = true then ret (some true) else b
theorem t_not {a : CM Bool} (h : PT X e (tNot (rdT g a))) : PT X e (rdT g (cNot a)) := pt_le h fun σ H Q q => by
  obtain ⟨M0, φ, τ, rs, τ', hs, hm, k⟩ := q
  rcases bnd_some hm with ⟨x, τ1, e1, e2⟩ | ⟨c, fs, l, e1, rfl⟩
  · refine ⟨M0, φ, τ, _, _, hs, e1, fun H1 q1 => ?_⟩
    obtain ⟨b, es, rfl, rfl⟩ := ret_some e2
    cases es
    exact k H1 q1
  · exact ⟨M0, φ, τ, _, _, hs, e1, k⟩
theorem le_and {a b : CM Bool} (σ : L2.St) (H : Hp) (Q : Bool → Hp → Prop) (q : rdT g (cAnd a b) σ H Q) : tAnd (rdT g a) (rdT g b) σ H Q := by
  obtain ⟨M0, φ, τ, rs, τ', hs, hm, k⟩ := q
  rcases bnd_some hm with ⟨x, τ1, e1, e2⟩ | ⟨c, fs, l, e1, rfl⟩
  · refine ⟨M0, φ, τ, _, _, hs, e1, fun H1 q1 => ?_⟩
    obtain ⟨φ1, hs1, l1⟩ := q1
    cases x with
    | true =>
      rw [if_pos rfl] at e2
      rw [if_pos rfl]
      refine ⟨M0, φ1, τ1, _, _, hs1, e2, ?_⟩
      cases rs with
      | ok b => exact fun H' q => k H' (q.after l1)
      | ex c fs l => exact fun d H' q => k d H' (q.after l1)
    | false =>
      rw [if_neg (by decide)] at e2
      rw [if_neg (by decide)]
      obtain ⟨b, es, rfl, rfl⟩ := ret_some e2
      cases es
      exact k H1 ⟨φ1, hs1, l1⟩
  · exact ⟨M0, φ, τ, _, _, hs, e1, k⟩
theorem le_or {a b : CM Bool} (σ : L2.St) (H : Hp) (Q : Bool → Hp → Prop) (q : rdT g (cOr a b) σ H Q) : tOr (rdT g a) (rdT g b) σ H Q := by
  obtain ⟨M0, φ, τ, rs, τ', hs, hm, k⟩ := q
  rcases bnd_some hm with ⟨x, τ1, e1, e2⟩ | ⟨c, fs, l, e1, rfl⟩
  · refine ⟨M0, φ, τ, _, _, hs, e1, fun H1 q1 => ?_⟩
    obtain ⟨φ1, hs1, l1⟩ := q1
    cases x with
    | true =>
      rw [if_pos rfl] at e2
      rw [if_pos rfl]
      obtain ⟨b, es, rfl, rfl⟩ := ret_some e2
      cases es
      exact k H1 ⟨φ1, hs1, l1⟩
    | false =>
      rw [if_neg (by decide)] at e2
      rw [if_neg (by decide)]
      refine ⟨M0, φ1, τ1, _, _, hs1, e2, ?_⟩
      cases rs with
      | ok b => exact fun H' q => k H' (q.after l1)
      | ex c fs l => exact fun d H' q => k d H' (q.after l1)
  · exact ⟨M0, φ, τ, _, _, hs, e1, k⟩
theorem w_and {a b : CM Bool} (h : PW X e (tAnd (rdT g a) (rdT g b))) : PW X e (rdT g (cAnd a b)) := pw_le h le_and
theorem w_or {a b : CM Bool} (h : PW X e (tOr (rdT g a) (rdT g b))) : PW X e (rdT g (cOr a b)) := pw_le h le_or
/-! as values: a bool, and .. -/
def mAnd (a b : CM D) : CM D := bnd a fun x => match x with
  | .bl true => b
  | .bl false => ret (some (.bl false))
  | _ => fun _ => none
def mOr (a b : CM D) : CM D := bnd a fun x => match x with
  | .bl true => ret (some (.bl true))
  | .bl false => b
  | _ => fun _ => none
def mNot (a : CM D) : CM D := bnd a fun x => match x with
  | .bl b => ret (some (.bl (!b)))
  | _ => fun _ => none
theorem s_not {a : CM D} (h : PE X e (tNotV (rdD g a))) : PE X e (rdD g (mNot a)) := pe_le h fun σ H Q q => by
  obtain ⟨M0, φ, τ, rs, τ', hs, hm, k⟩ := q
  rcases bnd_some hm with ⟨x, τ1, e1, e2⟩ | ⟨c, fs, l, e1, rfl⟩
  · refine ⟨M0, φ, τ, _, _, hs, e1, fun v1 H1 q1 => ?_⟩
    obtain ⟨φ1, hs1, r1, l1⟩ := q1
    split at e2
    · obtain ⟨b, es, rfl, rfl⟩ := ret_some e2
      cases es
      exact ⟨_, (RT.of r1).bl, k _ H1 ⟨φ1, hs1, .bl _, l1⟩⟩
    · cases e2
  · exact ⟨M0, φ, τ, _, _, hs, e1, k⟩
theorem s_and {a b : CM D} (h : PE X e (tAndV (rdD g a) (rdD g b))) : PE X e (rdD g (mAnd a b)) := pe_le h fun σ H Q q => by
  obtain ⟨M0, φ, τ, rs, τ', hs, hm, k⟩ := q
  rcases bnd_some hm with ⟨x, τ1, e1, e2⟩ | ⟨c, fs, l, e1, rfl⟩
  · refine ⟨M0, φ, τ, _, _, hs, e1, fun v1 H1 q1 => ?_⟩
    obtain ⟨φ1, hs1, r1, l1⟩ := q1
    split at e2
    · refine ⟨_, (RT.of r1).bl, ?_⟩
      rw [if_pos rfl]
      refine ⟨M0, φ1, τ1, _, _, hs1, e2, ?_⟩
      cases rs with
      | ok b => exact fun v H' q => k v H' (q.after l1)
      | ex c fs l => exact fun d H' q => k d H' (q.after l1)
    · obtain ⟨b, es, rfl, rfl⟩ := ret_some e2
      cases es
      refine ⟨_, (RT.of r1).bl, ?_⟩
      rw [if_neg (by decide)]
      exact k _ H1 ⟨φ1, hs1, .bl _, l1⟩
    · cases e2
  · exact ⟨M0, φ, τ, _, _, hs, e1, k⟩
theorem s_or {a b : CM D} (h : PE X e (tOrV (rdD g a) (rdD g b))) : PE X e (rdD g (mOr a b)) := pe_le h fun σ H Q q => by
  obtain ⟨M0, φ, τ, rs, τ', hs, hm, k⟩ := q
  rcases bnd_some hm with ⟨x, τ1, e1, e2⟩ | ⟨c, fs, l, e1, rfl⟩
  · refine ⟨M0, φ, τ, _, _, hs, e1, fun v1 H1 q1 => ?_⟩
    obtain ⟨φ1, hs1, r1, l1⟩ := q1
    split at e2
    · obtain ⟨b, es, rfl, rfl⟩ := ret_some e2
      cases es
      refine ⟨_, (RT.of r1).bl, ?_⟩
      rw [if_pos rfl]
      exact k _ H1 ⟨φ1, hs1, .bl _, l1⟩
    · refine ⟨_, (RT.of r1).bl, ?_⟩
      rw [if_neg (by decide)]
      refine ⟨M0, φ1, τ1, _, _, hs1, e2, ?_⟩
      cases rs with
      | ok b => exact fun v H' q => k v H' (q.after l1)
      | ex c fs l => exact fun d H' q => k d H' (q.after l1)
    · cases e2
  · exact ⟨M0, φ, τ, _, _, hs, e1, k⟩
def mIf (c : CM Bool) (a b : CM SV) : CM SV := bnd c fun x => if x = true then a else b
theorem s_if {c : CM Bool} {a b : CM SV} (h : PE X e (tIf (rdT g c) (rdE g a) (rdE g b))) : PE X e (rdE g (mIf c a b)) := pe_le h fun σ H Q q => by
  obtain ⟨M0, φ, τ, rs, τ', hs, hm, k⟩ := q
  rcases bnd_some hm with ⟨x, τ1, e1, e2⟩ | ⟨c, fs, l, e1, rfl⟩
  · refine ⟨M0, φ, τ, _, _, hs, e1, fun H1 q1 => ?_⟩
    obtain ⟨φ1, hs1, l1⟩ := q1
    have fin : ∀ {m : CM SV}, m τ1 = some (rs, τ') → rdE g m σ H1 Q := fun {m} e2 => by
      refine ⟨M0, φ1, τ1, _, _, hs1, e2, ?_⟩
      cases rs with
      | ok b => exact fun v H' q => k v H' (q.after l1)
      | ex c fs l => exact fun d H' q => k d H' (q.after l1)
    cases x with
    | true =>
      rw [if_pos rfl] at e2
      rw [if_pos rfl]
      exact fin e2
    | false =>
      rw [if_neg (by decide)] at e2
      rw [if_neg (by decide)]
      exact fin e2
  · exact ⟨M0, φ, τ, _, _, hs, e1, k⟩
/-! a < b < c -/
def mChain (f f' : D → D → Option SV) (a b c : CM D) : CM D := bnd a fun x => bnd b fun y => match f x y with
  | some (.fz (.bl true)) => bnd c fun z => ret (match f' y z with
    | some (.fz d) => some d
    | _ => none)
  | some (.fz (.bl false)) => ret (some (.bl false))
  | _ => fun _ => none
theorem le_chain {r r' : R2} {f f' : D → D → Option SV} {a b c : CM D} (ho : Op2 g f r) (ho' : Op2 g f' r') (σ : L2.St) (H : Hp) (Q : VK) (q : (rdD g (mChain f f' a b c)) σ H Q) : (tChain r r' (rdD g a) (rdD g b) (rdD g c)) σ H Q := by
  obtain ⟨M0, φ, τ, rs, τ', hs, hm, k⟩ := q
  rcases bnd_some hm with ⟨x, τ1, e1, e2⟩ | ⟨c, fs, l, e1, rfl⟩
  · refine ⟨M0, φ, τ, _, _, hs, e1, fun v1 H1 q1 => ?_⟩
    obtain ⟨φ1, hs1, r1, l1⟩ := q1
    rcases bnd_some e2 with ⟨y, τ2, e3, e4⟩ | ⟨c, fs, l, e3, rfl⟩
    · refine ⟨M0, φ1, τ1, _, _, hs1, e3, fun v2 H2 q2 => ?_⟩
      obtain ⟨φ2, hs2, r2, l2⟩ := q2
      generalize hf : f x y = of at e4
      split at e4
      · refine ho (.of ((le_mof l2).r r1)) (.of r2) hf fun v3 H3 p => ?_
        obtain ⟨F3, e0, w3, _⟩ := p
        cases (RT.of (ow_fz w3).1).bl
        refine ⟨true, rfl, ?_⟩
        rw [if_pos rfl]
        have hs3 := hs2.ev0 e0
        rcases bnd_some e4 with ⟨z, τ3, e5, e6⟩ | ⟨c, fs, l, e5, rfl⟩
        · refine ⟨M0, φ2, τ2, _, _, hs3, e5, fun v4 H4 q4 => ?_⟩
          obtain ⟨φ4, hs4, r4, l4⟩ := q4
          obtain ⟨d, es, rfl, rfl⟩ := ret_some e6
          split at es
          · rename_i hf'
            cases es
            refine ho' (.of ((le_mof l4).r (r2.ev0 e0))) (.of r4) hf' fun v5 H5 p => ?_
            obtain ⟨F5, e05, w5, _⟩ := p
            obtain ⟨r5, rfl⟩ := ow_fz w5
            rw [plus_nil] at r5
            exact k v5 H5 ⟨φ4, hs4.ev0 e05, r5, (((l1.trans l2).trans (hs2.after0 e0)).trans l4).trans (hs4.after0 e05)⟩
          · cases es
        · exact ⟨M0, φ2, τ2, _, _, hs3, e5, fun d H' q => k d H' (q.after ((l1.trans l2).trans (hs2.after0 e0)))⟩
      · refine ho (.of ((le_mof l2).r r1)) (.of r2) hf fun v3 H3 p => ?_
        obtain ⟨F3, e0, w3, _⟩ := p
        cases (RT.of (ow_fz w3).1).bl
        refine ⟨false, rfl, ?_⟩
        rw [if_neg (by decide)]
        obtain ⟨d, es, rfl, rfl⟩ := ret_some e4
        cases es
        exact k _ H3 ⟨φ2, hs2.ev0 e0, .bl _, (l1.trans l2).trans (hs2.after0 e0)⟩
      · cases e4
    · exact ⟨M0, φ1, τ1, _, _, hs1, e3, fun d H' q => k d H' (q.after l1)⟩
  · exact ⟨M0, φ, τ, _, _, hs, e1, k⟩
theorem s_chain {r r' : R2} {f f' : D → D → Option SV} {a b c : CM D} (ho : Op2 g f r) (ho' : Op2 g f' r') (h : PE X e (tChain r r' (rdD g a) (rdD g b) (rdD g c))) : PE X e (rdD g (mChain f f' a b c)) := pe_le h (le_chain ho ho')
/-! comparisons as tests -/
theorem t_E {t : TE} {m : CM SV} (hle : ∀ σ H Q, rdE g m σ H Q → t σ H Q) (h : PT X e (tTest t)) : PT X e (rdT g (cB (frz m))) := pt_le h fun σ H Q q => hle _ _ _ (by
  obtain ⟨M0, φ, τ, rs, τ', hs, hm, k⟩ := q
  rcases bnd_some hm with ⟨x, τ1, e1, e2⟩ | ⟨c, fs, l, e1, rfl⟩
  · rcases bnd_some e1 with ⟨s, τ2, e3, e4⟩ | ⟨c, fs, l, e3, e4⟩
    · refine ⟨M0, φ, τ, _, _, hs, e3, fun v1 H1 q1 => ?_⟩
      obtain ⟨y, ey, e5, rfl⟩ := ret_some e4
      cases ey
      cases e5
      obtain ⟨φ1, hs1, r1, l1⟩ := q1.frz
      generalize SV.toD s = sd at e2 r1
      split at e2
      · obtain ⟨z, es, rfl, rfl⟩ := ret_some e2
        cases es
        exact ⟨_, (RT.of r1).bl, k H1 ⟨φ1, hs1, l1⟩⟩
      · cases e2
    · cases e4
  · rcases bnd_some e1 with ⟨s, τ2, e3, e4⟩ | ⟨c', fs', l', e3, e4⟩
    · obtain ⟨y, ey, e5, rfl⟩ := ret_some e4
      cases e5
    · cases e4
      exact ⟨M0, φ, τ, _, _, hs, e3, k⟩)
theorem t_D {t : TE} {m : CM D} (hle : ∀ σ H Q, rdD g m σ H Q → t σ H Q) (h : PT X e (tTest t)) : PT X e (rdT g (cB m)) := pt_le h fun σ H Q q => hle _ _ _ (by
  obtain ⟨M0, φ, τ, rs, τ', hs, hm, k⟩ := q
  rcases bnd_some hm with ⟨x, τ1, e1, e2⟩ | ⟨c, fs, l, e1, rfl⟩
  · refine ⟨M0, φ, τ, _, _, hs, e1, fun v1 H1 q1 => ?_⟩
    obtain ⟨φ1, hs1, r1, l1⟩ := q1
    split at e2
    · obtain ⟨z, es, rfl, rfl⟩ := ret_some e2
      cases es
      exact ⟨_, (RT.of r1).bl, k H1 ⟨φ1, hs1, l1⟩⟩
    · cases e2
  · exact ⟨M0, φ, τ, _, _, hs, e1, k⟩)
end
end VS

/-! ## S9: statements -/
namespace VS
open PySem PySem.Spec PyProof.Rows L2
def sNx : SC := fun τ => some (.nx, τ)
def sSeq (a b : SC) : SC := fun τ => match a τ with
  | some (.nx, τ1) => b τ1
  | r => r
def sE {α : Type} (m : CM α) (k : α → SC) : SC := fun τ => match m τ with
  | some (.ok x, τ1) => k x τ1
  | some (.ex c fs l, τ1) => some (.ex c fs l, τ1)
  | none => none
theorem sE_some {α : Type} {m : CM α} {k : α → SC} {τ τ' : Tau} {r : Fl} (h : sE m k τ = some (r, τ')) :
    (∃ x τ1, m τ = some (.ok x, τ1) ∧ k x τ1 = some (r, τ')) ∨ ∃ c fs l, m τ = some (.ex c fs l, τ') ∧ r = .ex c fs l := by
  unfold sE at h
  split at h
  · rename_i x τ1 e
    exact .inl ⟨x, τ1, e, h⟩
  · rename_i c fs l τ1 e
    cases h
    exact .inr ⟨c, fs, l, e, rfl⟩
  · cases h
section
variable {X : Cx} {g : Gx} {st : Stmt} {sts : List Stmt} {e : Expr} {M M0 : Ad} {φ φ1 : Nat → List Addr} {τ τ' : Tau} {σ σ1 : L2.St} {H H' H1 : Hp} {v x y : V} {d : D} {ds : List D} {s : SV} {Q : VK} {i : Int} {z : Str} {n : String} {c : Nat} {E : Ends} {fl : Fl}
/-- what is wanted behind a statement -/
def Fin (g : Gx) (E : Ends) (M0 : Ad) (φ : Nat → List Addr) (H : Hp) (σ : L2.St) (τ' : Tau) : Fl → Prop
  | .nx => ∀ σ' H', SOk g M0 φ H σ τ' σ' H' → E.nx σ' H'
  | .bk => ∀ σ' H', SOk g M0 φ H σ τ' σ' H' → E.bk σ' H'
  | .ct => ∀ σ' H', SOk g M0 φ H σ τ' σ' H' → E.ct σ' H'
  | .rt s => ∀ σ' v H', ROk g M0 φ H σ s τ' σ' v H' → E.rt v H'
  | .ex c fs l => ∀ σ' d H', YOk g M0 φ H σ fs l τ' σ' d H' → g.ex σ' (.ref (g.cl c)) d H'
theorem rdS_iff {m : SC} : rdS g m E σ H ↔ ∃ M0 φ τ fl τ', Sim g M0 φ τ σ H ∧ m τ = some (fl, τ') ∧ Fin g E M0 φ H σ τ' fl := by
  unfold rdS
  constructor
  · rintro ⟨M0, φ, τ, fl, τ', hs, hm, k⟩
    refine ⟨M0, φ, τ, fl, τ', hs, hm, ?_⟩
    cases fl <;> exact k
  · rintro ⟨M0, φ, τ, fl, τ', hs, hm, k⟩
    refine ⟨M0, φ, τ, fl, τ', hs, hm, ?_⟩
    cases fl <;> exact k
theorem SOk.after (l : Le (ran φ) H (ran φ1) H1) (hp : ∀ i ∈ g.pin, σ1[i]? = σ[i]?) {σ' : L2.St} (q : SOk g M0 φ1 H1 σ1 τ' σ' H') : SOk g M0 φ H σ τ' σ' H' := by
  obtain ⟨⟨φ', a, b⟩, p⟩ := q
  exact ⟨⟨φ', a, l.trans b⟩, fun i hi => (p i hi).trans (hp i hi)⟩
theorem Fin.after (l : Le (ran φ) H (ran φ1) H1) (hp : ∀ i ∈ g.pin, σ1[i]? = σ[i]?) (k : Fin g E M0 φ H σ τ' fl) : Fin g E M0 φ1 H1 σ1 τ' fl := by
  cases fl with
  | nx => exact fun σ' H' q => k σ' H' (q.after l hp)
  | bk => exact fun σ' H' q => k σ' H' (q.after l hp)
  | ct => exact fun σ' H' q => k σ' H' (q.after l hp)
  | rt s => exact fun σ' v H' q => k σ' v H' ⟨q.1.after l, fun i hi => (q.2 i hi).trans (hp i hi)⟩
  | ex c fs l' => exact fun σ' d H' q => k σ' d H' ⟨q.1.after l, fun i hi => (q.2 i hi).trans (hp i hi)⟩
theorem Fin.xk {fs : List Str} {l : List D} (k : Fin g E M0 φ H σ τ' (.ex c fs l)) : ∀ d H', XOk g M0 φ H σ fs l τ' d H' → g.ex σ (.ref (g.cl c)) d H' := fun d H' q => k σ d H' ⟨q, fun _ _ => rfl⟩
theorem SOk.here (hs : Sim g M0 φ τ σ H) : SOk g M0 φ H σ τ σ H := ⟨⟨φ, hs, .refl⟩, fun _ _ => rfl⟩
/-! ### blocks -/
theorem b_nil (h : PSs X sts tNext) : PSs X sts (rdS g sNx) := pss_le h fun E σ H q => by
  obtain ⟨M0, φ, τ, fl, τ', hs, hm, k⟩ := rdS_iff.mp q
  cases hm
  exact k σ H (.here hs)
theorem b_seq {a b : SC} (h : PSs X sts (tSeq (rdS g a) (rdS g b))) : PSs X sts (rdS g (sSeq a b)) := pss_le h fun E σ H q => by
  obtain ⟨M0, φ, τ, fl, τ', hs, hm, k⟩ := rdS_iff.mp q
  unfold sSeq at hm
  refine rdS_iff.mpr ?_
  split at hm
  · rename_i τ1 ha
    exact ⟨M0, φ, τ, _, _, hs, ha, fun σ1 H1 q1 => rdS_iff.mpr ⟨M0, q1.1.choose, τ1, fl, τ', q1.1.choose_spec.1, hm, by
      have := Fin.after q1.1.choose_spec.2 q1.2 k
      cases fl <;> exact this⟩⟩
  · rename_i hn
    refine ⟨M0, φ, τ, _, _, hs, hm, ?_⟩
    cases fl with
    | nx => exact absurd hm (hn τ')
    | bk => exact k
    | ct => exact k
    | rt s => exact k
    | ex c fs l => exact k
theorem s_pass (h : PS X st tNext) : PS X st (rdS g sNx) := ps_le h fun E σ H q => by
  obtain ⟨M0, φ, τ, fl, τ', hs, hm, k⟩ := rdS_iff.mp q
  cases hm
  exact k σ H (.here hs)
def sBk : SC := fun τ => some (.bk, τ)
def sCt : SC := fun τ => some (.ct, τ)
theorem s_bk (h : PS X st tBreak) : PS X st (rdS g sBk) := ps_le h fun E σ H q => by
  obtain ⟨M0, φ, τ, fl, τ', hs, hm, k⟩ := rdS_iff.mp q
  cases hm
  exact k σ H (.here hs)
theorem s_ct (h : PS X st tCont) : PS X st (rdS g sCt) := ps_le h fun E σ H q => by
  obtain ⟨M0, φ, τ, fl, τ', hs, hm, k⟩ := rdS_iff.mp q
  cases hm
  exact k σ H (.here hs)
/-! ### with one expression -/
def sDrop (m : CM D) : SC := sE m fun _ => sNx
theorem s_drop {m : CM D} (h : PS X st (tDrop (rdD g m))) : PS X st (rdS g (sDrop m)) := ps_le h fun E σ H q => by
  obtain ⟨M0, φ, τ, fl, τ', hs, hm, k⟩ := rdS_iff.mp q
  rcases sE_some hm with ⟨x, τ1, e1, e2⟩ | ⟨c, fs, l, e1, rfl⟩
  · cases e2
    refine ⟨M0, φ, τ, _, _, hs, e1, fun v1 H1 q1 => ?_⟩
    obtain ⟨φ1, hs1, r1, l1⟩ := q1
    exact k σ H1 ⟨⟨φ1, hs1, l1⟩, fun _ _ => rfl⟩
  · exact ⟨M0, φ, τ, _, _, hs, e1, k.xk⟩
def sRet (m : CM SV) : SC := sE m fun s τ => some (.rt s, τ)
theorem s_ret {m : CM SV} (h : PS X st (tRet (rdE g m))) : PS X st (rdS g (sRet m)) := ps_le h fun E σ H q => by
  obtain ⟨M0, φ, τ, fl, τ', hs, hm, k⟩ := rdS_iff.mp q
  rcases sE_some hm with ⟨x, τ1, e1, e2⟩ | ⟨c, fs, l, e1, rfl⟩
  · cases e2
    exact ⟨M0, φ, τ, _, _, hs, e1, fun v1 H1 q1 => k σ v1 H1 ⟨q1, fun _ _ => rfl⟩⟩
  · exact ⟨M0, φ, τ, _, _, hs, e1, k.xk⟩
def sRetN : SC := fun τ => some (.rt (.fz .non), τ)
theorem s_retN (h : PS X st tRetN) : PS X st (rdS g sRetN) := ps_le h fun E σ H q => by
  obtain ⟨M0, φ, τ, fl, τ', hs, hm, k⟩ := rdS_iff.mp q
  cases hm
  exact k σ _ H ⟨DOk.up (.here hs .non), fun _ _ => rfl⟩
theorem set_pin {i : Nat} (hp : g.pin.contains i = false) : ∀ j ∈ g.pin, (σ.set i (some v))[j]? = σ[j]? := fun j hj => by
  rw [List.getElem?_set_ne]
  rintro rfl
  rw [List.contains_iff_mem.mpr hj] at hp
  cases hp
def sSet (i : Nat) (m : CM SV) : SC := sE m fun s τ => some (.nx, τ.set i (some s))
theorem EOk.set {i : Nat} (hp : g.pin.contains i = false) (q : EOk g M0 φ H σ s τ' v H') : SOk g M0 φ H σ (τ'.set i (some s)) (σ.set i (some v)) H' := by
  obtain ⟨F, φ', a, b, cc, n, l⟩ := q
  refine ⟨⟨upF φ' i F, a.set b cc n, l.ev, fun x q => ?_⟩, set_pin hp⟩
  obtain ⟨j, q⟩ := q
  by_cases ee : j = i
  · subst ee; rw [upF_same] at q; exact l.grow x (.inr q)
  · rw [upF_ne ee] at q; exact l.grow x (.inl ⟨j, q⟩)
theorem s_set {i : Nat} {m : CM SV} (hp : g.pin.contains i = false) (h : PS X st (tAsg (rdE g m) (gName i))) : PS X st (rdS g (sSet i m)) := ps_le h fun E σ H q => by
  obtain ⟨M0, φ, τ, fl, τ', hs, hm, k⟩ := rdS_iff.mp q
  rcases sE_some hm with ⟨x, τ1, e1, e2⟩ | ⟨c, fs, l, e1, rfl⟩
  · cases e2
    exact ⟨M0, φ, τ, _, _, hs, e1, fun v1 H1 q1 => k _ H1 (q1.set hp)⟩
  · exact ⟨M0, φ, τ, _, _, hs, e1, k.xk⟩
def sIf (c : CM Bool) (a b : SC) : SC := sE c fun x => if x = true then a else b
theorem s_ifS {c : CM Bool} {a b : SC} (h : PS X st (tIfS (rdT g c) (rdS g a) (rdS g b))) : PS X st (rdS g (sIf c a b)) := ps_le h fun E σ H q => by
  obtain ⟨M0, φ, τ, fl, τ', hs, hm, k⟩ := rdS_iff.mp q
  rcases sE_some hm with ⟨x, τ1, e1, e2⟩ | ⟨c, fs, l, e1, rfl⟩
  · refine ⟨M0, φ, τ, _, _, hs, e1, fun H1 q1 => ?_⟩
    obtain ⟨φ1, hs1, l1⟩ := q1
    cases x with
    | true =>
      rw [if_pos rfl] at e2 ⊢
      exact rdS_iff.mpr ⟨M0, φ1, τ1, _, _, hs1, e2, Fin.after l1 (fun _ _ => rfl) k⟩
    | false =>
      rw [if_neg (by decide)] at e2 ⊢
      exact rdS_iff.mpr ⟨M0, φ1, τ1, _, _, hs1, e2, Fin.after l1 (fun _ _ => rfl) k⟩
  · exact ⟨M0, φ, τ, _, _, hs, e1, k.xk⟩
/-- a, b = e1, e2 (two names) -/
def sPar (i j : Nat) (a b : CM D) : SC := sE a fun x => sE b fun y τ => some (.nx, (τ.set i (some (.fz x))).set j (some (.fz y)))
theorem s_par {i j : Nat} {a b : CM D} (hi : g.pin.contains i = false) (hj : g.pin.contains j = false) (h : PS X st (tPar i j (tCons (rdD g a) (tCons (rdD g b) tNil)))) : PS X st (rdS g (sPar i j a b)) := ps_le h fun E σ H q => by
  obtain ⟨M0, φ, τ, fl, τ', hs, hm, k⟩ := rdS_iff.mp q
  rcases sE_some hm with ⟨x, τ1, e1, e2⟩ | ⟨c, fs, l, e1, rfl⟩
  · refine ⟨M0, φ, τ, _, _, hs, e1, fun v1 H1 q1 => ?_⟩
    obtain ⟨φ1, hs1, r1, l1⟩ := q1
    rcases sE_some e2 with ⟨y, τ2, e3, e4⟩ | ⟨c, fs, l, e3, rfl⟩
    · cases e4
      refine ⟨M0, φ1, τ1, _, _, hs1, e3, fun v2 H2 q2 => ?_⟩
      obtain ⟨φ2, hs2, r2, l2⟩ := q2
      have r1' := (le_mof l2).r r1
      have s3 := hs2.setD (i := i) r1'
      have l3 : Le (ran φ2) H2 (ran (upF φ2 i [])) H2 := .up
      have s4 := s3.setD (i := j) ((le_mof l3).r r2)
      refine ⟨v1, v2, rfl, k _ H2 ⟨⟨_, s4, ((l1.trans l2).trans l3).trans .up⟩, fun m hm => ?_⟩⟩
      exact (set_pin hj m hm).trans (set_pin hi m hm)
    · exact ⟨M0, φ1, τ1, _, _, hs1, e3, fun d H' q => k.xk d H' (q.after l1)⟩
  · exact ⟨M0, φ, τ, _, _, hs, e1, k.xk⟩
/-! ### targets that take data -/
abbrev TD := D → Tau → Option Tau
def dName (i : Nat) : TD := fun d τ => some (τ.set i (some (.fz d)))
def rdG (g : Gx) (vs : List Nat) (t : TD) : TG := fun v σ H Q => ∃ M0 φ τ d τ', Sim g M0 φ τ σ H ∧ R g (Mof M0 φ) H v d ∧ t d τ = some τ' ∧
  ∀ σ' φ', Sim g M0 φ' τ' σ' H → Le (ran φ) H (ran φ') H → σ'.length = σ.length → (∀ j, j ∉ vs → σ'[j]? = σ[j]?) → Q σ' H
def rdGs (g : Gx) (vs : List Nat) (t : List D → Tau → Option Tau) : TGs := fun xs σ H Q => ∃ M0 φ τ ds τ', Sim g M0 φ τ σ H ∧ Rs g (Mof M0 φ) H xs ds ∧ t ds τ = some τ' ∧
  ∀ σ' φ', Sim g M0 φ' τ' σ' H → Le (ran φ) H (ran φ') H → σ'.length = σ.length → (∀ j, j ∉ vs → σ'[j]? = σ[j]?) → Q σ' H
theorem pg_le {t t' : TG} (h : PG X e t) (k : ∀ v σ H Q, t' v σ H Q → t v σ H Q) : PG X e t' := ⟨fun pins s σ H v u Q I r w => h.run pins s σ H v u Q I r (k _ _ _ _ w)⟩
theorem pgs_le {es : List Expr} {t t' : TGs} (h : PGs X es t) (k : ∀ v σ H Q, t' v σ H Q → t v σ H Q) : PGs X es t' := ⟨fun pins s σ H v u Q I r w => h.run pins s σ H v u Q I r (k _ _ _ _ w)⟩
theorem g_name {i : Nat} (h : PG X e (gName i)) : PG X e (rdG g [i] (dName i)) := pg_le h fun v σ H Q q => by
  obtain ⟨M0, φ, τ, d, τ', hs, r, ht, k⟩ := q
  cases ht
  exact k _ _ (hs.setD r) .up (by rw [List.length_set]) fun j hj => by
    rw [List.getElem?_set_ne]
    rintro rfl
    exact hj List.mem_cons_self
def dNil : List D → Tau → Option Tau := fun ds τ => match ds with
  | [] => some τ
  | _ => none
def dCons (t : TD) (u : List D → Tau → Option Tau) : List D → Tau → Option Tau := fun ds τ => match ds with
  | d :: r => (t d τ).bind (u r)
  | [] => none
theorem g_nil {es : List Expr} (h : PGs X es gNil) : PGs X es (rdGs g [] dNil) := pgs_le h fun v σ H Q q => by
  obtain ⟨M0, φ, τ, ds, τ', hs, r, ht, k⟩ := q
  unfold dNil at ht
  split at ht
  · cases ht
    cases r
    exact ⟨rfl, k σ φ hs .refl rfl fun _ _ => rfl⟩
  · cases ht
theorem g_cons {es : List Expr} {vs ws : List Nat} {t : TD} {u : List D → Tau → Option Tau} (h : PGs X es (gCons (rdG g vs t) (rdGs g ws u))) : PGs X es (rdGs g (vs ++ ws) (dCons t u)) := pgs_le h fun v σ H Q q => by
  obtain ⟨M0, φ, τ, ds, τ', hs, r, ht, k⟩ := q
  unfold dCons at ht
  split at ht
  · simp only [Option.bind_eq_some_iff] at ht
    obtain ⟨τ1, h1, h2⟩ := ht
    cases r with
    | cons p q =>
      refine ⟨_, _, rfl, M0, φ, τ, _, τ1, hs, p, h1, fun σ1 φ1 s1 l1 len1 o1 => ?_⟩
      refine ⟨M0, φ1, τ1, _, τ', s1, (le_mof l1).rs q, h2, fun σ2 φ2 s2 l2 len2 o2 => k σ2 φ2 s2 (l1.trans l2) (len2.trans len1) fun j hj => ?_⟩
      exact (o2 j fun m => hj (List.mem_append_right _ m)).trans (o1 j fun m => hj (List.mem_append_left _ m))
  · cases ht
def dTup (n : Nat) (u : List D → Tau → Option Tau) : TD := fun d τ => match d with
  | .tup l => if l.length = n then u l τ else none
  | _ => none
theorem g_tup {m : Nat} {vs : List Nat} {u : List D → Tau → Option Tau} (h : PG X e (gTup g.K m (rdGs g vs u))) : PG X e (rdG g vs (dTup m u)) := pg_le h fun v σ H Q q => by
  obtain ⟨M0, φ, τ, d, τ', hs, r, ht, k⟩ := q
  unfold dTup at ht
  split at ht
  · split at ht
    · rename_i hl
      obtain ⟨a, xs, rfl, hq, rs⟩ := (RT.of r).tup
      exact ⟨a, xs, rfl, hq, by rw [rs.length]; exact hl, M0, φ, τ, _, τ', hs, rs, ht, k⟩
    · cases ht
  · cases ht
/-- target = e -/
def sAsg (t : TD) (m : CM D) : SC := sE m fun d τ => (t d τ).map fun τ' => (.nx, τ')
theorem s_asg {vs : List Nat} {t : TD} {m : CM D} (hp : (g.pin.any vs.contains) = false) (h : PS X st (tAsg (rdD g m) (rdG g vs t))) : PS X st (rdS g (sAsg t m)) := ps_le h fun E σ H q => by
  obtain ⟨M0, φ, τ, fl, τ', hs, hm, k⟩ := rdS_iff.mp q
  rcases sE_some hm with ⟨x, τ1, e1, e2⟩ | ⟨c, fs, l, e1, rfl⟩
  · simp only [Option.map_eq_some_iff] at e2
    obtain ⟨τ2, ht, e2⟩ := e2
    cases e2
    refine ⟨M0, φ, τ, _, _, hs, e1, fun v1 H1 q1 => ?_⟩
    obtain ⟨φ1, hs1, r1, l1⟩ := q1
    refine ⟨M0, φ1, τ1, x, _, hs1, r1, ht, fun σ2 φ2 s2 l2 len2 o2 => k σ2 H1 ⟨⟨φ2, s2, l1.trans l2⟩, fun j hj => o2 j fun m => ?_⟩⟩
    rw [List.any_eq_false] at hp
    exact hp j hj (List.contains_iff_mem.mpr m)
  · exact ⟨M0, φ, τ, _, _, hs, e1, k.xk⟩
/-- x op= e -/
def OpI (g : Gx) (f : D → D → Option D) (r : TIp) : Prop := ∀ {M : Ad} {H : Hp} {x y : V} {d e : D} {s : D} {Q : VK}, RT g M H x d → RT g M H y e → f d e = some s → (∀ v, R g M H v s → Q v H) → r x y H Q
def sAug (i : Nat) (f : D → D → Option D) (m : CM D) : SC := fun τ => match τ[i]? with
  | some (some (.fz x)) => sE m (fun y τ1 => (f x y).map fun d => (.nx, τ1.set i (some (.fz d)))) τ
  | _ => none
theorem s_aug {i : Nat} {f : D → D → Option D} {r : TIp} {m : CM D} (ho : OpI g f r) (hp : g.pin.contains i = false) (h : PS X st (tAug i (rdD g m) r)) : PS X st (rdS g (sAug i f m)) := ps_le h fun E σ H q => by
  obtain ⟨M0, φ, τ, fl, τ', hs, hm, k⟩ := rdS_iff.mp q
  unfold sAug at hm
  split at hm
  · rename_i x hx
    obtain ⟨vx, hv, rx⟩ := hs.fz hx
    refine ⟨vx, hv, ?_⟩
    rcases sE_some hm with ⟨y, τ1, e1, e2⟩ | ⟨c, fs, l, e1, rfl⟩
    · simp only [Option.map_eq_some_iff] at e2
      obtain ⟨d, hd, e2⟩ := e2
      cases e2
      refine ⟨M0, φ, τ, _, _, hs, e1, fun v1 H1 q1 => ?_⟩
      obtain ⟨φ1, hs1, r1, l1⟩ := q1
      exact ho (.of ((le_mof l1).r rx)) (.of r1) hd fun v r => k _ H1 ⟨⟨_, hs1.setD r, l1.trans .up⟩, set_pin hp⟩
    · exact ⟨M0, φ, τ, _, _, hs, e1, k.xk⟩
  · cases hm
def addI : D → D → Option D
  | .int i, .int j => some (.int (i + j))
  | .str a, .str b => if a.length + b.length ≤ sizeLine then some (.str (a ++ b)) else none
  | _, _ => none
def subI : D → D → Option D
  | .int i, .int j => some (.int (i - j))
  | _, _ => none
theorem i_add : OpI g addI ipAddU := by
  intro M H x y d e s Q h1 h2 hf k
  unfold addI at hf
  split at hf
  · cases h1.int; cases h2.int; cases hf
    exact .inl ⟨_, _, rfl, rfl, k _ (.int _)⟩
  · cases h1.str; cases h2.str
    split at hf
    · cases hf
      exact .inr ⟨_, _, rfl, rfl, by assumption, k _ (.str _)⟩
    · cases hf
  · cases hf
theorem i_sub : OpI g subI (ipI fun i j => i - j) := by
  intro M H x y d e s Q h1 h2 hf k
  unfold subI at hf
  split at hf
  · cases h1.int; cases h2.int; cases hf
    exact ⟨_, _, rfl, rfl, k _ (.int _)⟩
  · cases hf
end
end VS

/-! ## S10: what is walked, loops -/
namespace VS
open PySem PySem.Spec PyProof.Rows L2
section
variable {X : Cx} {g : Gx} {st : Stmt} {sts : List Stmt} {e tg : Expr} {M M0 M1 : Ad} {φ φ1 : Nat → List Addr} {τ τ' : Tau} {σ σ1 : L2.St} {H H' H1 : Hp} {v x y : V} {d : D} {ds items : List D} {s : SV} {Q : VK} {i : Int} {z : Str} {n : String} {c : Nat} {E : Ends} {fl : Fl} {J : It}
def ItOk (g : Gx) (J : It) (items : List D) (M : Ad) (H : Hp) : Prop :=
  (∀ i M1 H1, Le M H M1 H1 → i < items.length → J.go i H1) ∧ (∀ M1 H1, Le M H M1 H1 → J.stop items.length H1) ∧
  ∀ i M1 H1 x H2, Le M H M1 H1 → i < items.length → J.yld i H1 x H2 → Ev0 H1 H2 ∧ ∃ d, items[i]? = some d ∧ R g M1 H2 x d
theorem ItOk.le (l : Le M H M1 H1) (h : ItOk g J items M H) : ItOk g J items M1 H1 :=
  ⟨fun i M2 H2 q => h.1 i M2 H2 (l.trans q), fun M2 H2 q => h.2.1 M2 H2 (l.trans q), fun i M2 H2 x H3 q => h.2.2 i M2 H2 x H3 (l.trans q)⟩
def rdI (g : Gx) (m : CM (List D)) : TI := fun σ H Rr => ∃ M0 φ τ r τ', Sim g M0 φ τ σ H ∧ m τ = some (r, τ') ∧
  match r with
  | .ok items => ∀ J H' φ', Sim g M0 φ' τ' σ H' → Le (ran φ) H (ran φ') H' → ItOk g J items (Mof M0 φ') H' → Rr J H'
  | .ex c fs l => ∀ d H', XOk g M0 φ H σ fs l τ' d H' → g.ex σ (.ref (g.cl c)) d H'
def itemsD : D → Option (List D)
  | .str z => some (signs z)
  | d => seqD d
/-- the sequence of a value, staying -/
theorem R.src {l : List D} (r : R g M H v d) (e : itemsD d = some l) : ∃ k xs, ∀ M1 H1, Le M H M1 H1 → SrcAt k g.K H1 v xs ∧ Rs g M1 H1 xs l := by
  cases r with
  | non => cases e
  | bl b => cases e
  | int i => cases e
  | str z =>
    cases e
    exact ⟨.s, _, fun M1 H1 le => ⟨⟨z, rfl, rfl⟩, signs_rs z⟩⟩
  | tup q r =>
    cases e
    exact ⟨.t, _, fun M1 H1 le => ⟨⟨_, rfl, le.ev.sqT q⟩, le.rs r⟩⟩
  | @ob a o h xs ds q qi n p r =>
    cases h with
    | lst =>
      cases e
      cases p
      have q := qi fun b ks e => nomatch e
      exact ⟨.l, _, fun M1 H1 le => ⟨⟨_, rfl, SqL.of (le.ev.keep _ _ q n)⟩, le.rs r⟩⟩
    | dct t ks => cases e
    | ins c fs => cases e
  | fro q r =>
    cases e
    exact ⟨.l, _, fun M1 H1 le => ⟨⟨_, rfl, Fro.sqL (q.imp (fun ⟨u, q⟩ => ⟨u, le.ev.frzs _ _ _ q⟩) id)⟩, le.rs r⟩⟩
def itD (a : CM D) : CM (List D) := bnd a fun d => ret (itemsD d)
theorem pi_rd {a : CM D} {f : D → Option (List D)} {t : TI} (hf : ∀ (σ : L2.St) (H : Hp) (v : V) (M : Ad) (d : D) (l : List D) (Rr : It → Hp → Prop), R g M H v d → f d = some l → (∀ J, ItOk g J l M H → Rr J H) → True) : True := trivial
theorem i_seq {a : CM D} (h : PI X tg e (iU g.K (rdD g a))) : PI X tg e (rdI g (itD a)) := pi_le h fun σ H Rr q => by
  obtain ⟨M0, φ, τ, rs, τ', hs, hm, k⟩ := q
  rcases bnd_some hm with ⟨x, τ1, e1, e2⟩ | ⟨c, fs, l, e1, rfl⟩
  · refine ⟨M0, φ, τ, _, _, hs, e1, fun v1 H1 q1 => ?_⟩
    obtain ⟨φ1, hs1, r1, l1⟩ := q1
    obtain ⟨l, es, rfl, rfl⟩ := ret_some e2
    obtain ⟨kd, xs, src⟩ := r1.src es
    have el : xs.length = l.length := (src _ _ .refl).2.length
    cases kd with
    | l =>
      obtain ⟨⟨p, rfl, hp⟩, _⟩ := src _ _ .refl
      refine .inl ⟨p, rfl, ⟨xs, hp⟩, k _ H1 φ1 hs1 l1 ⟨fun i M2 H2 l hi => ?_, fun M2 H2 l => ?_, fun i M2 H2 x H3 l hi y => ?_⟩⟩
      · obtain ⟨⟨p', e', hp'⟩, _⟩ := src _ _ l; cases e'
        exact walk_list.goes i H2 (by rw [el]; exact hi) hp'
      · obtain ⟨⟨p', e', hp'⟩, _⟩ := src _ _ l; cases e'
        rw [← el]; exact walk_list.stops H2 hp'
      · obtain ⟨⟨p', e', hp'⟩, r⟩ := src _ _ l; cases e'
        obtain ⟨rfl, ex⟩ := walk_list.yields i H2 x H3 (by rw [el]; exact hi) hp' y
        obtain ⟨d, e1, e2⟩ := r.getV ex
        exact ⟨.refl, d, e1, e2⟩
    | t =>
      obtain ⟨⟨p, rfl, hp⟩, _⟩ := src _ _ .refl
      refine .inr (.inl ⟨p, rfl, ⟨xs, hp⟩, k _ H1 φ1 hs1 l1 ⟨fun i M2 H2 l hi => ?_, fun M2 H2 l => ?_, fun i M2 H2 x H3 l hi y => ?_⟩⟩)
      · obtain ⟨⟨p', e', hp'⟩, _⟩ := src _ _ l; cases e'
        exact walk_tup.goes i H2 (by rw [el]; exact hi) hp'
      · obtain ⟨⟨p', e', hp'⟩, _⟩ := src _ _ l; cases e'
        rw [← el]; exact walk_tup.stops H2 hp'
      · obtain ⟨⟨p', e', hp'⟩, r⟩ := src _ _ l; cases e'
        obtain ⟨rfl, ex⟩ := walk_tup.yields i H2 x H3 (by rw [el]; exact hi) hp' y
        obtain ⟨d, e1, e2⟩ := r.getV ex
        exact ⟨.refl, d, e1, e2⟩
    | s =>
      obtain ⟨⟨z, rfl, rfl⟩, _⟩ := src _ _ .refl
      have ez : z.cps.size = l.length := by rw [← el]; simp
      refine .inr (.inr ⟨z, rfl, k _ H1 φ1 hs1 l1 ⟨fun i M2 H2 l hi => ?_, fun M2 H2 l => ?_, fun i M2 H2 x H3 l hi y => ?_⟩⟩)
      · exact walk_str.goes i H2 (by rw [ez]; exact hi) trivial
      · rw [← ez]; exact walk_str.stops H2 trivial
      · obtain ⟨rfl, c, ex, rfl⟩ := walk_str.yields i H2 x H3 (by rw [ez]; exact hi) trivial y
        obtain ⟨_, r⟩ := src _ _ l
        have : (z.cps.toList.map fun c => V.str ⟨#[c]⟩)[i]? = some (.str ⟨#[c]⟩) := by
          rw [List.getElem?_map]
          simp [ex]
        obtain ⟨d, e1, e2⟩ := r.getV this
        exact ⟨.refl, d, e1, e2⟩
  · exact ⟨M0, φ, τ, _, _, hs, e1, k⟩
/-! ranges -/
def rangeL (lo : Int) (n : Nat) : List D := (List.range n).map fun i => D.int (lo + (i : Nat))
theorem rangeL_len {lo : Int} {n : Nat} : (rangeL lo n).length = n := by simp [rangeL]
theorem rangeL_at {lo : Int} {n i : Nat} (h : i < n) : (rangeL lo n)[i]? = some (.int (lo + (i : Nat))) := by
  unfold rangeL
  rw [List.getElem?_map, List.getElem?_range h]
  rfl
theorem it_range {lo : Int} {n : Nat} : ItOk g (Itr lo n) (rangeL lo n) M H :=
  ⟨fun i M1 H1 l hi => walk_range.goes i H1 (by rw [rangeL_len] at hi; exact hi) trivial, fun M1 H1 l => by rw [rangeL_len]; exact walk_range.stops H1 trivial, fun i M1 H1 x H2 l hi y => by
    rw [rangeL_len] at hi
    obtain ⟨rfl, rfl⟩ := walk_range.yields i H1 x H2 hi trivial y
    exact ⟨.refl, _, rangeL_at hi, .int _⟩⟩
def itR1 (a : CM D) : CM (List D) := bnd a fun d => match d with
  | .int j => ret (if -(2 ^ 62) ≤ j ∧ j < 2 ^ 62 then some (rangeL 0 j.toNat) else none)
  | _ => fun _ => none
theorem i_range1 {a : CM D} (h : PI X tg e (iRng1 (tCons (rdD g a) tNil))) : PI X tg e (rdI g (itR1 a)) := pi_le h fun σ H Rr q => by
  obtain ⟨M0, φ, τ, rs, τ', hs, hm, k⟩ := q
  rcases bnd_some hm with ⟨x, τ1, e1, e2⟩ | ⟨c, fs, l, e1, rfl⟩
  · refine ⟨M0, φ, τ, _, _, hs, e1, fun v1 H1 q1 => ?_⟩
    obtain ⟨φ1, hs1, r1, l1⟩ := q1
    split at e2
    · obtain ⟨l, es, rfl, rfl⟩ := ret_some e2
      cases (RT.of r1).int
      split at es
      · rename_i hb
        cases es
        exact ⟨_, rfl, hb.1, hb.2, k _ H1 φ1 hs1 l1 it_range⟩
      · cases es
    · cases e2
  · exact ⟨M0, φ, τ, _, _, hs, e1, k⟩
def itR2 (a b : CM D) : CM (List D) := bnd a fun d => bnd b fun e => match d, e with
  | .int i, .int j => ret (if -(2 ^ 62) ≤ i ∧ i < 2 ^ 62 ∧ -(2 ^ 62) ≤ j ∧ j < 2 ^ 62 then some (rangeL i (j - i).toNat) else none)
  | _, _ => fun _ => none
theorem i_range2 {a b : CM D} (h : PI X tg e (iRng2 (tCons (rdD g a) (tCons (rdD g b) tNil)))) : PI X tg e (rdI g (itR2 a b)) := pi_le h fun σ H Rr q => by
  obtain ⟨M0, φ, τ, rs, τ', hs, hm, k⟩ := q
  rcases bnd_some hm with ⟨x, τ1, e1, e2⟩ | ⟨c, fs, l, e1, rfl⟩
  · refine ⟨M0, φ, τ, _, _, hs, e1, fun v1 H1 q1 => ?_⟩
    obtain ⟨φ1, hs1, r1, l1⟩ := q1
    rcases bnd_some e2 with ⟨y, τ2, e3, e4⟩ | ⟨c, fs, l, e3, rfl⟩
    · refine ⟨M0, φ1, τ1, _, _, hs1, e3, fun v2 H2 q2 => ?_⟩
      obtain ⟨φ2, hs2, r2, l2⟩ := q2
      split at e4
      · obtain ⟨l, es, rfl, rfl⟩ := ret_some e4
        cases (RT.of r1).int; cases (RT.of r2).int
        split at es
        · rename_i hb
          cases es
          exact ⟨_, _, rfl, hb, k _ H2 φ2 hs2 (l1.trans l2) it_range⟩
        · cases es
      · cases e4
    · exact ⟨M0, φ1, τ1, _, _, hs1, e3, fun d H' q => k d H' (q.after l1)⟩
  · exact ⟨M0, φ, τ, _, _, hs, e1, k⟩
/-! enumerate, zip -/
def enumL (l : List D) : List D := l.zipIdx.map fun p => D.tup [.int (p.2 : Nat), p.1]
theorem enumL_len {l : List D} : (enumL l).length = l.length := by simp [enumL]
theorem enumL_at {l : List D} {i : Nat} {d : D} (h : l[i]? = some d) : (enumL l)[i]? = some (.tup [.int (i : Nat), d]) := by
  unfold enumL
  rw [List.getElem?_map, List.getElem?_zipIdx, h]
  simp
def itEn (a : CM D) : CM (List D) := bnd a fun d => ret ((itemsD d).map enumL)
theorem i_enum {a : CM D} (h : PI X tg e (iEnumU g.K (tCons (rdD g a) tNil))) : PI X tg e (rdI g (itEn a)) := pi_le h fun σ H Rr q => by
  obtain ⟨M0, φ, τ, rs, τ', hs, hm, k⟩ := q
  rcases bnd_some hm with ⟨x, τ1, e1, e2⟩ | ⟨c, fs, l, e1, rfl⟩
  · refine ⟨M0, φ, τ, _, _, hs, e1, fun v1 H1 q1 => ?_⟩
    obtain ⟨φ1, hs1, r1, l1⟩ := q1
    obtain ⟨l, es, rfl, rfl⟩ := ret_some e2
    simp only [Option.map_eq_some_iff] at es
    obtain ⟨l, es, rfl⟩ := es
    obtain ⟨kd, xs, src⟩ := r1.src es
    have el : xs.length = l.length := (src _ _ .refl).2.length
    refine ⟨v1, kd, xs, rfl, (src _ _ .refl).1, k _ H1 φ1 hs1 l1 ⟨fun i M2 H2 l hi => ?_, fun M2 H2 l => ?_, fun i M2 H2 x H3 l hi y => ?_⟩⟩
    · rw [enumL_len] at hi
      exact walk_enumU.goes i H2 (by rw [el]; exact hi) (src _ _ l).1
    · rw [enumL_len, ← el]; exact walk_enumU.stops H2 (src _ _ l).1
    · rw [enumL_len] at hi
      obtain ⟨T, y, rfl, hT, rfl, ey⟩ := walk_enumU.yields i H2 x H3 (by rw [el]; exact hi) (src _ _ l).1 y
      obtain ⟨d, e1, e2⟩ := (src _ _ l).2.getV ey
      exact ⟨new0 hT, _, enumL_at e1, .tup (SqT.of upd_same) (.cons (.int _) (.cons (e2.ev0 (new0 hT)) .nil))⟩
  · exact ⟨M0, φ, τ, _, _, hs, e1, k⟩
def zipL (l m : List D) : List D := (l.zip m).map fun p => D.tup [p.1, p.2]
theorem zipL_len {l m : List D} : (zipL l m).length = min l.length m.length := by simp [zipL]
theorem zipL_at {l m : List D} {i : Nat} {d e : D} (h : l[i]? = some d) (h2 : m[i]? = some e) : (zipL l m)[i]? = some (.tup [d, e]) := by
  unfold zipL
  rw [List.getElem?_map, List.getElem?_zip_eq_some (z := (d, e)) |>.mpr ⟨h, h2⟩]
  rfl
def itZip (a b : CM D) : CM (List D) := bnd a fun d => bnd b fun e => ret ((itemsD d).bind fun l => (itemsD e).map fun m => zipL l m)
theorem i_zip {a b : CM D} (h : PI X tg e (iZipU g.K (tCons (rdD g a) (tCons (rdD g b) tNil)))) : PI X tg e (rdI g (itZip a b)) := pi_le h fun σ H Rr q => by
  obtain ⟨M0, φ, τ, rs, τ', hs, hm, k⟩ := q
  rcases bnd_some hm with ⟨x, τ1, e1, e2⟩ | ⟨c, fs, l, e1, rfl⟩
  · refine ⟨M0, φ, τ, _, _, hs, e1, fun v1 H1 q1 => ?_⟩
    obtain ⟨φ1, hs1, r1, l1⟩ := q1
    rcases bnd_some e2 with ⟨y, τ2, e3, e4⟩ | ⟨c, fs, l, e3, rfl⟩
    · refine ⟨M0, φ1, τ1, _, _, hs1, e3, fun v2 H2 q2 => ?_⟩
      obtain ⟨φ2, hs2, r2, l2⟩ := q2
      obtain ⟨l, es, rfl, rfl⟩ := ret_some e4
      simp only [Option.bind_eq_some_iff, Option.map_eq_some_iff] at es
      obtain ⟨l, es1, m, es2, rfl⟩ := es
      obtain ⟨k1, xs, src1⟩ := ((le_mof (M0 := M0) l2).r r1).src es1
      obtain ⟨k2, ys, src2⟩ := r2.src es2
      have el1 : xs.length = l.length := (src1 _ _ .refl).2.length
      have el2 : ys.length = m.length := (src2 _ _ .refl).2.length
      refine ⟨v1, v2, k1, k2, xs, ys, rfl, (src1 _ _ .refl).1, (src2 _ _ .refl).1, k _ H2 φ2 hs2 (l1.trans l2) ⟨fun i M2 H3 l hi => ?_, fun M2 H3 l => ?_, fun i M2 H3 x H4 l hi y => ?_⟩⟩
      · rw [zipL_len] at hi
        exact walk_zipU.goes i H3 (by rw [el1, el2]; exact hi) ⟨(src1 _ _ l).1, (src2 _ _ l).1⟩
      · rw [zipL_len, ← el1, ← el2]; exact walk_zipU.stops H3 ⟨(src1 _ _ l).1, (src2 _ _ l).1⟩
      · rw [zipL_len] at hi
        obtain ⟨T, y, z, rfl, hT, rfl, ey, ez⟩ := walk_zipU.yields i H3 x H4 (by rw [el1, el2]; exact hi) ⟨(src1 _ _ l).1, (src2 _ _ l).1⟩ y
        obtain ⟨d, e1, e2⟩ := (src1 _ _ l).2.getV ey
        obtain ⟨d', e1', e2'⟩ := (src2 _ _ l).2.getV ez
        exact ⟨new0 hT, _, zipL_at e1 e1', .tup (SqT.of upd_same) (.cons (e2.ev0 (new0 hT)) (.cons (e2'.ev0 (new0 hT)) .nil))⟩
    · exact ⟨M0, φ1, τ1, _, _, hs1, e3, fun d H' q => k d H' (q.after l1)⟩
  · exact ⟨M0, φ, τ, _, _, hs, e1, k⟩
/-! ### for -/
def sLoop (t : TD) (b : SC) : List D → SC
  | [] => sNx
  | d :: r => fun τ => match t d τ with
    | some τ1 => match b τ1 with
      | some (.nx, τ2) => sLoop t b r τ2
      | some (.ct, τ2) => sLoop t b r τ2
      | some (.bk, τ2) => some (.nx, τ2)
      | some (.rt s, τ2) => some (.rt s, τ2)
      | some (.ex c fs l, τ2) => some (.ex c fs l, τ2)
      | none => none
    | none => none
def sFor (it : CM (List D)) (t : TD) (b : SC) : SC := sE it fun l => sLoop t b l
theorem s_for {it : CM (List D)} {vs : List Nat} {t : TD} {b : SC} (hp : (g.pin.any vs.contains) = false) (h : PS X st (tFor (rdI g it) (rdG g vs t) (rdS g b))) : PS X st (rdS g (sFor it t b)) := ps_le h fun E σ H q => by
  obtain ⟨M0, φ, τ, fl, τ', hs, hm, k⟩ := rdS_iff.mp q
  rcases sE_some hm with ⟨items, τ1, e1, e2⟩ | ⟨c, fs, l, e1, rfl⟩
  · refine ⟨M0, φ, τ, _, _, hs, e1, fun J H1 φ1 hs1 l1 ok => ?_⟩
    have hpin : ∀ {σ1 σ2 : L2.St}, (∀ j, j ∉ vs → σ2[j]? = σ1[j]?) → ∀ j ∈ g.pin, σ2[j]? = σ1[j]? := fun o j hj => o j fun m => by
      rw [List.any_eq_false] at hp
      exact hp j hj (List.contains_iff_mem.mpr m)
    refine ⟨fun i m σ' H' => m = items.length - i ∧ i ≤ items.length ∧ ∃ φ' τ2, Sim g M0 φ' τ2 σ' H' ∧ Le (ran φ1) H1 (ran φ') H' ∧ (∀ j ∈ g.pin, σ'[j]? = σ[j]?) ∧ sLoop t b (items.drop i) τ2 = some (fl, τ'), ⟨items.length, by simp, Nat.zero_le _, φ1, τ1, hs1, .refl, fun _ _ => rfl, e2⟩, ?_⟩
    rintro i m σ' H' ⟨rfl, hi, φ', τ2, s2, l2, p2, e3⟩
    by_cases hlt : i < items.length
    · refine .inr ⟨ok.1 i _ H' (le_mof l2) hlt, fun σ3 H3 => i + 1 ≤ items.length ∧ ∃ φ3 τ3, Sim g M0 φ3 τ3 σ3 H3 ∧ Le (ran φ1) H1 (ran φ3) H3 ∧ (∀ j ∈ g.pin, σ3[j]? = σ[j]?) ∧ sLoop t b (items.drop (i + 1)) τ3 = some (fl, τ'), fun σ3 H3 n => ⟨_, by omega, rfl, n⟩, fun x H3 y => ?_⟩
      obtain ⟨e0, d, hd, rx⟩ := ok.2.2 i _ H' x H3 (le_mof l2) hlt y
      have hdrop : items.drop i = d :: items.drop (i + 1) := by
        rw [List.drop_eq_getElem_cons hlt]
        congr 1
        rw [List.getElem?_eq_getElem hlt] at hd
        exact Option.some.inj hd
      rw [hdrop] at e3
      unfold sLoop at e3
      split at e3
      · rename_i τ3 ht
        have s3 := s2.ev0 e0
        refine ⟨M0, φ', τ2, d, τ3, s3, rx, ht, fun σ4 φ4 s4 l4 len4 o4 => ?_⟩
        have l14 : Le (ran φ1) H1 (ran φ4) H3 := (l2.trans (s2.after0 e0)).trans l4
        have p4 : ∀ j ∈ g.pin, σ4[j]? = σ[j]? := fun j hj => (hpin o4 j hj).trans (p2 j hj)
        refine rdS_iff.mpr ?_
        have nxt : ∀ {τ5 : Tau}, sLoop t b (items.drop (i + 1)) τ5 = some (fl, τ') → ∀ σ5 H5, SOk g M0 φ4 H3 σ4 τ5 σ5 H5 → i + 1 ≤ items.length ∧ ∃ φ3 τ3, Sim g M0 φ3 τ3 σ5 H5 ∧ Le (ran φ1) H1 (ran φ3) H5 ∧ (∀ j ∈ g.pin, σ5[j]? = σ[j]?) ∧ sLoop t b (items.drop (i + 1)) τ3 = some (fl, τ') := fun {τ5} e5 σ5 H5 q => by
          obtain ⟨⟨φ5, s5, l5⟩, p5⟩ := q
          exact ⟨hlt, φ5, τ5, s5, l14.trans l5, fun j hj => (p5 j hj).trans (p4 j hj), e5⟩
        have kk := Fin.after (l1.trans l14) p4 k
        split at e3
        · rename_i τ5 hb
          exact ⟨M0, φ4, τ3, _, _, s4, hb, nxt e3⟩
        · rename_i τ5 hb
          exact ⟨M0, φ4, τ3, _, _, s4, hb, nxt e3⟩
        · rename_i τ5 hb
          cases e3
          exact ⟨M0, φ4, τ3, _, _, s4, hb, kk⟩
        · rename_i s5 τ5 hb
          cases e3
          exact ⟨M0, φ4, τ3, _, _, s4, hb, kk⟩
        · rename_i c5 fs5 l5 τ5 hb
          cases e3
          exact ⟨M0, φ4, τ3, _, _, s4, hb, kk⟩
        · cases e3
      · cases e3
    · have e : i = items.length := by omega
      subst e
      rw [List.drop_of_length_le (Nat.le_refl _)] at e3
      cases e3
      exact .inl ⟨ok.2.1 _ H' (le_mof l2), k σ' H' ⟨⟨φ', s2, l1.trans l2⟩, p2⟩⟩
  · exact ⟨M0, φ, τ, _, _, hs, e1, k.xk⟩
/-! ### while -/
def sWhile (c : CM Bool) (b : SC) : Nat → SC
  | 0 => fun _ => none
  | n + 1 => fun τ => match c τ with
    | some (.ok true, τ1) => match b τ1 with
      | some (.nx, τ2) => sWhile c b n τ2
      | some (.ct, τ2) => sWhile c b n τ2
      | some (.bk, τ2) => some (.nx, τ2)
      | some (.rt s, τ2) => some (.rt s, τ2)
      | some (.ex c fs l, τ2) => some (.ex c fs l, τ2)
      | none => none
    | some (.ok false, τ1) => some (.nx, τ1)
    | some (.ex c fs l, τ1) => some (.ex c fs l, τ1)
    | none => none
def fuelS : Option SV → Nat
  | some (.fz (.int i)) => i.natAbs
  | _ => 0
def fuelT (τ : Tau) : Nat := (τ.map fuelS).sum + 1099511627776
def sWhileT (c : CM Bool) (b : SC) : SC := fun τ => sWhile c b (fuelT τ) τ
theorem le_while {c : CM Bool} {b : SC} {n : Nat} (E : Ends) (σ : L2.St) (H : Hp) (q : rdS g (sWhile c b n) E σ H) : tWhile (rdT g c) (rdS g b) E σ H := by
  obtain ⟨M0, φ, τ, fl, τ', hs, hm, k⟩ := rdS_iff.mp q
  refine ⟨fun m σ' H' => ∃ φ' τ2, Sim g M0 φ' τ2 σ' H' ∧ Le (ran φ) H (ran φ') H' ∧ (∀ j ∈ g.pin, σ'[j]? = σ[j]?) ∧ sWhile c b m τ2 = some (fl, τ'), ⟨n, φ, τ, hs, .refl, fun _ _ => rfl, hm⟩, ?_⟩
  rintro m σ' H' ⟨φ', τ2, s2, l2, p2, e3⟩
  cases m with
  | zero => cases e3
  | succ m =>
    unfold sWhile at e3
    split at e3
    · rename_i τ3 hc
      refine ⟨M0, φ', τ2, _, _, s2, hc, fun H3 q3 => ?_⟩
      obtain ⟨φ3, s3, l3⟩ := q3
      rw [if_pos rfl]
      refine ⟨fun σ5 H5 => ∃ φ3 τ3, Sim g M0 φ3 τ3 σ5 H5 ∧ Le (ran φ) H (ran φ3) H5 ∧ (∀ j ∈ g.pin, σ5[j]? = σ[j]?) ∧ sWhile c b m τ3 = some (fl, τ'), fun σ5 H5 q => ⟨m, Nat.lt_succ_self m, q⟩, rdS_iff.mpr ?_⟩
      have l23 := l2.trans l3
      have nxt : ∀ {τ5 : Tau}, sWhile c b m τ5 = some (fl, τ') → ∀ σ5 H5, SOk g M0 φ3 H3 σ' τ5 σ5 H5 → ∃ φ3 τ3, Sim g M0 φ3 τ3 σ5 H5 ∧ Le (ran φ) H (ran φ3) H5 ∧ (∀ j ∈ g.pin, σ5[j]? = σ[j]?) ∧ sWhile c b m τ3 = some (fl, τ') := fun {τ5} e5 σ5 H5 q => by
        obtain ⟨⟨φ5, s5, l5⟩, p5⟩ := q
        exact ⟨φ5, τ5, s5, l23.trans l5, fun j hj => (p5 j hj).trans (p2 j hj), e5⟩
      have kk := Fin.after l23 p2 k
      split at e3
      · rename_i τ5 hb
        exact ⟨M0, φ3, τ3, _, _, s3, hb, nxt e3⟩
      · rename_i τ5 hb
        exact ⟨M0, φ3, τ3, _, _, s3, hb, nxt e3⟩
      · rename_i τ5 hb
        cases e3
        exact ⟨M0, φ3, τ3, _, _, s3, hb, kk⟩
      · rename_i s5 τ5 hb
        cases e3
        exact ⟨M0, φ3, τ3, _, _, s3, hb, kk⟩
      · rename_i c5 fs5 l5 τ5 hb
        cases e3
        exact ⟨M0, φ3, τ3, _, _, s3, hb, kk⟩
      · cases e3
    · rename_i τ3 hc
      cases e3
      refine ⟨M0, φ', τ2, _, _, s2, hc, fun H3 q3 => ?_⟩
      obtain ⟨φ3, s3, l3⟩ := q3
      rw [if_neg (by decide)]
      exact k σ' H3 ⟨⟨φ3, s3, l2.trans l3⟩, p2⟩
    · rename_i c5 fs5 l5 τ5 hc
      cases e3
      exact ⟨M0, φ', τ2, _, _, s2, hc, fun d H5 q5 => k σ' d H5 ⟨q5.after l2, p2⟩⟩
    · cases e3
theorem s_while {c : CM Bool} {b : SC} {n : Nat} (h : PS X st (tWhile (rdT g c) (rdS g b))) : PS X st (rdS g (sWhile c b n)) := ps_le h le_while
/-- with as many turns as the integers at hand are big -/
theorem s_whileT {c : CM Bool} {b : SC} (h : PS X st (tWhile (rdT g c) (rdS g b))) : PS X st (rdS g (sWhileT c b)) := ps_le h fun E σ H q => by
  obtain ⟨M0, φ, τ, fl, τ', hs, hm, k⟩ := rdS_iff.mp q
  exact le_while (n := fuelT τ) E σ H (rdS_iff.mpr ⟨M0, φ, τ, fl, τ', hs, hm, k⟩)
end
end VS

/-! ## S11: comprehensions -/
namespace VS
open PySem PySem.Spec PyProof.Rows L2
section
variable {g g' : Gx} {M M0 M1 : Ad} {φ φ1 : Nat → List Addr} {τ τ' : Tau} {σ σ1 σ2 : L2.St} {H H' H1 : Hp} {v x y : V} {vs : List V} {d : D} {ds : List D} {s : SV} {l : List SV} {F : List Addr}
/-! another frame's context -/
mutual
theorem R.cast (hK : g'.K = g.K) (hc : g'.cl = g.cl) (hh : g'.hid = g.hid) : ∀ (d : D) (v : V), R g M H v d → R g' M H v d
  | .non, _, h => by cases h; exact .non
  | .bl b, _, h => by cases h; exact .bl b
  | .int i, _, h => by cases h; exact .int i
  | .str x, _, h => by cases h; exact .str x
  | .tup ds, _, h => by
    cases h with
    | tup q r => exact .tup (by rw [hK]; exact q) (Rs.cast hK hc hh ds _ r)
  | .ob hd ds, _, h => by
    cases h with
    | ob q qi n p r => exact .ob q qi n (by rw [hc, hh]; exact p) (Rs.cast hK hc hh ds _ r)
  | .fro ds, _, h => by
    cases h with
    | fro q r => exact .fro (by rw [hK]; exact q) (Rs.cast hK hc hh ds _ r)
theorem Rs.cast (hK : g'.K = g.K) (hc : g'.cl = g.cl) (hh : g'.hid = g.hid) : ∀ (ds : List D) (vs : List V), Rs g M H vs ds → Rs g' M H vs ds
  | [], _, h => by cases h; exact .nil
  | d :: ds, _, h => by
    cases h with
    | cons p q => exact .cons (R.cast hK hc hh d _ p) (Rs.cast hK hc hh ds _ q)
end
mutual
theorem Ow.cast (hK : g'.K = g.K) (hc : g'.cl = g.cl) (hh : g'.hid = g.hid) : ∀ (s : SV) (v : V) (F : List Addr), Ow g M H v s F → Ow g' M H v s F
  | .fz d, _, _, h => by
    cases h with
    | fz r => exact .fz (R.cast hK hc hh d _ r)
  | .mu hd l, _, _, h => by
    cases h with
    | mu h1 h2 h3 => exact .mu h1 (by rw [hc]; exact h2) (Ows.cast hK hc hh l _ _ h3)
theorem Ows.cast (hK : g'.K = g.K) (hc : g'.cl = g.cl) (hh : g'.hid = g.hid) : ∀ (l : List SV) (vs : List V) (F : List Addr), Ows g M H vs l F → Ows g' M H vs l F
  | [], _, _, h => by cases h; exact .nil
  | s :: l, _, _, h => by
    cases h with
    | cons p q => exact .cons (Ow.cast hK hc hh s _ _ p) (Ows.cast hK hc hh l _ _ q)
end
theorem Sim.cast (hK : g'.K = g.K) (hc : g'.cl = g.cl) (hh : g'.hid = g.hid) (h : Sim g M0 φ τ σ H) : Sim g' M0 φ τ σ H :=
  ⟨h.len, fun i s q => by
    obtain ⟨v, a, b⟩ := h.at_ i s q
    exact ⟨v, a, Ow.cast hK hc hh _ _ _ b⟩, h.nd, h.dj, h.d0, h.al⟩
/-- a block's context: nothing is raised -/
abbrev gB (g : Gx) : Gx := { g with pin := [], ex := fun _ _ _ _ => False }
theorem Sim.blk (h : Sim g M0 φ τ σ H) : Sim (gB g) M0 φ τ σ H := Sim.cast (g := g) (g' := gB g) rfl rfl rfl h
theorem Sim.unblk (h : Sim (gB g) M0 φ τ σ H) : Sim g M0 φ τ σ H := Sim.cast (g := gB g) (g' := g) rfl rfl rfl h
theorem R.blk (h : R g M H v d) : R (gB g) M H v d := R.cast (g := g) (g' := gB g) rfl rfl rfl _ _ h
theorem R.unblk (h : R (gB g) M H v d) : R g M H v d := R.cast (g := gB g) (g' := g) rfl rfl rfl _ _ h
/-! the own names of a comprehension -/
def wipeT (τ : Tau) : List Nat → Tau
  | [] => τ
  | v :: vs => (wipeT τ vs).set v none
theorem Sim.wipe (h : Sim g M0 φ τ σ H) : ∀ vs : List Nat, Sim g M0 φ (wipeT τ vs) (wipe σ vs) H
  | [] => h
  | v :: vs => (h.wipe vs).drop
theorem wipeT_some {i : Nat} : ∀ {vs : List Nat}, (wipeT τ vs)[i]? = some (some s) → i ∉ vs ∧ τ[i]? = some (some s)
  | [], h => ⟨by simp, h⟩
  | v :: vs, h => by
    unfold wipeT at h
    by_cases e : v = i
    · subst e
      rw [List.getElem?_set, if_pos rfl] at h
      split at h <;> cases h
    · rw [List.getElem?_set_ne e] at h
      obtain ⟨a, b⟩ := wipeT_some h
      exact ⟨by simp [Ne.symm e, a], b⟩
theorem wipeT_len : ∀ vs : List Nat, (wipeT τ vs).length = τ.length
  | [] => rfl
  | v :: vs => by unfold wipeT; rw [List.length_set, wipeT_len vs]
/-- back to the def's slots -/
theorem Sim.back {vs : List Nat} (h : Sim g M0 φ τ σ1 H) (hl : σ.length = σ1.length) (o : ∀ j, j ∉ vs → σ1[j]? = σ[j]?) : Sim g M0 φ (wipeT τ vs) σ H :=
  ⟨by rw [wipeT_len, hl, h.len], fun i s q => by
    obtain ⟨ni, q⟩ := wipeT_some q
    obtain ⟨v, a, b⟩ := h.at_ i s q
    exact ⟨v, by rw [← o i ni]; exact a, b⟩, h.nd, h.dj, h.d0, h.al⟩
theorem wipe_out {i : Nat} : ∀ {vs : List Nat}, i ∉ vs → (wipe σ vs)[i]? = σ[i]?
  | [], _ => rfl
  | v :: vs, h => by
    unfold L2.wipe
    rw [List.getElem?_set_ne (fun e => h (by subst e; exact List.mem_cons_self))]
    exact wipe_out fun m => h (List.mem_cons_of_mem _ m)
theorem wipe_in {i : Nat} : ∀ {vs : List Nat}, i ∈ vs → i < σ.length → (wipe σ vs)[i]? = some none
  | v :: vs, h, hl => by
    unfold L2.wipe
    by_cases e : v = i
    · subst e
      rw [List.getElem?_set, if_pos rfl, if_pos (by rw [wipe_length]; exact hl)]
    · rw [List.getElem?_set_ne e]
      rcases List.mem_cons.mp h with h | h
      · exact absurd h.symm e
      · exact wipe_in h hl
theorem wipe_eq {vs : List Nat} (hl : σ2.length = σ.length) (o : ∀ j, j ∉ vs → σ2[j]? = (wipe σ vs)[j]?) : wipe σ2 vs = wipe σ vs := by
  apply List.ext_getElem?
  intro i
  by_cases h : i ∈ vs
  · by_cases hi : i < σ.length
    · rw [wipe_in h hi, wipe_in h (by rw [hl]; exact hi)]
    · rw [List.getElem?_eq_none (by rw [wipe_length, hl]; omega), List.getElem?_eq_none (by rw [wipe_length]; omega)]
  · rw [wipe_out h, o i h]
/-! one address more -/
theorem plus1 {D0 a : Addr} (h : plus M [D0] a) : M a ∨ a = D0 := h.imp id (by simp)
theorem Le.pl {D0 : Addr} (l : Le M H M1 H1) : Le (VS.plus M [D0]) H (VS.plus M1 [D0]) H1 :=
  ⟨l.ev.mono fun _ q => .inl q, fun a q => by
    rcases plus1 q with q | rfl
    · exact (l.grow a q).imp .inl id
    · exact .inl (.inr (by simp))⟩
/-- the address is written -/
theorem put_ev {D0 : Addr} {o o' : HO} (h : H D0 = some o) (k : kindO o' = kindO o) (n1 : kindO o ≠ 1) (n2 : kindO o ≠ 10) : Evp (· = D0) H (upd H D0 o') := by
  have := ev_p (Ev.put (o' := o') h k n1 n2)
  exact this.mono fun a m => by simpa using m
theorem Sim.put {D0 : Addr} {o o' : HO} (hs : Sim g (plus M0 [D0]) φ τ σ H) (h : H D0 = some o) (k : kindO o' = kindO o) (n1 : kindO o ≠ 1) (n2 : kindO o ≠ 10) : Sim g (plus M0 [D0]) φ τ σ (upd H D0 o') := by
  have e := put_ev h k n1 n2
  refine ⟨hs.len, fun i s q => ?_, hs.nd, hs.dj, hs.d0, fun a q => e.live (hs.al a q)⟩
  obtain ⟨v, a, b⟩ := hs.at_ i s q
  refine ⟨v, a, b.keep' e (fun a q => ?_) (fun a q => .inl q) fun a m q => ?_⟩
  · subst q; exact .inl (.inr (by simp))
  · subst q; exact hs.d0 i a m (.inr (by simp))
theorem put_le {D0 : Addr} {o o' : HO} (h : H D0 = some o) (k : kindO o' = kindO o) (n1 : kindO o ≠ 1) (n2 : kindO o ≠ 10) : Le (plus M [D0]) H (plus M [D0]) (upd H D0 o') :=
  ⟨(put_ev h k n1 n2).mono fun a q => .inr (by simpa using q), fun _ q => .inl q⟩
theorem mofp {D0 a : Addr} : Mof (plus M0 [D0]) φ a ↔ plus (Mof M0 φ) [D0] a := by
  rw [mof_plus]
  rfl
theorem Le.mof1 {D0 : Addr} (l : Le (plus (ran φ) [D0]) H (plus (ran φ1) [D0]) H1) : Le (Mof (plus M0 [D0]) φ) H (Mof (plus M0 [D0]) φ1) H1 :=
  ⟨l.ev.mono fun a q => by
    rcases plus1 q with q | rfl
    · exact .inr q
    · exact .inl (.inr (by simp)), fun a q => by
    rcases q with (q | q) | q
    · exact .inl (.inl (.inl q))
    · exact .inl (.inl (.inr q))
    · exact (l.grow a (.inl q)).imp (fun q => by
        rcases plus1 q with q | rfl
        · exact .inr q
        · exact .inl (.inr (by simp))) id⟩
end
/-! ### lists -/
def lcGo (t : TD) (c : CM Bool) (el : CM D) (vs : List Nat) : List D → List D → Tau → Option (List D × Tau)
  | [], acc, τ => some (acc, τ)
  | d :: r, acc, τ => match t d (wipeT τ vs) with
    | some τ1 => match c τ1 with
      | some (.ok true, τ2) => match el τ2 with
        | some (.ok y, τ3) => if acc.length < sizeLine then lcGo t c el vs r (acc ++ [y]) (wipeT τ3 vs) else none
        | _ => none
      | some (.ok false, τ2) => lcGo t c el vs r acc (wipeT τ2 vs)
      | _ => none
    | none => none
def mLc (vs : List Nat) (it : CM (List D)) (t : TD) (c : CM Bool) (el : CM D) : CM SV := bnd it fun l τ => (lcGo t c el vs l [] τ).map fun p => (.ok (.mu .lst (p.1.map .fz)), p.2)
def cYes : CM Bool := ret (some true)
section
variable {X : Cx} {g : Gx} {e : Expr} {φ : Nat → List Addr} {τ τ' : Tau} {σ : L2.St} {H H' : Hp}
theorem t_yes (σ : L2.St) (H : Hp) (Q : Bool → Hp → Prop) (h : rdT g cYes σ H Q) : tYes σ H Q := by
  obtain ⟨M0, φ, τ, r, τ', hs, hm, k⟩ := h
  obtain ⟨x, ex, rfl, rfl⟩ := ret_some hm
  cases ex
  exact k H ⟨φ, hs, .refl⟩
theorem le_lc {it : CM (List D)} {vs ws : List Nat} {t : TD} {c : CM Bool} {el : CM D} {tt : TT} (hw : ∀ i ∈ ws, i ∈ vs) (ht : ∀ σ H Q, rdT (gB g) c σ H Q → tt σ H Q) (σ : L2.St) (H : Hp) (Q : VK) (q : rdE g (mLc vs it t c el) σ H Q) :
    tLc (rdI g it) (rdG (gB g) ws t) tt (rdD (gB g) el) vs σ H Q := by
  obtain ⟨M0, φ, τ, rs, τ', hs, hm, k⟩ := q
  rcases bnd_some hm with ⟨items, τ1, e1, e2⟩ | ⟨c', fs, l, e1, rfl⟩
  · simp only [Option.map_eq_some_iff] at e2
    obtain ⟨⟨out, τf⟩, e2, e3⟩ := e2
    cases e3
    refine ⟨M0, φ, τ, _, _, hs, e1, fun J H1 φ1 hs1 l1 ok => ?_⟩
    intro D0 hD
    have ok1 : ∀ {φ' : Nat → List Addr} {H' : Hp}, Le (ran φ1) H1 (plus (ran φ') [D0]) H' → Le (Mof M0 φ1) H1 (Mof (plus M0 [D0]) φ') H' := fun {φ' H'} l =>
      ⟨l.ev.mono fun _ q => .inr q, fun a q => by
        rcases q with (q | q) | q
        · exact .inl (.inl q)
        · exact .inr (by simp at q; rw [q]; exact hD)
        · exact (l.grow a (.inl q)).imp .inr id⟩
    have hlive : upd H1 D0 (.lst []) D0 ≠ none := by rw [upd_same]; exact fun q => nomatch q
    refine ⟨fun i m Hc => m = items.length - i ∧ i ≤ items.length ∧ ∃ φ' τ2 acc xs, Sim g (plus M0 [D0]) φ' τ2 σ Hc ∧ Le (ran φ1) H1 (plus (ran φ') [D0]) Hc ∧ Hc D0 = some (.lst xs) ∧ Rs g (Mof (plus M0 [D0]) φ') Hc xs acc ∧ lcGo t c el vs (items.drop i) acc τ2 = some (out, τf), ⟨items.length, by simp, Nat.zero_le _, φ1, τ1, [], [], hs1.more (F := [D0]) (new0 hD) (fun a m => by simp at m; rw [m]; exact hD) (fun a m => by simp at m; rw [m]; exact hlive), .of0 (new0 hD) fun a q => (plus1 q).imp id fun e => by rw [e]; exact hD, upd_same, .nil, e2⟩, ?_⟩
    rintro i m Hc ⟨rfl, hi, φ', τ2, acc, xs, s2, l2, hDc, rs, e3⟩
    by_cases hlt : i < items.length
    · refine .inr ⟨ok.1 i _ Hc (ok1 l2) hlt, fun H3 => i + 1 ≤ items.length ∧ ∃ φ3 τ3 acc xs, Sim g (plus M0 [D0]) φ3 τ3 σ H3 ∧ Le (ran φ1) H1 (plus (ran φ3) [D0]) H3 ∧ H3 D0 = some (.lst xs) ∧ Rs g (Mof (plus M0 [D0]) φ3) H3 xs acc ∧ lcGo t c el vs (items.drop (i + 1)) acc τ3 = some (out, τf), fun H3 n => ⟨_, by omega, rfl, n⟩, fun x H3 y => ?_⟩
      obtain ⟨e0, d, hd, rx⟩ := ok.2.2 i _ Hc x H3 (ok1 l2) hlt y
      have hdrop : items.drop i = d :: items.drop (i + 1) := by
        rw [List.drop_eq_getElem_cons hlt]
        congr 1
        rw [List.getElem?_eq_getElem hlt] at hd
        exact Option.some.inj hd
      rw [hdrop] at e3
      unfold lcGo at e3
      split at e3
      · rename_i τ3 ht'
        have s3 := (s2.ev0 e0).wipe vs
        have l3 : Le (ran φ1) H1 (plus (ran φ') [D0]) H3 := l2.trans (.of0 e0 fun _ q => .inl q)
        have hD3 := e0.keep _ _ hDc id
        have rs3 := rs.ev0 e0
        refine ⟨plus M0 [D0], φ', wipeT τ2 vs, d, τ3, s3.blk, rx.blk, ht', fun σ4 φ4 s4 l4 len4 o4 => ?_⟩
        have s4 := s4.unblk
        have o4' : ∀ j, j ∉ vs → σ4[j]? = (wipe σ vs)[j]? := fun j hj => o4 j fun m => hj (hw j m)
        have len4' : σ4.length = σ.length := by rw [len4, wipe_length]
        refine ⟨wipe_eq len4' o4', ht _ _ _ ?_⟩
        have back : ∀ {τ5 : Tau} {φ5 : Nat → List Addr} {H5 : Hp}, Sim g (plus M0 [D0]) φ5 τ5 σ4 H5 → Sim g (plus M0 [D0]) φ5 (wipeT τ5 vs) σ H5 := fun s5 => s5.back len4'.symm fun j hj => (o4' j hj).trans (wipe_out hj)
        have l34 : Le (ran φ1) H1 (plus (ran φ4) [D0]) H3 := l3.trans (Le.pl l4)
        have rs4 := (Le.mof1 (M0 := M0) (D0 := D0) (Le.pl l4)).rs rs3
        have keepD : ∀ {φ5 φ6 : Nat → List Addr} {τ5 : Tau} {H5 H6 : Hp} {u : HO}, Sim g (plus M0 [D0]) φ5 τ5 σ4 H5 → Le (ran φ5) H5 (ran φ6) H6 → H5 D0 = some u → H6 D0 = some u := fun {φ5 φ6 τ5 H5 H6 u} s5 l5 h5 => l5.ev.keep _ _ h5 fun q => by
          obtain ⟨j, q⟩ := q
          exact s5.d0 j D0 q (.inr (by simp))
        split at e3
        · rename_i τ5 hc
          refine ⟨plus M0 [D0], φ4, τ3, _, _, s4.blk, hc, fun H5 q5 => ?_⟩
          obtain ⟨φ5, s5, l5⟩ := q5
          have s5 := s5.unblk
          rw [if_pos rfl]
          split at e3
          · rename_i y τ6 he
            split at e3
            · rename_i hz
              refine ⟨plus M0 [D0], φ5, τ5, _, _, s5.blk, he, fun v6 H6 q6 => ?_⟩
              obtain ⟨φ6, s6, r6, l6⟩ := q6
              have s6 := s6.unblk
              have hD5 := keepD s4 l5 hD3
              have hD6 := keepD s5 l6 hD5
              have rs6 := (le_mof l6).rs ((le_mof l5).rs rs4)
              have lp := put_le (M := ran φ6) (o' := .lst (xs ++ [v6])) hD6 rfl (by simp [kindO]) (by simp [kindO])
              refine ⟨xs, hD6, by rw [rs6.length]; exact hz, hlt, φ6, wipeT τ6 vs, acc ++ [y], xs ++ [v6], (back s6).put hD6 rfl (by simp [kindO]) (by simp [kindO]), ((l34.trans (Le.pl l5)).trans (Le.pl l6)).trans lp, upd_same, (Le.mof1 lp).rs (rs6.app (.cons r6.unblk .nil)), e3⟩
            · cases e3
          · cases e3
        · rename_i τ5 hc
          refine ⟨plus M0 [D0], φ4, τ3, _, _, s4.blk, hc, fun H5 q5 => ?_⟩
          obtain ⟨φ5, s5, l5⟩ := q5
          have s5 := s5.unblk
          rw [if_neg (by decide)]
          exact ⟨hlt, φ5, wipeT τ5 vs, acc, xs, back s5, l34.trans (Le.pl l5), keepD s4 l5 hD3, (le_mof l5).rs rs4, e3⟩
        · cases e3
      · cases e3
    · have e : i = items.length := by omega
      subst e
      rw [List.drop_of_length_le (Nat.le_refl _)] at e3
      cases e3
      refine .inl ⟨ok.2.1 _ Hc (ok1 l2), k _ Hc ⟨[D0], φ', s2, .mu hDc rfl rs.ws, List.nodup_cons.mpr ⟨List.not_mem_nil, .nil⟩, fun a m q => ?_, l1.trans l2⟩⟩
      simp at m
      subst m
      exact hs1.al a (.inl q) hD
  · exact ⟨M0, φ, τ, _, _, hs, e1, k⟩
theorem s_lc {it : CM (List D)} {vs ws : List Nat} {t : TD} {el : CM D} (hw : ∀ i ∈ ws, i ∈ vs) (h : PE X e (tLc (rdI g it) (rdG (gB g) ws t) tYes (rdD (gB g) el) vs)) : PE X e (rdE g (mLc vs it t cYes el)) := pe_le h (le_lc hw t_yes)
theorem s_lcIf {it : CM (List D)} {vs ws : List Nat} {t : TD} {c : CM Bool} {el : CM D} (hw : ∀ i ∈ ws, i ∈ vs) (h : PE X e (tLc (rdI g it) (rdG (gB g) ws t) (rdT (gB g) c) (rdD (gB g) el) vs)) : PE X e (rdE g (mLc vs it t c el)) := pe_le h (le_lc hw fun _ _ _ q => q)
theorem s_setLc {st : Stmt} {i : Nat} {it : CM (List D)} {vs ws : List Nat} {t : TD} {el : CM D} (hp : g.pin.contains i = false) (hw : ∀ i ∈ ws, i ∈ vs) (h : PS X st (tAsg (tLc (rdI g it) (rdG (gB g) ws t) tYes (rdD (gB g) el) vs) (gName i))) : PS X st (rdS g (sSet i (mLc vs it t cYes el))) :=
  s_set hp (ps_le h fun E σ H q => le_lc hw t_yes _ _ _ q)
theorem s_setLcIf {st : Stmt} {i : Nat} {it : CM (List D)} {vs ws : List Nat} {t : TD} {c : CM Bool} {el : CM D} (hp : g.pin.contains i = false) (hw : ∀ i ∈ ws, i ∈ vs) (h : PS X st (tAsg (tLc (rdI g it) (rdG (gB g) ws t) (rdT (gB g) c) (rdD (gB g) el) vs) (gName i))) : PS X st (rdS g (sSet i (mLc vs it t c el))) :=
  s_set hp (ps_le h fun E σ H q => le_lc hw (fun _ _ _ q => q) _ _ _ q)
end
end VS

/-! ## S12: defs and their calls -/
namespace VS
open PySem PySem.Spec PyProof.Rows L2
abbrev Fn := List SV → Option (Res SV × List SV)
/-- what the arguments have become: those at pinned slots as they stand, the others unchanged data -/
def outs (pin : List Nat) (τ' : Tau) : Nat → List SV → Option (List SV)
  | _, [] => some []
  | i, s :: r => if pin.contains i = true then
      match τ'[i]? with
      | some (some s') => (outs pin τ' (i + 1) r).map (s' :: ·)
      | _ => none
    else match s with
      | .fz d => (outs pin τ' (i + 1) r).map (.fz d :: ·)
      | .mu _ _ => none
def mkFn (n : Nat) (pin : List Nat) (body : SC) : Fn := fun args => match body (args.map some ++ List.replicate (n - args.length) none) with
  | some (.rt s, τ') => (outs pin τ' 0 args).map fun o => (.ok s, o)
  | some (.nx, τ') => (outs pin τ' 0 args).map fun o => (.ok (.fz .non), o)
  | some (.ex c fs l, τ') => (outs pin τ' 0 args).map fun o => (.ex c fs l, o)
  | _ => none
/-- a context without frame -/
abbrev gK (K : PySem.W.Frag) (cl : Nat → Addr) (hid : Nat → List Str) : Gx := ⟨K, cl, hid, [], fun _ _ _ _ => False⟩
def spF (g : Gx) (F : Fn) : Sp := fun vs H Q E => ∃ M0 φ args r os, Sim g M0 φ (args.map some) (vs.map some) H ∧ F args = some (r, os) ∧
  match r with
  | .ok s => ∀ v H', EOk g M0 φ H (vs.map some) s (os.map some) v H' → Q v H'
  | .ex c fs l => ∀ d H', XOk g M0 φ H (vs.map some) fs l (os.map some) d H' → E (.ref (g.cl c)) d H'
section
variable {X : Cx} {g g' : Gx} {e : Expr} {es : List Expr} {M M0 M1 : Ad} {φ φ1 φ2 : Nat → List Addr} {τ τ' : Tau} {σ σ1 σ2 : L2.St} {H H' H1 : Hp} {v x y : V} {vs : List V} {d : D} {ds : List D} {s : SV} {l : List SV} {F : List Addr} {args os : List SV}
theorem outs_len {pin : List Nat} : ∀ {i : Nat} {args os : List SV}, outs pin τ' i args = some os → os.length = args.length
  | _, [], _, h => by cases h; rfl
  | i, s :: r, os, h => by
    unfold outs at h
    split at h
    · split at h
      · simp only [Option.map_eq_some_iff] at h
        obtain ⟨o, h, rfl⟩ := h
        simp [outs_len h]
      · cases h
    · split at h
      · simp only [Option.map_eq_some_iff] at h
        obtain ⟨o, h, rfl⟩ := h
        simp [outs_len h]
      · cases h
theorem outs_at {pin : List Nat} : ∀ {i : Nat} {args os : List SV}, outs pin τ' i args = some os → ∀ {k : Nat} {s : SV}, os[k]? = some s → (i + k ∈ pin ∧ τ'[i + k]? = some (some s)) ∨ ∃ d, s = .fz d ∧ args[k]? = some (.fz d) ∧ pin.contains (i + k) = false
  | _, [], _, h, k, s, e => by cases h; simp at e
  | i, s0 :: r, os, h, k, s, e => by
    unfold outs at h
    split at h
    · rename_i hp
      split at h
      · rename_i s' hs'
        simp only [Option.map_eq_some_iff] at h
        obtain ⟨o, h, rfl⟩ := h
        cases k with
        | zero =>
          cases e
          exact .inl ⟨List.contains_iff_mem.mp hp, hs'⟩
        | succ k =>
          have := outs_at h (k := k) (s := s) e
          rw [show i + 1 + k = i + (k + 1) by omega] at this
          exact this
      · cases h
    · rename_i hnp
      split at h
      · rename_i d
        simp only [Option.map_eq_some_iff] at h
        obtain ⟨o, h, rfl⟩ := h
        cases k with
        | zero =>
          cases e
          exact .inr ⟨d, rfl, rfl, by simpa using hnp⟩
        | succ k =>
          have := outs_at h (k := k) (s := s) e
          rw [show i + 1 + k = i + (k + 1) by omega] at this
          exact this
      · cases h
theorem map_some_at {α : Type} {l : List α} {i : Nat} {a : α} : (l.map some)[i]? = some (some a) ↔ l[i]? = some a := by
  rw [List.getElem?_map]
  cases l[i]? <;> simp
/-- a frame's slots, from the arguments -/
theorem Sim.start {n : Nat} (h : Sim g M0 φ (args.map some) (vs.map some) H) : Sim g M0 φ (args.map some ++ List.replicate (n - args.length) none) (vs.map some ++ List.replicate (n - vs.length) none) H := by
  have hl : vs.length = args.length := by have := h.len; simpa using this
  refine ⟨by simp [hl], fun i s q => ?_, h.nd, h.dj, h.d0, h.al⟩
  by_cases hi : i < (args.map some).length
  · rw [List.getElem?_append_left hi] at q
    obtain ⟨v, a, b⟩ := h.at_ i s q
    exact ⟨v, by rw [List.getElem?_append_left (by rw [h.len]; exact hi)]; exact a, b⟩
  · rw [List.getElem?_append_right (by omega), List.getElem?_replicate] at q
    split at q <;> cases q
/-- .. and back -/
def pinF (pin : List Nat) (φ : Nat → List Addr) : Nat → List Addr := fun i => if pin.contains i = true then φ i else []
theorem pinF_sub {pin : List Nat} {i : Nat} {a : Addr} (h : a ∈ pinF pin φ i) : a ∈ φ i ∧ pin.contains i = true := by
  unfold pinF at h
  split at h
  · exact ⟨h, by assumption⟩
  · cases h
theorem pinF_mof {pin : List Nat} {a : Addr} (h : Mof M0 (pinF pin φ) a) : Mof M0 φ a := by
  rcases h with h | ⟨i, h⟩
  · exact .inl h
  · exact .inr ⟨i, (pinF_sub h).1⟩
theorem Sim.stop {n : Nat} {pin : List Nat} (h0 : Sim g M0 φ (args.map some) (vs.map some) H) (l : Le (ran φ) H (ran φ1) H1) (h : Sim g M1 φ1 τ' σ1 H1) (ho : outs pin τ' 0 args = some os)
    (hp : ∀ i ∈ pin, σ1[i]? = (vs.map some ++ List.replicate (n - vs.length) none)[i]?) (gr : ∀ a, M1 a → M0 a ∨ H a = none ∨ ran φ a) : Sim g M1 (pinF pin φ1) (os.map some) (vs.map some) H1 := by
  have hl : vs.length = args.length := by have := h0.len; simpa using this
  refine ⟨by simp [hl, outs_len ho], fun i s q => ?_, fun i => ?_, fun i j a p q => h.dj i j a (pinF_sub p).1 (pinF_sub q).1, fun i a p => h.d0 i a (pinF_sub p).1, fun a q => h.al a (pinF_mof q)⟩
  · rw [map_some_at] at q
    have hi' : i < args.length := by rw [← outs_len ho]; exact (List.getElem?_eq_some_iff.mp q).1
    have shrink : ∀ {v : V} {F : List Addr}, Ow g (Mof M1 φ1) H1 v s F → Ow g (Mof M1 (pinF pin φ1)) H1 v s F := fun w => w.sub fun a q => pinF_mof q
    rcases outs_at ho q with ⟨hi, e⟩ | ⟨d, rfl, e, hnp⟩
    · rw [Nat.zero_add] at hi e
      obtain ⟨v, a, b⟩ := h.at_ i s e
      refine ⟨v, ?_, ?_⟩
      · rw [hp i hi, List.getElem?_append_left (by simp [hl, hi'])] at a
        exact a
      · unfold pinF
        rw [if_pos (List.contains_iff_mem.mpr hi)]
        exact shrink b
    · obtain ⟨v, a, b⟩ := h0.at_ i (.fz d) (map_some_at.mpr e)
      have r := (ow_fz b).1
      have r1 : R g (Mof M1 φ1) H1 v d := Le.r ⟨l.ev.mono fun _ q => .inr q, fun a q => by
        rcases q with q | q
        · rcases gr a q with q | q | q
          · exact .inl (.inl q)
          · exact .inr q
          · exact .inl (.inr q)
        · exact (l.grow a q).imp .inr id⟩ r
      refine ⟨v, a, ?_⟩
      unfold pinF
      rw [Nat.zero_add] at hnp
      rw [if_neg (by rw [hnp]; decide)]
      exact shrink (.fz r1)
  · unfold pinF
    split
    · exact h.nd i
    · exact .nil
end
end VS

/-! ## S13: a def keeps its promise; calls -/
namespace VS
open PySem PySem.Spec PyProof.Rows L2
section
variable {P : Program} {w : World} {K : PySem.W.Frag} {mg : Str → Option Value} {base : Heap}
/-- a frame's context -/
abbrev gF (K : PySem.W.Frag) (cl : Nat → Addr) (hid : Nat → List Str) (pin : List Nat) (E : XK) : Gx := ⟨K, cl, hid, pin, fun _ => E⟩
theorem spF_len {g : Gx} {F : Fn} {ps : List Str} (hl : ∀ args r, F args = some r → args.length = ps.length) (vs : List V) (H : Hp) (Q : VK) (E : XK) (h : spF g F vs H Q E) : vs.length = ps.length := by
  obtain ⟨M0, φ, args, r, os, hs, hf, _⟩ := h
  rw [← hl args _ hf]
  have := hs.len
  simpa using this
/-- a def of so many parameters -/
def ary (n : Nat) (F : Fn) : Fn := fun args => if args.length = n then F args else none
theorem fn_S {x qual : Str} {st : Stmt} {f : Addr} {fd : FuncData} {N ps : List Str} {k : Nat} {cl : Nat → Addr} {hid : Nat → List Str} {m : SC} {pin : List Nat} {n na : Nat} (F : Fun K x qual st f fd) (S : FnScope N ps (defScope st)) (hn : N.length = n) (hna : ps.length = na)
    (hbody : ∀ (cdv : Value) (A : Around) (outer : List Env) (s : Shared) (H : Hp) (E : XK), Room k (A.deeper (envOfC qual (defScope st) s.heap.objs.size f cdv)) →
      PSs (cxOf (L2.CX P w) P w K mg base N qual (defScope st) f cdv A outer s H E) (defBody st) (rdS (gF K cl hid pin E) m)) : FnOk P w K mg base (L2.CX P w) (k + 1) f fd ps (spF (gK K cl hid) (ary na (mkFn n pin m))) := by
  subst hn hna
  have hary : ∀ args r, ary ps.length (mkFn N.length pin m) args = some r → args.length = ps.length ∧ mkFn N.length pin m args = some r := fun args r h => by
    unfold ary at h
    split at h
    · exact ⟨by assumption, h⟩
    · cases h
  refine F.okX S (fun vs H Q E h => spF_len (fun args r h => (hary args r h).1) vs H Q E h) (fun cdv A outer s H vs Q E hr h => ⟨_, hbody cdv A outer s H E hr, ?_⟩)
  obtain ⟨M0, φ, args, r, os, hs, hf, kk⟩ := h
  have hf := (hary _ _ hf).2
  have hl : vs.length = args.length := by have := hs.len; simpa using this
  have hs' : Sim (gF K cl hid pin E) M0 φ (args.map some) (vs.map some) H := Sim.cast (g := gK K cl hid) (g' := gF K cl hid pin E) rfl rfl rfl hs
  have s0 : Sim (gF K cl hid pin E) M0 φ (args.map some ++ List.replicate (N.length - args.length) none) (start N vs) H := hs'.start
  have cast : ∀ {φ1 : Nat → List Addr} {τ1 : Tau} {σ1 : L2.St} {H1 : Hp} {M1 : Ad}, Sim (gF K cl hid pin E) M1 φ1 τ1 σ1 H1 → Sim (gK K cl hid) M1 φ1 τ1 σ1 H1 := fun h => Sim.cast (g := gF K cl hid pin E) (g' := gK K cl hid) rfl rfl rfl h
  have lpin : ∀ {φ1 : Nat → List Addr} {H1 : Hp} {F1 : List Addr}, Le (ran φ) H (plus (ran φ1) F1) H1 → Le (ran φ) H (plus (ran (pinF pin φ1)) F1) H1 := fun l => ⟨l.ev, fun a q => l.grow a (q.imp (fun ⟨i, q⟩ => ⟨i, (pinF_sub q).1⟩) id)⟩
  have lpin0 : ∀ {φ1 : Nat → List Addr} {H1 : Hp}, Le (ran φ) H (ran φ1) H1 → Le (ran φ) H (ran (pinF pin φ1)) H1 := fun l => ⟨l.ev, fun a ⟨i, q⟩ => l.grow a ⟨i, (pinF_sub q).1⟩⟩
  refine rdS_iff.mpr ?_
  unfold mkFn at hf
  split at hf
  · rename_i s1 τ' hb
    simp only [Option.map_eq_some_iff] at hf
    obtain ⟨o, ho, e⟩ := hf
    cases e
    refine ⟨M0, φ, _, _, _, s0, hb, fun σ' v H' q => kk v H' ?_⟩
    obtain ⟨⟨F1, φ1, s1, w1, nd, n0, l1⟩, hp⟩ := q
    have l1' : Le (ran φ) H (ran φ1) H' := ⟨l1.ev, fun a q => l1.grow a (.inl q)⟩
    have s2 := Sim.stop (n := N.length) hs' l1' s1 ho hp fun a q => by
      rcases q with q | q
      · exact .inl q
      · exact .inr ((l1.grow a (.inr q)).symm)
    exact ⟨F1, pinF pin φ1, cast s2, (Ow.cast (g := gF K cl hid pin E) (g' := gK K cl hid) rfl rfl rfl _ _ _ w1).sub fun a q => pinF_mof q, nd, n0, lpin l1⟩
  · rename_i τ' hb
    simp only [Option.map_eq_some_iff] at hf
    obtain ⟨o, ho, e⟩ := hf
    cases e
    refine ⟨M0, φ, _, _, _, s0, hb, fun σ' H' q => kk _ H' ?_⟩
    obtain ⟨⟨φ1, s1, l1⟩, hp⟩ := q
    have s2 := Sim.stop (n := N.length) hs' l1 s1 ho hp fun a q => .inl q
    exact DOk.up ⟨pinF pin φ1, cast s2, .non, lpin0 l1⟩
  · rename_i c fs l τ' hb
    simp only [Option.map_eq_some_iff] at hf
    obtain ⟨o, ho, e⟩ := hf
    cases e
    refine ⟨M0, φ, _, _, _, s0, hb, fun σ' d H' q => kk d H' ?_⟩
    obtain ⟨⟨φ1, s1, x1, l1⟩, hp⟩ := q
    have s2 := Sim.stop (n := N.length) hs' l1 s1 ho hp fun a q => .inl q
    refine ⟨pinF pin φ1, cast s2, ?_, lpin0 l1⟩
    rcases x1 with x1 | ⟨p, fsr, xs, e, hp, n, hl, q, r⟩
    · exact .inl x1
    · exact .inr ⟨p, fsr, xs, e, hp, fun q => n (pinF_mof q), hl, q, Rs.cast (g := gF K cl hid pin E) (g' := gK K cl hid) rfl rfl rfl _ _ ((Le.sub fun a q => pinF_mof q).rs r)⟩
  · cases hf
end
/-! ### arguments: data, or a slot's own object -/
inductive Arg where
  | d (d : D)
  | n (i : Nat)
inductive ArgR (g : Gx) (M : Ad) (H : Hp) (σ : L2.St) : V → Arg → Prop
  | d {v : V} {d : D} : R g M H v d → ArgR g M H σ v (.d d)
  | n {v : V} {i : Nat} : σ[i]? = some (some v) → ArgR g M H σ v (.n i)
abbrev ArgsR (g : Gx) (M : Ad) (H : Hp) (σ : L2.St) : List V → List Arg → Prop := Paired (ArgR g M H σ)
section
variable {X : Cx} {g : Gx} {e : Expr} {es : List Expr} {M M0 M1 : Ad} {φ φ1 φ2 : Nat → List Addr} {τ τ' : Tau} {σ σ1 σ2 : L2.St} {H H' H1 : Hp} {v x y : V} {vs : List V} {d : D} {ds : List D} {s : SV} {l : List SV} {F : List Addr} {as : List Arg}
theorem ArgsR.le (q : Le M H M1 H1) (h : ArgsR g M H σ vs as) : ArgsR g M1 H1 σ vs as := by
  induction h with
  | nil => exact .nil
  | cons p _ ih =>
    refine .cons ?_ ih
    cases p with
    | d r => exact .d (q.r r)
    | n e => exact .n e
def rdR (g : Gx) (m : CM (List Arg)) : TA := fun σ H Q => ∃ M0 φ τ r τ', Sim g M0 φ τ σ H ∧ m τ = some (r, τ') ∧
  match r with
  | .ok s => ∀ v H' φ', Sim g M0 φ' τ' σ H' → ArgsR g (Mof M0 φ') H' σ v s → Le (ran φ) H (ran φ') H' → Q v H'
  | .ex c fs l => ∀ d H', XOk g M0 φ H σ fs l τ' d H' → g.ex σ (.ref (g.cl c)) d H'
def rNil : CM (List Arg) := ret (some [])
def rD (a : CM D) (r : CM (List Arg)) : CM (List Arg) := bnd a fun x => bnd r fun xs => ret (some (.d x :: xs))
/-- a name: what is one's own is lent, data is handed on -/
def rN (i : Nat) (r : CM (List Arg)) : CM (List Arg) := fun τ => match τ[i]? with
  | some (some (.fz d)) => bnd r (fun xs => ret (some (.d d :: xs))) τ
  | some (some (.mu _ _)) => bnd r (fun xs => ret (some (.n i :: xs))) τ
  | _ => none
theorem r_nil (h : PA X es tNil) : PA X es (rdR g rNil) := pa_le h fun σ H Q q => by
  obtain ⟨M0, φ, τ, r, τ', hs, hm, k⟩ := q
  obtain ⟨x, ex, rfl, rfl⟩ := ret_some hm
  cases ex
  exact k [] H φ hs .nil .refl
theorem r_d {a : CM D} {r : CM (List Arg)} (h : PA X es (tCons (rdD g a) (rdR g r))) : PA X es (rdR g (rD a r)) := pa_le h fun σ H Q q => by
  obtain ⟨M0, φ, τ, rs, τ', hs, hm, k⟩ := q
  rcases bnd_some hm with ⟨x, τ1, e1, e2⟩ | ⟨c, fs, l, e1, rfl⟩
  · refine ⟨M0, φ, τ, _, _, hs, e1, fun v1 H1 q1 => ?_⟩
    obtain ⟨φ1, hs1, r1, l1⟩ := q1
    rcases bnd_some e2 with ⟨y, τ2, e3, e4⟩ | ⟨c, fs, l, e3, rfl⟩
    · refine ⟨M0, φ1, τ1, _, _, hs1, e3, fun v2 H2 φ2 hs2 r2 l2 => ?_⟩
      obtain ⟨s, es, rfl, rfl⟩ := ret_some e4
      cases es
      exact k _ H2 φ2 hs2 (.cons (.d ((le_mof l2).r r1)) r2) (l1.trans l2)
    · exact ⟨M0, φ1, τ1, _, _, hs1, e3, fun d H' q => k d H' (q.after l1)⟩
  · exact ⟨M0, φ, τ, _, _, hs, e1, k⟩
theorem r_n {i : Nat} {r : CM (List Arg)} (h : PA X es (tCons (tVar i) (rdR g r))) : PA X es (rdR g (rN i r)) := pa_le h fun σ H Q q => by
  obtain ⟨M0, φ, τ, rs, τ', hs, hm, k⟩ := q
  unfold rN at hm
  split at hm
  · rename_i d hi
    obtain ⟨v, hv, rv⟩ := hs.fz hi
    refine ⟨v, hv, ?_⟩
    rcases bnd_some hm with ⟨y, τ2, e3, e4⟩ | ⟨c, fs, l, e3, rfl⟩
    · refine ⟨M0, φ, τ, _, _, hs, e3, fun v2 H2 φ2 hs2 r2 l2 => ?_⟩
      obtain ⟨s, es, rfl, rfl⟩ := ret_some e4
      cases es
      exact k _ H2 φ2 hs2 (.cons (.d ((le_mof l2).r rv)) r2) l2
    · exact ⟨M0, φ, τ, _, _, hs, e3, k⟩
  · rename_i hd l hi
    obtain ⟨v, hv, w⟩ := hs.at_ _ _ hi
    refine ⟨v, hv, ?_⟩
    rcases bnd_some hm with ⟨y, τ2, e3, e4⟩ | ⟨c, fs, l, e3, rfl⟩
    · refine ⟨M0, φ, τ, _, _, hs, e3, fun v2 H2 φ2 hs2 r2 l2 => ?_⟩
      obtain ⟨s, es, rfl, rfl⟩ := ret_some e4
      cases es
      exact k _ H2 φ2 hs2 (.cons (.n hv) r2) l2
    · exact ⟨M0, φ, τ, _, _, hs, e3, k⟩
  · cases hm
/-! the slots that are lent -/
def lent : List Arg → List (Option Nat)
  | [] => []
  | .d _ :: r => none :: lent r
  | .n i :: r => some i :: lent r
def posOf : List (Option Nat) → Nat → Option Nat
  | [], _ => none
  | o :: r, i => if o = some i then some 0 else (posOf r i).map (· + 1)
theorem posOf_some : ∀ {ns : List (Option Nat)} {i k : Nat}, posOf ns i = some k → ns[k]? = some (some i)
  | [], _, _, h => by cases h
  | o :: r, i, k, h => by
    unfold posOf at h
    split at h
    · rename_i e
      cases h
      rw [e]; rfl
    · simp only [Option.map_eq_some_iff] at h
      obtain ⟨k', h, rfl⟩ := h
      exact posOf_some (ns := r) h
theorem posOf_none : ∀ {ns : List (Option Nat)} {i k : Nat}, posOf ns i = none → ns[k]? ≠ some (some i)
  | [], _, k, h => by simp
  | o :: r, i, k, h => by
    unfold posOf at h
    split at h
    · cases h
    · rename_i e
      cases k with
      | zero => simpa using e
      | succ k =>
        simp only [Option.map_eq_none_iff] at h
        exact posOf_none (ns := r) (k := k) h
/-- no slot twice -/
def once : List (Option Nat) → Bool
  | [] => true
  | none :: r => once r
  | some i :: r => !(r.contains (some i)) && once r
theorem once_pos : ∀ {ns : List (Option Nat)} {i k : Nat}, once ns = true → ns[k]? = some (some i) → posOf ns i = some k
  | [], _, _, _, h => by simp at h
  | o :: r, i, 0, h, e => by
    simp at e
    subst e
    simp [posOf]
  | o :: r, i, k + 1, h, e => by
    have e' : r[k]? = some (some i) := by simpa using e
    have ho : o ≠ some i := by
      rintro rfl
      have h' : (!(r.contains (some i)) && once r) = true := h
      rw [Bool.and_eq_true] at h'
      have m : some i ∈ r := List.mem_of_getElem? e'
      rw [List.contains_iff_mem.mpr m] at h'
      exact absurd h'.1 (by decide)
    have hr : once r = true := by
      cases o with
      | none => exact h
      | some j =>
        have h' : (!(r.contains (some j)) && once r) = true := h
        rw [Bool.and_eq_true] at h'
        exact h'.2
    unfold posOf
    rw [if_neg ho, once_pos hr e']
    rfl
/-- what stands at the arguments -/
def svsOf (τ : Tau) : List Arg → Option (List SV)
  | [] => some []
  | .d d :: r => (svsOf τ r).map (.fz d :: ·)
  | .n i :: r => match τ[i]? with
    | some (some s) => (svsOf τ r).map (s :: ·)
    | _ => none
/-- what they have become is written back -/
def wb : List (Option Nat) → List SV → Tau → Tau
  | some i :: ns, s :: os, τ => wb ns os (τ.set i (some s))
  | none :: ns, _ :: os, τ => wb ns os τ
  | _, _, τ => τ
theorem wb_len : ∀ (ns : List (Option Nat)) (os : List SV) (τ : Tau), (wb ns os τ).length = τ.length
  | [], _, _ => by cases ‹List SV› <;> rfl
  | some i :: ns, s :: os, τ => by
    show (wb ns os (τ.set i (some s))).length = _
    rw [wb_len ns os, List.length_set]
  | none :: ns, _ :: os, τ => wb_len ns os τ
  | some i :: ns, [], τ => rfl
  | none :: ns, [], τ => rfl
theorem wb_other : ∀ {ns : List (Option Nat)} {os : List SV} {τ : Tau} {i : Nat}, posOf ns i = none → (wb ns os τ)[i]? = τ[i]?
  | [], os, _, _, _ => by cases os <;> rfl
  | some j :: ns, s :: os, τ, i, h => by
    show (wb ns os (τ.set j (some s)))[i]? = _
    unfold posOf at h
    split at h
    · cases h
    · rename_i e
      simp only [Option.map_eq_none_iff] at h
      rw [wb_other h, List.getElem?_set_ne]
      rintro rfl
      exact e rfl
  | none :: ns, _ :: os, τ, i, h => by
    show (wb ns os τ)[i]? = _
    unfold posOf at h
    rw [if_neg (by simp)] at h
    simp only [Option.map_eq_none_iff] at h
    exact wb_other h
  | some i :: ns, [], τ, _, _ => rfl
  | none :: ns, [], τ, _, _ => rfl
theorem wb_at : ∀ {ns : List (Option Nat)} {os : List SV} {τ : Tau} {i k : Nat} {s : SV}, once ns = true → posOf ns i = some k → os[k]? = some s → i < τ.length → (wb ns os τ)[i]? = some (some s)
  | [], _, _, _, _, _, _, h, _, _ => by cases h
  | o :: ns, [], _, _, _, _, _, _, h, _ => by simp at h
  | some j :: ns, s0 :: os, τ, i, k, s, h1, h, hs, hl => by
    show (wb ns os (τ.set j (some s0)))[i]? = _
    have h1' : (!(ns.contains (some j)) && once ns) = true := h1
    rw [Bool.and_eq_true] at h1'
    unfold posOf at h
    split at h
    · rename_i e
      cases h
      cases e
      simp at hs
      subst hs
      have hn : posOf ns j = none := by
        cases q : posOf ns j with
        | none => rfl
        | some k =>
          have m : some j ∈ ns := List.mem_of_getElem? (posOf_some q)
          rw [List.contains_iff_mem.mpr m] at h1'
          exact absurd h1'.1 (by decide)
      rw [wb_other hn, List.getElem?_set, if_pos rfl, if_pos hl]
    · simp only [Option.map_eq_some_iff] at h
      obtain ⟨k', h, rfl⟩ := h
      exact wb_at h1'.2 h (by simpa using hs) (by rw [List.length_set]; exact hl)
  | none :: ns, s0 :: os, τ, i, k, s, h1, h, hs, hl => by
    show (wb ns os τ)[i]? = _
    unfold posOf at h
    rw [if_neg (by simp)] at h
    simp only [Option.map_eq_some_iff] at h
    obtain ⟨k', h, rfl⟩ := h
    exact wb_at (show once ns = true from h1) h (by simpa using hs) hl
end
end VS

/-! ## S14: calls of own defs -/
namespace VS
open PySem PySem.Spec PyProof.Rows L2
def callT (F : Fn) (args : List Arg) (τ : Tau) : Option (Res SV × Tau) :=
  if once (lent args) = true then (svsOf τ args).bind fun svs => (F svs).bind fun p => if p.2.length = args.length then some (p.1, wb (lent args) p.2 τ) else none else none
def mCall (F : Fn) (as : CM (List Arg)) : CM SV := bnd as fun args τ => callT F args τ
section
variable {X : Cx} {g : Gx} {e : Expr} {es : List Expr} {M M0 M1 : Ad} {φ φ1 φ2 φ' : Nat → List Addr} {τ τ' : Tau} {σ σ1 σ2 : L2.St} {H H' H1 : Hp} {v x y : V} {vs : List V} {d : D} {ds : List D} {s : SV} {l : List SV} {F : List Addr} {as : List Arg} {svs os : List SV}
theorem lent_at : ∀ {as : List Arg} {k i : Nat}, (lent as)[k]? = some (some i) → as[k]? = some (.n i)
  | [], k, i, h => by simp [lent] at h
  | .d d :: r, 0, i, h => by simp [lent] at h
  | .n j :: r, 0, i, h => by simp [lent] at h; subst h; rfl
  | .d d :: r, k + 1, i, h => by simpa using lent_at (as := r) (by simpa [lent] using h)
  | .n j :: r, k + 1, i, h => by simpa using lent_at (as := r) (by simpa [lent] using h)
theorem lent_of : ∀ {as : List Arg} {k i : Nat}, as[k]? = some (.n i) → (lent as)[k]? = some (some i)
  | [], k, i, h => by simp at h
  | .d d :: r, 0, i, h => by simp at h
  | .n j :: r, 0, i, h => by simp at h; subst h; rfl
  | .d d :: r, k + 1, i, h => by simpa [lent] using lent_of (as := r) (by simpa using h)
  | .n j :: r, k + 1, i, h => by simpa [lent] using lent_of (as := r) (by simpa using h)
theorem svs_at : ∀ {as : List Arg} {svs : List SV}, svsOf τ as = some svs → ∀ {k : Nat} {s : SV}, svs[k]? = some s → (∃ d, as[k]? = some (.d d) ∧ s = .fz d) ∨ ∃ i, as[k]? = some (.n i) ∧ τ[i]? = some (some s)
  | [], _, h, k, s, e => by cases h; simp at e
  | .d d :: r, svs, h, k, s, e => by
    simp only [svsOf, Option.map_eq_some_iff] at h
    obtain ⟨svs', h, rfl⟩ := h
    cases k with
    | zero => simp at e; subst e; exact .inl ⟨d, rfl, rfl⟩
    | succ k => exact svs_at h (by simpa using e)
  | .n i :: r, svs, h, k, s, e => by
    unfold svsOf at h
    split at h
    · rename_i s0 h0
      simp only [Option.map_eq_some_iff] at h
      obtain ⟨svs', h, rfl⟩ := h
      cases k with
      | zero => simp at e; subst e; exact .inr ⟨i, rfl, h0⟩
      | succ k => exact svs_at h (by simpa using e)
    · cases h
theorem svs_len : ∀ {as : List Arg} {svs : List SV}, svsOf τ as = some svs → svs.length = as.length
  | [], _, h => by cases h; rfl
  | .d d :: r, svs, h => by
    simp only [svsOf, Option.map_eq_some_iff] at h
    obtain ⟨svs', h, rfl⟩ := h
    simp [svs_len h]
  | .n i :: r, svs, h => by
    unfold svsOf at h
    split at h
    · simp only [Option.map_eq_some_iff] at h
      obtain ⟨svs', h, rfl⟩ := h
      simp [svs_len h]
    · cases h
theorem argsR_at : ∀ {vs : List V} {as : List Arg}, ArgsR g M H σ vs as → ∀ {k : Nat} {a : Arg}, as[k]? = some a → ∃ v, vs[k]? = some v ∧ ArgR g M H σ v a
  | _, _, .nil, k, a, e => by simp at e
  | _, _, .cons p q, 0, a, e => by simp at e; subst e; exact ⟨_, rfl, p⟩
  | _, _, .cons p q, k + 1, a, e => by
    obtain ⟨v, h1, h2⟩ := argsR_at q (k := k) (by simpa using e)
    exact ⟨v, by simpa using h1, h2⟩
/-- the callee's footprints, what it may not touch -/
def phiC (ns : List (Option Nat)) (φ : Nat → List Addr) : Nat → List Addr := fun k => match ns[k]? with
  | some (some i) => φ i
  | _ => []
def M0C (ns : List (Option Nat)) (M0 : Ad) (φ : Nat → List Addr) : Ad := fun a => Mof M0 φ a ∧ ∀ i k, posOf ns i = some k → a ∉ φ i
/-- the caller's footprints behind the call -/
def phiB (ns : List (Option Nat)) (φ φ' : Nat → List Addr) : Nat → List Addr := fun i => match posOf ns i with
  | some k => φ' k
  | none => φ i
theorem phiC_mem {ns : List (Option Nat)} {k : Nat} {a : Addr} (h : a ∈ phiC ns φ k) : ∃ i, ns[k]? = some (some i) ∧ a ∈ φ i := by
  unfold phiC at h
  split at h
  · exact ⟨_, by assumption, h⟩
  · cases h
theorem call_in (hs : Sim g M0 φ τ σ H) (ha : ArgsR g (Mof M0 φ) H σ vs as) (ho : once (lent as) = true) (hv : svsOf τ as = some svs) : Sim g (M0C (lent as) M0 φ) (phiC (lent as) φ) (svs.map some) (vs.map some) H := by
  have sub : ∀ a, Mof (M0C (lent as) M0 φ) (phiC (lent as) φ) a → Mof M0 φ a := fun a q => by
    rcases q with q | ⟨k, q⟩
    · exact q.1
    · obtain ⟨i, _, q⟩ := phiC_mem q
      exact .inr ⟨i, q⟩
  have hl : vs.length = as.length := Paired.length ha
  refine ⟨by simp [hl, svs_len hv], fun k s q => ?_, fun k => ?_, fun k j a p q => ?_, fun k a p q => ?_, fun a q => hs.al a (sub a q)⟩
  · rw [map_some_at] at q
    rcases svs_at hv q with ⟨d, e, rfl⟩ | ⟨i, e, e2⟩
    · obtain ⟨v, h1, h2⟩ := argsR_at ha e
      refine ⟨v, map_some_at.mpr h1, ?_⟩
      have : phiC (lent as) φ k = [] := by
        unfold phiC
        split
        · rename_i i h
          rw [lent_at h] at e; cases e
        · rfl
      rw [this]
      cases h2 with
      | d r => exact .fz ((Le.sub sub).r r)
    · obtain ⟨v, h1, h2⟩ := argsR_at ha e
      refine ⟨v, map_some_at.mpr h1, ?_⟩
      have : phiC (lent as) φ k = φ i := by
        unfold phiC
        rw [lent_of e]
      rw [this]
      obtain ⟨v', h3, w⟩ := hs.at_ i s e2
      cases h2 with
      | n h4 =>
        rw [h4] at h3
        cases h3
        exact w.sub sub
  · unfold phiC
    split
    · exact hs.nd _
    · exact .nil
  · obtain ⟨i, h1, h2⟩ := phiC_mem p
    obtain ⟨i', h3, h4⟩ := phiC_mem q
    have := hs.dj i i' a h2 h4
    subst this
    have e1 := once_pos ho h1
    have e2 := once_pos ho h3
    rw [e1] at e2
    exact Option.some.inj e2
  · obtain ⟨i, h1, h2⟩ := phiC_mem p
    exact q.2 i k (once_pos ho h1) h2
theorem call_back (hs : Sim g M0 φ τ σ H) (ha : ArgsR g (Mof M0 φ) H σ vs as) (ho : once (lent as) = true) (hv : svsOf τ as = some svs) (hl : os.length = as.length)
    (s1 : Sim g (plus (M0C (lent as) M0 φ) F) φ' (os.map some) (vs.map some) H') (n0 : ∀ a ∈ F, ¬ M0C (lent as) M0 φ a) (l1 : Le (ran (phiC (lent as) φ)) H (plus (ran φ') F) H') :
    Sim g (plus M0 F) (phiB (lent as) φ φ') (wb (lent as) os τ) σ H' ∧ (∀ a, Mof (plus M0 F) (phiB (lent as) φ φ') a → Mof (plus (M0C (lent as) M0 φ) F) φ' a) ∧ (∀ a ∈ F, ¬ M0 a) ∧ Le (ran φ) H (plus (ran (phiB (lent as) φ φ')) F) H' := by
  have inC : ∀ a, M0 a → M0C (lent as) M0 φ a := fun a q => ⟨.inl q, fun i k _ m => hs.d0 i a m q⟩
  have inC2 : ∀ a i, a ∈ φ i → posOf (lent as) i = none → M0C (lent as) M0 φ a := fun a i m h => ⟨.inr ⟨i, m⟩, fun j k hj mj => by
    have := hs.dj i j a m mj
    subst this
    rw [h] at hj; cases hj⟩
  have cran : ∀ a, ran (phiC (lent as) φ) a → ∃ i k, posOf (lent as) i = some k ∧ a ∈ φ i := fun a ⟨k, q⟩ => by
    obtain ⟨i, h1, h2⟩ := phiC_mem q
    exact ⟨i, k, once_pos ho h1, h2⟩
  have sub : ∀ a, Mof (plus M0 F) (phiB (lent as) φ φ') a → Mof (plus (M0C (lent as) M0 φ) F) φ' a := fun a q => by
    rcases q with (q | q) | ⟨i, q⟩
    · exact .inl (.inl (inC a q))
    · exact .inl (.inr q)
    · unfold phiB at q
      split at q
      · exact .inr ⟨_, q⟩
      · exact .inl (.inl (inC2 a i q (by assumption)))
  have grow : ∀ a, Mof (plus M0 F) (phiB (lent as) φ φ') a → Mof M0 φ a ∨ H a = none := fun a q => by
    rcases q with (q | q) | ⟨i, q⟩
    · exact .inl (.inl q)
    · exact (l1.grow a (.inr q)).imp (fun q => by
        obtain ⟨i, k, _, h⟩ := cran a q
        exact .inr ⟨i, h⟩) id
    · unfold phiB at q
      split at q
      · exact (l1.grow a (.inl ⟨_, q⟩)).imp (fun q => by
          obtain ⟨i, k, _, h⟩ := cran a q
          exact .inr ⟨i, h⟩) id
      · exact .inl (.inr ⟨i, q⟩)
  refine ⟨⟨by rw [wb_len]; exact hs.len, fun i s q => ?_, fun i => ?_, fun i j a p q => ?_, fun i a p q => ?_, fun a q => s1.al a (sub a q)⟩, sub, fun a m q => n0 a m (inC a q), l1.ev.mono fun a q => ?_, fun a q => ?_⟩
  · cases hp : posOf (lent as) i with
    | none =>
      rw [wb_other hp] at q
      obtain ⟨v, a, b⟩ := hs.at_ i s q
      refine ⟨v, a, ?_⟩
      have : phiB (lent as) φ φ' i = φ i := by unfold phiB; rw [hp]
      rw [this]
      refine b.keep' l1.ev (fun a q => ?_) grow fun a m q => ?_
      · obtain ⟨j, k, _, h⟩ := cran a q
        exact .inr ⟨j, h⟩
      · obtain ⟨j, k, hj, h⟩ := cran a q
        have := hs.dj i j a m h
        subst this
        rw [hp] at hj; cases hj
    | some k =>
      have hk := lent_at (posOf_some hp)
      have hkl : k < os.length := by rw [hl]; exact (List.getElem?_eq_some_iff.mp hk).1
      have hsv : k < svs.length := by rw [svs_len hv]; exact (List.getElem?_eq_some_iff.mp hk).1
      have hti : i < τ.length := by
        rcases svs_at hv (List.getElem?_eq_getElem hsv) with ⟨d, e, _⟩ | ⟨i', e, e2⟩
        · rw [hk] at e; cases e
        · rw [hk] at e
          cases e
          exact (List.getElem?_eq_some_iff.mp e2).1
      rw [wb_at ho hp (List.getElem?_eq_getElem hkl) hti] at q
      cases q
      obtain ⟨v, a, b⟩ := s1.at_ k _ (map_some_at.mpr (List.getElem?_eq_getElem hkl))
      rw [map_some_at] at a
      obtain ⟨v', h1, h2⟩ := argsR_at ha hk
      rw [a] at h1
      cases h1
      refine ⟨v, ?_, ?_⟩
      · cases h2 with
        | n h => exact h
      · have : phiB (lent as) φ φ' i = φ' k := by unfold phiB; rw [hp]
        rw [this]
        exact b.sub sub
  · unfold phiB
    split
    · exact s1.nd _
    · exact hs.nd _
  · unfold phiB at p q
    split at p
    · rename_i k hk
      split at q
      · rename_i k' hk'
        have := s1.dj k k' a p q
        subst this
        have e1 := posOf_some hk
        have e2 := posOf_some hk'
        rw [e1] at e2
        cases e2
        rfl
      · rename_i hn
        exact absurd (.inl (inC2 a j q hn)) (s1.d0 k a p)
    · rename_i hn
      split at q
      · rename_i k' hk'
        exact absurd (.inl (inC2 a i p hn)) (s1.d0 k' a q)
      · exact hs.dj i j a p q
  · unfold phiB at p
    split at p
    · rename_i k hk
      refine s1.d0 k a p ?_
      exact q.imp (inC a) id
    · rename_i hn
      rcases q with q | q
      · exact hs.d0 i a p q
      · exact n0 a q (inC2 a i p hn)
  · obtain ⟨i, k, _, h⟩ := cran a q
    exact ⟨i, h⟩
  · rcases q with ⟨i, q⟩ | q
    · unfold phiB at q
      split at q
      · exact (l1.grow a (.inl ⟨_, q⟩)).imp (fun q => by
          obtain ⟨i, k, _, h⟩ := cran a q
          exact ⟨i, h⟩) id
      · exact .inl ⟨i, q⟩
    · exact (l1.grow a (.inr q)).imp (fun q => by
        obtain ⟨i, k, _, h⟩ := cran a q
        exact ⟨i, h⟩) id
/-- another context -/
theorem XRel.cast {g g' : Gx} {d : Option Addr} {fs : List Str} {l : List D} (hK : g'.K = g.K) (hc : g'.cl = g.cl) (hh : g'.hid = g.hid) (h : XRel g M H d fs l) : XRel g' M H d fs l := by
  rcases h with h | ⟨p, fsr, xs, e, hp, n, hl, q, r⟩
  · exact .inl h
  · exact .inr ⟨p, fsr, xs, e, hp, n, hl, q, Rs.cast hK hc hh _ _ r⟩
theorem le_callS {F : Fn} {as : CM (List Arg)} (σ : L2.St) (H : Hp) (Q : VK) (q : rdE g (mCall F as) σ H Q) : tCallS (spF (gK g.K g.cl g.hid) F) g.ex (rdR g as) σ H Q := by
  obtain ⟨M0, φ, τ, rs, τ', hs, hm, k⟩ := q
  rcases bnd_some hm with ⟨args, τ1, e1, e2⟩ | ⟨c, fs, l, e1, rfl⟩
  · refine ⟨M0, φ, τ, _, _, hs, e1, fun vs H1 φ1 hs1 ha l1 => ?_⟩
    unfold callT at e2
    split at e2
    · rename_i ho
      simp only [Option.bind_eq_some_iff] at e2
      obtain ⟨svs, hv, ⟨r, os⟩, hF, e2⟩ := e2
      split at e2
      · rename_i hl
        cases e2
        have toK : ∀ {φ2 : Nat → List Addr} {τ2 : Tau} {σ2 : L2.St} {H2 : Hp} {M2 : Ad}, Sim g M2 φ2 τ2 σ2 H2 → Sim (gK g.K g.cl g.hid) M2 φ2 τ2 σ2 H2 := fun h => Sim.cast (g := g) (g' := gK g.K g.cl g.hid) rfl rfl rfl h
        have ofK : ∀ {φ2 : Nat → List Addr} {τ2 : Tau} {σ2 : L2.St} {H2 : Hp} {M2 : Ad}, Sim (gK g.K g.cl g.hid) M2 φ2 τ2 σ2 H2 → Sim g M2 φ2 τ2 σ2 H2 := fun h => Sim.cast (g := gK g.K g.cl g.hid) (g' := g) rfl rfl rfl h
        refine ⟨_, _, svs, r, os, toK (call_in hs1 ha ho hv), hF, ?_⟩
        cases r with
        | ok s =>
          intro v H' q
          obtain ⟨F1, φ', s1, w1, nd, n0, l2⟩ := q
          obtain ⟨a1, a2, a3, a4⟩ := call_back hs1 ha ho hv hl (ofK s1) n0 l2
          exact k v H' (EOk.after l1 ⟨F1, _, a1, (Ow.cast (g := gK g.K g.cl g.hid) (g' := g) rfl rfl rfl _ _ _ w1).sub a2, nd, a3, a4⟩)
        | ex c fs l =>
          intro d H' q
          obtain ⟨φ', s1, x1, l2⟩ := q
          have s1' : Sim g (plus (M0C (lent args) M0 φ1) []) φ' (os.map some) (vs.map some) H' := by rw [plus_nil]; exact ofK s1
          have l2' : Le (ran (phiC (lent args) φ1)) H1 (plus (ran φ') []) H' := by rw [plus_nil]; exact l2
          obtain ⟨a1, a2, a3, a4⟩ := call_back hs1 ha ho hv hl s1' (fun a m => nomatch m) l2'
          rw [plus_nil] at a1 a2 a4
          rw [plus_nil] at a2
          refine k d H' (XOk.after l1 ⟨_, a1, ?_, a4⟩)
          rcases XRel.cast (g := gK g.K g.cl g.hid) (g' := g) rfl rfl rfl x1 with x1 | ⟨p, fsr, xs, e, hp, n, hl, q, r⟩
          · exact .inl x1
          · exact .inr ⟨p, fsr, xs, e, hp, fun m => n (a2 p m), hl, q, (Le.sub a2).rs r⟩
      · cases e2
    · cases e2
  · exact ⟨M0, φ, τ, _, _, hs, e1, k⟩
theorem s_call {F : Fn} {as : CM (List Arg)} (h : PE X e (tCallS (spF (gK g.K g.cl g.hid) F) g.ex (rdR g as))) : PE X e (rdE g (mCall F as)) := pe_le h le_callS
end
end VS

/-! ## S15: methods, instances made, what is one's own changed -/
namespace VS
open PySem PySem.Spec PyProof.Rows L2
section
variable {X : Cx} {CX : CXT} {k : Nat} {f C : Addr} {fd : FuncData} {ps : List Str} {sp : Sp} {E : L2.St → XK} {x m : Str} {p pos apos : Pos} {e o : Expr} {es : List Expr} {ta : TE} {t : TA}
def tMakeS (C : Addr) (sp : Sp) (E : L2.St → XK) (t : TA) : TE := fun σ H Q => t σ H fun vs H1 => ∀ x dx, H1 x = none → H1 dx = none → dx ≠ x →
  sp (.ref x :: vs) (upd (upd H1 dx (.own x)) x (.ins C dx [])) (fun v H2 => v = .non ∧ Q (.ref x) H2) (E σ)
theorem run_makeS {pins : List (Addr × Obj)} {σ : L2.St} {H : Hp} {s : Shared} {Q : VK} {us : List Value} {vs : List V} (M : Mk X.K C f) (F : FnOk X.prog X.w X.K X.mg X.base CX k f fd ps sp) (hr : Room (k + 1) X.A) (hb : Binds X.K fd ps [])
    (hx : PassesAt CX X σ (E σ)) (I : Inv X pins σ H s) (r : Vals vs us)
    (h : ∀ x dx, H x = none → H dx = none → dx ≠ x → sp (.ref x :: vs) (upd (upd H dx (.own x)) x (.ins C dx [])) (fun v H2 => v = .non ∧ Q (.ref x) H2) (E σ)) :
    wpAny (model X.prog X.w) X.A (call (.ref C) us) (EP X pins σ Q) X.xe s := by
  have hq := h (s.heap.objs.size + 1) s.heap.objs.size (I.hok.fresh (Nat.le_succ _)) (I.hok.fresh (Nat.le_refl _)) (Nat.ne_of_lt (Nat.lt_succ_self _))
  have I2 := Inv.made (C := C) I
  have r2 : Vals (V.ref (s.heap.objs.size + 1) :: vs) (Value.ref (s.heap.objs.size + 1) :: us) := .cons rfl r
  have hl : (Value.ref (s.heap.objs.size + 1) :: us ++ []).length = ps.length := by
    have e := r2.length
    rw [F.len _ _ _ _ hq] at e
    rw [List.append_nil]
    exact e.symm
  have hb' := hb _ (Value.ref (s.heap.objs.size + 1) :: us) I2.kIn hl
  rw [List.append_nil] at hb'
  refine wpAny_call (make_map (f := f) I.kIn M.makes M.init (beq_iff_eq.mp M.fn) (codeAny_mono (F.run _ X.stack _ _ ⟨Value.ref (s.heap.objs.size + 1) :: us, []⟩ (Value.ref (s.heap.objs.size + 1) :: us) _ _ (E σ) (hr.make C us [])
    (I2.env0.make C us []) hb' r2 hq) fun r s' hq' => ?_))
  cases r with
  | error e => exact hx pins _ _ e s' I2 hq'
  | ok fl =>
    cases fl with
    | ret u =>
      obtain ⟨v, H', I3, rv, ev, q3⟩ := I2.after hq'
      subst ev
      exact ⟨rv, ⟨V.ref (s.heap.objs.size + 1), H', I3, rfl, q3⟩⟩
    | next => exact False.elim hq'
    | brk => exact False.elim hq'
    | cont => exact False.elim hq'
theorem pe_makeS (M : Mk X.K C f) (F : FnOk X.prog X.w X.K X.mg X.base CX k f fd ps sp) (hr : Room (k + 1) X.A) (hg : Gl X x) (hm : X.mg x = some (.ref C)) (hb : Binds X.K fd ps []) (hx : ∀ σ, PassesAt CX X σ (E σ))
    (ha : PA X (e :: es) t) (hdb : (x == ("__debug__" : Str)) = false := by decide) (he : starEach (e :: es) X.env = (false, eval e X.env) :: starEach es X.env := by rfl) (hpl : (backTo pos (starEach es X.env)).any (·.1) = false := by rfl) :
    PE X (.Call (.Name x p) (e :: es) [] pos) (tMakeS C sp E t) := by
  refine ⟨fun pins s σ H Q I h => ?_⟩
  refine wpAny_Call_Name_kw (ld_glob I hg hm ?_ hdb)
  refine PySem.W.callWith_K (h₀ := X.base) I.ok.mod.kin M.kp (thn (ha.run pos pins s σ H _ I h) fun us s1 ⟨vs, H1, I1, r, q⟩ => ⟨I1.kIn, ?_⟩) he hpl
  exact run_makeS M F hr hb (hx σ) I1 r q
def tMethS' (C : Addr) (m : Str) (sp : Sp) (E : L2.St → XK) (ta : TE) (t : TA) : TE := fun σ H Q => ta σ H fun x H1 => ∃ a dx fs, x = .ref a ∧ H1 a = some (.ins C dx fs) ∧ fs.lookup m = none ∧ t σ H1 fun vs H2 => sp (x :: vs) H2 Q (E σ)
theorem pe_methS' {pl : Sem Bool} (he : PE X o ta) (c : Cls X.K C) (hm : Meth X.K C m f) (F : FnOk X.prog X.w X.K X.mg X.base CX k f fd ps sp) (hr : Room k X.A) (hb : Binds X.K fd ps []) (hx : ∀ σ, PassesAt CX X σ (E σ)) (ha : PA X (e :: es) t)
    (hst : starEach (e :: es) X.env = (false, eval e X.env) :: starEach es X.env := by rfl) (hpl : (backTo pos (starEach es X.env)).any (·.1) = false := by rfl)
    (ht : eval (.Call (.Attribute o m apos) (e :: es) [] pos) X.env = (do
      let ov ← eval o X.env
      standAt apos.atName
      let (f, first) ← holding [ov] (getMethod ov m pl)
      callWith pos f first (backTo pos (starEach (e :: es) X.env)) (backToKw pos (keywordEach [] X.env))) := by rfl) :
    PE X (.Call (.Attribute o m apos) (e :: es) [] pos) (tMethS' C m sp E ta t) := by
  refine ⟨fun pins s σ H Q I h => ?_⟩
  refine PySem.W.methodCall_KW (pl := pl) (thn (he.run pins s σ H _ I h) fun u s1 ⟨x, H1, I1, rx, a, dx, fs, ex, ea, l, q⟩ => ?_) ht
  subst ex
  obtain rfl : u = Value.ref a := rx
  refine getmeth_ok I1 ea c hm l ?_
  refine PySem.W.callWith_K (first := [.ref a]) (h₀ := X.base) I.ok.mod.kin hm.kp (thn (ha.run pos pins s1 σ H1 _ I1 q) fun us s2 ⟨vs, H2, I2, r, q2⟩ => ⟨I2.kIn, ?_⟩) hst hpl
  exact run_fnS (us := .ref a :: us) (vs := .ref a :: vs) F hr hb (hx σ) I2 (.cons rfl r) q2
theorem pe_meth0S {pl : Sem Bool} (he : PE X o ta) (c : Cls X.K C) (hm : Meth X.K C m f) (F : FnOk X.prog X.w X.K X.mg X.base CX k f fd ps sp) (hr : Room k X.A) (hb : Binds X.K fd ps []) (hx : ∀ σ, PassesAt CX X σ (E σ))
    (ht : eval (.Call (.Attribute o m apos) [] [] pos) X.env = (do
      let ov ← eval o X.env
      standAt apos.atName
      let (f, first) ← holding [ov] (getMethod ov m pl)
      callWith pos f first (backTo pos (starEach [] X.env)) (backToKw pos (keywordEach [] X.env))) := by rfl) :
    PE X (.Call (.Attribute o m apos) [] [] pos) (tMethS' C m sp E ta tNil) := by
  refine ⟨fun pins s σ H Q I h => ?_⟩
  refine PySem.W.methodCall_KW (pl := pl) (thn (he.run pins s σ H _ I h) fun u s1 ⟨x, H1, I1, rx, a, dx, fs, ex, ea, l, q⟩ => ?_) ht
  subst ex
  obtain rfl : u = Value.ref a := rx
  refine getmeth_ok I1 ea c hm l ?_
  exact PySem.W.callWith_K0 (first := [.ref a]) I1.kIn hm.kp (run_fnS (us := [.ref a]) (vs := [.ref a]) F hr hb (hx σ) I1 (.cons rfl .nil) q)
end
section
variable {X : Cx} {g : Gx} {st : Stmt} {e : Expr} {es : List Expr} {M M0 M1 : Ad} {φ φ1 φ2 φ' : Nat → List Addr} {τ τ' : Tau} {σ σ1 σ2 : L2.St} {H H' H1 : Hp} {v x y : V} {vs : List V} {d : D} {ds : List D} {s : SV} {l : List SV} {F : List Addr} {as : List Arg} {svs os : List SV}
/-- the class and the attributes of an instance -/
def insOf : SV → Option (Nat × List Str)
  | .fz (.ob (.ins c fs) _) => some (c, fs)
  | .mu (.ins c fs) _ => some (c, fs)
  | _ => none
/-- x.m(..), x a slot -/
def mMeth (c : Nat) (m : Str) (F : Fn) (i : Nat) (as : CM (List Arg)) : CM SV := fun τ => match τ[i]? with
  | some (some s) => match insOf s with
    | some (c', fs) => if c' = c ∧ ¬ m ∈ fs then mCall F (rN i as) τ else none
    | none => none
  | _ => none
theorem s_meth {c i : Nat} {m : Str} {F : Fn} {as : CM (List Arg)} (hm : m ∉ g.hid c) (h : PE X e (tMethS' (g.cl c) m (spF (gK g.K g.cl g.hid) F) g.ex (tVar i) (rdR g as))) : PE X e (rdE g (mMeth c m F i as)) := pe_le h fun σ H Q q => by
  obtain ⟨M0, φ, τ, rs, τ', hs, hmm, k⟩ := q
  unfold mMeth at hmm
  split at hmm
  · rename_i s hi
    split at hmm
    · rename_i c' fs hc
      split at hmm
      · rename_i hcc
        obtain ⟨rfl, hnot⟩ := hcc
        have q : tCallS (spF (gK g.K g.cl g.hid) F) g.ex (rdR g (rN i as)) σ H Q := le_callS σ H Q ⟨M0, φ, τ, rs, τ', hs, hmm, k⟩
        obtain ⟨v, hv, w⟩ := hs.at_ _ _ hi
        have hins : ∃ a dx fsr, v = .ref a ∧ H a = some (.ins (g.cl c') dx fsr) ∧ fsr.lookup m = none := by
          generalize φ i = Fi at w
          cases w with
          | @fz v d r =>
            cases d with
            | ob hd l =>
              cases hd with
              | ins c2 fs2 =>
                cases hc
                obtain ⟨a, dx, fsr, xs, rfl, h1, h2, h3, h4, h5⟩ := (RT.of r).ins
                exact ⟨a, dx, fsr, rfl, h1, h3 m hnot hm⟩
              | lst => cases hc
              | dct t ks => cases hc
            | non => cases hc
            | bl b => cases hc
            | int i => cases hc
            | str z => cases hc
            | tup l => cases hc
            | fro l => cases hc
          | @mu a o hd xs l F h1 h2 h3 =>
            cases hd with
            | ins c2 fs2 =>
              cases hc
              obtain ⟨dx, fsr, rfl, e1, e2, nd⟩ := h2
              exact ⟨a, dx, fsr, rfl, h1, lookup_no (by rw [← e1]; exact hnot)⟩
            | lst => cases hc
            | dct t ks => cases hc
        obtain ⟨a, dx, fsr, rfl, ha, hl⟩ := hins
        refine ⟨.ref a, hv, a, dx, fsr, rfl, ha, hl, ?_⟩
        -- the receiver is the first argument
        unfold tCallS at q
        obtain ⟨M0', φ', τ2, r2, τ2', hs2, hm2, k2⟩ := q
        refine ⟨M0', φ', τ2, ?_⟩
        unfold rN at hm2
        split at hm2
        · rename_i d hi2
          rcases bnd_some hm2 with ⟨ys, τ3, e3, e4⟩ | ⟨c, fs, l, e3, rfl⟩
          · obtain ⟨s, es, rfl, rfl⟩ := ret_some e4
            cases es
            refine ⟨_, _, hs2, e3, fun v2 H2 φ2 hs3 r3 l3 => ?_⟩
            obtain ⟨v', hv', rv⟩ := hs2.fz hi2
            rw [hv] at hv'
            cases hv'
            exact k2 _ H2 φ2 hs3 (.cons (.d ((le_mof l3).r rv)) r3) l3
          · exact ⟨_, _, hs2, e3, k2⟩
        · rename_i hd l hi2
          rcases bnd_some hm2 with ⟨ys, τ3, e3, e4⟩ | ⟨c, fs, l, e3, rfl⟩
          · obtain ⟨s, es, rfl, rfl⟩ := ret_some e4
            cases es
            exact ⟨_, _, hs2, e3, fun v2 H2 φ2 hs3 r3 l3 => k2 _ H2 φ2 hs3 (.cons (.n hv) r3) l3⟩
          · exact ⟨_, _, hs2, e3, k2⟩
        · cases hm2
      · cases hmm
    · cases hmm
  · cases hmm
end
end VS

/-! ## S16: instances made; one's own changed; raise -/
namespace VS
open PySem PySem.Spec PyProof.Rows L2
section
variable {X : Cx} {g : Gx} {st : Stmt} {e : Expr} {es : List Expr} {M M0 M1 : Ad} {φ φ1 φ2 φ' : Nat → List Addr} {τ τ' : Tau} {σ σ1 σ2 : L2.St} {H H' H1 : Hp} {v x y : V} {vs : List V} {d : D} {ds : List D} {s : SV} {l : List SV} {F : List Addr} {as : List Arg} {svs os : List SV}
/-- one slot more, ahead -/
def consF (F : List Addr) (φ : Nat → List Addr) : Nat → List Addr
  | 0 => F
  | k + 1 => φ k
theorem Sim.cons (hs : Sim g M0 φ τ σ H) (e : Ev0 H H1) (w : Ow g (fun a => Mof M0 φ a ∨ a ∈ F) H1 v s F) (nd : F.Nodup) (n : ∀ a ∈ F, H a = none) : Sim g M0 (consF F φ) (some s :: τ) (some v :: σ) H1 := by
  have sub : ∀ a, Mof M0 (consF F φ) a → Mof M0 φ a ∨ a ∈ F := fun a q => by
    rcases q with q | ⟨k, q⟩
    · exact .inl (.inl q)
    · cases k with
      | zero => exact .inr q
      | succ k => exact .inl (.inr ⟨k, q⟩)
  refine ⟨by simp [hs.len], fun i s' q => ?_, fun i => ?_, fun i j a p q => ?_, fun i a p q => ?_, fun a q => ?_⟩
  · cases i with
    | zero =>
      simp at q
      subst q
      exact ⟨v, rfl, w.sub sub⟩
    | succ i =>
      obtain ⟨v', a, b⟩ := hs.at_ i s' (by simpa using q)
      exact ⟨v', by simpa using a, b.keep' e (fun _ q => q.elim) (fun a q => (sub a q).imp id (n a)) fun _ _ q => q⟩
  · cases i with
    | zero => exact nd
    | succ i => exact hs.nd i
  · cases i with
    | zero =>
      cases j with
      | zero => rfl
      | succ j => exact absurd (n a p) (hs.al a (.inr ⟨j, q⟩))
    | succ i =>
      cases j with
      | zero => exact absurd (n a q) (hs.al a (.inr ⟨i, p⟩))
      | succ j => rw [hs.dj i j a p q]
  · cases i with
    | zero => exact hs.al a (.inl q) (n a p)
    | succ i => exact hs.d0 i a p q
  · rcases sub a q with q | q
    · exact e.live (hs.al a q)
    · exact Ow.live _ _ _ w a q
theorem Sim.tail {s0 : SV} {v0 : V} (h : Sim g M0 φ (some s0 :: τ) (some v0 :: σ) H) : Sim g (plus M0 (φ 0)) (fun k => φ (k + 1)) τ σ H ∧ Ow g (Mof (plus M0 (φ 0)) fun k => φ (k + 1)) H v0 s0 (φ 0) := by
  have sub : ∀ a, Mof (plus M0 (φ 0)) (fun k => φ (k + 1)) a → Mof M0 φ a := fun a q => by
    rcases q with (q | q) | ⟨k, q⟩
    · exact .inl q
    · exact .inr ⟨0, q⟩
    · exact .inr ⟨k + 1, q⟩
  refine ⟨⟨by have := h.len; simpa using this, fun i s q => ?_, fun i => h.nd _, fun i j a p q => by have := h.dj _ _ a p q; omega, fun i a p q => ?_, fun a q => h.al a (sub a q)⟩, ?_⟩
  · obtain ⟨v, a, b⟩ := h.at_ (i + 1) s (by simpa using q)
    exact ⟨v, by simpa using a, b.sub sub⟩
  · rcases q with q | q
    · exact h.d0 _ a p q
    · have := h.dj _ _ a p q
      omega
  · obtain ⟨v, a, b⟩ := h.at_ 0 s0 rfl
    simp at a
    subst a
    exact b.sub sub
def makeT (c : Nat) (F : Fn) (args : List Arg) (τ : Tau) : Option (Res SV × Tau) :=
  if once (lent args) = true then (svsOf τ args).bind fun svs => (F (.mu (.ins c []) [] :: svs)).bind fun p => match p with
    | (.ok (.fz .non), s0 :: os) => if os.length = args.length then some (.ok s0, wb (lent args) os τ) else none
    | (.ex c' fs l, _ :: os) => if os.length = args.length then some (.ex c' fs l, wb (lent args) os τ) else none
    | _ => none
  else none
def mMake (c : Nat) (F : Fn) (as : CM (List Arg)) : CM SV := bnd as fun args τ => makeT c F args τ
theorem s_make {c : Nat} {F : Fn} {as : CM (List Arg)} (h : PE X e (tMakeS (g.cl c) (spF (gK g.K g.cl g.hid) F) g.ex (rdR g as))) : PE X e (rdE g (mMake c F as)) := pe_le h fun σ H Q q => by
  obtain ⟨M0, φ, τ, rs, τ', hs, hm, k⟩ := q
  rcases bnd_some hm with ⟨args, τ1, e1, e2⟩ | ⟨c, fs, l, e1, rfl⟩
  · refine ⟨M0, φ, τ, _, _, hs, e1, fun vs H1 φ1 hs1 ha l1 => ?_⟩
    intro x dx hx hdx ne
    have e0 : Ev0 H1 (upd (upd H1 dx (.own x)) x (.ins (g.cl c) dx [])) := (new0 hdx).trans (new0 (by rw [upd_ne ne.symm]; exact hx))
    unfold makeT at e2
    split at e2
    · rename_i ho
      simp only [Option.bind_eq_some_iff] at e2
      obtain ⟨svs, hv, p, hF, e2⟩ := e2
      have toK : ∀ {φ2 : Nat → List Addr} {τ2 : Tau} {σ2 : L2.St} {H2 : Hp} {M2 : Ad}, Sim g M2 φ2 τ2 σ2 H2 → Sim (gK g.K g.cl g.hid) M2 φ2 τ2 σ2 H2 := fun h => Sim.cast (g := g) (g' := gK g.K g.cl g.hid) rfl rfl rfl h
      have ofK : ∀ {φ2 : Nat → List Addr} {τ2 : Tau} {σ2 : L2.St} {H2 : Hp} {M2 : Ad}, Sim (gK g.K g.cl g.hid) M2 φ2 τ2 σ2 H2 → Sim g M2 φ2 τ2 σ2 H2 := fun h => Sim.cast (g := gK g.K g.cl g.hid) (g' := g) rfl rfl rfl h
      have si := (call_in hs1 ha ho hv).cons (F := [x]) (v := .ref x) (s := .mu (.ins c []) []) e0 (.mu upd_same ⟨dx, [], rfl, rfl, rfl, .nil⟩ .nil) (List.nodup_cons.mpr ⟨List.not_mem_nil, .nil⟩) (fun a m => by simp at m; subst m; exact hx)
      have lcomp : ∀ {φ' : Nat → List Addr} {H' : Hp}, Le (ran (consF [x] (phiC (lent args) φ1))) (upd (upd H1 dx (.own x)) x (.ins (g.cl c) dx [])) (ran φ') H' → Le (ran (phiC (lent args) φ1)) H1 (plus (ran fun k => φ' (k + 1)) (φ' 0)) H' := fun {φ' H'} l => by
        have ranc : ∀ a, ran (consF [x] (phiC (lent args) φ1)) a → ran (phiC (lent args) φ1) a ∨ H1 a = none := fun a ⟨k, q⟩ => by
          cases k with
          | zero =>
            have : a = x := by simpa [consF] using q
            subst this
            exact .inr hx
          | succ k => exact .inl ⟨k, q⟩
        refine ⟨(Evp.of0 e0).trans l.ev ranc, fun a q => ?_⟩
        have : ran φ' a := by
          rcases q with ⟨k, q⟩ | q
          · exact ⟨k + 1, q⟩
          · exact ⟨0, q⟩
        rcases l.grow a this with q | q
        · exact ranc a q
        · exact .inr (e0.non q)
      refine ⟨_, _, _, _, _, toK si, hF, ?_⟩
      split at e2
      · rename_i s0 os
        split at e2
        · rename_i hl
          cases e2
          intro v H' q
          obtain ⟨F1, φ', s1, w1, nd, n0, l2⟩ := q
          obtain ⟨r1, rfl⟩ := ow_fz w1
          rw [plus_nil] at s1 l2
          cases r1
          refine ⟨rfl, ?_⟩
          obtain ⟨t1, t2⟩ := Sim.tail (ofK s1)
          obtain ⟨a1, a2, a3, a4⟩ := call_back hs1 ha ho hv hl t1 (fun a m q => s1.d0 0 a m q) (lcomp l2)
          exact k _ H' (EOk.after l1 ⟨φ' 0, _, a1, t2.sub a2, s1.nd 0, a3, a4⟩)
        · cases e2
      · rename_i c' fs l s0 os
        split at e2
        · rename_i hl
          cases e2
          intro d H' q
          obtain ⟨φ', s1, x1, l2⟩ := q
          obtain ⟨t1, t2⟩ := Sim.tail (ofK s1)
          obtain ⟨a1, a2, a3, a4⟩ := call_back hs1 ha ho hv hl t1 (fun a m q => s1.d0 0 a m q) (lcomp l2)
          have sub : ∀ a, Mof M0 (phiB (lent args) φ1 fun k => φ' (k + 1)) a → Mof (M0C (lent args) M0 φ1) φ' a := fun a q => by
            have := a2 a (mof_plus.mpr (.inl q))
            rcases this with (q | q) | ⟨k, q⟩
            · exact .inl q
            · exact .inr ⟨0, q⟩
            · exact .inr ⟨k + 1, q⟩
          refine k d H' (XOk.after l1 ⟨_, a1.less1, ?_, a4.ev, fun a q => a4.grow a (.inl q)⟩)
          rcases XRel.cast (g := gK g.K g.cl g.hid) (g' := g) rfl rfl rfl x1 with x1 | ⟨p, fsr, xs, e, hp, n, hl, q, r⟩
          · exact .inl x1
          · exact .inr ⟨p, fsr, xs, e, hp, fun m => n (sub p m), hl, q, (Le.sub sub).rs r⟩
        · cases e2
      · cases e2
    · cases e2
  · exact ⟨M0, φ, τ, _, _, hs, e1, k⟩
/-! ### what is one's own changed -/
def MuOk (g : Gx) (f : Hd → List SV → List D → Option (Hd × List SV × D)) (r : V → List V → Hp → VK → Prop) : Prop :=
  ∀ {M : Ad} {H : Hp} {a : Addr} {o : HO} {h : Hd} {xs : List V} {l : List SV} {F : List Addr} {vs : List V} {ds : List D} {h' : Hd} {l' : List SV} {d : D} {Q : VK}, H a = some o → HOf g.cl h xs o → Ows g M H xs l F → Rs g M H vs ds → f h l ds = some (h', l', d) →
    (∀ o' xs' v F', HOf g.cl h' xs' o' → kindO o' = kindO o → Ows g M H xs' l' F' → (∀ x ∈ F', x ∈ F) → (F.Nodup → F'.Nodup) → R g M H v d → Q v (upd H a o')) → r (.ref a) vs H Q
/-- a slot's own object, changed -/
theorem Sim.change {i : Nat} {a : Addr} {o o' : HO} {h h' : Hd} {xs' : List V} {l' : List SV} {F' : List Addr} (hs : Sim g M0 φ τ σ H) (hv : σ[i]? = some (some (.ref a))) (hF : φ i = a :: F) (ha : H a = some o) (hk : HOf g.cl h' xs' o') (kd : kindO o' = kindO o) (k1 : kindO o ≠ 1) (k2 : kindO o ≠ 10)
    (w : Ows g (Mof M0 φ) H xs' l' F') (sub : ∀ x ∈ F', x ∈ F) (nd : F'.Nodup) (hi : i < τ.length) : Sim g M0 (upF φ i (a :: F')) (τ.set i (some (.mu h' l'))) σ (upd H a o') ∧ Le (ran φ) H (ran (upF φ i (a :: F'))) (upd H a o') := by
  have ev := put_ev (o' := o') ha kd k1 k2
  have nda := hs.nd i
  rw [hF] at nda
  have naF : a ∉ F := (List.nodup_cons.mp nda).1
  have am : a ∈ φ i := by rw [hF]; exact List.mem_cons_self
  have up : ∀ x j, x ∈ upF φ i (a :: F') j → x ∈ φ j := fun x j q => by
    by_cases e : j = i
    · subst e
      rw [upF_same] at q
      rw [hF]
      rcases List.mem_cons.mp q with q | q
      · rw [q]; exact List.mem_cons_self
      · exact List.mem_cons_of_mem _ (sub x q)
    · rw [upF_ne e] at q; exact q
  have subM : ∀ x, Mof M0 (upF φ i (a :: F')) x → Mof M0 φ x := fun x q => q.imp id fun ⟨j, q⟩ => ⟨j, up x j q⟩
  refine ⟨⟨by rw [List.length_set]; exact hs.len, fun j s' q => ?_, fun j => ?_, fun j k x p q => hs.dj j k x (up x j p) (up x k q), fun j x p => hs.d0 j x (up x j p), fun x q => ev.live (hs.al x (subM x q))⟩, ⟨ev.mono fun x q => ⟨i, by rw [q]; exact am⟩, fun x ⟨j, q⟩ => .inl ⟨j, up x j q⟩⟩⟩
  · by_cases e : j = i
    · subst e
      rw [List.getElem?_set, if_pos rfl, if_pos hi] at q
      cases q
      refine ⟨.ref a, hv, ?_⟩
      rw [upF_same]
      refine .mu upd_same hk (w.keep' ev (fun x q => ?_) (fun x q => .inl (subM x q)) fun x m q => ?_)
      · subst q; exact .inr ⟨j, am⟩
      · subst q; exact naF (sub _ m)
    · rw [List.getElem?_set_ne (Ne.symm e)] at q
      obtain ⟨v, p, b⟩ := hs.at_ j s' q
      rw [upF_ne e]
      refine ⟨v, p, b.keep' ev (fun x q => ?_) (fun x q => .inl (subM x q)) fun x m q => ?_⟩
      · subst q; exact .inr ⟨i, am⟩
      · subst q; exact e (hs.dj j i _ m am)
  · by_cases e : j = i
    · subst e
      rw [upF_same]
      exact List.nodup_cons.mpr ⟨fun m => naF (sub a m), nd⟩
    · rw [upF_ne e]; exact hs.nd j
/-- what stands at a slot that is one's own -/
theorem Sim.own {i : Nat} {h : Hd} {l : List SV} (hs : Sim g M0 φ τ σ H) (e : τ[i]? = some (some (.mu h l))) : ∃ a o xs F, σ[i]? = some (some (.ref a)) ∧ φ i = a :: F ∧ H a = some o ∧ HOf g.cl h xs o ∧ Ows g (Mof M0 φ) H xs l F ∧ F.Nodup ∧ i < τ.length := by
  obtain ⟨v, p, b⟩ := hs.at_ i _ e
  have nd := hs.nd i
  generalize hF : φ i = Fi at b nd
  cases b with
  | @mu a o h xs l F h1 h2 h3 =>
    exact ⟨a, o, xs, F, p, rfl, h1, h2, h3, (List.nodup_cons.mp nd).2, (List.getElem?_eq_some_iff.mp e).1⟩
/-- the type of a method's receiver -/
def hdTy : Hd → String
  | .lst => "list"
  | .dct _ _ => "dict"
  | .ins _ _ => ""
def mMut (T : String) (f : Hd → List SV → List D → Option (Hd × List SV × D)) (i : Nat) (as : CM (List D)) : CM D := fun τ => match τ[i]? with
  | some (some (.mu h _)) => if hdTy h = T then bnd as (fun ds τ1 => match τ1[i]? with
      | some (some (.mu h1 l1)) => (f h1 l1 ds).map fun p => (.ok p.2.2, τ1.set i (some (.mu p.1 p.2.1)))
      | _ => none) τ else none
  | _ => none
theorem s_mut {T : String} {f : Hd → List SV → List D → Option (Hd × List SV × D)} {r : V → List V → Hp → VK → Prop} {i : Nat} {as : CM (List D)} (hT : T = "list") (ho : MuOk g f r) (h : PE X e (tBM g.K T r (tVar i) (rdA g as))) : PE X e (rdD g (mMut T f i as)) := pe_le h fun σ H Q q => by
  obtain ⟨M0, φ, τ, rs, τ', hs, hm, k⟩ := q
  unfold mMut at hm
  split at hm
  · rename_i h0 l0 hi
    split at hm
    · rename_i ht
      obtain ⟨a, o, xs, F, hv, hF, ha, hk, w, nd, hl⟩ := hs.own hi
      have hty : tyV g.K T (.ref a) H := by
        subst hT
        cases h0 with
        | lst => cases hk; exact .inl ⟨rfl, xs, SqL.of ha⟩
        | dct t ks => exact absurd ht (show ¬ ("dict" = "list") by decide)
        | ins c fs => exact absurd ht (show ¬ ("" = "list") by decide)
      refine ⟨.ref a, hv, hty, ?_⟩
      rcases bnd_some hm with ⟨ds, τ1, e1, e2⟩ | ⟨c, fs, l, e1, rfl⟩
      · refine ⟨M0, φ, τ, _, _, hs, e1, fun vs H1 q1 => ?_⟩
        obtain ⟨φ1, hs1, r1, l1⟩ := q1
        split at e2
        · rename_i h1 ls1 hi1
          simp only [Option.map_eq_some_iff] at e2
          obtain ⟨⟨h', l', d⟩, hf, e2⟩ := e2
          cases e2
          obtain ⟨a1, o1, xs1, F1, hv1, hF1, ha1, hk1, w1, nd1, hl1⟩ := hs1.own hi1
          rw [hv] at hv1
          cases hv1
          refine ho ha1 hk1 w1 r1 hf fun o' xs' v F' k1 k2 k3 k4 k5 k6 => ?_
          obtain ⟨s2, l2⟩ := hs1.change (h := h1) hv hF1 ha1 k1 k2 hk1.kind.1 hk1.kind.2 k3 k4 (k5 nd1) hl1
          exact k v _ ⟨_, s2, (le_mof l2).r k6, l1.trans l2⟩
        · cases e2
      · exact ⟨M0, φ, τ, _, _, hs, e1, k⟩
    · cases hm
  · cases hm
/-! the operations -/
theorem Ows.app {l2 : List SV} {vs2 : List V} {F2 : List Addr} (h : Ows g M H vs l F) (h2 : Ows g M H vs2 l2 F2) : Ows g M H (vs ++ vs2) (l ++ l2) (F ++ F2) := by
  induction l generalizing vs F with
  | nil => cases h; exact h2
  | cons s l ih => cases h with
    | cons p q =>
      have := Ows.cons p (ih q)
      rw [← List.append_assoc] at this
      exact this
def appendM : Hd → List SV → List D → Option (Hd × List SV × D)
  | .lst, l, [d] => if l.length < sizeLine then some (.lst, l ++ [.fz d], .non) else none
  | _, _, _ => none
theorem u_append : MuOk g appendM rAppend := by
  intro M H a o h xs l F vs ds h' l' d Q ha hk w rs hf k
  unfold appendM at hf
  split at hf
  · split at hf
    · rename_i hz
      cases hf
      cases hk
      cases rs with
      | cons r rs =>
        cases rs
        exact ⟨a, xs, _, rfl, rfl, ha, by rw [w.length]; exact hz, k _ _ _ (F ++ []) rfl rfl (w.app (.cons (.fz r) .nil)) (by simp) (by simp) .non⟩
    · cases hf
  · cases hf
def extendM : Hd → List SV → List D → Option (Hd × List SV × D)
  | .lst, l, [.ob .lst m] => if l.length + m.length ≤ sizeLine then some (.lst, l ++ m.map .fz, .non) else none
  | _, _, _ => none
theorem u_extend : MuOk g extendM rExtend := by
  intro M H a o h xs l F vs ds h' l' d Q ha hk w rs hf k
  unfold extendM at hf
  split at hf
  · split at hf
    · rename_i m hz
      cases hf
      cases hk
      cases rs with
      | cons r rs =>
        cases rs
        obtain ⟨b, ys, rfl, hb, rs2⟩ := (RT.of r).lst
        exact ⟨a, b, xs, ys, rfl, rfl, ha, hb, by rw [w.length, rs2.length]; exact hz, k _ _ _ (F ++ []) rfl rfl (w.app rs2.ws) (by simp) (by simp) .non⟩
    · cases hf
  · cases hf
/-! ### x[k] = e, x a slot's own list or dict -/
def repSV : List DK → List SV → DK → D → List SV
  | q :: ks, s :: l, k, d => if q = k then .fz d :: repSV ks l k d else s :: repSV ks l k d
  | _, l, _, _ => l
def putSV (ks : List DK) (l : List SV) (k : DK) (d : D) (t : Bool) : Hd × List SV :=
  if ks.contains k = true then (.dct t ks, repSV ks l k d) else (.dct t (ks ++ [k]), l ++ [.fz d])
def setSV (h : Hd) (l : List SV) (k d : D) : Option (Hd × List SV) := match h, k with
  | .lst, .int i => (ixN l.length i).map fun j => (.lst, l.set j (.fz d))
  | .dct false ks, .int i => if ks.length < sizeLine then some (putSV ks l (.k (.inl i)) d false) else none
  | .dct false ks, .str z => if ks.length < sizeLine then some (putSV ks l (.k (.inr z)) d false) else none
  | _, _ => none
theorem Ows.set {i : Nat} {v : V} (w : Ows g M H vs l F) (r : R g M H v d) : ∃ F', Ows g M H (vs.set i v) (l.set i (.fz d)) F' ∧ (∀ x ∈ F', x ∈ F) ∧ (F.Nodup → F'.Nodup) := by
  induction i generalizing vs l F with
  | zero =>
    cases w with
    | nil => exact ⟨[], .nil, fun _ m => m, id⟩
    | @cons v0 vs s l F1 F2 p q => exact ⟨_, .cons (.fz r) q, fun x m => List.mem_append_right _ (by simpa using m), fun n => by simpa using (List.nodup_append.mp n).2.1⟩
  | succ i ih =>
    cases w with
    | nil => exact ⟨[], .nil, fun _ m => m, id⟩
    | @cons v0 vs s l F1 F2 p q =>
      obtain ⟨F', a, b, c⟩ := ih q
      refine ⟨_, .cons p a, fun x m => ?_, fun n => ?_⟩
      · rcases List.mem_append.mp m with m | m
        · exact List.mem_append_left _ m
        · exact List.mem_append_right _ (b x m)
      · obtain ⟨n1, n2, n3⟩ := List.nodup_append.mp n
        exact List.nodup_append.mpr ⟨n1, c n2, fun x m y m2 => n3 x m y (b y m2)⟩
theorem Ows.put {κ : Type} [DecidableEq κ] (f : κ → DK) (hf : ∀ a b, f a = f b → a = b) (t : Bool) (k : κ) {v : V} (r : R g M H v d) {kvs : List (κ × V)} (w : Ows g M H (kvs.map (·.2)) l F) :
    ∃ F', (putSV (kvs.map fun p => f p.1) l (f k) d t).1 = .dct t ((putK kvs k v).map fun p => f p.1) ∧ Ows g M H ((putK kvs k v).map (·.2)) (putSV (kvs.map fun p => f p.1) l (f k) d t).2 F' ∧ (∀ x ∈ F', x ∈ F) ∧ (F.Nodup → F'.Nodup) := by
  have hany : (kvs.map fun p => f p.1).contains (f k) = kvs.any fun kv => decide (kv.1 = k) := by
    rw [Bool.eq_iff_iff, List.contains_iff_mem, List.any_eq_true]
    constructor
    · intro m
      obtain ⟨p, hp, e⟩ := List.mem_map.mp m
      exact ⟨p, hp, by simpa using hf _ _ e⟩
    · rintro ⟨p, hp, e⟩
      exact List.mem_map.mpr ⟨p, hp, by rw [of_decide_eq_true e]⟩
  unfold putSV putK
  rw [hany]
  by_cases c : (kvs.any fun kv => decide (kv.1 = k)) = true
  · rw [if_pos c, if_pos c]
    have key : ∀ {kvs : List (κ × V)} {l : List SV} {F : List Addr}, Ows g M H (kvs.map (·.2)) l F → ∃ F', Ows g M H ((kvs.map fun kv => if kv.1 = k then (kv.1, v) else kv).map (·.2)) (repSV (kvs.map fun p => f p.1) l (f k) d) F' ∧ (∀ x ∈ F', x ∈ F) ∧ (F.Nodup → F'.Nodup) := by
      intro kvs
      induction kvs with
      | nil => intro l F w; cases w; exact ⟨[], .nil, fun _ m => m, id⟩
      | cons p kvs ih =>
        intro l F w
        cases w with
        | @cons _ _ s l F1 F2 p1 q1 =>
        obtain ⟨F', a, b, c⟩ := ih q1
        by_cases e : p.1 = k
        · refine ⟨[] ++ F', ?_, fun x m => List.mem_append_right _ (b x (by simpa using m)), fun n => by simpa using c (List.nodup_append.mp n).2.1⟩
          show Ows g M H ((if p.1 = k then (p.1, v) else p).2 :: _) (if f p.1 = f k then _ else _) _
          rw [if_pos e, if_pos (by rw [e])]
          exact .cons (.fz r) a
        · refine ⟨F1 ++ F', ?_, fun x m => ?_, fun n => ?_⟩
          · show Ows g M H ((if p.1 = k then (p.1, v) else p).2 :: _) (if f p.1 = f k then _ else _) _
            rw [if_neg e, if_neg (fun q => e (hf _ _ q))]
            exact .cons p1 a
          · rcases List.mem_append.mp m with m | m
            · exact List.mem_append_left _ m
            · exact List.mem_append_right _ (b x m)
          · obtain ⟨n1, n2, n3⟩ := List.nodup_append.mp n
            exact List.nodup_append.mpr ⟨n1, c n2, fun x m y m2 => n3 x m y (b y m2)⟩
    obtain ⟨F', a, b, c'⟩ := key w
    refine ⟨F', ?_, a, b, c'⟩
    rw [List.map_map]
    show Hd.dct t _ = Hd.dct t _
    refine congrArg _ (List.map_congr_left fun p _ => ?_)
    show f p.1 = f (if p.1 = k then (p.1, v) else p).1
    split <;> rfl
  · rw [if_neg c, if_neg c]
    exact ⟨F ++ [], by simp, by
      rw [List.map_append]
      exact w.app (.cons (.fz r) .nil), by simp, by simp⟩
def mPut (i : Nat) (m k : CM D) : SC := sE m fun d τ1 => match τ1[i]? with
  | some (some (.mu _ _)) => sE k (fun q τ2 => match τ2[i]? with
    | some (some (.mu h l)) => (setSV h l q d).map fun p => (.nx, τ2.set i (some (.mu p.1 p.2)))
    | _ => none) τ1
  | _ => none
theorem s_put {i : Nat} {m k : CM D} {cs : TSet} (hcs : cs = rSetU) (h : PS X st (tAsg (rdD g m) (gSub (tVar i) (rdD g k) cs))) : PS X st (rdS g (mPut i m k)) := ps_le h fun E σ H q => by
  subst hcs
  obtain ⟨M0, φ, τ, fl, τ', hs, hm, kk⟩ := rdS_iff.mp q
  rcases sE_some hm with ⟨d, τ1, e1, e2⟩ | ⟨c, fs, l, e1, rfl⟩
  · refine ⟨M0, φ, τ, _, _, hs, e1, fun v1 H1 q1 => ?_⟩
    obtain ⟨φ1, hs1, r1, l1⟩ := q1
    split at e2
    · rename_i h0 l0 hi0
      obtain ⟨a, o, xs, F, hv, hF, ha, hk, w, nd, hl⟩ := hs1.own hi0
      refine ⟨.ref a, hv, ?_⟩
      rcases sE_some e2 with ⟨q, τ2, e3, e4⟩ | ⟨c, fs, l, e3, rfl⟩
      · refine ⟨M0, φ1, τ1, _, _, hs1, e3, fun v2 H2 q2 => ?_⟩
        obtain ⟨φ2, hs2, r2, l2⟩ := q2
        split at e4
        · rename_i h1 ls1 hi1
          simp only [Option.map_eq_some_iff] at e4
          obtain ⟨⟨h', l'⟩, hf, e4⟩ := e4
          cases e4
          obtain ⟨a1, o1, xs1, F1, hv1, hF1, ha1, hk1, w1, nd1, hl1⟩ := hs2.own hi1
          rw [hv] at hv1
          cases hv1
          have r1' := (le_mof (M0 := M0) l2).r r1
          have fin : ∀ {o' : HO} {h' : Hd} {xs' : List V} {l' : List SV} {F' : List Addr}, HOf g.cl h' xs' o' → kindO o' = kindO o1 → Ows g (Mof M0 φ2) H2 xs' l' F' → (∀ x ∈ F', x ∈ F1) → (F1.Nodup → F'.Nodup) → Fin g E M0 φ H σ (τ2.set i (some (.mu h' l'))) .nx → E.nx σ (upd H2 a o') := fun {o' h' xs' l' F'} k1 k2 k3 k4 k5 kk => by
            obtain ⟨s3, l3⟩ := hs2.change (h := h1) hv hF1 ha1 k1 k2 hk1.kind.1 hk1.kind.2 k3 k4 (k5 nd1) hl1
            exact kk σ _ ⟨⟨_, s3, (l1.trans l2).trans l3⟩, fun _ _ => rfl⟩
          unfold setSV at hf
          split at hf
          · rename_i z
            simp only [Option.map_eq_some_iff] at hf
            obtain ⟨j, hj, hf⟩ := hf
            cases hf
            cases hk1
            cases (RT.of r2).int
            obtain ⟨F', b1, b2, b3⟩ := w1.set (i := j) r1'
            exact .inl ⟨a, xs1, _, j, rfl, rfl, ha1, by rw [w1.length]; exact hj, fin (h' := .lst) (xs' := xs1.set j v1) rfl rfl b1 b2 b3 kk⟩
          · split at hf
            · rename_i hz
              have hf := Option.some.inj hf
              obtain ⟨kvs, rfl, rfl, rfl⟩ := hk1
              cases (RT.of r2).int
              obtain ⟨F', b0, b1, b2, b3⟩ := Ows.put DK.k dk_k_inj false (.inl _) r1' w1
              have ea : h' = _ := (congrArg Prod.fst hf).symm.trans b0
              have eb : l' = _ := (congrArg Prod.snd hf).symm
              subst ea
              subst eb
              refine .inr ⟨a, _, rfl, .inl ⟨kvs, .inl _, ha1, rfl, by simpa using hz, rfl⟩, fin (h' := .dct false _) (xs' := _) ⟨_, rfl, rfl, rfl⟩ rfl b1 b2 b3 kk⟩
            · cases hf
          · split at hf
            · rename_i hz
              have hf := Option.some.inj hf
              obtain ⟨kvs, rfl, rfl, rfl⟩ := hk1
              cases (RT.of r2).str
              obtain ⟨F', b0, b1, b2, b3⟩ := Ows.put DK.k dk_k_inj false (.inr _) r1' w1
              have ea : h' = _ := (congrArg Prod.fst hf).symm.trans b0
              have eb : l' = _ := (congrArg Prod.snd hf).symm
              subst ea
              subst eb
              refine .inr ⟨a, _, rfl, .inl ⟨kvs, .inr _, ha1, rfl, by simpa using hz, rfl⟩, fin (h' := .dct false _) (xs' := _) ⟨_, rfl, rfl, rfl⟩ rfl b1 b2 b3 kk⟩
            · cases hf
          · cases hf
        · cases e4
      · exact ⟨M0, φ1, τ1, _, _, hs1, e3, fun d H' q => kk.xk d H' (q.after l1)⟩
    · cases e2
  · exact ⟨M0, φ, τ, _, _, hs, e1, kk.xk⟩
end
end VS

/-! ## S17: raise, try -/
namespace VS
open PySem PySem.Spec PyProof.Rows L2
section
variable {X : Cx} {g : Gx} {st : Stmt} {e : Expr} {es : List Expr} {M M0 M1 : Ad} {φ φ1 φ2 φ' : Nat → List Addr} {τ τ' : Tau} {σ σ1 σ2 : L2.St} {H H' H1 : Hp} {v x y : V} {vs : List V} {d : D} {ds : List D} {s : SV} {l : List SV} {F : List Addr} {c : Nat} {W : WX}
def sRaise (c : Nat) : SC := fun τ => some (.ex c [] [], τ)
theorem s_raise {t : L2.St → Hp → XK → Prop} (h : PS X st (fun _ σ H => t σ H fun cls d H' => W cls d σ H')) (hW : ∀ σ cls d H, g.ex σ cls d H → W cls d σ H) (ht : ∀ σ H (Q : XK), Q (.ref (g.cl c)) none H → t σ H Q) : PS X st (rdS g (sRaise c)) := ps_le h fun E σ H q => by
  obtain ⟨M0, φ, τ, fl, τ', hs, hm, k⟩ := rdS_iff.mp q
  cases hm
  exact ht _ _ _ (hW _ _ _ _ (k.xk none H ⟨φ, hs, .inl ⟨rfl, rfl, rfl⟩, .refl⟩))
/-- the context of a try's body -/
abbrev gW (g : Gx) (W : WX) : Gx := { g with ex := fun σ cls d H => W cls d σ H }
/-- a clause: what it catches, its suite -/
abbrev Hn := (Nat → Option Bool) × (Nat → List Str → List D → SC)
def handle : List Hn → Nat → List Str → List D → SC
  | [], c, fs, l => fun τ => some (.ex c fs l, τ)
  | h :: r, c, fs, l => fun τ => match h.1 c with
    | some true => h.2 c fs l τ
    | some false => handle r c fs l τ
    | none => none
def sTry (m : SC) (hs : List Hn) : SC := fun τ => match m τ with
  | some (.ex c fs l, τ1) => handle hs c fs l τ1
  | r => r
/-- a clause does what it says -/
def HnOk (g : Gx) (h : Hn) (cl : Cl) : Prop := ∀ c b, h.1 c = some b → PySem.W.exmOne g.K (.ref (g.cl c)) cl.1 = some b ∧
  (b = true → ∀ (fs : List Str) (l : List D) (d : Option Addr) (M0 : Ad) (φ : Nat → List Addr) (τ τ' : Tau) (σ : L2.St) (H : Hp) (E : Ends) (fl : Fl) (a : Addr), Sim g M0 φ τ σ H → XRel g (Mof M0 φ) H d fs l → H a = none → h.2 c fs l τ = some (fl, τ') → Fin g E M0 φ H σ τ' fl →
    cl.2.2 a (.ref (g.cl c)) d (endsU cl.2.1 E) (slotU cl.2.1 σ a) H)
theorem handle_ok {Wout : WX} {E : Ends} (hW : ∀ σ cls d H, g.ex σ cls d H → Wout cls d σ H) : ∀ {hs : List Hn} {ls : List Cl}, Paired (HnOk g) hs ls → ∀ {c : Nat} {fs : List Str} {l : List D} {d : Option Addr} {M0 : Ad} {φ : Nat → List Addr} {τ τ' : Tau} {σ : L2.St} {H : Hp} {fl : Fl},
    Sim g M0 φ τ σ H → XRel g (Mof M0 φ) H d fs l → handle hs c fs l τ = some (fl, τ') → Fin g E M0 φ H σ τ' fl → wU g.K Wout E ls (.ref (g.cl c)) d σ H
  | _, _, .nil, c, fs, l, d, M0, φ, τ, τ', σ, H, fl, s, x, hm, k => by
    cases hm
    exact hW _ _ _ _ (k.xk d H ⟨φ, s, x, .refl⟩)
  | (mt, kk) :: r, (cv, o, ts) :: ls, .cons p q, c, fs, l, d, M0, φ, τ, τ', σ, H, fl, s, x, hm, k => by
    have hm' : (match mt c with
      | some true => kk c fs l τ
      | some false => handle r c fs l τ
      | none => none) = some (fl, τ') := hm
    clear hm
    revert hm'
    intro hm
    split at hm
    · rename_i hb
      obtain ⟨e1, e2⟩ := p c true hb
      exact ⟨true, e1, fun _ a ha => e2 rfl fs l d M0 φ τ τ' σ H E fl a s x ha hm k, fun q => nomatch q⟩
    · rename_i hb
      obtain ⟨e1, e2⟩ := p c false hb
      exact ⟨false, e1, fun q => (nomatch q), fun _ => handle_ok hW q s x hm k⟩
    · cases hm
theorem s_try {m : SC} {hs : List Hn} {ls : List Cl} {Wout : WX} (hW : ∀ σ cls d H, g.ex σ cls d H → Wout cls d σ H) (hh : Paired (HnOk g) hs ls) (h : PS X st (fun D σ H => rdS (gW g (wU g.K Wout D ls)) m D σ H)) : PS X st (rdS g (sTry m hs)) := ps_le h fun E σ H q => by
  obtain ⟨M0, φ, τ, fl, τ', s0, hm, k⟩ := rdS_iff.mp q
  unfold sTry at hm
  have up : ∀ {φ1 : Nat → List Addr} {τ1 : Tau} {σ1 : L2.St} {H1 : Hp} {M1 : Ad}, Sim (gW g (wU g.K Wout E ls)) M1 φ1 τ1 σ1 H1 → Sim g M1 φ1 τ1 σ1 H1 := fun h => Sim.cast (g := gW g (wU g.K Wout E ls)) (g' := g) rfl rfl rfl h
  have s0' : Sim (gW g (wU g.K Wout E ls)) M0 φ τ σ H := Sim.cast (g := g) (g' := gW g (wU g.K Wout E ls)) rfl rfl rfl s0
  refine rdS_iff.mpr ?_
  have same : ∀ {fl : Fl}, (∀ c fs l, fl ≠ .ex c fs l) → Fin g E M0 φ H σ τ' fl → Fin (gW g (wU g.K Wout E ls)) E M0 φ H σ τ' fl := fun {fl} hn k => by
    cases fl with
    | nx => exact fun σ' H' ⟨⟨φ', a, b⟩, p⟩ => k σ' H' ⟨⟨φ', up a, b⟩, p⟩
    | bk => exact fun σ' H' ⟨⟨φ', a, b⟩, p⟩ => k σ' H' ⟨⟨φ', up a, b⟩, p⟩
    | ct => exact fun σ' H' ⟨⟨φ', a, b⟩, p⟩ => k σ' H' ⟨⟨φ', up a, b⟩, p⟩
    | rt s => exact fun σ' v H' ⟨⟨F, φ', a, b, c, d, e⟩, p⟩ => k σ' v H' ⟨⟨F, φ', up a, Ow.cast (g := gW g (wU g.K Wout E ls)) (g' := g) rfl rfl rfl _ _ _ b, c, d, e⟩, p⟩
    | ex c fs l => exact absurd rfl (hn c fs l)
  split at hm
  · rename_i c fs l τ1 hb
    refine ⟨M0, φ, τ, _, _, s0', hb, fun σ' d H' q => ?_⟩
    obtain ⟨⟨φ', s1, x1, l1⟩, p1⟩ := q
    exact handle_ok hW hh (up s1) (XRel.cast (g := gW g (wU g.K Wout E ls)) (g' := g) rfl rfl rfl x1) hm (Fin.after l1 p1 k)
  · rename_i hn
    refine ⟨M0, φ, τ, _, _, s0', hm, same (fun c fs l e => ?_) k⟩
    subst e
    exact hn c fs l τ' hm
/-- a clause without a name -/
theorem hn_plain {mt : Nat → Option Bool} {m : SC} {cv : Value} (hmt : ∀ c b, mt c = some b → PySem.W.exmOne g.K (.ref (g.cl c)) cv = some b) : HnOk g (mt, fun _ _ _ => m) (cv, none, fun _ _ _ => rdS g m) := fun c b hb =>
  ⟨hmt c b hb, fun _ fs l d M0 φ τ τ' σ H E fl a s x ha hm k => rdS_iff.mpr ⟨M0, φ, τ, fl, τ', s, hm, k⟩⟩
theorem s_tryU {body : List Stmt} {h₀ : ExceptHandler} {hds : List ExceptHandler} {pos : Pos} {m : SC} {hs : List Hn} {ls : List Cl} {Wout : WX} (hst : X.stack = X.env :: X.outer) (hf : X.env.frame = some X.env.locals) (tk : Takes X Wout) (hK : X.K = g.K) (hW : ∀ σ cls d H, g.ex σ cls d H → Wout cls d σ H)
    (hb : ∀ (W : WX) (pn : List (Addr × Obj)) (xe : Value → Shared → Prop), Takes (X.tr pn xe) W → PassesOwn (model X.prog X.w) X.A X.env xe → PSs (X.tr pn xe) body (rdS (gW g W) m)) (hhd : HdsU X (h₀ :: hds) ls) (hh : Paired (HnOk g) hs ls) : PS X (.Try body (h₀ :: hds) [] [] pos) (rdS g (sTry m hs)) := by
  have h := ps_tryU (X := X) (pos := pos) (tb := fun W => rdS (gW g W) m) hst hf tk hb hhd
  rw [hK] at h
  exact s_try hW hh h
end
end VS

/-! ## S18: dicts made, tuples of places, fields stored, classes told -/
namespace VS
open PySem PySem.Spec PyProof.Rows L2
section
variable {X : Cx} {g : Gx} {st : Stmt} {e : Expr} {es : List Expr} {M M0 M1 : Ad} {φ φ1 φ2 φ' : Nat → List Addr} {τ τ' : Tau} {σ σ1 σ2 : L2.St} {H H' H1 : Hp} {v x y : V} {vs : List V} {d : D} {ds : List D} {s : SV} {l : List SV} {F : List Addr} {c : Nat} {W : WX}
def mNewK : CM SV := ret (some (.mu (.dct false []) []))
def mNewT : CM SV := ret (some (.mu (.dct true []) []))
theorem s_newK (h : PE X e tDNewK) : PE X e (rdE g mNewK) := pe_le h fun σ H Q q => by
  obtain ⟨M0, φ, τ, r, τ', hs, hm, k⟩ := q
  obtain ⟨x, ex, rfl, rfl⟩ := ret_some hm
  cases ex
  exact fun p hp => k _ _ (.of hs (POk.ob (ds := []) hp ⟨[], rfl, rfl, rfl⟩ .nil))
theorem s_newT (h : PE X e tDNewT) : PE X e (rdE g mNewT) := pe_le h fun σ H Q q => by
  obtain ⟨M0, φ, τ, r, τ', hs, hm, k⟩ := q
  obtain ⟨x, ex, rfl, rfl⟩ := ret_some hm
  cases ex
  exact fun p hp => k _ _ (.of hs (POk.ob (ds := []) hp ⟨[], rfl, rfl, rfl⟩ .nil))
def mDisp1 (z : Str) (a : CM D) : CM SV := bnd a fun d => ret (some (.mu (.dct false [.k (.inr z)]) [.fz d]))
theorem s_disp1 {z : Str} {a : CM D} (h : PE X e (tDisp [(tC (.str z), rdD g a)])) : PE X e (rdE g (mDisp1 z a)) := pe_le h fun σ H Q q => by
  obtain ⟨M0, φ, τ, rs, τ', hs, hm, k⟩ := q
  intro p hp
  have live : upd H p (.dK []) p ≠ none := by rw [upd_same]; exact fun q => nomatch q
  have s1 : Sim g (plus M0 [p]) φ τ σ (upd H p (.dK [])) := hs.more (F := [p]) (new0 hp) (fun a m => by simp at m; rw [m]; exact hp) (fun a m => by simp at m; rw [m]; exact live)
  rcases bnd_some hm with ⟨x, τ1, e1, e2⟩ | ⟨c, fs, l, e1, rfl⟩
  · obtain ⟨s, es, rfl, rfl⟩ := ret_some e2
    cases es
    show rdD g a σ (upd H p (.dK [])) _
    refine ⟨plus M0 [p], φ, τ, _, _, s1, e1, fun v1 H1 q1 => ?_⟩
    obtain ⟨φ1, hs1, r1, l1⟩ := q1
    have hp1 : H1 p = some (.dK []) := l1.ev.keep _ _ upd_same fun ⟨j, q⟩ => s1.d0 j p q (.inr (by simp))
    refine ⟨hp1, [(.inr z, v1)], rfl, by simp, ?_⟩
    have e3 : mergeK [] [((.inr z : Key), v1)] = [(.inr z, v1)] := rfl
    rw [e3]
    have lp := put_le (M := ran φ1) (o' := .dK [((.inr z : Key), v1)]) hp1 rfl (by simp [kindO]) (by simp [kindO])
    refine k _ _ ⟨[p], φ1, hs1.put hp1 rfl (by simp [kindO]) (by simp [kindO]), .mu upd_same ⟨_, rfl, rfl, rfl⟩ (.cons (.fz ((Le.mof1 (M0 := M0) lp).r r1)) .nil), List.nodup_cons.mpr ⟨List.not_mem_nil, .nil⟩, fun a m q => ?_, ?_⟩
    · simp at m; subst m; exact hs.al a (.inl q) hp
    · have l0 : Le (ran φ) H (plus (ran φ) [p]) (upd H p (.dK [])) := .of0 (new0 hp) fun a q => (plus1 q).imp id fun e => by rw [e]; exact hp
      exact (l0.trans (Le.pl l1)).trans lp
  · show rdD g a σ (upd H p (.dK [])) _
    refine ⟨plus M0 [p], φ, τ, _, _, s1, e1, fun d H' q => k d H' ?_⟩
    obtain ⟨φ', a, b, l⟩ := q
    have l0 : Le (ran φ) H (plus (ran φ) [p]) (upd H p (.dK [])) := .of0 (new0 hp) fun a q => (plus1 q).imp id fun e => by rw [e]; exact hp
    refine ⟨φ', a.less1, ?_, ⟨(l0.trans (Le.pl l)).ev, fun x q => (l0.trans (Le.pl l)).grow x (.inl q)⟩⟩
    rcases b with b | ⟨p', fsr, xs, e, hp', n, hl, q, r⟩
    · exact .inl b
    · exact .inr ⟨p', fsr, xs, e, hp', fun m => n (mof_plus.mpr (.inl m)), hl, q, (Le.sub fun a m => mof_plus.mpr (.inl m)).rs r⟩
/-! tuples of places -/
abbrev PBs := Tau → Option (List D)
def rdBs (g : Gx) (m : PBs) : TA := fun σ H Q => ∃ M0 φ τ ds, Sim g M0 φ τ σ H ∧ m τ = some ds ∧ ∀ vs H', Ev0 H H' → Rs g (Mof M0 φ) H' vs ds → Q vs H'
def pbNil : PBs := fun _ => some []
def pbCons (a : PB) (r : PBs) : PBs := fun τ => match a τ with
  | some (.fz d) => (r τ).map (d :: ·)
  | _ => none
theorem p_nil (h : PA X es tNil) : PA X es (rdBs g pbNil) := pa_le h fun σ H Q q => by
  obtain ⟨M0, φ, τ, ds, hs, hm, k⟩ := q
  cases hm
  exact k [] H .refl .nil
theorem p_cons {a : PB} {r : PBs} (h : PA X es (tCons (rdB g a) (rdBs g r))) : PA X es (rdBs g (pbCons a r)) := pa_le h fun σ H Q q => by
  obtain ⟨M0, φ, τ, ds, hs, hm, k⟩ := q
  unfold pbCons at hm
  split at hm
  · rename_i d ha
    simp only [Option.map_eq_some_iff] at hm
    obtain ⟨ds', hm, rfl⟩ := hm
    refine ⟨M0, φ, τ, _, hs, ha, fun v1 H1 e1 w1 => ?_⟩
    obtain ⟨F1, w1⟩ := w1
    refine ⟨M0, φ, τ, _, hs.ev0 e1, hm, fun vs H2 e2 r2 => k _ H2 (e1.trans e2) (.cons ((ow_fz w1).1.ev0 e2) r2)⟩
  · cases hm
def bTup (a : PBs) : PB := fun τ => (a τ).bind fun l => if l.length ≤ sizeLine then some (.fz (.tup l)) else none
theorem p_tup {a : PBs} (h : PE X e (tTup (rdBs g a))) : PE X e (rdB g (bTup a)) := pe_le h fun σ H Q q => by
  obtain ⟨M0, φ, τ, s, hs, hm, k⟩ := q
  simp only [bTup, Option.bind_eq_some_iff] at hm
  obtain ⟨l, hl, hm⟩ := hm
  split at hm
  · rename_i hz
    cases hm
    refine ⟨M0, φ, τ, _, hs, hl, fun vs H1 e1 r1 => ⟨by rw [r1.length]; exact hz, fun p hp => k _ _ (e1.trans (new0 hp)) ⟨_, .fz (.tup (SqT.of upd_same) (r1.ev0 (new0 hp)))⟩⟩⟩
  · cases hm
/-! ### self.f = e -/
def putSf : List Str → List SV → Str → SV → List Str × List SV
  | f :: fs, s :: l, q, x => if f = q then (f :: fs, x :: l) else ((f :: (putSf fs l q x).1), (s :: (putSf fs l q x).2))
  | fs, l, q, x => (fs ++ [q], l ++ [x])
theorem putF_names (f : Str) (v : V) : ∀ fsr : List (Str × V), ∀ q, q ∈ (putF f v fsr).map (·.1) → q = f ∨ q ∈ fsr.map (·.1)
  | [], q, h => by simp [putF] at h; exact .inl h
  | (k, x) :: r, q, h => by
    unfold putF at h
    split at h
    · exact .inr (by simpa using h)
    · simp only [List.map_cons, List.mem_cons] at h
      rcases h with h | h
      · exact .inr (by simp [h])
      · exact (putF_names f v r q h).imp id fun m => by simp only [List.map_cons, List.mem_cons]; exact .inr m
theorem putF_nodup (f : Str) (v : V) : ∀ {fsr : List (Str × V)}, (fsr.map (·.1)).Nodup → ((putF f v fsr).map (·.1)).Nodup
  | [], _ => by simp [putF]
  | (k, x) :: r, h => by
    obtain ⟨n1, n2⟩ := List.nodup_cons.mp h
    unfold putF
    split
    · exact h
    · rename_i ne
      refine List.nodup_cons.mpr ⟨fun m => ?_, putF_nodup f v n2⟩
      rcases putF_names f v r k m with e | m
      · exact ne e
      · exact n1 m
theorem Ows.putF {v : V} {s : SV} {Fn : List Addr} (f : Str) (wn : Ow g M H v s Fn) (nn : Fn.Nodup) : ∀ {fsr : List (Str × V)} {l : List SV} {F : List Addr}, Ows g M H (fsr.map (·.2)) l F → F.Nodup → (∀ x ∈ Fn, x ∉ F) →
    ∃ F', (putSf (fsr.map (·.1)) l f s).1 = (putF f v fsr).map (·.1) ∧ Ows g M H ((L2.putF f v fsr).map (·.2)) (putSf (fsr.map (·.1)) l f s).2 F' ∧ (∀ x ∈ F', x ∈ F ∨ x ∈ Fn) ∧ F'.Nodup
  | [], l, F, w, nd, dj => by
    cases w
    exact ⟨Fn ++ [], rfl, .cons wn .nil, fun x m => .inr (by simpa using m), by simpa using nn⟩
  | (k, x) :: r, l, F, w, nd, dj => by
    cases w with
    | @cons _ _ s0 l F1 F2 p q =>
      obtain ⟨n1, n2, n3⟩ := List.nodup_append.mp nd
      show ∃ F', (if k = f then _ else _ : List Str × List SV).1 = (L2.putF f v ((k, x) :: r)).map (·.1) ∧ Ows g M H ((L2.putF f v ((k, x) :: r)).map (·.2)) (if k = f then _ else _ : List Str × List SV).2 F' ∧ _
      unfold L2.putF
      by_cases e : k = f
      · rw [if_pos e, if_pos e]
        refine ⟨Fn ++ F2, rfl, .cons wn q, fun x m => ?_, ?_⟩
        · rcases List.mem_append.mp m with m | m
          · exact .inr m
          · exact .inl (List.mem_append_right _ m)
        · exact List.nodup_append.mpr ⟨nn, n2, fun a m b m2 e => dj a m (List.mem_append_right _ (by rw [e]; exact m2))⟩
      · rw [if_neg e, if_neg e]
        obtain ⟨F', a1, a2, a3, a4⟩ := Ows.putF f wn nn q n2 fun x m m2 => dj x m (List.mem_append_right _ m2)
        refine ⟨F1 ++ F', ?_, .cons p a2, fun x m => ?_, ?_⟩
        · show k :: _ = k :: _
          rw [← a1]
        · rcases List.mem_append.mp m with m | m
          · exact .inl (List.mem_append_left _ m)
          · exact (a3 x m).imp (List.mem_append_right _) id
        · refine List.nodup_append.mpr ⟨n1, a4, fun a m b m2 e => ?_⟩
          subst e
          rcases a3 a m2 with m2 | m2
          · exact n3 a m a m2 rfl
          · exact dj a m2 (List.mem_append_left _ m)
def sFld (i : Nat) (cs : List Nat) (f : Str) (m : CM SV) : SC := sE m fun s τ1 => match τ1[i]? with
  | some (some (.mu (.ins c fs) l)) => if c ∈ cs ∧ fs.length < 1000 then some (.nx, τ1.set i (some (.mu (.ins c (putSf fs l f s).1) (putSf fs l f s).2))) else none
  | _ => none
theorem s_fldS {i : Nat} {cs : List Nat} {f : Str} {m : CM SV} (hc : ∀ c ∈ cs, Cls g.K (g.cl c) ∧ NoAttr g.K (g.cl c) f) (h : PS X st (L2.sFld g.K (tVar i) (rdE g m) f)) : PS X st (rdS g (sFld i cs f m)) := ps_le h fun E σ H q => by
  obtain ⟨M0, φ, τ, fl, τ', hs, hm, kk⟩ := rdS_iff.mp q
  rcases sE_some hm with ⟨s, τ1, e1, e2⟩ | ⟨c, fs, l, e1, rfl⟩
  · refine ⟨M0, φ, τ, _, _, hs, e1, fun v1 H1 q1 => ?_⟩
    obtain ⟨Fn, φ1, hs1, w1, nd1, n01, l1⟩ := q1
    split at e2
    · rename_i c fs l hi
      split at e2
      · rename_i hcc
        cases e2
        obtain ⟨t1, t2⟩ := hc c hcc.1
        obtain ⟨a, o, xs, F, hv, hF, ha, hk, w, nd, hl⟩ := hs1.own hi
        obtain ⟨dx, fsr, rfl, rfl, rfl, ndf⟩ := hk
        have hlf : fsr.length < 1000 := by have := hcc.2; rw [List.length_map] at this; exact this
        refine ⟨.ref a, hv, a, g.cl c, dx, fsr, rfl, ha, t1, t2, hlf, ?_⟩
        have dj : ∀ x ∈ Fn, x ∉ F := fun x m m2 => hs1.d0 i x (by rw [hF]; exact List.mem_cons_of_mem _ m2) (.inr m)
        obtain ⟨F', a1, a2, a3, a4⟩ := Ows.putF f w1 nd1 w nd dj
        have ev := put_ev (o' := .ins (g.cl c) dx (L2.putF f v1 fsr)) ha rfl (by simp [kindO]) (by simp [kindO])
        have naF : a ∉ F := by have := hs1.nd i; rw [hF] at this; exact (List.nodup_cons.mp this).1
        have am : a ∈ φ1 i := by rw [hF]; exact List.mem_cons_self
        have naN : a ∉ Fn := fun m => hs1.d0 i a am (.inr m)
        have naF' : a ∉ F' := fun m => by
          rcases a3 a m with m | m
          · exact naF m
          · exact naN m
        have up : ∀ x j, x ∈ upF φ1 i (a :: F') j → x ∈ φ1 j ∨ (x ∈ Fn ∧ j = i) := fun x j q => by
          by_cases e : j = i
          · subst e
            rw [upF_same] at q
            rcases List.mem_cons.mp q with q | q
            · exact .inl (by rw [q]; exact am)
            · rcases a3 x q with q | q
              · exact .inl (by rw [hF]; exact List.mem_cons_of_mem _ q)
              · exact .inr ⟨q, rfl⟩
          · rw [upF_ne e] at q; exact .inl q
        have subM : ∀ x, Mof M0 (upF φ1 i (a :: F')) x → Mof (plus M0 Fn) φ1 x := fun x q => by
          rcases q with q | ⟨j, q⟩
          · exact .inl (.inl q)
          · rcases up x j q with q | q
            · exact .inr ⟨j, q⟩
            · exact .inl (.inr q.1)
        refine kk σ _ ⟨⟨upF φ1 i (a :: F'), ⟨by rw [List.length_set]; exact hs1.len, fun j s' q => ?_, fun j => ?_, fun j k x p q => ?_, fun j x p q => ?_, fun x q => ev.live (hs1.al x (subM x q))⟩, l1.trans ⟨ev.mono fun x q => .inl ⟨i, by rw [q]; exact am⟩, fun x ⟨j, q⟩ => .inl ((up x j q).imp (fun q => ⟨j, q⟩) fun q => q.1)⟩⟩, fun _ _ => rfl⟩
        · by_cases e : j = i
          · subst e
            rw [List.getElem?_set, if_pos rfl, if_pos hl] at q
            cases q
            refine ⟨.ref a, hv, ?_⟩
            rw [upF_same]
            refine .mu upd_same ⟨dx, _, rfl, a1, rfl, putF_nodup f v1 ndf⟩ (a2.keep' ev (fun x q => ?_) (fun x q => .inl (subM x q)) fun x m q => ?_)
            · subst q; exact .inr ⟨j, am⟩
            · subst q; exact naF' m
          · rw [List.getElem?_set_ne (Ne.symm e)] at q
            obtain ⟨v, p, b⟩ := hs1.at_ j s' q
            rw [upF_ne e]
            refine ⟨v, p, b.keep' ev (fun x q => ?_) (fun x q => .inl (subM x q)) fun x m q => ?_⟩
            · subst q; exact .inr ⟨i, am⟩
            · subst q; exact e (hs1.dj j i _ m am)
        · by_cases e : j = i
          · subst e; rw [upF_same]; exact List.nodup_cons.mpr ⟨naF', a4⟩
          · rw [upF_ne e]; exact hs1.nd j
        · rcases up x j p with p1 | p1
          · rcases up x k q with q1 | q1
            · exact hs1.dj j k x p1 q1
            · exact absurd (.inr q1.1) (hs1.d0 j x p1)
          · rcases up x k q with q1 | q1
            · exact absurd (.inr p1.1) (hs1.d0 k x q1)
            · rw [p1.2, q1.2]
        · rcases up x j p with p1 | p1
          · exact hs1.d0 j x p1 (.inl q)
          · exact n01 x p1.1 q
      · cases e2
    · cases e2
  · exact ⟨M0, φ, τ, _, _, hs, e1, kk.xk⟩
/-! classes told -/
abbrev hid0 : Nat → List Str := fun _ => []
theorem mem1 {P : Nat → Prop} {a : Nat} (h : P a) : ∀ c ∈ [a], P c := fun c m => by simp at m; subst m; exact h
theorem mem2 {P : Nat → Prop} {a b : Nat} (h : P a) (h2 : P b) : ∀ c ∈ [a, b], P c := fun c m => by
  simp at m
  rcases m with m | m <;> subst m <;> assumption
theorem mem0 {P : Nat → Prop} : ∀ c ∈ ([] : List Nat), P c := fun c m => nomatch m
def tbInt (n : String) : Bool := n == "int" || n == "bool"
def tbBool (n : String) : Bool := n == "bool"
def tbStr (n : String) : Bool := n == "str"
def tbTup (n : String) : Bool := n == "tuple"
def tbLst (n : String) : Bool := n == "list"
def tbDct (n : String) : Bool := n == "dict"
theorem isT_of {T : String} {tb : String → Bool} (h : ∀ n ∈ ["NoneType", "bool", "int", "str", "tuple", "list", "dict"], kitB n T = some (tb n)) : IsT g (.type T) tb [] fun _ => false :=
  ⟨fun n m => kit_ty (h n m), mem0⟩
theorem mem7 {P : String → Prop} (h1 : P "NoneType") (h2 : P "bool") (h3 : P "int") (h4 : P "str") (h5 : P "tuple") (h6 : P "list") (h7 : P "dict") : ∀ n ∈ ["NoneType", "bool", "int", "str", "tuple", "list", "dict"], P n := fun n m => by
  simp only [List.mem_cons, List.not_mem_nil, or_false] at m
  rcases m with m | m | m | m | m | m | m <;> subst m <;> assumption
theorem isT_int : IsT g (.type "int") tbInt [] fun _ => false := isT_of (mem7 (by decide +kernel) (by decide +kernel) (by decide +kernel) (by decide +kernel) (by decide +kernel) (by decide +kernel) (by decide +kernel))
theorem isT_bool : IsT g (.type "bool") tbBool [] fun _ => false := isT_of (mem7 (by decide +kernel) (by decide +kernel) (by decide +kernel) (by decide +kernel) (by decide +kernel) (by decide +kernel) (by decide +kernel))
theorem isT_str : IsT g (.type "str") tbStr [] fun _ => false := isT_of (mem7 (by decide +kernel) (by decide +kernel) (by decide +kernel) (by decide +kernel) (by decide +kernel) (by decide +kernel) (by decide +kernel))
theorem isT_tuple : IsT g (.type "tuple") tbTup [] fun _ => false := isT_of (mem7 (by decide +kernel) (by decide +kernel) (by decide +kernel) (by decide +kernel) (by decide +kernel) (by decide +kernel) (by decide +kernel))
theorem isT_list : IsT g (.type "list") tbLst [] fun _ => false := isT_of (mem7 (by decide +kernel) (by decide +kernel) (by decide +kernel) (by decide +kernel) (by decide +kernel) (by decide +kernel) (by decide +kernel))
theorem isT_dict : IsT g (.type "dict") tbDct [] fun _ => false := isT_of (mem7 (by decide +kernel) (by decide +kernel) (by decide +kernel) (by decide +kernel) (by decide +kernel) (by decide +kernel) (by decide +kernel))
end
end VS

/-! ## S19: two clauses in a comprehension; a caught error asked for its class -/
namespace VS
open PySem PySem.Spec PyProof.Rows L2
def sNever : SC := fun _ => none
theorem s_never {X : Cx} {g : Gx} {st : Stmt} : PS X st (rdS g sNever) := ps_le ps_never fun E σ H q => by
  obtain ⟨M0, φ, τ, fl, τ', hs, hm, k⟩ := rdS_iff.mp q
  cases hm
/-! ### [.. for x in xs for y in ys] -/
def lcIn (t1 : TD) (c1 : CM Bool) (el : CM D) (vs1 : List Nat) : List D → List D → Tau → Option (List D × Tau) := lcGo t1 c1 el vs1
def lc2Go (t : TD) (it1 : CM (List D)) (t1 : TD) (el : CM D) (vs vs1 : List Nat) : List D → List D → Tau → Option (List D × Tau)
  | [], acc, τ => some (acc, τ)
  | d :: r, acc, τ => match t d (wipeT τ vs) with
    | some τ1 => match it1 τ1 with
      | some (.ok l1, τ2) => match lcGo t1 cYes el vs1 l1 acc τ2 with
        | some (acc', τ3) => lc2Go t it1 t1 el vs vs1 r acc' (wipeT τ3 vs)
        | none => none
      | _ => none
    | none => none
def mLc2 (vs vs1 : List Nat) (it : CM (List D)) (t : TD) (it1 : CM (List D)) (t1 : TD) (el : CM D) : CM SV := bnd it fun l τ => (lc2Go t it1 t1 el vs vs1 l [] τ).map fun p => (.ok (.mu .lst (p.1.map .fz)), p.2)
section
variable {X : Cx} {g : Gx} {e : Expr} {φ : Nat → List Addr} {τ τ' : Tau} {σ : L2.St} {H H' : Hp}
theorem le_lc2 {it it1 : CM (List D)} {vs vs1 ws ws1 : List Nat} {t t1 : TD} {el : CM D} (hw : ∀ i ∈ ws, i ∈ vs) (hw1 : ∀ i ∈ ws1, i ∈ vs1) (h1v : ∀ i ∈ vs1, i ∈ vs) (σ : L2.St) (H : Hp) (Q : VK) (q : rdE g (mLc2 vs vs1 it t it1 t1 el) σ H Q) :
    tLc2 (rdI g it) (rdG (gB g) ws t) tYes (rdI (gB g) it1) (rdG (gB g) ws1 t1) tYes (rdD (gB g) el) vs vs1 σ H Q := by
  obtain ⟨M0, φ, τ, rs, τ', hs, hm, k⟩ := q
  rcases bnd_some hm with ⟨items, τ1, e1, e2⟩ | ⟨c', fs, l, e1, rfl⟩
  · simp only [Option.map_eq_some_iff] at e2
    obtain ⟨⟨out, τf⟩, e2, e3⟩ := e2
    cases e3
    refine ⟨M0, φ, τ, _, _, hs, e1, fun J H1 φ1 hs1 l1 ok => ?_⟩
    intro D0 hD
    have ok1 : ∀ {φ' : Nat → List Addr} {H' : Hp}, Le (ran φ1) H1 (plus (ran φ') [D0]) H' → Le (Mof M0 φ1) H1 (Mof (plus M0 [D0]) φ') H' := fun {φ' H'} l =>
      ⟨l.ev.mono fun _ q => .inr q, fun a q => by
        rcases q with (q | q) | q
        · exact .inl (.inl q)
        · exact .inr (by simp at q; rw [q]; exact hD)
        · exact (l.grow a (.inl q)).imp .inr id⟩
    have hlive : upd H1 D0 (.lst []) D0 ≠ none := by rw [upd_same]; exact fun q => nomatch q
    refine ⟨fun i m Hc => m = items.length - i ∧ i ≤ items.length ∧ ∃ φ' τ2 acc xs, Sim g (plus M0 [D0]) φ' τ2 σ Hc ∧ Le (ran φ1) H1 (plus (ran φ') [D0]) Hc ∧ Hc D0 = some (.lst xs) ∧ Rs g (Mof (plus M0 [D0]) φ') Hc xs acc ∧ lc2Go t it1 t1 el vs vs1 (items.drop i) acc τ2 = some (out, τf), ⟨items.length, by simp, Nat.zero_le _, φ1, τ1, [], [], hs1.more (F := [D0]) (new0 hD) (fun a m => by simp at m; rw [m]; exact hD) (fun a m => by simp at m; rw [m]; exact hlive), .of0 (new0 hD) fun a q => (plus1 q).imp id fun e => by rw [e]; exact hD, upd_same, .nil, e2⟩, ?_⟩
    rintro i m Hc ⟨rfl, hi, φ', τ2, acc, xs, s2, l2, hDc, rs, e3⟩
    by_cases hlt : i < items.length
    · refine .inr ⟨ok.1 i _ Hc (ok1 l2) hlt, fun H3 => i + 1 ≤ items.length ∧ ∃ φ3 τ3 acc xs, Sim g (plus M0 [D0]) φ3 τ3 σ H3 ∧ Le (ran φ1) H1 (plus (ran φ3) [D0]) H3 ∧ H3 D0 = some (.lst xs) ∧ Rs g (Mof (plus M0 [D0]) φ3) H3 xs acc ∧ lc2Go t it1 t1 el vs vs1 (items.drop (i + 1)) acc τ3 = some (out, τf), fun H3 n => ⟨_, by omega, rfl, n⟩, fun x H3 y => ?_⟩
      obtain ⟨e0, d, hd, rx⟩ := ok.2.2 i _ Hc x H3 (ok1 l2) hlt y
      have hdrop : items.drop i = d :: items.drop (i + 1) := by
        rw [List.drop_eq_getElem_cons hlt]
        congr 1
        rw [List.getElem?_eq_getElem hlt] at hd
        exact Option.some.inj hd
      rw [hdrop] at e3
      unfold lc2Go at e3
      split at e3
      · rename_i τ3 ht'
        have s3 := (s2.ev0 e0).wipe vs
        have l3 : Le (ran φ1) H1 (plus (ran φ') [D0]) H3 := l2.trans (.of0 e0 fun _ q => .inl q)
        have hD3 := e0.keep _ _ hDc id
        have rs3 := rs.ev0 e0
        refine ⟨plus M0 [D0], φ', wipeT τ2 vs, d, τ3, s3.blk, rx.blk, ht', fun σ4 φ4 s4 l4 len4 o4 => ?_⟩
        have s4 := s4.unblk
        have o4' : ∀ j, j ∉ vs → σ4[j]? = (wipe σ vs)[j]? := fun j hj => o4 j fun m => hj (hw j m)
        have len4' : σ4.length = σ.length := by rw [len4, wipe_length]
        refine ⟨wipe_eq len4' o4', ?_⟩
        refine y_yesT ?_
        have back : ∀ {τ5 : Tau} {φ5 : Nat → List Addr} {H5 : Hp}, Sim g (plus M0 [D0]) φ5 τ5 σ4 H5 → Sim g (plus M0 [D0]) φ5 (wipeT τ5 vs) σ H5 := fun s5 => s5.back len4'.symm fun j hj => (o4' j hj).trans (wipe_out hj)
        have l34 : Le (ran φ1) H1 (plus (ran φ4) [D0]) H3 := l3.trans (Le.pl l4)
        have rs4 := (Le.mof1 (M0 := M0) (D0 := D0) (Le.pl l4)).rs rs3
        have keepD : ∀ {φ5 φ6 : Nat → List Addr} {τ5 : Tau} {σ5 : L2.St} {H5 H6 : Hp} {u : HO}, Sim g (plus M0 [D0]) φ5 τ5 σ5 H5 → Le (ran φ5) H5 (ran φ6) H6 → H5 D0 = some u → H6 D0 = some u := fun {φ5 φ6 τ5 σ5 H5 H6 u} s5 l5 h5 => l5.ev.keep _ _ h5 fun q => by
          obtain ⟨j, q⟩ := q
          exact s5.d0 j D0 q (.inr (by simp))
        split at e3
        · rename_i ys τ5 hit
          refine ⟨plus M0 [D0], φ4, τ3, _, _, s4.blk, hit, fun J1 H5 φ5 s5 l5 okB => ?_⟩
          have s5 := s5.unblk
          split at e3
          · rename_i acc' τ6 hgo
            have hD5 := keepD s4 l5 hD3
            have rs5 := (le_mof l5).rs rs4
            have l35 := l34.trans (Le.pl l5)
            refine ⟨fun j m H6 => m = ys.length - j ∧ j ≤ ys.length ∧ ∃ φ6 τ7 acc xs, Sim g (plus M0 [D0]) φ6 τ7 σ4 H6 ∧ Le (plus (ran φ5) [D0]) H5 (plus (ran φ6) [D0]) H6 ∧ H6 D0 = some (.lst xs) ∧ Rs g (Mof (plus M0 [D0]) φ6) H6 xs acc ∧ lcGo t1 cYes el vs1 (ys.drop j) acc τ7 = some (acc', τ6), ⟨ys.length, by simp, Nat.zero_le _, φ5, τ5, acc, xs, s5, .refl, hD5, rs5, by simpa using hgo⟩, ?_⟩
            rintro j m H6 ⟨rfl, hj, φ6, τ7, acc2, xs2, s6, l6, hD6, rs6, e6⟩
            have le6 : Le (Mof (plus M0 [D0]) φ5) H5 (Mof (plus M0 [D0]) φ6) H6 := Le.mof1 l6
            by_cases jlt : j < ys.length
            · refine .inr ⟨okB.1 j _ H6 le6 jlt, fun H7 => j + 1 ≤ ys.length ∧ ∃ φ6 τ7 acc xs, Sim g (plus M0 [D0]) φ6 τ7 σ4 H7 ∧ Le (plus (ran φ5) [D0]) H5 (plus (ran φ6) [D0]) H7 ∧ H7 D0 = some (.lst xs) ∧ Rs g (Mof (plus M0 [D0]) φ6) H7 xs acc ∧ lcGo t1 cYes el vs1 (ys.drop (j + 1)) acc τ7 = some (acc', τ6), fun H7 n => ⟨_, by omega, rfl, n⟩, fun x7 H7 y7 => ?_⟩
              obtain ⟨e07, d7, hd7, rx7⟩ := okB.2.2 j _ H6 x7 H7 le6 jlt y7
              have hdrop7 : ys.drop j = d7 :: ys.drop (j + 1) := by
                rw [List.drop_eq_getElem_cons jlt]
                congr 1
                rw [List.getElem?_eq_getElem jlt] at hd7
                exact Option.some.inj hd7
              rw [hdrop7] at e6
              unfold lcGo at e6
              split at e6
              · rename_i τ8 ht8
                have s7 := (s6.ev0 e07).wipe vs1
                have hD7 := e07.keep _ _ hD6 id
                refine ⟨plus M0 [D0], φ6, wipeT τ7 vs1, d7, τ8, s7.blk, rx7, ht8, fun σ8 φ8 s8 l8 len8 o8 => ?_⟩
                have s8 := s8.unblk
                have o8' : ∀ j, j ∉ vs1 → σ8[j]? = (wipe σ4 vs1)[j]? := fun j hj => o8 j fun m => hj (hw1 j m)
                have len8' : σ8.length = σ4.length := by rw [len8, wipe_length]
                refine ⟨wipe_eq len8' o8', ?_⟩
                refine y_yesT ?_
                have l68 : Le (plus (ran φ5) [D0]) H5 (plus (ran φ8) [D0]) H7 := (l6.trans (Le.pl (s6.after0 e07))).trans (Le.pl l8)
                have rs8 := (Le.mof1 (M0 := M0) (D0 := D0) (Le.pl l8)).rs (rs6.ev0 e07)
                have ey : cYes τ8 = some (.ok true, τ8) := rfl
                rw [ey] at e6
                dsimp only at e6
                split at e6
                · rename_i y9 τ9 he
                  split at e6
                  · rename_i hz
                    refine ⟨plus M0 [D0], φ8, τ8, _, _, s8.blk, he, fun v9 H9 q9 => ?_⟩
                    obtain ⟨φ9, s9, r9, l9⟩ := q9
                    have s9 := s9.unblk
                    have hD9 := keepD s8 l9 hD7
                    have rs9 := (le_mof l9).rs rs8
                    have lp := put_le (M := ran φ9) (o' := .lst (xs2 ++ [v9])) hD9 rfl (by simp [kindO]) (by simp [kindO])
                    have back8 : Sim g (plus M0 [D0]) φ9 (wipeT τ9 vs1) σ4 H9 := s9.back len8'.symm fun j hj => (o8' j hj).trans (wipe_out hj)
                    exact ⟨xs2, hD9, by rw [rs9.length]; exact hz, jlt, φ9, wipeT τ9 vs1, acc2 ++ [y9], xs2 ++ [v9], back8.put hD9 rfl (by simp [kindO]) (by simp [kindO]), (l68.trans (Le.pl l9)).trans lp, upd_same, (Le.mof1 lp).rs (rs9.app (.cons r9.unblk .nil)), e6⟩
                  · cases e6
                · cases e6
              · cases e6
            · have e : j = ys.length := by omega
              subst e
              rw [List.drop_of_length_le (Nat.le_refl _)] at e6
              cases e6
              exact .inl ⟨okB.2.1 _ H6 le6, hlt, φ6, wipeT τ6 vs, acc', xs2, back s6, l35.trans l6, hD6, rs6, e3⟩
          · cases e3
        · cases e3
      · cases e3
    · have e : i = items.length := by omega
      subst e
      rw [List.drop_of_length_le (Nat.le_refl _)] at e3
      cases e3
      refine .inl ⟨ok.2.1 _ Hc (ok1 l2), k _ Hc ⟨[D0], φ', s2, .mu hDc rfl rs.ws, List.nodup_cons.mpr ⟨List.not_mem_nil, .nil⟩, fun a m q => ?_, l1.trans l2⟩⟩
      simp at m
      subst m
      exact hs1.al a (.inl q) hD
  · exact ⟨M0, φ, τ, _, _, hs, e1, k⟩
theorem s_lc2 {it it1 : CM (List D)} {vs vs1 ws ws1 : List Nat} {t t1 : TD} {el : CM D} (hw : ∀ i ∈ ws, i ∈ vs) (hw1 : ∀ i ∈ ws1, i ∈ vs1) (h1v : ∀ i ∈ vs1, i ∈ vs) (h : PE X e (tLc2 (rdI g it) (rdG (gB g) ws t) tYes (rdI (gB g) it1) (rdG (gB g) ws1 t1) tYes (rdD (gB g) el) vs vs1)) : PE X e (rdE g (mLc2 vs vs1 it t it1 t1 el)) := pe_le h (le_lc2 hw hw1 h1v)
theorem s_setLc2 {st : Stmt} {i : Nat} {it it1 : CM (List D)} {vs vs1 ws ws1 : List Nat} {t t1 : TD} {el : CM D} (hp : g.pin.contains i = false) (hw : ∀ i ∈ ws, i ∈ vs) (hw1 : ∀ i ∈ ws1, i ∈ vs1) (h1v : ∀ i ∈ vs1, i ∈ vs) (h : PS X st (tAsg (tLc2 (rdI g it) (rdG (gB g) ws t) tYes (rdI (gB g) it1) (rdG (gB g) ws1 t1) tYes (rdD (gB g) el) vs vs1) (gName i))) : PS X st (rdS g (sSet i (mLc2 vs vs1 it t it1 t1 el))) :=
  s_set hp (ps_le h fun E σ H q => le_lc2 hw hw1 h1v _ _ _ q)
end
/-! ### isinstance of a caught error -/
def IsB (te : TE) (a : Addr) (i : Nat) (b : Bool) : Prop := ∀ σ H (Q : VK), σ[i]? = some (some (.ref a)) → Q (.bl b) H → te σ H Q
section
variable {g : Gx} {K : PySem.W.Frag} {a C1 : Addr} {i j : Nat} {b b2 : Bool} {ta tb : TE} {cv : V} {u : Value}
theorem isB_own {C2 : Addr} (C : ExcC K C1) (h : PySem.W.kitOne K (.ref C1) (.ref C2) = some b) : IsB (tCB (rIsEU K (.ref C1) none a) (tCons (tVar i) (tCons (tC (.ref C2)) tNil))) a i b := fun σ H Q hσ q => ⟨_, hσ, y_isE C h q⟩
theorem isB_ty {T : String} (C : ExcC K C1) (h : PySem.W.kitOne K (.ref C1) (.type T) = some b) : IsB (tCB (rIsEU K (.ref C1) none a) (tCons (tVar i) (tCons (tC (.ty T)) tNil))) a i b := fun σ H Q hσ q => ⟨_, hσ, y_isET C h q⟩
theorem isB_and (h1 : IsB ta a i b) (h2 : IsB tb a i b2) : IsB (tAndV ta tb) a i (b && b2) := fun σ H Q hσ q => h1 σ H _ hσ ⟨b, rfl, by
  cases b with
  | true => rw [if_pos rfl]; exact h2 σ H Q hσ q
  | false => rw [if_neg (by decide)]; exact q⟩
theorem isB_not (h1 : IsB ta a i b) : IsB (tNotV ta) a i (!b) := fun σ H Q hσ q => h1 σ H _ hσ ⟨b, rfl, q⟩
def sB (j : Nat) (fb : Nat → Option Bool) (c : Nat) : SC := fun τ => (fb c).map fun b => (.nx, τ.set j (some (.fz (.bl b))))
/-- except C as e: x = a test of e's classes -/
theorem hn_setB {mt : Nat → Option Bool} {fb : Nat → Option Bool} {te : Addr → Value → Option Addr → TE} {cv : Value} (hmt : ∀ c b, mt c = some b → PySem.W.exmOne g.K (.ref (g.cl c)) cv = some b) (hij : i ≠ j) (hp : g.pin.contains i = false) (hpj : g.pin.contains j = false)
    (hte : ∀ c b, fb c = some b → ∀ a, IsB (te a (.ref (g.cl c)) none) a i b) : HnOk g (mt, fun c fs l τ => if i < τ.length ∧ fs = [] then sB j fb c (τ.set i none) else none) (cv, some i, fun a cls d => tAsg (te a cls d) (gName j)) := fun c b hb => ⟨hmt c b hb, fun _ fs l d M0 φ τ τ' σ H E fl a s x ha hm k => by
  dsimp only at hm
  · split at hm
    · rename_i hlt
      obtain ⟨hlt, rfl⟩ := hlt
      unfold sB at hm
      simp only [Option.map_eq_some_iff] at hm
      obtain ⟨b', hb', hm⟩ := hm
      cases hm
      rcases x with ⟨_, rfl, rfl⟩ | ⟨p, fsr, xs, rfl, hp', n, hl, q, r⟩
      · refine hte c b' hb' a _ _ _ (by
          show (σ.set i (some (V.ref a)))[i]? = _
          rw [List.getElem?_set, if_pos rfl, if_pos (by rw [s.len]; exact hlt)]) ?_
        show E.nx (((σ.set i (some (.ref a))).set j (some (.bl b'))).set i none) H
        refine k _ H ⟨⟨upF φ j [], ?_, .up⟩, fun m hm => ?_⟩
        · have e1 : (((σ.set i (some (V.ref a))).set j (some (.bl b'))).set i none) = (σ.set i none).set j (some (.bl b')) := by
            apply List.ext_getElem?
            intro q
            by_cases qi : q = i
            · subst qi
              rw [List.getElem?_set, if_pos rfl, List.length_set, List.length_set, List.getElem?_set_ne (Ne.symm hij), List.getElem?_set, if_pos rfl]
            · rw [List.getElem?_set_ne (Ne.symm qi)]
              by_cases qj : q = j
              · subst qj
                rw [List.getElem?_set, if_pos rfl, List.getElem?_set, if_pos rfl, List.length_set, List.length_set]
              · rw [List.getElem?_set_ne (Ne.symm qj), List.getElem?_set_ne (Ne.symm qj), List.getElem?_set_ne (Ne.symm qi), List.getElem?_set_ne (Ne.symm qi)]
          rw [e1]
          exact (s.drop (i := i) (o := none)).setD (.bl _)
        · have mi : m ≠ i := by rintro rfl; rw [List.contains_iff_mem.mpr hm] at hp; cases hp
          have mj : m ≠ j := by rintro rfl; rw [List.contains_iff_mem.mpr hm] at hpj; cases hpj
          rw [List.getElem?_set_ne (Ne.symm mi), List.getElem?_set_ne (Ne.symm mj), List.getElem?_set_ne (Ne.symm mi)]
      · exact absurd rfl hp'.2
    · cases hm⟩
end
end VS

/-! ## S20: dict comprehensions -/
namespace VS
open PySem PySem.Spec PyProof.Rows L2
def keyK : D → Option Key
  | .int i => some (.inl i)
  | .str z => some (.inr z)
  | _ => none
def putKs (ks : List DK) (k : DK) : List DK := if ks.contains k = true then ks else ks ++ [k]
def dcGo (t : TD) (c : CM Bool) (kx el : CM D) (vs : List Nat) : List D → List DK × List SV → Tau → Option ((List DK × List SV) × Tau)
  | [], acc, τ => some (acc, τ)
  | d :: r, acc, τ => match t d (wipeT τ vs) with
    | some τ1 => match c τ1 with
      | some (.ok true, τ2) => match kx τ2 with
        | some (.ok q, τ3) => match keyK q with
          | some k => match el τ3 with
            | some (.ok y, τ4) => if acc.1.length < sizeLine then dcGo t c kx el vs r (putKs acc.1 (.k k), (putSV acc.1 acc.2 (.k k) y false).2) (wipeT τ4 vs) else none
            | _ => none
          | none => none
        | _ => none
      | some (.ok false, τ2) => dcGo t c kx el vs r acc (wipeT τ2 vs)
      | _ => none
    | none => none
def mDc (vs : List Nat) (it : CM (List D)) (t : TD) (c : CM Bool) (kx el : CM D) : CM SV := bnd it fun l τ => (dcGo t c kx el vs l ([], []) τ).map fun p => (.ok (.mu (.dct false p.1.1) p.1.2), p.2)
section
variable {X : Cx} {g : Gx} {e : Expr} {φ : Nat → List Addr} {τ τ' : Tau} {σ : L2.St} {H H' : Hp}
theorem keyK_some {M : Ad} {v : V} {d : D} {k : Key} (h : keyK d = some k) (r : R g M H v d) : v = kV k := by
  cases d with
  | int i => cases h; exact (RT.of r).int
  | str z => cases h; exact (RT.of r).str
  | _ => cases h
theorem putKs_map {kvs : List (Key × V)} {k : Key} {v : V} : putKs (kvs.map fun p => DK.k p.1) (.k k) = (putK kvs k v).map fun p => DK.k p.1 := by
  have hany : (kvs.map fun p => DK.k p.1).contains (DK.k k) = kvs.any fun kv => decide (kv.1 = k) := by
    rw [Bool.eq_iff_iff, List.contains_iff_mem, List.any_eq_true]
    constructor
    · intro m
      obtain ⟨p, hp, e⟩ := List.mem_map.mp m
      exact ⟨p, hp, by simpa using dk_k_inj _ _ e⟩
    · rintro ⟨p, hp, e⟩
      exact List.mem_map.mpr ⟨p, hp, by rw [of_decide_eq_true e]⟩
  unfold putKs putK
  rw [hany]
  split
  · rw [List.map_map]
    refine List.map_congr_left fun p _ => ?_
    show DK.k p.1 = DK.k (if p.1 = k then (p.1, v) else p).1
    split <;> rfl
  · simp
theorem le_dc {it : CM (List D)} {vs ws : List Nat} {t : TD} {c : CM Bool} {kx el : CM D} {tt : TT} (hw : ∀ i ∈ ws, i ∈ vs) (ht : ∀ σ H Q, rdT (gB g) c σ H Q → tt σ H Q) (σ : L2.St) (H : Hp) (Q : VK) (q : rdE g (mDc vs it t c kx el) σ H Q) :
    tDc (rdI g it) (rdG (gB g) ws t) tt (rdD (gB g) kx) (rdD (gB g) el) vs σ H Q := by
  obtain ⟨M0, φ, τ, rs, τ', hs, hm, k⟩ := q
  rcases bnd_some hm with ⟨items, τ1, e1, e2⟩ | ⟨c', fs, l, e1, rfl⟩
  · simp only [Option.map_eq_some_iff] at e2
    obtain ⟨⟨out, τf⟩, e2, e3⟩ := e2
    cases e3
    refine ⟨M0, φ, τ, _, _, hs, e1, fun J H1 φ1 hs1 l1 ok => ?_⟩
    intro D0 hD
    have ok1 : ∀ {φ' : Nat → List Addr} {H' : Hp}, Le (ran φ1) H1 (plus (ran φ') [D0]) H' → Le (Mof M0 φ1) H1 (Mof (plus M0 [D0]) φ') H' := fun {φ' H'} l =>
      ⟨l.ev.mono fun _ q => .inr q, fun a q => by
        rcases q with (q | q) | q
        · exact .inl (.inl q)
        · exact .inr (by simp at q; rw [q]; exact hD)
        · exact (l.grow a (.inl q)).imp .inr id⟩
    have hlive : upd H1 D0 (.dK []) D0 ≠ none := by rw [upd_same]; exact fun q => nomatch q
    refine ⟨fun i m Hc => m = items.length - i ∧ i ≤ items.length ∧ ∃ φ' τ2 acc kvs, Sim g (plus M0 [D0]) φ' τ2 σ Hc ∧ Le (ran φ1) H1 (plus (ran φ') [D0]) Hc ∧ Hc D0 = some (.dK kvs) ∧ acc.1 = kvs.map (fun p => DK.k p.1) ∧ Ows g (Mof (plus M0 [D0]) φ') Hc (kvs.map (·.2)) acc.2 [] ∧ dcGo t c kx el vs (items.drop i) acc τ2 = some (out, τf), ⟨items.length, by simp, Nat.zero_le _, φ1, τ1, ([], []), [], hs1.more (F := [D0]) (new0 hD) (fun a m => by simp at m; rw [m]; exact hD) (fun a m => by simp at m; rw [m]; exact hlive), .of0 (new0 hD) fun a q => (plus1 q).imp id fun e => by rw [e]; exact hD, upd_same, rfl, .nil, e2⟩, ?_⟩
    rintro i m Hc ⟨rfl, hi, φ', τ2, acc, kvs, s2, l2, hDc, hks, rs, e3⟩
    by_cases hlt : i < items.length
    · refine .inr ⟨ok.1 i _ Hc (ok1 l2) hlt, fun H3 => i + 1 ≤ items.length ∧ ∃ φ3 τ3 acc kvs, Sim g (plus M0 [D0]) φ3 τ3 σ H3 ∧ Le (ran φ1) H1 (plus (ran φ3) [D0]) H3 ∧ H3 D0 = some (.dK kvs) ∧ acc.1 = kvs.map (fun p => DK.k p.1) ∧ Ows g (Mof (plus M0 [D0]) φ3) H3 (kvs.map (·.2)) acc.2 [] ∧ dcGo t c kx el vs (items.drop (i + 1)) acc τ3 = some (out, τf), fun H3 n => ⟨_, by omega, rfl, n⟩, fun x H3 y => ?_⟩
      obtain ⟨e0, d, hd, rx⟩ := ok.2.2 i _ Hc x H3 (ok1 l2) hlt y
      have hdrop : items.drop i = d :: items.drop (i + 1) := by
        rw [List.drop_eq_getElem_cons hlt]
        congr 1
        rw [List.getElem?_eq_getElem hlt] at hd
        exact Option.some.inj hd
      rw [hdrop] at e3
      unfold dcGo at e3
      have sub0 : ∀ a ∈ ([] : List Addr), ∀ S : Ad, ¬ S a := fun a m => nomatch m
      split at e3
      · rename_i τ3 ht'
        have s3 := (s2.ev0 e0).wipe vs
        have l3 : Le (ran φ1) H1 (plus (ran φ') [D0]) H3 := l2.trans (.of0 e0 fun _ q => .inl q)
        have hD3 := e0.keep _ _ hDc id
        have rs3 := rs.keep' (M1 := Mof (plus M0 [D0]) φ') e0 (fun _ q => q.elim) (fun _ q => .inl q) (fun _ m => absurd m List.not_mem_nil)
        refine ⟨plus M0 [D0], φ', wipeT τ2 vs, d, τ3, s3.blk, rx.blk, ht', fun σ4 φ4 s4 l4 len4 o4 => ?_⟩
        have s4 := s4.unblk
        have o4' : ∀ j, j ∉ vs → σ4[j]? = (wipe σ vs)[j]? := fun j hj => o4 j fun m => hj (hw j m)
        have len4' : σ4.length = σ.length := by rw [len4, wipe_length]
        refine ⟨wipe_eq len4' o4', ht _ _ _ ?_⟩
        have back : ∀ {τ5 : Tau} {φ5 : Nat → List Addr} {H5 : Hp}, Sim g (plus M0 [D0]) φ5 τ5 σ4 H5 → Sim g (plus M0 [D0]) φ5 (wipeT τ5 vs) σ H5 := fun s5 => s5.back len4'.symm fun j hj => (o4' j hj).trans (wipe_out hj)
        have l34 : Le (ran φ1) H1 (plus (ran φ4) [D0]) H3 := l3.trans (Le.pl l4)
        have mv : ∀ {M1 M2 : Ad} {Ha Hb : Hp} {vs : List V} {l : List SV}, Le M1 Ha M2 Hb → Ows g M1 Ha vs l [] → Ows g M2 Hb vs l [] := fun le w => w.keep' (S := fun a => False ∨ _) (le.ev.mono fun a q => .inr q) (fun a q => q.elim False.elim id) le.grow fun _ m => absurd m List.not_mem_nil
        have rs4 := mv (Le.mof1 (M0 := M0) (D0 := D0) (Le.pl l4)) rs3
        have keepD : ∀ {φ5 φ6 : Nat → List Addr} {τ5 : Tau} {H5 H6 : Hp} {u : HO}, Sim g (plus M0 [D0]) φ5 τ5 σ4 H5 → Le (ran φ5) H5 (ran φ6) H6 → H5 D0 = some u → H6 D0 = some u := fun {φ5 φ6 τ5 H5 H6 u} s5 l5 h5 => l5.ev.keep _ _ h5 fun q => by
          obtain ⟨j, q⟩ := q
          exact s5.d0 j D0 q (.inr (by simp))
        split at e3
        · rename_i τ5 hc
          refine ⟨plus M0 [D0], φ4, τ3, _, _, s4.blk, hc, fun H5 q5 => ?_⟩
          obtain ⟨φ5, s5, l5⟩ := q5
          have s5 := s5.unblk
          rw [if_pos rfl]
          split at e3
          · rename_i qd τ6 hq
            split at e3
            · rename_i kk hkk
              split at e3
              · rename_i y τ7 he
                split at e3
                · rename_i hz
                  refine ⟨plus M0 [D0], φ5, τ5, _, _, s5.blk, hq, fun v6 H6 q6 => ?_⟩
                  obtain ⟨φ6, s6, r6, l6⟩ := q6
                  have s6 := s6.unblk
                  refine ⟨plus M0 [D0], φ6, τ6, _, _, s6.blk, he, fun v7 H7 q7 => ?_⟩
                  obtain ⟨φ7, s7, r7, l7⟩ := q7
                  have s7 := s7.unblk
                  have hD7 := keepD s6 l7 (keepD s5 l6 (keepD s4 l5 hD3))
                  have rs7 := mv (le_mof l7) (mv (le_mof l6) (mv (le_mof l5) rs4))
                  have lp := put_le (M := ran φ7) (o' := .dK (putK kvs kk v7)) hD7 rfl (by simp [kindO]) (by simp [kindO])
                  obtain ⟨F', b0, b1, b2, b3⟩ := Ows.put DK.k dk_k_inj false kk r7.unblk rs7
                  have hF : F' = [] := List.eq_nil_iff_forall_not_mem.mpr fun a m => nomatch b2 a m
                  subst hF
                  rw [← hks] at b1
                  refine ⟨kvs, kk, keyK_some hkk r6.unblk, hD7, by rw [hks, List.length_map] at hz; exact hz, hlt, φ7, wipeT τ7 vs, _, _, (back s7).put hD7 rfl (by simp [kindO]) (by simp [kindO]), (((l34.trans (Le.pl l5)).trans (Le.pl l6)).trans (Le.pl l7)).trans lp, upd_same, by rw [hks]; exact putKs_map, mv (Le.mof1 lp) b1, e3⟩
                · cases e3
              · cases e3
            · cases e3
          · cases e3
        · rename_i τ5 hc
          refine ⟨plus M0 [D0], φ4, τ3, _, _, s4.blk, hc, fun H5 q5 => ?_⟩
          obtain ⟨φ5, s5, l5⟩ := q5
          have s5 := s5.unblk
          rw [if_neg (by decide)]
          exact ⟨hlt, φ5, wipeT τ5 vs, acc, kvs, back s5, l34.trans (Le.pl l5), keepD s4 l5 hD3, hks, mv (le_mof l5) rs4, e3⟩
        · cases e3
      · cases e3
    · have e : i = items.length := by omega
      subst e
      rw [List.drop_of_length_le (Nat.le_refl _)] at e3
      cases e3
      refine .inl ⟨ok.2.1 _ Hc (ok1 l2), k _ Hc ⟨[D0], φ', s2, .mu hDc ⟨kvs, rfl, hks, rfl⟩ rs, List.nodup_cons.mpr ⟨List.not_mem_nil, .nil⟩, fun a m q => ?_, l1.trans l2⟩⟩
      simp at m
      subst m
      exact hs1.al a (.inl q) hD
  · exact ⟨M0, φ, τ, _, _, hs, e1, k⟩
theorem s_dc {it : CM (List D)} {vs ws : List Nat} {t : TD} {kx el : CM D} (hw : ∀ i ∈ ws, i ∈ vs) (h : PE X e (tDc (rdI g it) (rdG (gB g) ws t) tYes (rdD (gB g) kx) (rdD (gB g) el) vs)) : PE X e (rdE g (mDc vs it t cYes kx el)) := pe_le h (le_dc hw t_yes)
theorem s_dcIf {it : CM (List D)} {vs ws : List Nat} {t : TD} {c : CM Bool} {kx el : CM D} (hw : ∀ i ∈ ws, i ∈ vs) (h : PE X e (tDc (rdI g it) (rdG (gB g) ws t) (rdT (gB g) c) (rdD (gB g) kx) (rdD (gB g) el) vs)) : PE X e (rdE g (mDc vs it t c kx el)) := pe_le h (le_dc hw fun _ _ _ q => q)
end
end VS

/-! ## S21: the end of a law -/
namespace VS
open PySem PySem.Spec PyProof.Rows L2
/-- the script as data -/
def scr (ns : List Int) : SV := .fz (.fro (ns.map .int))
/-- what a law's def promises -/
def spL (K : PySem.W.Frag) : Sp := fun vs H Q _ => ∃ (a : Addr) (ns : List Int), vs = [.ref a] ∧ ns.length ≤ 63 ∧ Only H ∧ SqL K H a (ns.map V.int) ∧ ∀ H', Q (.bl true) H'
theorem spL_of {K : PySem.W.Frag} {cl : Nat → Addr} {F : Fn} (pure : ∀ ns : List Int, ns.length ≤ 63 → ∃ o, F [scr ns] = some (.ok (.fz (.bl true)), o)) {vs : List V} {H : Hp} {Q : VK} {E : XK} (h : spL K vs H Q E) : spF (gK K cl hid0) F vs H Q E := by
  obtain ⟨a, ns, rfl, hl, hO, hS, k⟩ := h
  obtain ⟨o, h⟩ := pure ns hl
  have hf : Fro K H a (ns.map V.int) := by
    rcases hS with (q | ⟨u, q⟩) | q
    · rcases hO a with e | ⟨o', xs, e⟩
      · rw [e] at q; cases q
      · rw [e] at q; cases q
    · exact .inl ⟨u, q⟩
    · exact .inr q
  refine ⟨fun _ => False, fun _ => [], [scr ns], _, o, ⟨rfl, fun i s q => ?_, fun _ => .nil, fun _ _ _ m => (nomatch m), fun _ _ m => (nomatch m), fun x q => ?_⟩, h, ?_⟩
  · cases i with
    | zero =>
      simp at q
      subst q
      exact ⟨.ref a, rfl, .fz (.fro hf (rs_ints ns))⟩
    | succ i => simp at q
  · rcases q with q | ⟨i, q⟩
    · exact q.elim
    · cases q
  · intro v H' q
    obtain ⟨φ', s, r, l⟩ := q.frz
    have hv : v = .bl true := (RT.of r).bl
    rw [hv]
    exact k H'
theorem law_cx {P : Program} {w : World} {H : Hp} {s : Shared} {e : Value} {s' : Shared} (h : L2.CX P w [] H s (fun _ _ _ => False) e s') : False := by
  obtain ⟨_, _, _, _, _, _, _, _, _, _, _, _, z⟩ := h
  exact z
end VS

/-! ## S22: isinstance of a place, which stays what it is -/
namespace VS
open PySem PySem.Spec PyProof.Rows L2
def blOnly : SV → Option Bool
  | .fz (.bl b) => some b
  | _ => none
def mIsi (f : D → Option SV) (p : PB) : CM SV := fun τ => (p τ).bind fun s => (f s.toD).bind fun r => (blOnly r).map fun b => (.ok (.fz (.bl b)), τ)
section
variable {X : Cx} {g : Gx} {e : Expr}
theorem s_isiP {r : List V → Hp → VK → Prop} {f : D → Option SV} {a : PB} {c : V} (ho : OpC g f r [c]) (h : PE X e (tCB r (tCons (rdB g a) (tCons (tC c) tNil)))) : PE X e (rdE g (mIsi f a)) := pe_le h fun σ H Q q => by
  obtain ⟨M0, φ, τ, rs, τ', hs, hm, k⟩ := q
  simp only [mIsi, Option.bind_eq_some_iff, Option.map_eq_some_iff] at hm
  obtain ⟨sx, hx, s, es, b, hb, e⟩ := hm
  cases e
  have hs' : s = .fz (.bl b) := by
    unfold blOnly at hb
    split at hb
    · cases hb; rfl
    · cases hb
  subst hs'
  refine ⟨M0, φ, τ, _, hs, hx, fun v1 H1 e1 w1 => ?_⟩
  obtain ⟨F1, w1⟩ := w1
  have r1 : R g (fun _ => False) H1 v1 sx.toD := Ow.freeze (fun _ q => q.elim) sx v1 F1 (fun _ _ q => q) w1
  refine ho (.of r1) es fun v3 H3 p => ?_
  obtain ⟨F, e3, w3, _, _⟩ := p
  cases w3 with
  | fz r3 =>
    cases r3
    exact k _ H3 (EOk.after (hs.after0 e1) (.of (hs.ev0 e1) (.fz e3 (.bl b))))
end
end VS

/-! ## V1: computations run, step by step (no heap, no program) -/
namespace VS
open PySem PySem.Spec PyProof.Rows L2
def RunM {α : Type} (m : CM α) (τ : Tau) (Q : Res α → Tau → Prop) : Prop := ∃ r τ', m τ = some (r, τ') ∧ Q r τ'
def RunS (m : SC) (τ : Tau) (Q : Fl → Tau → Prop) : Prop := ∃ r τ', m τ = some (r, τ') ∧ Q r τ'
def RunF (F : Fn) (args : List SV) (Q : Res SV → List SV → Prop) : Prop := ∃ r os, F args = some (r, os) ∧ Q r os
/-- behind a value; behind an error -/
def onOk {α : Type} (A : α → Tau → Prop) (B : Nat → List Str → List D → Tau → Prop) : Res α → Tau → Prop
  | .ok x, τ => A x τ
  | .ex c fs l, τ => B c fs l τ
def onNx (A : Tau → Prop) (Q : Fl → Tau → Prop) : Fl → Tau → Prop
  | .nx, τ => A τ
  | fl, τ => Q fl τ
section
variable {α β : Type} {m : CM α} {k : α → CM β} {τ τ' τ1 : Tau} {Q : Res α → Tau → Prop} {QB : Res β → Tau → Prop} {QS : Fl → Tau → Prop} {A : α → Tau → Prop} {B : Nat → List Str → List D → Tau → Prop} {AN : Tau → Prop} {x : α} {i j n : Nat} {d : D} {s : SV} {h : Hd} {l : List SV} {c : Nat} {fs : List Str} {ls ds : List D}
theorem v_ok (q : A x τ) : onOk A B (.ok x) τ := q
theorem v_ex (q : B c fs ls τ) : onOk A B (.ex c fs ls) τ := q
theorem v_nx (q : AN τ) : onNx AN QS .nx τ := q
theorem v_rt (q : QS (.rt s) τ) : onNx AN QS (.rt s) τ := q
theorem v_bk (q : QS .bk τ) : onNx AN QS .bk τ := q
theorem v_ct (q : QS .ct τ) : onNx AN QS .ct τ := q
theorem v_xx (q : QS (.ex c fs ls) τ) : onNx AN QS (.ex c fs ls) τ := q
theorem v_bnd (q : RunM m τ (onOk (fun x τ1 => RunM (k x) τ1 QB) fun c fs l τ1 => QB (.ex c fs l) τ1)) : RunM (bnd m k) τ QB := by
  obtain ⟨r, τ', e, q⟩ := q
  cases r with
  | ok x =>
    obtain ⟨r2, τ2, e2, q2⟩ := q
    exact ⟨r2, τ2, by unfold bnd; rw [e]; exact e2, q2⟩
  | ex c fs l => exact ⟨_, _, by unfold bnd; rw [e], q⟩
theorem v_ret (q : Q (.ok x) τ) : RunM (ret (some x)) τ Q := ⟨_, _, rfl, q⟩
theorem v_retE {o : Option α} (e : o = some x) (q : Q (.ok x) τ) : RunM (ret o) τ Q := ⟨_, _, by rw [e]; rfl, q⟩
theorem v_sE {k : α → SC} (q : RunM m τ (onOk (fun x τ1 => RunS (k x) τ1 QS) fun c fs l τ1 => QS (.ex c fs l) τ1)) : RunS (sE m k) τ QS := by
  obtain ⟨r, τ', e, q⟩ := q
  cases r with
  | ok x =>
    obtain ⟨r2, τ2, e2, q2⟩ := q
    exact ⟨r2, τ2, by unfold sE; rw [e]; exact e2, q2⟩
  | ex c fs l => exact ⟨_, _, by unfold sE; rw [e], q⟩
end
section
variable {τ τ' τ1 : Tau} {Q : Res D → Tau → Prop} {QE : Res SV → Tau → Prop} {QL : Res (List D) → Tau → Prop} {QA : Res (List Arg) → Tau → Prop} {QB : Res Bool → Tau → Prop} {QO : Res (Option Int) → Tau → Prop} {QS : Fl → Tau → Prop} {a b cc : CM D} {e1 e2 : CM SV} {la : CM (List D)} {ra : CM (List Arg)} {p p2 : PB} {i j n : Nat} {d : D} {s : SV} {h : Hd} {l : List SV} {c : Nat} {fs : List Str} {ls ds : List D} {f g : D → D → Option SV} {f1 : D → Option SV} {ta tb : CM Bool} {sa sb : SC}
/-! expressions -/
theorem v_C (q : Q (.ok d) τ) : RunM (mC d) τ Q := ⟨_, _, rfl, q⟩
theorem v_var (e : τ[i]? = some (some (.fz d))) (q : Q (.ok d) τ) : RunM (mVar i) τ Q := ⟨_, _, by unfold mVar; rw [e], q⟩
theorem v_varO (e : τ[i]? = some (some (.mu h l))) (q : Q (.ok (SV.toD (.mu h l))) (τ.set i (some (.fz (SV.toD (.mu h l)))))) : RunM (mVar i) τ Q := ⟨_, _, by unfold mVar; rw [e], q⟩
theorem v_move (e : τ[i]? = some (some (.fz d))) (q : QE (.ok (.fz d)) τ) : RunM (mMove i) τ QE := ⟨_, _, by unfold mMove; rw [e], q⟩
theorem v_moveO (e : τ[i]? = some (some (.mu h l))) (q : QE (.ok (.mu h l)) (τ.set i none)) : RunM (mMove i) τ QE := ⟨_, _, by unfold mMove; rw [e], q⟩
theorem v_frz (q : RunM e1 τ (onOk (fun s τ1 => Q (.ok s.toD) τ1) fun c fs l τ1 => Q (.ex c fs l) τ1)) : RunM (frz e1) τ Q := v_bnd (by
  obtain ⟨r, τ', e, q⟩ := q
  refine ⟨r, τ', e, ?_⟩
  cases r with
  | ok x => exact v_ret q
  | ex c fs l => exact q)
theorem v_up (q : RunM a τ (onOk (fun d τ1 => QE (.ok (.fz d)) τ1) fun c fs l τ1 => QE (.ex c fs l) τ1)) : RunM (up a) τ QE := v_bnd (by
  obtain ⟨r, τ', e, q⟩ := q
  refine ⟨r, τ', e, ?_⟩
  cases r with
  | ok x => exact v_ret q
  | ex c fs l => exact q)
theorem v_B (e : p τ = some (.fz d)) (q : Q (.ok d) τ) : RunM (mB p) τ Q := ⟨_, _, by unfold mB; rw [e], q⟩
theorem v_op2 (q : RunM a τ (onOk (fun x τ1 => RunM b τ1 (onOk (fun y τ2 => ∃ s, f x y = some s ∧ QE (.ok s) τ2) fun c fs l τ2 => QE (.ex c fs l) τ2)) fun c fs l τ1 => QE (.ex c fs l) τ1)) : RunM (mOp2 f a b) τ QE := v_bnd (by
  obtain ⟨r, τ', e, q⟩ := q
  refine ⟨r, τ', e, ?_⟩
  cases r with
  | ok x =>
    obtain ⟨r2, τ2, e2, q2⟩ := q
    refine v_bnd ⟨r2, τ2, e2, ?_⟩
    cases r2 with
    | ok y =>
      obtain ⟨s, e3, q3⟩ := q2
      exact v_retE e3 q3
    | ex c fs l => exact q2
  | ex c fs l => exact q)
theorem v_op1 (q : RunM a τ (onOk (fun x τ1 => ∃ s, f1 x = some s ∧ QE (.ok s) τ1) fun c fs l τ1 => QE (.ex c fs l) τ1)) : RunM (mOp1 f1 a) τ QE := v_bnd (by
  obtain ⟨r, τ', e, q⟩ := q
  refine ⟨r, τ', e, ?_⟩
  cases r with
  | ok x =>
    obtain ⟨s, e3, q3⟩ := q
    exact v_retE e3 q3
  | ex c fs l => exact q)
theorem v_op2B {x y : D} (ea : bView p τ = some x) (eb : bView p2 τ = some y) (q : ∃ s, f x y = some s ∧ QE (.ok s) τ) : RunM (mOp2B f p p2) τ QE := by
  obtain ⟨s, e, q⟩ := q
  exact ⟨_, _, by unfold mOp2B; rw [ea, Option.bind_some, eb, Option.bind_some, e, Option.map_some], q⟩
theorem v_op2R (q : RunM a τ (onOk (fun x τ1 => ∃ y s, bView p τ1 = some y ∧ f x y = some s ∧ QE (.ok s) τ1) fun c fs l τ1 => QE (.ex c fs l) τ1)) : RunM (mOp2R f a p) τ QE := v_bnd (by
  obtain ⟨r, τ', e, q⟩ := q
  refine ⟨r, τ', e, ?_⟩
  cases r with
  | ok x =>
    obtain ⟨y, s, e3, e4, q3⟩ := q
    exact ⟨_, _, by dsimp only; rw [e3, Option.bind_some, e4, Option.map_some], q3⟩
  | ex c fs l => exact q)
theorem v_op1B {x : D} (ea : bView p τ = some x) (q : ∃ s, f1 x = some s ∧ QE (.ok s) τ) : RunM (mOp1B f1 p) τ QE := by
  obtain ⟨s, e, q⟩ := q
  exact ⟨_, _, by unfold mOp1B; rw [ea, Option.bind_some, e, Option.map_some], q⟩
theorem v_anil (q : QL (.ok []) τ) : RunM aNil τ QL := v_ret q
theorem v_acons (q : RunM a τ (onOk (fun x τ1 => RunM la τ1 (onOk (fun xs τ2 => QL (.ok (x :: xs)) τ2) fun c fs l τ2 => QL (.ex c fs l) τ2)) fun c fs l τ1 => QL (.ex c fs l) τ1)) : RunM (aCons a la) τ QL := v_bnd (by
  obtain ⟨r, τ', e, q⟩ := q
  refine ⟨r, τ', e, ?_⟩
  cases r with
  | ok x =>
    obtain ⟨r2, τ2, e2, q2⟩ := q
    refine v_bnd ⟨r2, τ2, e2, ?_⟩
    cases r2 with
    | ok y => exact v_ret q2
    | ex c fs l => exact q2
  | ex c fs l => exact q)
theorem v_tup (q : RunM la τ (onOk (fun l τ1 => l.length ≤ sizeLine ∧ Q (.ok (.tup l)) τ1) fun c fs l τ1 => Q (.ex c fs l) τ1)) : RunM (mTup la) τ Q := v_bnd (by
  obtain ⟨r, τ', e, q⟩ := q
  refine ⟨r, τ', e, ?_⟩
  cases r with
  | ok x => exact v_retE (if_pos q.1) q.2
  | ex c fs l => exact q)
theorem v_lst (q : RunM la τ (onOk (fun l τ1 => l.length ≤ sizeLine ∧ QE (.ok (.mu .lst (l.map .fz))) τ1) fun c fs l τ1 => QE (.ex c fs l) τ1)) : RunM (mLst la) τ QE := v_bnd (by
  obtain ⟨r, τ', e, q⟩ := q
  refine ⟨r, τ', e, ?_⟩
  cases r with
  | ok x => exact v_retE (if_pos q.1) q.2
  | ex c fs l => exact q)
theorem v_newK (q : QE (.ok (.mu (.dct false []) [])) τ) : RunM mNewK τ QE := v_ret q
theorem v_newT (q : QE (.ok (.mu (.dct true []) [])) τ) : RunM mNewT τ QE := v_ret q
theorem v_disp1 {z : Str} (q : RunM a τ (onOk (fun d τ1 => QE (.ok (.mu (.dct false [.k (.inr z)]) [.fz d])) τ1) fun c fs l τ1 => QE (.ex c fs l) τ1)) : RunM (mDisp1 z a) τ QE := v_bnd (by
  obtain ⟨r, τ', e, q⟩ := q
  refine ⟨r, τ', e, ?_⟩
  cases r with
  | ok x => exact v_ret q
  | ex c fs l => exact q)
theorem v_oNone (q : QO (.ok none) τ) : RunM oNone τ QO := v_ret q
theorem v_oSome (q : RunM a τ (onOk (fun d τ1 => ∃ k, d = .int k ∧ QO (.ok (some k)) τ1) fun c fs l τ1 => QO (.ex c fs l) τ1)) : RunM (oSome a) τ QO := v_bnd (by
  obtain ⟨r, τ', e, q⟩ := q
  refine ⟨r, τ', e, ?_⟩
  cases r with
  | ok x => obtain ⟨k, rfl, q⟩ := q; exact v_ret q
  | ex c fs l => exact q)
theorem v_slice {lo hi : CM (Option Int)} (q : RunM a τ (onOk (fun x τ1 => RunM lo τ1 (onOk (fun l τ2 => RunM hi τ2 (onOk (fun u τ3 => ∃ s, sliceF l u x = some s ∧ QE (.ok s) τ3) fun c fs l τ3 => QE (.ex c fs l) τ3)) fun c fs l τ2 => QE (.ex c fs l) τ2)) fun c fs l τ1 => QE (.ex c fs l) τ1)) : RunM (mSlice a lo hi) τ QE := v_bnd (by
  obtain ⟨r, τ', e, q⟩ := q
  refine ⟨r, τ', e, ?_⟩
  cases r with
  | ok x =>
    obtain ⟨r2, τ2, e2, q2⟩ := q
    refine v_bnd ⟨r2, τ2, e2, ?_⟩
    cases r2 with
    | ok y =>
      obtain ⟨r3, τ3, e3, q3⟩ := q2
      refine v_bnd ⟨r3, τ3, e3, ?_⟩
      cases r3 with
      | ok z => obtain ⟨s, e4, q4⟩ := q3; exact v_retE e4 q4
      | ex c fs l => exact q3
    | ex c fs l => exact q2
  | ex c fs l => exact q)
theorem v_fld {cs : List Nat} {fl : Str} (q : RunM a τ (onOk (fun x τ1 => ∃ c fs l d, x = .ob (.ins c fs) l ∧ c ∈ cs ∧ fLook fs l fl = some d ∧ Q (.ok d) τ1) fun c fs l τ1 => Q (.ex c fs l) τ1)) : RunM (mFld cs fl a) τ Q := v_bnd (by
  obtain ⟨r, τ', e, q⟩ := q
  refine ⟨r, τ', e, ?_⟩
  cases r with
  | ok x => obtain ⟨c, fs, l, d, rfl, hc, e2, q⟩ := q; exact v_retE (by rw [if_pos hc]; exact e2) q
  | ex c fs l => exact q)
theorem v_bm (q : RunM a τ (onOk (fun x τ1 => ∃ z, x = .str z ∧ RunM b τ1 (onOk (fun y τ2 => ∃ s, f x y = some s ∧ QE (.ok s) τ2) fun c fs l τ2 => QE (.ex c fs l) τ2)) fun c fs l τ1 => QE (.ex c fs l) τ1)) : RunM (mBm f a b) τ QE := v_bnd (by
  obtain ⟨r, τ', e, q⟩ := q
  refine ⟨r, τ', e, ?_⟩
  cases r with
  | ok x =>
    obtain ⟨z, rfl, r2, τ2, e2, q2⟩ := q
    refine v_bnd ⟨r2, τ2, e2, ?_⟩
    cases r2 with
    | ok y => obtain ⟨s, e3, q3⟩ := q2; exact v_retE e3 q3
    | ex c fs l => exact q2
  | ex c fs l => exact q)
theorem v_join (q : RunM a τ (onOk (fun x τ1 => ∃ z, x = .str z ∧ RunM b τ1 (onOk (fun y τ2 => ∃ s, joinF x y = some s ∧ QE (.ok s) τ2) fun c fs l τ2 => QE (.ex c fs l) τ2)) fun c fs l τ1 => QE (.ex c fs l) τ1)) : RunM (mJoin a b) τ QE := v_bnd (by
  obtain ⟨r, τ', e, q⟩ := q
  refine ⟨r, τ', e, ?_⟩
  cases r with
  | ok x =>
    obtain ⟨z, rfl, r2, τ2, e2, q2⟩ := q
    refine v_bnd ⟨r2, τ2, e2, ?_⟩
    cases r2 with
    | ok y => obtain ⟨s, e3, q3⟩ := q2; exact v_retE e3 q3
    | ex c fs l => exact q2
  | ex c fs l => exact q)
/-! tests -/
theorem v_cB (q : RunM a τ (onOk (fun d τ1 => ∃ t, d = .bl t ∧ QB (.ok t) τ1) fun c fs l τ1 => QB (.ex c fs l) τ1)) : RunM (cB a) τ QB := v_bnd (by
  obtain ⟨r, τ', e, q⟩ := q
  refine ⟨r, τ', e, ?_⟩
  cases r with
  | ok x => obtain ⟨t, rfl, q⟩ := q; exact v_ret q
  | ex c fs l => exact q)
theorem v_isbl {t : Bool} {A : Bool → Prop} (q : A t) : ∃ u, D.bl t = .bl u ∧ A u := ⟨t, rfl, q⟩
theorem v_isint {t : Int} {A : Int → Prop} (q : A t) : ∃ u, D.int t = .int u ∧ A u := ⟨t, rfl, q⟩
theorem v_isstr {t : Str} {A : Prop} (q : A) : ∃ u, D.str t = .str u ∧ A := ⟨t, rfl, q⟩
theorem v_cNot (q : RunM ta τ (onOk (fun t τ1 => QB (.ok (!t)) τ1) fun c fs l τ1 => QB (.ex c fs l) τ1)) : RunM (cNot ta) τ QB := v_bnd (by
  obtain ⟨r, τ', e, q⟩ := q
  refine ⟨r, τ', e, ?_⟩
  cases r with
  | ok x => exact v_ret q
  | ex c fs l => exact q)
theorem v_cAnd (q : RunM ta τ (onOk (fun t τ1 => if t = true then RunM tb τ1 QB else QB (.ok false) τ1) fun c fs l τ1 => QB (.ex c fs l) τ1)) : RunM (cAnd ta tb) τ QB := v_bnd (by
  obtain ⟨r, τ', e, q⟩ := q
  refine ⟨r, τ', e, ?_⟩
  cases r with
  | ok x =>
    show RunM (if x = true then tb else ret (some false)) τ' QB
    cases x with
    | true => exact (q : RunM tb τ' QB)
    | false => exact v_ret (q : QB (.ok false) τ')
  | ex c fs l => exact q)
theorem v_cOr (q : RunM ta τ (onOk (fun t τ1 => if t = true then QB (.ok true) τ1 else RunM tb τ1 QB) fun c fs l τ1 => QB (.ex c fs l) τ1)) : RunM (cOr ta tb) τ QB := v_bnd (by
  obtain ⟨r, τ', e, q⟩ := q
  refine ⟨r, τ', e, ?_⟩
  cases r with
  | ok x =>
    show RunM (if x = true then ret (some true) else tb) τ' QB
    cases x with
    | true => exact v_ret (q : QB (.ok true) τ')
    | false => exact (q : RunM tb τ' QB)
  | ex c fs l => exact q)
theorem v_mNot (q : RunM a τ (onOk (fun d τ1 => ∃ t, d = .bl t ∧ Q (.ok (.bl (!t))) τ1) fun c fs l τ1 => Q (.ex c fs l) τ1)) : RunM (mNot a) τ Q := v_bnd (by
  obtain ⟨r, τ', e, q⟩ := q
  refine ⟨r, τ', e, ?_⟩
  cases r with
  | ok x => obtain ⟨t, rfl, q⟩ := q; exact v_ret q
  | ex c fs l => exact q)
theorem v_mAnd (q : RunM a τ (onOk (fun d τ1 => ∃ t, d = .bl t ∧ if t = true then RunM b τ1 Q else Q (.ok (.bl false)) τ1) fun c fs l τ1 => Q (.ex c fs l) τ1)) : RunM (mAnd a b) τ Q := v_bnd (by
  obtain ⟨r, τ', e, q⟩ := q
  refine ⟨r, τ', e, ?_⟩
  cases r with
  | ok x =>
    obtain ⟨t, rfl, q⟩ := q
    cases t with
    | true => exact (q : RunM b τ' Q)
    | false => exact v_ret (q : Q (.ok (.bl false)) τ')
  | ex c fs l => exact q)
theorem v_mOr (q : RunM a τ (onOk (fun d τ1 => ∃ t, d = .bl t ∧ if t = true then Q (.ok (.bl true)) τ1 else RunM b τ1 Q) fun c fs l τ1 => Q (.ex c fs l) τ1)) : RunM (mOr a b) τ Q := v_bnd (by
  obtain ⟨r, τ', e, q⟩ := q
  refine ⟨r, τ', e, ?_⟩
  cases r with
  | ok x =>
    obtain ⟨t, rfl, q⟩ := q
    cases t with
    | true => exact v_ret (q : Q (.ok (.bl true)) τ')
    | false => exact (q : RunM b τ' Q)
  | ex c fs l => exact q)
theorem v_mIf (q : RunM ta τ (onOk (fun t τ1 => if t = true then RunM e1 τ1 QE else RunM e2 τ1 QE) fun c fs l τ1 => QE (.ex c fs l) τ1)) : RunM (mIf ta e1 e2) τ QE := v_bnd (by
  obtain ⟨r, τ', e, q⟩ := q
  refine ⟨r, τ', e, ?_⟩
  cases r with
  | ok x =>
    show RunM (if x = true then e1 else e2) τ' QE
    cases x with
    | true => exact (q : RunM e1 τ' QE)
    | false => exact (q : RunM e2 τ' QE)
  | ex c fs l => exact q)
theorem v_chain (q : RunM a τ (onOk (fun x τ1 => RunM b τ1 (onOk (fun y τ2 => ∃ t, f x y = some (.fz (.bl t)) ∧ if t = true then RunM cc τ2 (onOk (fun z τ3 => ∃ d, g y z = some (.fz d) ∧ Q (.ok d) τ3) fun c fs l τ3 => Q (.ex c fs l) τ3) else Q (.ok (.bl false)) τ2) fun c fs l τ2 => Q (.ex c fs l) τ2)) fun c fs l τ1 => Q (.ex c fs l) τ1)) : RunM (mChain f g a b cc) τ Q := v_bnd (by
  obtain ⟨r, τ', e, q⟩ := q
  refine ⟨r, τ', e, ?_⟩
  cases r with
  | ok x =>
    obtain ⟨r2, τ2, e2, q2⟩ := q
    refine v_bnd ⟨r2, τ2, e2, ?_⟩
    cases r2 with
    | ok y =>
      obtain ⟨t, e3, q3⟩ := q2
      show RunM (match f x y with | some (.fz (.bl true)) => _ | some (.fz (.bl false)) => _ | _ => _) τ2 Q
      rw [e3]
      cases t with
      | true =>
        obtain ⟨r4, τ4, e4, q4⟩ := (q3 : RunM cc τ2 _)
        refine v_bnd ⟨r4, τ4, e4, ?_⟩
        cases r4 with
        | ok z =>
          obtain ⟨d, e5, q5⟩ := q4
          exact v_retE (by rw [e5]) q5
        | ex c fs l => exact q4
      | false => exact v_ret (q3 : Q (.ok (.bl false)) τ2)
    | ex c fs l => exact q2
  | ex c fs l => exact q)
/-! what is walked -/
theorem v_itD (q : RunM a τ (onOk (fun x τ1 => ∃ l, itemsD x = some l ∧ QL (.ok l) τ1) fun c fs l τ1 => QL (.ex c fs l) τ1)) : RunM (itD a) τ QL := v_bnd (by
  obtain ⟨r, τ', e, q⟩ := q
  refine ⟨r, τ', e, ?_⟩
  cases r with
  | ok x => obtain ⟨l, e2, q⟩ := q; exact v_retE e2 q
  | ex c fs l => exact q)
theorem v_itEn (q : RunM a τ (onOk (fun x τ1 => ∃ l, itemsD x = some l ∧ QL (.ok (enumL l)) τ1) fun c fs l τ1 => QL (.ex c fs l) τ1)) : RunM (itEn a) τ QL := v_bnd (by
  obtain ⟨r, τ', e, q⟩ := q
  refine ⟨r, τ', e, ?_⟩
  cases r with
  | ok x => obtain ⟨l, e2, q⟩ := q; exact v_retE (by rw [e2]; rfl) q
  | ex c fs l => exact q)
theorem v_itR1 (q : RunM a τ (onOk (fun x τ1 => ∃ m, x = .int m ∧ (-(2 ^ 62) ≤ m ∧ m < 2 ^ 62) ∧ QL (.ok (rangeL 0 m.toNat)) τ1) fun c fs l τ1 => QL (.ex c fs l) τ1)) : RunM (itR1 a) τ QL := v_bnd (by
  obtain ⟨r, τ', e, q⟩ := q
  refine ⟨r, τ', e, ?_⟩
  cases r with
  | ok x => obtain ⟨m, rfl, hb, q⟩ := q; exact v_retE (if_pos hb) q
  | ex c fs l => exact q)
theorem v_itR2 (q : RunM a τ (onOk (fun x τ1 => RunM b τ1 (onOk (fun y τ2 => ∃ m k, x = .int m ∧ y = .int k ∧ (-(2 ^ 62) ≤ m ∧ m < 2 ^ 62 ∧ -(2 ^ 62) ≤ k ∧ k < 2 ^ 62) ∧ QL (.ok (rangeL m (k - m).toNat)) τ2) fun c fs l τ2 => QL (.ex c fs l) τ2)) fun c fs l τ1 => QL (.ex c fs l) τ1)) : RunM (itR2 a b) τ QL := v_bnd (by
  obtain ⟨r, τ', e, q⟩ := q
  refine ⟨r, τ', e, ?_⟩
  cases r with
  | ok x =>
    obtain ⟨r2, τ2, e2, q2⟩ := q
    refine v_bnd ⟨r2, τ2, e2, ?_⟩
    cases r2 with
    | ok y => obtain ⟨m, k, rfl, rfl, hb, q⟩ := q2; exact v_retE (if_pos hb) q
    | ex c fs l => exact q2
  | ex c fs l => exact q)
theorem v_itZip (q : RunM a τ (onOk (fun x τ1 => RunM b τ1 (onOk (fun y τ2 => ∃ l m, itemsD x = some l ∧ itemsD y = some m ∧ QL (.ok (zipL l m)) τ2) fun c fs l τ2 => QL (.ex c fs l) τ2)) fun c fs l τ1 => QL (.ex c fs l) τ1)) : RunM (itZip a b) τ QL := v_bnd (by
  obtain ⟨r, τ', e, q⟩ := q
  refine ⟨r, τ', e, ?_⟩
  cases r with
  | ok x =>
    obtain ⟨r2, τ2, e2, q2⟩ := q
    refine v_bnd ⟨r2, τ2, e2, ?_⟩
    cases r2 with
    | ok y => obtain ⟨l, m, h1, h2, q⟩ := q2; exact v_retE (by rw [h1, Option.bind_some, h2, Option.map_some]) q
    | ex c fs l => exact q2
  | ex c fs l => exact q)
/-! arguments, calls -/
theorem v_rnil (q : QA (.ok []) τ) : RunM rNil τ QA := v_ret q
theorem v_rD (q : RunM a τ (onOk (fun x τ1 => RunM ra τ1 (onOk (fun xs τ2 => QA (.ok (.d x :: xs)) τ2) fun c fs l τ2 => QA (.ex c fs l) τ2)) fun c fs l τ1 => QA (.ex c fs l) τ1)) : RunM (rD a ra) τ QA := v_bnd (by
  obtain ⟨r, τ', e, q⟩ := q
  refine ⟨r, τ', e, ?_⟩
  cases r with
  | ok x =>
    obtain ⟨r2, τ2, e2, q2⟩ := q
    refine v_bnd ⟨r2, τ2, e2, ?_⟩
    cases r2 with
    | ok y => exact v_ret q2
    | ex c fs l => exact q2
  | ex c fs l => exact q)
theorem v_rN (e : τ[i]? = some (some (.fz d))) (q : RunM ra τ (onOk (fun xs τ2 => QA (.ok (.d d :: xs)) τ2) fun c fs l τ2 => QA (.ex c fs l) τ2)) : RunM (rN i ra) τ QA := by
  have h : RunM (bnd ra fun xs => ret (some (.d d :: xs))) τ QA := v_bnd (by
    obtain ⟨r, τ', e, q⟩ := q
    refine ⟨r, τ', e, ?_⟩
    cases r with
    | ok x => exact v_ret q
    | ex c fs l => exact q)
  obtain ⟨r, τ', e2, q⟩ := h
  exact ⟨r, τ', by unfold rN; rw [e]; exact e2, q⟩
theorem v_rO (e : τ[i]? = some (some (.mu h l))) (q : RunM ra τ (onOk (fun xs τ2 => QA (.ok (.n i :: xs)) τ2) fun c fs l τ2 => QA (.ex c fs l) τ2)) : RunM (rN i ra) τ QA := by
  have h : RunM (bnd ra fun xs => ret (some (.n i :: xs))) τ QA := v_bnd (by
    obtain ⟨r, τ', e, q⟩ := q
    refine ⟨r, τ', e, ?_⟩
    cases r with
    | ok x => exact v_ret q
    | ex c fs l => exact q)
  obtain ⟨r, τ', e2, q⟩ := h
  exact ⟨r, τ', by unfold rN; rw [e]; exact e2, q⟩
def RunC (F : Fn) (args : List Arg) (τ : Tau) (Q : Res SV → Tau → Prop) : Prop := ∃ r τ', callT F args τ = some (r, τ') ∧ Q r τ'
theorem v_call {F : Fn} (q : RunM ra τ (onOk (fun args τ1 => RunC F args τ1 QE) fun c fs l τ1 => QE (.ex c fs l) τ1)) : RunM (mCall F ra) τ QE := v_bnd (by
  obtain ⟨r, τ', e, q⟩ := q
  refine ⟨r, τ', e, ?_⟩
  cases r with
  | ok x => obtain ⟨r, τ2, e2, q⟩ := q; exact ⟨r, τ2, e2, q⟩
  | ex c fs l => exact q)
/-- the callee at its arguments -/
theorem v_callC {F : Fn} {args : List Arg} {svs : List SV} (ho : once (lent args) = true) (hv : svsOf τ args = some svs) (q : RunF F svs fun r os => os.length = args.length ∧ QE r (wb (lent args) os τ)) : RunC F args τ QE := by
  obtain ⟨r, os, e, hl, q⟩ := q
  exact ⟨r, _, by unfold callT; rw [if_pos ho, hv, Option.bind_some, e, Option.bind_some]; dsimp only; rw [if_pos hl], q⟩
def RunK (c : Nat) (F : Fn) (args : List Arg) (τ : Tau) (Q : Res SV → Tau → Prop) : Prop := ∃ r τ', makeT c F args τ = some (r, τ') ∧ Q r τ'
theorem v_make {F : Fn} (q : RunM ra τ (onOk (fun args τ1 => RunK c F args τ1 QE) fun c fs l τ1 => QE (.ex c fs l) τ1)) : RunM (mMake c F ra) τ QE := v_bnd (by
  obtain ⟨r, τ', e, q⟩ := q
  refine ⟨r, τ', e, ?_⟩
  cases r with
  | ok x => obtain ⟨r, τ2, e2, q⟩ := q; exact ⟨r, τ2, e2, q⟩
  | ex c fs l => exact q)
theorem v_makeC {F : Fn} {args : List Arg} {svs : List SV} (ho : once (lent args) = true) (hv : svsOf τ args = some svs) (q : RunF F (.mu (.ins c []) [] :: svs) fun r os => ∃ s0 rest, os = s0 :: rest ∧ rest.length = args.length ∧ ((r = .ok (.fz .non) ∧ QE (.ok s0) (wb (lent args) rest τ)) ∨ ∃ c' fs l, r = .ex c' fs l ∧ QE (.ex c' fs l) (wb (lent args) rest τ))) : RunK c F args τ QE := by
  obtain ⟨r, os, e, s0, rest, rfl, hl, q⟩ := q
  rcases q with ⟨rfl, q⟩ | ⟨c', fs, l, rfl, q⟩
  · exact ⟨_, _, by unfold makeT; rw [if_pos ho, hv, Option.bind_some, e, Option.bind_some]; dsimp only; rw [if_pos hl], q⟩
  · exact ⟨_, _, by unfold makeT; rw [if_pos ho, hv, Option.bind_some, e, Option.bind_some]; dsimp only; rw [if_pos hl], q⟩
/-! statements -/
theorem v_sNx (q : QS .nx τ) : RunS sNx τ QS := ⟨_, _, rfl, q⟩
theorem v_sBk (q : QS .bk τ) : RunS sBk τ QS := ⟨_, _, rfl, q⟩
theorem v_sCt (q : QS .ct τ) : RunS sCt τ QS := ⟨_, _, rfl, q⟩
theorem v_raise (q : QS (.ex c [] []) τ) : RunS (sRaise c) τ QS := ⟨_, _, rfl, q⟩
theorem v_seq (q : RunS sa τ (onNx (fun τ1 => RunS sb τ1 QS) QS)) : RunS (sSeq sa sb) τ QS := by
  obtain ⟨r, τ', e, q⟩ := q
  cases r with
  | nx => obtain ⟨r2, τ2, e2, q2⟩ := q; exact ⟨r2, τ2, by unfold sSeq; rw [e]; exact e2, q2⟩
  | bk => exact ⟨_, _, by unfold sSeq; rw [e], q⟩
  | ct => exact ⟨_, _, by unfold sSeq; rw [e], q⟩
  | rt s => exact ⟨_, _, by unfold sSeq; rw [e], q⟩
  | ex c fs l => exact ⟨_, _, by unfold sSeq; rw [e], q⟩
theorem v_set (q : RunM e1 τ (onOk (fun s τ1 => QS .nx (τ1.set i (some s))) fun c fs l τ1 => QS (.ex c fs l) τ1)) : RunS (sSet i e1) τ QS := v_sE (by
  obtain ⟨r, τ', e, q⟩ := q
  refine ⟨r, τ', e, ?_⟩
  cases r with
  | ok x => exact ⟨_, _, rfl, q⟩
  | ex c fs l => exact q)
theorem v_drop (q : RunM a τ (onOk (fun s τ1 => QS .nx τ1) fun c fs l τ1 => QS (.ex c fs l) τ1)) : RunS (sDrop a) τ QS := v_sE (by
  obtain ⟨r, τ', e, q⟩ := q
  refine ⟨r, τ', e, ?_⟩
  cases r with
  | ok x => exact ⟨_, _, rfl, q⟩
  | ex c fs l => exact q)
theorem v_sret (q : RunM e1 τ (onOk (fun s τ1 => QS (.rt s) τ1) fun c fs l τ1 => QS (.ex c fs l) τ1)) : RunS (sRet e1) τ QS := v_sE (by
  obtain ⟨r, τ', e, q⟩ := q
  refine ⟨r, τ', e, ?_⟩
  cases r with
  | ok x => exact ⟨_, _, rfl, q⟩
  | ex c fs l => exact q)
theorem v_sretN (q : QS (.rt (.fz .non)) τ) : RunS sRetN τ QS := ⟨_, _, rfl, q⟩
theorem v_sif (q : RunM ta τ (onOk (fun t τ1 => if t = true then RunS sa τ1 QS else RunS sb τ1 QS) fun c fs l τ1 => QS (.ex c fs l) τ1)) : RunS (sIf ta sa sb) τ QS := v_sE (by
  obtain ⟨r, τ', e, q⟩ := q
  refine ⟨r, τ', e, ?_⟩
  cases r with
  | ok x =>
    show RunS (if x = true then sa else sb) τ' QS
    cases x with
    | true => exact (q : RunS sa τ' QS)
    | false => exact (q : RunS sb τ' QS)
  | ex c fs l => exact q)
theorem v_par (q : RunM a τ (onOk (fun x τ1 => RunM b τ1 (onOk (fun y τ2 => QS .nx ((τ2.set i (some (.fz x))).set j (some (.fz y)))) fun c fs l τ2 => QS (.ex c fs l) τ2)) fun c fs l τ1 => QS (.ex c fs l) τ1)) : RunS (sPar i j a b) τ QS := v_sE (by
  obtain ⟨r, τ', e, q⟩ := q
  refine ⟨r, τ', e, ?_⟩
  cases r with
  | ok x =>
    obtain ⟨r2, τ2, e2, q2⟩ := q
    refine v_sE ⟨r2, τ2, e2, ?_⟩
    cases r2 with
    | ok y => exact ⟨_, _, rfl, q2⟩
    | ex c fs l => exact q2
  | ex c fs l => exact q)
theorem v_asg {t : TD} (q : RunM a τ (onOk (fun x τ1 => ∃ τ2, t x τ1 = some τ2 ∧ QS .nx τ2) fun c fs l τ1 => QS (.ex c fs l) τ1)) : RunS (sAsg t a) τ QS := v_sE (by
  obtain ⟨r, τ', e, q⟩ := q
  refine ⟨r, τ', e, ?_⟩
  cases r with
  | ok x => obtain ⟨τ2, e2, q⟩ := q; exact ⟨_, _, by dsimp only; rw [e2]; rfl, q⟩
  | ex c fs l => exact q)
theorem v_aug {fi : D → D → Option D} {x : D} (e : τ[i]? = some (some (.fz x))) (q : RunM a τ (onOk (fun y τ1 => ∃ d, fi x y = some d ∧ QS .nx (τ1.set i (some (.fz d)))) fun c fs l τ1 => QS (.ex c fs l) τ1)) : RunS (sAug i fi a) τ QS := by
  have h : RunS (sE a fun y τ1 => (fi x y).map fun d => (.nx, τ1.set i (some (.fz d)))) τ QS := v_sE (by
    obtain ⟨r, τ', e, q⟩ := q
    refine ⟨r, τ', e, ?_⟩
    cases r with
    | ok x => obtain ⟨d, e2, q⟩ := q; exact ⟨_, _, by dsimp only; rw [e2]; rfl, q⟩
    | ex c fs l => exact q)
  obtain ⟨r, τ', e2, q⟩ := h
  exact ⟨r, τ', by unfold sAug; rw [e]; exact e2, q⟩
theorem v_mut {T : String} {fm : Hd → List SV → List D → Option (Hd × List SV × D)} (e : τ[i]? = some (some (.mu h l))) (hT : hdTy h = T) (q : RunM la τ (onOk (fun ds τ1 => ∃ h1 l1 h2 l2 d, τ1[i]? = some (some (.mu h1 l1)) ∧ fm h1 l1 ds = some (h2, l2, d) ∧ Q (.ok d) (τ1.set i (some (.mu h2 l2)))) fun c fs l τ1 => Q (.ex c fs l) τ1)) : RunM (mMut T fm i la) τ Q := by
  have h : RunM (bnd la fun ds τ1 => match τ1[i]? with
      | some (some (.mu h1 l1)) => (fm h1 l1 ds).map fun p => (.ok p.2.2, τ1.set i (some (.mu p.1 p.2.1)))
      | _ => none) τ Q := v_bnd (by
    obtain ⟨r, τ', e, q⟩ := q
    refine ⟨r, τ', e, ?_⟩
    cases r with
    | ok x => obtain ⟨h1, l1, h2, l2, d, e2, e3, q⟩ := q; exact ⟨_, _, by dsimp only; rw [e2]; dsimp only; rw [e3]; rfl, q⟩
    | ex c fs l => exact q)
  obtain ⟨r, τ', e2, q⟩ := h
  exact ⟨r, τ', by unfold mMut; rw [e]; dsimp only; rw [if_pos hT]; exact e2, q⟩
theorem v_put (q : RunM a τ (onOk (fun d τ1 => ∃ h0 l0, τ1[i]? = some (some (.mu h0 l0)) ∧ RunM b τ1 (onOk (fun k τ2 => ∃ h1 l1 h2 l2, τ2[i]? = some (some (.mu h1 l1)) ∧ setSV h1 l1 k d = some (h2, l2) ∧ QS .nx (τ2.set i (some (.mu h2 l2)))) fun c fs l τ2 => QS (.ex c fs l) τ2)) fun c fs l τ1 => QS (.ex c fs l) τ1)) : RunS (mPut i a b) τ QS := v_sE (by
  obtain ⟨r, τ', e, q⟩ := q
  refine ⟨r, τ', e, ?_⟩
  cases r with
  | ok x =>
    obtain ⟨h0, l0, e0, r2, τ2, e2, q2⟩ := q
    have h : RunS (sE b (fun q τ2 => match τ2[i]? with
      | some (some (.mu h l)) => (setSV h l q x).map fun p => (.nx, τ2.set i (some (.mu p.1 p.2)))
      | _ => none)) τ' QS := v_sE (by
      refine ⟨r2, τ2, e2, ?_⟩
      cases r2 with
      | ok y => obtain ⟨h1, l1, h2, l2, e3, e4, q3⟩ := q2; exact ⟨_, _, by dsimp only; rw [e3]; dsimp only; rw [e4]; rfl, q3⟩
      | ex c fs l => exact q2)
    obtain ⟨r3, τ3, e3, q3⟩ := h
    exact ⟨r3, τ3, by dsimp only; rw [e0]; exact e3, q3⟩
  | ex c fs l => exact q)
theorem v_fldS {cs : List Nat} {fl : Str} (q : RunM e1 τ (onOk (fun s τ1 => ∃ c fs l, τ1[i]? = some (some (.mu (.ins c fs) l)) ∧ (c ∈ cs ∧ fs.length < 1000) ∧ QS .nx (τ1.set i (some (.mu (.ins c (putSf fs l fl s).1) (putSf fs l fl s).2)))) fun c fs l τ1 => QS (.ex c fs l) τ1)) : RunS (VS.sFld i cs fl e1) τ QS := v_sE (by
  obtain ⟨r, τ', e, q⟩ := q
  refine ⟨r, τ', e, ?_⟩
  cases r with
  | ok x => obtain ⟨c, fs, l, e2, hc, q⟩ := q; exact ⟨_, _, by dsimp only; rw [e2]; dsimp only; rw [if_pos hc], q⟩
  | ex c fs l => exact q)
theorem v_try {m : SC} {hs : List Hn} (q : RunS m τ fun fl τ1 => match fl with
    | .ex c fs l => RunS (handle hs c fs l) τ1 QS
    | fl => QS fl τ1) : RunS (sTry m hs) τ QS := by
  obtain ⟨r, τ', e, q⟩ := q
  cases r with
  | ex c fs l => obtain ⟨r2, τ2, e2, q2⟩ := q; exact ⟨r2, τ2, by unfold sTry; rw [e]; exact e2, q2⟩
  | nx => exact ⟨_, _, by unfold sTry; rw [e], q⟩
  | bk => exact ⟨_, _, by unfold sTry; rw [e], q⟩
  | ct => exact ⟨_, _, by unfold sTry; rw [e], q⟩
  | rt s => exact ⟨_, _, by unfold sTry; rw [e], q⟩
/-! loops -/
theorem v_for {it : CM (List D)} {t : TD} (q : RunM it τ (onOk (fun l τ1 => RunS (sLoop t sa l) τ1 QS) fun c fs l τ1 => QS (.ex c fs l) τ1)) : RunS (sFor it t sa) τ QS := v_sE q
theorem v_loop {t : TD} {items : List D} (Pv : Nat → Tau → Prop) (h0 : Pv 0 τ) (hs : ∀ i d τ, items[i]? = some d → Pv i τ → ∃ τ1, t d τ = some τ1 ∧ RunS sa τ1 fun fl τ2 => match fl with
    | .nx => Pv (i + 1) τ2
    | .ct => Pv (i + 1) τ2
    | .bk => QS .nx τ2
    | fl => QS fl τ2) (hd : ∀ τ, Pv items.length τ → QS .nx τ) : RunS (sLoop t sa items) τ QS := by
  have key : ∀ (r : List D) (i : Nat) (τ : Tau), items.drop i = r → i ≤ items.length → Pv i τ → RunS (sLoop t sa r) τ QS := by
    intro r
    induction r with
    | nil =>
      intro i τ e hi p
      have : i = items.length := by
        have := congrArg List.length e
        rw [List.length_drop] at this
        simp at this
        omega
      subst this
      exact ⟨_, _, rfl, hd _ p⟩
    | cons d r ih =>
      intro i τ e hi p
      have hi' : i < items.length := by
        have := congrArg List.length e
        rw [List.length_drop] at this
        simp at this
        omega
      have hd' : items[i]? = some d := by
        rw [List.drop_eq_getElem_cons hi'] at e
        rw [List.getElem?_eq_getElem hi']
        exact congrArg some (List.cons.inj e).1
      have e' : items.drop (i + 1) = r := by
        rw [List.drop_eq_getElem_cons hi'] at e
        exact (List.cons.inj e).2
      obtain ⟨τ1, ht, r1, τ2, hb, q⟩ := hs i d τ hd' p
      cases r1 with
      | nx => obtain ⟨r2, τ3, e3, q3⟩ := ih (i + 1) τ2 e' hi' q; exact ⟨r2, τ3, by unfold sLoop; rw [ht]; dsimp only; rw [hb]; exact e3, q3⟩
      | ct => obtain ⟨r2, τ3, e3, q3⟩ := ih (i + 1) τ2 e' hi' q; exact ⟨r2, τ3, by unfold sLoop; rw [ht]; dsimp only; rw [hb]; exact e3, q3⟩
      | bk => exact ⟨_, _, by unfold sLoop; rw [ht]; dsimp only; rw [hb], q⟩
      | rt s => exact ⟨_, _, by unfold sLoop; rw [ht]; dsimp only; rw [hb], q⟩
      | ex c fs l => exact ⟨_, _, by unfold sLoop; rw [ht]; dsimp only; rw [hb], q⟩
  exact key items 0 τ rfl (Nat.zero_le _) h0
/-- while, by an invariant and a measure -/
theorem v_while {fuel : Nat} (Pv : Nat → Tau → Prop) (m0 : Nat) (hm : m0 < fuel) (h0 : Pv m0 τ) (hs : ∀ m τ, Pv m τ → RunM ta τ (onOk (fun t τ1 => if t = true then RunS sa τ1 (fun fl τ2 => match fl with
    | .nx => ∃ m', m' < m ∧ Pv m' τ2
    | .ct => ∃ m', m' < m ∧ Pv m' τ2
    | .bk => QS .nx τ2
    | fl => QS fl τ2) else QS .nx τ1) fun c fs l τ1 => QS (.ex c fs l) τ1)) : RunS (sWhile ta sa fuel) τ QS := by
  have key : ∀ (fuel m : Nat) (τ : Tau), m < fuel → Pv m τ → RunS (sWhile ta sa fuel) τ QS := by
    intro fuel
    induction fuel with
    | zero => intro m τ h; omega
    | succ fuel ih =>
      intro m τ hm p
      obtain ⟨r, τ1, e, q⟩ := hs m τ p
      cases r with
      | ok t =>
        cases t with
        | true =>
          obtain ⟨r1, τ2, hb, q⟩ := (q : RunS sa τ1 _)
          cases r1 with
          | nx =>
            obtain ⟨m', hlt, p'⟩ := q
            obtain ⟨r2, τ3, e3, q3⟩ := ih m' τ2 (by omega) p'
            exact ⟨r2, τ3, by unfold sWhile; rw [e]; dsimp only; rw [hb]; exact e3, q3⟩
          | ct =>
            obtain ⟨m', hlt, p'⟩ := q
            obtain ⟨r2, τ3, e3, q3⟩ := ih m' τ2 (by omega) p'
            exact ⟨r2, τ3, by unfold sWhile; rw [e]; dsimp only; rw [hb]; exact e3, q3⟩
          | bk => exact ⟨_, _, by unfold sWhile; rw [e]; dsimp only; rw [hb], q⟩
          | rt s => exact ⟨_, _, by unfold sWhile; rw [e]; dsimp only; rw [hb], q⟩
          | ex c fs l => exact ⟨_, _, by unfold sWhile; rw [e]; dsimp only; rw [hb], q⟩
        | false => exact ⟨_, _, by unfold sWhile; rw [e], (q : QS .nx τ1)⟩
      | ex c fs l => exact ⟨_, _, by unfold sWhile; rw [e], q⟩
  exact key fuel m0 τ hm h0
theorem v_whileT (Pv : Nat → Tau → Prop) (m0 : Nat) (hm : m0 < fuelT τ) (h0 : Pv m0 τ) (hs : ∀ m τ, Pv m τ → RunM ta τ (onOk (fun t τ1 => if t = true then RunS sa τ1 (fun fl τ2 => match fl with
    | .nx => ∃ m', m' < m ∧ Pv m' τ2
    | .ct => ∃ m', m' < m ∧ Pv m' τ2
    | .bk => QS .nx τ2
    | fl => QS fl τ2) else QS .nx τ1) fun c fs l τ1 => QS (.ex c fs l) τ1)) : RunS (sWhileT ta sa) τ QS := by
  have hm' := hm
  generalize hf : fuelT τ = n at hm'
  obtain ⟨r, τ', e, q⟩ := v_while (fuel := n) Pv m0 hm' h0 hs
  exact ⟨r, τ', by unfold sWhileT; rw [hf]; exact e, q⟩
/-- a comprehension, by an invariant over what is made -/
theorem v_lc {vs : List Nat} {it : CM (List D)} {t : TD} (q : RunM it τ (onOk (fun l τ1 => ∃ out τ2, lcGo t ta a vs l [] τ1 = some (out, τ2) ∧ QE (.ok (.mu .lst (out.map .fz))) τ2) fun c fs l τ1 => QE (.ex c fs l) τ1)) : RunM (mLc vs it t ta a) τ QE := v_bnd (by
  obtain ⟨r, τ', e, q⟩ := q
  refine ⟨r, τ', e, ?_⟩
  cases r with
  | ok x => obtain ⟨out, τ2, e2, q⟩ := q; exact ⟨_, _, by dsimp only; rw [e2]; rfl, q⟩
  | ex c fs l => exact q)
theorem v_lcGo {vs : List Nat} {t : TD} {items : List D} {acc0 : List D} (Pv : Nat → List D → Tau → Prop) (hz : acc0.length + items.length ≤ sizeLine) (h0 : Pv 0 acc0 τ) (hs : ∀ i d acc τ, items[i]? = some d → acc.length ≤ acc0.length + i → Pv i acc τ → ∃ τ1, t d (wipeT τ vs) = some τ1 ∧ RunM ta τ1 (onOk (fun b τ2 => if b = true then RunM a τ2 (onOk (fun y τ3 => Pv (i + 1) (acc ++ [y]) (wipeT τ3 vs)) fun _ _ _ _ => False) else Pv (i + 1) acc (wipeT τ2 vs)) fun _ _ _ _ => False)) :
    ∃ out τ2, lcGo t ta a vs items acc0 τ = some (out, τ2) ∧ Pv items.length out τ2 := by
  have key : ∀ (r : List D) (i : Nat) (acc : List D) (τ : Tau), items.drop i = r → i ≤ items.length → acc.length ≤ acc0.length + i → Pv i acc τ → ∃ out τ2, lcGo t ta a vs r acc τ = some (out, τ2) ∧ Pv items.length out τ2 := by
    intro r
    induction r with
    | nil =>
      intro i acc τ e hi ha p
      have : i = items.length := by
        have := congrArg List.length e
        rw [List.length_drop] at this
        simp at this
        omega
      subst this
      exact ⟨_, _, rfl, p⟩
    | cons d r ih =>
      intro i acc τ e hi ha p
      have hi' : i < items.length := by
        have := congrArg List.length e
        rw [List.length_drop] at this
        simp at this
        omega
      have hd' : items[i]? = some d := by
        rw [List.drop_eq_getElem_cons hi'] at e
        rw [List.getElem?_eq_getElem hi']
        exact congrArg some (List.cons.inj e).1
      have e' : items.drop (i + 1) = r := by
        rw [List.drop_eq_getElem_cons hi'] at e
        exact (List.cons.inj e).2
      obtain ⟨τ1, ht, r1, τ2, hc, q⟩ := hs i d acc τ hd' ha p
      cases r1 with
      | ok b =>
        cases b with
        | true =>
          obtain ⟨r2, τ3, hb, q⟩ := (q : RunM a τ2 _)
          cases r2 with
          | ok y =>
            obtain ⟨out, τ4, e4, q4⟩ := ih (i + 1) (acc ++ [y]) _ e' hi' (by simp; omega) q
            exact ⟨out, τ4, by unfold lcGo; rw [ht]; dsimp only; rw [hc]; dsimp only; rw [hb]; dsimp only; rw [if_pos (by omega)]; exact e4, q4⟩
          | ex c fs l => exact False.elim q
        | false =>
          obtain ⟨out, τ4, e4, q4⟩ := ih (i + 1) acc _ e' hi' (by omega) (q : Pv (i + 1) acc (wipeT τ2 vs))
          exact ⟨out, τ4, by unfold lcGo; rw [ht]; dsimp only; rw [hc]; exact e4, q4⟩
      | ex c fs l => exact False.elim q
  exact key items 0 acc0 τ rfl (Nat.zero_le _) (Nat.le_refl _) h0
/-! defs -/
theorem v_fn {na n : Nat} {pin : List Nat} {m : SC} {args : List SV} {QF : Res SV → List SV → Prop} (hl : args.length = na) (q : RunS m (args.map some ++ List.replicate (n - args.length) none) fun fl τ' => ∃ o, outs pin τ' 0 args = some o ∧ match fl with
    | .rt s => QF (.ok s) o
    | .nx => QF (.ok (.fz .non)) o
    | .ex c fs l => QF (.ex c fs l) o
    | _ => False) : RunF (ary na (mkFn n pin m)) args QF := by
  obtain ⟨r, τ', e, o, ho, q⟩ := q
  cases r with
  | rt s => exact ⟨_, _, by unfold ary mkFn; rw [if_pos hl, e]; dsimp only; rw [ho]; rfl, q⟩
  | nx => exact ⟨_, _, by unfold ary mkFn; rw [if_pos hl, e]; dsimp only; rw [ho]; rfl, q⟩
  | ex c fs l => exact ⟨_, _, by unfold ary mkFn; rw [if_pos hl, e]; dsimp only; rw [ho]; rfl, q⟩
  | bk => exact False.elim q
  | ct => exact False.elim q
theorem RunF.mono {F : Fn} {args : List SV} {Q1 Q2 : Res SV → List SV → Prop} (h : RunF F args Q1) (k : ∀ r os, Q1 r os → Q2 r os) : RunF F args Q2 := by
  obtain ⟨r, os, e, q⟩ := h
  exact ⟨r, os, e, k r os q⟩
end
end VS

/-! ## W1: stepping in two parts: value or error; next or other -/
namespace VS
open PySem PySem.Spec PyProof.Rows L2
def Rm {α : Type} (m : CM α) (τ : Tau) (A : α → Tau → Prop) (B : Nat → List Str → List D → Tau → Prop) : Prop := RunM m τ (onOk A B)
def Ru (m : SC) (τ : Tau) (N : Tau → Prop) (Q : Fl → Tau → Prop) : Prop := RunS m τ (onNx N Q)
def Rc (F : Fn) (args : List Arg) (τ : Tau) (A : SV → Tau → Prop) (B : Nat → List Str → List D → Tau → Prop) : Prop := RunC F args τ (onOk A B)
def Rk (c : Nat) (F : Fn) (args : List Arg) (τ : Tau) (A : SV → Tau → Prop) (B : Nat → List Str → List D → Tau → Prop) : Prop := RunK c F args τ (onOk A B)
def exQ (Q : Fl → Tau → Prop) (c : Nat) (fs : List Str) (l : List D) (τ : Tau) : Prop := Q (.ex c fs l) τ
/-- no error comes -/
def noX (_ : Nat) (_ : List Str) (_ : List D) (_ : Tau) : Prop := False
def finN (pin : List Nat) (args : List SV) (QF : Res SV → List SV → Prop) (τ : Tau) : Prop := ∃ o, outs pin τ 0 args = some o ∧ QF (.ok (.fz .non)) o
def finQ (pin : List Nat) (args : List SV) (QF : Res SV → List SV → Prop) : Fl → Tau → Prop
  | .rt s, τ => ∃ o, outs pin τ 0 args = some o ∧ QF (.ok s) o
  | .nx, τ => ∃ o, outs pin τ 0 args = some o ∧ QF (.ok (.fz .non)) o
  | .ex c fs l, τ => ∃ o, outs pin τ 0 args = some o ∧ QF (.ex c fs l) o
  | _, _ => False
def inLp (I N : Tau → Prop) (Q : Fl → Tau → Prop) : Fl → Tau → Prop
  | .ct, τ => I τ
  | .nx, τ => I τ
  | .bk, τ => N τ
  | fl, τ => Q fl τ
def tryQ (hs : List Hn) (N : Tau → Prop) (Q : Fl → Tau → Prop) : Fl → Tau → Prop
  | .ex c fs l, τ => Ru (handle hs c fs l) τ N Q
  | fl, τ => Q fl τ
/-- an end: what is left is the reader's -/
def Fi (p : Prop) : Prop := p
section
variable {α : Type} {A : α → Tau → Prop} {B : Nat → List Str → List D → Tau → Prop} {QF : Res SV → List SV → Prop} {I N : Tau → Prop} {Q : Fl → Tau → Prop} {τ τ0 : Tau} {pin : List Nat} {args o : List SV} {c : Nat} {fs : List Str} {l ls : List D} {s : SV} {x : α} {sa m : SC} {ta : CM Bool} {hs : List Hn} {a : CM D} {d : D}
theorem w_ok (q : A x τ) : onOk A B (.ok x) τ := q
theorem w_ex (q : B c fs ls τ) : onOk A B (.ex c fs ls) τ := q
theorem w_exQ (q : Q (.ex c fs ls) τ) : exQ Q c fs ls τ := q
theorem fin_id {p : Prop} (q : p) : Fi p := q
theorem w_finN (e : outs pin τ 0 args = some o) (q : Fi (QF (.ok (.fz .non)) o)) : finN pin args QF τ := ⟨o, e, q⟩
theorem w_finR (e : outs pin τ 0 args = some o) (q : Fi (QF (.ok s) o)) : finQ pin args QF (.rt s) τ := ⟨o, e, q⟩
theorem w_finX (e : outs pin τ 0 args = some o) (q : Fi (QF (.ex c fs ls) o)) : finQ pin args QF (.ex c fs ls) τ := ⟨o, e, q⟩
theorem w_inC (q : I τ) : inLp I N Q .ct τ := q
theorem w_inB (q : N τ) : inLp I N Q .bk τ := q
theorem w_inR (q : Q (.rt s) τ) : inLp I N Q (.rt s) τ := q
theorem w_inX (q : Q (.ex c fs ls) τ) : inLp I N Q (.ex c fs ls) τ := q
theorem w_tryX (q : Ru (handle hs c fs ls) τ N Q) : tryQ hs N Q (.ex c fs ls) τ := q
theorem w_tryR (q : Q (.rt s) τ) : tryQ hs N Q (.rt s) τ := q
theorem w_tryB (q : Q .bk τ) : tryQ hs N Q .bk τ := q
theorem w_tryC (q : Q .ct τ) : tryQ hs N Q .ct τ := q
theorem w_hnT {mt : Nat → Option Bool} {f : Nat → List Str → List D → SC} (h : mt c = some true) (q : Ru (f c fs ls) τ N Q) : Ru (handle ((mt, f) :: hs) c fs ls) τ N Q := by
  obtain ⟨r, τ', e, q⟩ := q
  exact ⟨r, τ', by unfold handle; dsimp only; rw [h]; exact e, q⟩
theorem w_hnF {mt : Nat → Option Bool} {f : Nat → List Str → List D → SC} (h : mt c = some false) (q : Ru (handle hs c fs ls) τ N Q) : Ru (handle ((mt, f) :: hs) c fs ls) τ N Q := by
  obtain ⟨r, τ', e, q⟩ := q
  exact ⟨r, τ', by unfold handle; dsimp only; rw [h]; exact e, q⟩
theorem w_sB {j : Nat} {fb : Nat → Option Bool} {b : Bool} (h : fb c = some b) (q : N (τ.set j (some (.fz (.bl b))))) : Ru (sB j fb c) τ N Q := ⟨.nx, _, by unfold sB; rw [h]; rfl, q⟩
theorem w_hnB {i j : Nat} {fb : Nat → Option Bool} {b : Bool} (hi : i < τ.length) (hf : fs = []) (h : fb c = some b) (q : N ((τ.set i none).set j (some (.fz (.bl b))))) : Ru (fun τ => if i < τ.length ∧ fs = [] then sB j fb c (τ.set i none) else none) τ N Q := by
  obtain ⟨r, τ', e, q⟩ := (w_sB (Q := Q) h q : Ru (sB j fb c) (τ.set i none) N Q)
  exact ⟨r, τ', by dsimp only; rw [if_pos ⟨hi, hf⟩]; exact e, q⟩
theorem w_fn {na n : Nat} (hl : args.length = na) (hτ : args.map some ++ List.replicate (n - args.length) none = τ0) (q : Ru m τ0 (finN pin args QF) (finQ pin args QF)) : RunF (ary na (mkFn n pin m)) args QF := v_fn hl (by
  rw [hτ]
  obtain ⟨fl, τ', e, q⟩ := q
  refine ⟨fl, τ', e, ?_⟩
  cases fl with
  | bk => exact False.elim q
  | ct => exact False.elim q
  | nx => exact q
  | rt s => exact q
  | ex c fs l => exact q)
theorem w_loop {t : TD} {items : List D} (Pv : Nat → Tau → Prop) (h0 : Pv 0 τ) (hs : ∀ i d τ, items[i]? = some d → Pv i τ → ∃ τ1, t d τ = some τ1 ∧ Ru sa τ1 (Pv (i + 1)) (inLp (Pv (i + 1)) N Q)) (hd : ∀ τ, Pv items.length τ → N τ) : Ru (sLoop t sa items) τ N Q := v_loop Pv h0 (fun i d τ e p => by
  obtain ⟨τ1, ht, fl, τ2, e2, q⟩ := hs i d τ e p
  refine ⟨τ1, ht, fl, τ2, e2, ?_⟩
  cases fl <;> exact q) hd
theorem w_while (Pv : Nat → Tau → Prop) (m0 : Nat) (hm : m0 < fuelT τ) (h0 : Pv m0 τ) (hs : ∀ m τ, Pv m τ → Rm ta τ (fun t τ1 => if t = true then Ru sa τ1 (fun τ => ∃ m', m' < m ∧ Pv m' τ) (inLp (fun τ => ∃ m', m' < m ∧ Pv m' τ) N Q) else N τ1) (exQ Q)) : Ru (sWhileT ta sa) τ N Q := v_whileT Pv m0 hm h0 fun m τ p => by
  obtain ⟨r, τ', e, q⟩ := hs m τ p
  refine ⟨r, τ', e, ?_⟩
  cases r with
  | ok t =>
    cases t with
    | true =>
      obtain ⟨fl, τ2, e2, q⟩ := (q : Ru sa τ' _ _)
      refine (⟨fl, τ2, e2, ?_⟩ : RunS sa τ' _)
      cases fl <;> exact q
    | false => exact q
  | ex c fs l => exact q
theorem w_try (q : Ru m τ N (tryQ hs N Q)) : Ru (sTry m hs) τ N Q := v_try (by
  obtain ⟨fl, τ', e, q⟩ := q
  refine ⟨fl, τ', e, ?_⟩
  cases fl <;> exact q)
theorem w_callC {F : Fn} {as : List Arg} {svs : List SV} {A : SV → Tau → Prop} (ho : once (lent as) = true) (hv : svsOf τ as = some svs) (q : RunF F svs fun r os => os.length = as.length ∧ onOk A B r (wb (lent as) os τ)) : Rc F as τ A B := v_callC ho hv q
theorem w_makeC {F : Fn} {as : List Arg} {svs : List SV} {A : SV → Tau → Prop} (ho : once (lent as) = true) (hv : svsOf τ as = some svs) (q : RunF F (.mu (.ins c []) [] :: svs) fun r os => ∃ s0 rest, os = s0 :: rest ∧ rest.length = as.length ∧ ((r = .ok (.fz .non) ∧ A s0 (wb (lent as) rest τ)) ∨ ∃ c' fs l, r = .ex c' fs l ∧ B c' fs l (wb (lent as) rest τ))) : Rk c F as τ A B := v_makeC ho hv q
theorem w_mid (M : Tau → Prop) (h1 : Ru m τ M Q) (h2 : ∀ τ', M τ' → N τ') : Ru m τ N Q := by
  obtain ⟨fl, τ', e, q⟩ := h1
  refine ⟨fl, τ', e, ?_⟩
  cases fl with
  | nx => exact h2 _ q
  | _ => exact q
theorem w_midM {α : Type} {m : CM α} {A : α → Tau → Prop} (M : α → Tau → Prop) (h1 : Rm m τ M B) (h2 : ∀ x τ', M x τ' → A x τ') : Rm m τ A B := by
  obtain ⟨fl, τ', e, q⟩ := h1
  refine ⟨fl, τ', e, ?_⟩
  cases fl with
  | ok x => exact h2 _ _ q
  | _ => exact q
theorem w_isbl {t : Bool} {A : Bool → Prop} (q : A t) : ∃ u, D.bl t = .bl u ∧ A u := ⟨t, rfl, q⟩
theorem w_isint {t : Int} {A : Int → Prop} (q : A t) : ∃ u, D.int t = .int u ∧ A u := ⟨t, rfl, q⟩
theorem w_isstr {t : Str} {A : Str → Prop} (q : A t) : ∃ u, D.str t = .str u ∧ A u := ⟨t, rfl, q⟩
/-- a comprehension by an invariant -/
theorem w_lcGo {vs : List Nat} {t : TD} {items acc0 : List D} (Pv : Nat → List D → Tau → Prop) (hz : acc0.length + items.length ≤ sizeLine) (h0 : Pv 0 acc0 τ) (hs : ∀ i d acc τ, items[i]? = some d → Pv i acc τ → ∃ τ1, t d (wipeT τ vs) = some τ1 ∧ Rm ta τ1 (fun b τ2 => if b = true then Rm a τ2 (fun y τ3 => Pv (i + 1) (acc ++ [y]) (wipeT τ3 vs)) noX else Pv (i + 1) acc (wipeT τ2 vs)) noX) :
    ∃ out τ2, lcGo t ta a vs items acc0 τ = some (out, τ2) ∧ Pv items.length out τ2 := v_lcGo Pv hz h0 fun i d acc τ e _ p => hs i d acc τ e p
/-- each turn gives f of its item -/
theorem w_lcMap {X : Type} {vs : List Nat} {t : TD} {xs : List X} {acc0 : List D} (τ2 : Tau) {e : X → D} (f : X → D) (hw : wipeT τ vs = τ2) (hw2 : wipeT τ2 vs = τ2) (hz : acc0.length + xs.length ≤ sizeLine) (hs : ∀ x ∈ xs, ∃ τ1, t (e x) τ2 = some τ1 ∧ Rm a τ1 (fun y τ3 => y = f x ∧ wipeT τ3 vs = τ2) noX) :
    ∃ out τ3, lcGo t cYes a vs (xs.map e) acc0 τ = some (out, τ3) ∧ out = acc0 ++ xs.map f ∧ (τ3 = τ2 ∨ τ3 = τ) := by
  obtain ⟨out, τ3, e, h1, h2, h3⟩ := w_lcGo (ta := cYes) (a := a) (vs := vs) (t := t) (items := xs.map e) (acc0 := acc0) (τ := τ) (fun i acc τ' => acc = acc0 ++ (xs.take i).map f ∧ (τ' = τ2 ∨ τ' = τ) ∧ wipeT τ' vs = τ2) (by rw [List.length_map]; exact hz) ⟨by simp, .inr rfl, hw⟩ (fun i d acc τ' hd ⟨ha, _, hw'⟩ => by
    rw [List.getElem?_map] at hd
    obtain ⟨x, hx, rfl⟩ := Option.map_eq_some_iff.mp hd
    obtain ⟨τ1, ht, r, τ3, e, q⟩ := hs x (List.mem_of_getElem? hx)
    rw [hw']
    refine ⟨τ1, ht, ⟨.ok true, τ1, rfl, ?_⟩⟩
    show Rm a τ1 _ noX
    refine ⟨r, τ3, e, ?_⟩
    cases r with
    | ok y =>
      obtain ⟨rfl, q⟩ := q
      show acc ++ [f x] = acc0 ++ (xs.take (i + 1)).map f ∧ (wipeT τ3 vs = τ2 ∨ wipeT τ3 vs = τ) ∧ wipeT (wipeT τ3 vs) vs = τ2
      refine ⟨?_, .inl q, by rw [q]; exact hw2⟩
      rw [ha, List.take_add_one, hx, List.map_append, List.append_assoc]
      rfl
    | ex c fs l => exact False.elim q)
  rw [List.length_map, List.take_length] at h1
  exact ⟨out, τ3, e, h1, h2⟩
theorem w_lcM {X : Type} {vs : List Nat} {t : TD} {xs : List X} {P : List D → Tau → Prop} {e : X → D} (f : X → D) (hw : wipeT τ vs = τ) (hz : xs.length ≤ sizeLine) (hs : ∀ x ∈ xs, ∃ τ1, t (e x) τ = some τ1 ∧ Rm a τ1 (fun y τ3 => y = f x ∧ wipeT τ3 vs = τ) noX) (q : P (xs.map f) τ) :
    ∃ out τ3, lcGo t cYes a vs (xs.map e) [] τ = some (out, τ3) ∧ P out τ3 := by
  obtain ⟨out, τ3, e, rfl, h⟩ := w_lcMap (a := a) (t := t) (acc0 := []) τ f hw hw (by simpa using hz) hs
  have h : τ3 = τ := by rcases h with h | h <;> exact h
  subst h
  exact ⟨_, _, e, by simpa using q⟩
theorem w_lcMq {X : Type} {vs : List Nat} {t : TD} {xs : List X} {P : List D → Tau → Prop} {e : X → D} (τ2 : Tau) (f : X → D) (hw : wipeT τ vs = τ2) (hw2 : wipeT τ2 vs = τ2) (hz : xs.length ≤ sizeLine) (hs : ∀ x ∈ xs, ∃ τ1, t (e x) τ2 = some τ1 ∧ Rm a τ1 (fun y τ3 => y = f x ∧ wipeT τ3 vs = τ2) noX) (q : ∀ τ3, (τ3 = τ2 ∨ τ3 = τ) → P (xs.map f) τ3) :
    ∃ out τ3, lcGo t cYes a vs (xs.map e) [] τ = some (out, τ3) ∧ P out τ3 := by
  obtain ⟨out, τ3, e, rfl, h⟩ := w_lcMap (a := a) (t := t) (acc0 := []) τ2 f hw hw2 (by simpa using hz) hs
  exact ⟨_, _, e, by simpa using q τ3 h⟩
/-- a loop over what is made of things -/
theorem w_loopX {X : Type} {t : TD} {xs : List X} {e : X → D} (Pv : Nat → Tau → Prop) (h0 : Pv 0 τ) (hs : ∀ i x τ, xs[i]? = some x → Pv i τ → ∃ τ1, t (e x) τ = some τ1 ∧ Ru sa τ1 (Pv (i + 1)) (inLp (Pv (i + 1)) N Q)) (hd : ∀ τ, Pv xs.length τ → N τ) : Ru (sLoop t sa (xs.map e)) τ N Q := w_loop Pv h0 (fun i d τ h p => by
  rw [List.getElem?_map] at h
  obtain ⟨x, hx, rfl⟩ := Option.map_eq_some_iff.mp h
  exact hs i x τ hx p) (by rw [List.length_map]; exact hd)
/-- a loop over a range -/
theorem w_loopR {t : TD} {lo : Int} {n : Nat} (Pv : Nat → Tau → Prop) (h0 : Pv 0 τ) (hs : ∀ i τ, i < n → Pv i τ → ∃ τ1, t (.int (lo + (i : Nat))) τ = some τ1 ∧ Ru sa τ1 (Pv (i + 1)) (inLp (Pv (i + 1)) N Q)) (hd : ∀ τ, Pv n τ → N τ) : Ru (sLoop t sa (rangeL lo n)) τ N Q := w_loopX (e := fun i : Nat => D.int (lo + (i : Nat))) (xs := List.range n) Pv h0 (fun i x τ h p => by
  obtain ⟨hi, h⟩ := List.getElem?_eq_some_iff.mp h
  rw [List.getElem_range] at h
  subst h
  exact hs i τ (by simpa using hi) p) (by rw [List.length_range]; exact hd)
/-- a comprehension over a range -/
theorem w_lcR {vs : List Nat} {t : TD} {lo : Int} {n : Nat} {P : List D → Tau → Prop} (f : Nat → D) (hw : wipeT τ vs = τ) (hz : n ≤ sizeLine) (hs : ∀ i, i < n → ∃ τ1, t (.int (lo + (i : Nat))) τ = some τ1 ∧ Rm a τ1 (fun y τ3 => y = f i ∧ wipeT τ3 vs = τ) noX) (q : P ((List.range n).map f) τ) :
    ∃ out τ3, lcGo t cYes a vs (rangeL lo n) [] τ = some (out, τ3) ∧ P out τ3 := w_lcM (e := fun i : Nat => D.int (lo + (i : Nat))) (xs := List.range n) f hw (by rw [List.length_range]; exact hz) (fun x hx => hs x (List.mem_range.mp hx)) q
/-- two generators by an invariant over the outer -/
theorem w_lc2Go {vs vs1 : List Nat} {t t1 : TD} {it1 : CM (List D)} {items acc0 : List D} (Pv : Nat → List D → Tau → Prop) (h0 : Pv 0 acc0 τ) (hs : ∀ i d acc τ, items[i]? = some d → Pv i acc τ → ∃ τ1, t d (wipeT τ vs) = some τ1 ∧ Rm it1 τ1 (fun l1 τ2 => ∃ acc' τ3, lcGo t1 cYes a vs1 l1 acc τ2 = some (acc', τ3) ∧ Pv (i + 1) acc' (wipeT τ3 vs)) noX) :
    ∃ out τ2, lc2Go t it1 t1 a vs vs1 items acc0 τ = some (out, τ2) ∧ Pv items.length out τ2 := by
  have key : ∀ (r : List D) (i : Nat) (acc : List D) (τ : Tau), items.drop i = r → i ≤ items.length → Pv i acc τ → ∃ out τ2, lc2Go t it1 t1 a vs vs1 r acc τ = some (out, τ2) ∧ Pv items.length out τ2 := by
    intro r
    induction r with
    | nil =>
      intro i acc τ e hi p
      have : i = items.length := by
        have := congrArg List.length e
        rw [List.length_drop] at this
        simp at this
        omega
      subst this
      exact ⟨_, _, rfl, p⟩
    | cons d r ih =>
      intro i acc τ e hi p
      have hi' : i < items.length := by
        have := congrArg List.length e
        rw [List.length_drop] at this
        simp at this
        omega
      have hd' : items[i]? = some d := by
        rw [List.drop_eq_getElem_cons hi'] at e
        rw [List.getElem?_eq_getElem hi']
        exact congrArg some (List.cons.inj e).1
      have e' : items.drop (i + 1) = r := by
        rw [List.drop_eq_getElem_cons hi'] at e
        exact (List.cons.inj e).2
      obtain ⟨τ1, ht, r1, τ2, hc, q⟩ := hs i d acc τ hd' p
      cases r1 with
      | ok l1 =>
        obtain ⟨acc', τ3, e3, q⟩ := q
        obtain ⟨out, τ4, e4, q4⟩ := ih (i + 1) acc' _ e' hi' q
        exact ⟨out, τ4, by unfold lc2Go; rw [ht]; dsimp only; rw [hc]; dsimp only; rw [e3]; exact e4, q4⟩
      | ex c fs l => exact False.elim q
  exact key items 0 acc0 τ rfl (Nat.zero_le _) h0
theorem w_lc2 {vs vs1 : List Nat} {it it1 : CM (List D)} {t t1 : TD} {A : SV → Tau → Prop} (q : Rm it τ (fun l τ1 => ∃ out τ2, lc2Go t it1 t1 a vs vs1 l [] τ1 = some (out, τ2) ∧ A (.mu .lst (out.map .fz)) τ2) B) : Rm (mLc2 vs vs1 it t it1 t1 a) τ A B := by
  obtain ⟨r, τ', e, q⟩ := q
  unfold mLc2
  refine v_bnd ⟨r, τ', e, ?_⟩
  cases r with
  | ok x => obtain ⟨out, τ2, e2, q⟩ := q; exact ⟨.ok _, _, by dsimp only; rw [e2]; rfl, q⟩
  | ex c fs l => exact q
theorem w_dc {vs : List Nat} {it : CM (List D)} {t : TD} {kx : CM D} {A : SV → Tau → Prop} (q : Rm it τ (fun l τ1 => ∃ ks sl τ2, dcGo t ta kx a vs l ([], []) τ1 = some ((ks, sl), τ2) ∧ A (.mu (.dct false ks) sl) τ2) B) : Rm (mDc vs it t ta kx a) τ A B := by
  obtain ⟨r, τ', e, q⟩ := q
  unfold mDc
  refine v_bnd ⟨r, τ', e, ?_⟩
  cases r with
  | ok x => obtain ⟨ks, sl, τ2, e2, q⟩ := q; exact ⟨.ok _, _, by dsimp only; rw [e2]; rfl, q⟩
  | ex c fs l => exact q
end
section
variable {τ τ' τ1 : Tau} {a b cc : CM D} {e1 e2 : CM SV} {la : CM (List D)} {ra : CM (List Arg)} {p p2 : PB} {i j n : Nat} {d : D} {s : SV} {h : Hd} {l : List SV} {c : Nat} {fs : List Str} {ls ds : List D} {f g : D → D → Option SV} {f1 : D → Option SV} {ta tb : CM Bool} {sa sb : SC} {B : Nat → List Str → List D → Tau → Prop} {N : Tau → Prop} {Qf : Fl → Tau → Prop}
theorem w_C {A : D → Tau → Prop} (q : A (d) τ) : Rm (mC d) τ A B := v_C q
theorem w_var {A : D → Tau → Prop} (e : τ[i]? = some (some (.fz d))) (q : A (d) τ) : Rm (mVar i) τ A B := v_var e q
theorem w_varO {A : D → Tau → Prop} (e : τ[i]? = some (some (.mu h l))) (q : A ((SV.toD (.mu h l))) (τ.set i (some (.fz (SV.toD (.mu h l)))))) : Rm (mVar i) τ A B := v_varO e q
theorem w_move {A : SV → Tau → Prop} (e : τ[i]? = some (some (.fz d))) (q : A ((.fz d)) τ) : Rm (mMove i) τ A B := v_move e q
theorem w_moveO {A : SV → Tau → Prop} (e : τ[i]? = some (some (.mu h l))) (q : A ((.mu h l)) (τ.set i none)) : Rm (mMove i) τ A B := v_moveO e q
theorem w_frz {A : D → Tau → Prop} (q : Rm e1 τ (fun s τ1 => A (s.toD) τ1) B) : Rm (frz e1) τ A B := v_frz q
theorem w_up {A : SV → Tau → Prop} (q : Rm a τ (fun d τ1 => A ((.fz d)) τ1) B) : Rm (up a) τ A B := v_up q
theorem w_B {A : D → Tau → Prop} (e : p τ = some (.fz d)) (q : A (d) τ) : Rm (mB p) τ A B := v_B e q
theorem w_op2 {A : SV → Tau → Prop} (q : Rm a τ (fun x τ1 => Rm b τ1 (fun y τ2 => ∃ s, f x y = some s ∧ A (s) τ2) B) B) : Rm (mOp2 f a b) τ A B := v_op2 q
theorem w_op1 {A : SV → Tau → Prop} (q : Rm a τ (fun x τ1 => ∃ s, f1 x = some s ∧ A (s) τ1) B) : Rm (mOp1 f1 a) τ A B := v_op1 q
theorem w_op2B {A : SV → Tau → Prop} {x y : D} (ea : bView p τ = some x) (eb : bView p2 τ = some y) (q : ∃ s, f x y = some s ∧ A (s) τ) : Rm (mOp2B f p p2) τ A B := v_op2B ea eb q
theorem w_op2R {A : SV → Tau → Prop} (q : Rm a τ (fun x τ1 => ∃ y s, bView p τ1 = some y ∧ f x y = some s ∧ A (s) τ1) B) : Rm (mOp2R f a p) τ A B := v_op2R q
theorem w_op1B {A : SV → Tau → Prop} {x : D} (ea : bView p τ = some x) (q : ∃ s, f1 x = some s ∧ A (s) τ) : Rm (mOp1B f1 p) τ A B := v_op1B ea q
theorem w_anil {A : (List D) → Tau → Prop} (q : A ([]) τ) : Rm aNil τ A B := v_anil q
theorem w_acons {A : (List D) → Tau → Prop} (q : Rm a τ (fun x τ1 => Rm la τ1 (fun xs τ2 => A ((x :: xs)) τ2) B) B) : Rm (aCons a la) τ A B := v_acons q
theorem w_tup {A : D → Tau → Prop} (q : Rm la τ (fun l τ1 => l.length ≤ sizeLine ∧ A ((.tup l)) τ1) B) : Rm (mTup la) τ A B := v_tup q
theorem w_lst {A : SV → Tau → Prop} (q : Rm la τ (fun l τ1 => l.length ≤ sizeLine ∧ A ((.mu .lst (l.map .fz))) τ1) B) : Rm (mLst la) τ A B := v_lst q
theorem w_newK {A : SV → Tau → Prop} (q : A ((.mu (.dct false []) [])) τ) : Rm mNewK τ A B := v_newK q
theorem w_newT {A : SV → Tau → Prop} (q : A ((.mu (.dct true []) [])) τ) : Rm mNewT τ A B := v_newT q
theorem w_disp1 {A : SV → Tau → Prop} {z : Str} (q : Rm a τ (fun d τ1 => A ((.mu (.dct false [.k (.inr z)]) [.fz d])) τ1) B) : Rm (mDisp1 z a) τ A B := v_disp1 q
theorem w_oNone {A : (Option Int) → Tau → Prop} (q : A (none) τ) : Rm oNone τ A B := v_oNone q
theorem w_oSome {A : (Option Int) → Tau → Prop} (q : Rm a τ (fun d τ1 => ∃ k, d = .int k ∧ A ((some k)) τ1) B) : Rm (oSome a) τ A B := v_oSome q
theorem w_slice {A : SV → Tau → Prop} {lo hi : CM (Option Int)} (q : Rm a τ (fun x τ1 => Rm lo τ1 (fun l τ2 => Rm hi τ2 (fun u τ3 => ∃ s, sliceF l u x = some s ∧ A (s) τ3) B) B) B) : Rm (mSlice a lo hi) τ A B := v_slice q
theorem w_fld {A : D → Tau → Prop} {cs : List Nat} {fl : Str} (q : Rm a τ (fun x τ1 => ∃ c fs l d, x = .ob (.ins c fs) l ∧ c ∈ cs ∧ fLook fs l fl = some d ∧ A (d) τ1) B) : Rm (mFld cs fl a) τ A B := v_fld q
theorem w_bm {A : SV → Tau → Prop} (q : Rm a τ (fun x τ1 => ∃ z, x = .str z ∧ Rm b τ1 (fun y τ2 => ∃ s, f x y = some s ∧ A (s) τ2) B) B) : Rm (mBm f a b) τ A B := v_bm q
theorem w_join {A : SV → Tau → Prop} (q : Rm a τ (fun x τ1 => ∃ z, x = .str z ∧ Rm b τ1 (fun y τ2 => ∃ s, joinF x y = some s ∧ A (s) τ2) B) B) : Rm (mJoin a b) τ A B := v_join q
theorem w_cB {A : Bool → Tau → Prop} (q : Rm a τ (fun d τ1 => ∃ t, d = .bl t ∧ A (t) τ1) B) : Rm (cB a) τ A B := v_cB q
theorem w_cNot {A : Bool → Tau → Prop} (q : Rm ta τ (fun t τ1 => A ((!t)) τ1) B) : Rm (cNot ta) τ A B := v_cNot q
theorem w_cAnd {A : Bool → Tau → Prop} (q : Rm ta τ (fun t τ1 => if t = true then Rm tb τ1 A B else A (false) τ1) B) : Rm (cAnd ta tb) τ A B := v_cAnd q
theorem w_cOr {A : Bool → Tau → Prop} (q : Rm ta τ (fun t τ1 => if t = true then A (true) τ1 else Rm tb τ1 A B) B) : Rm (cOr ta tb) τ A B := v_cOr q
theorem w_mNot {A : D → Tau → Prop} (q : Rm a τ (fun d τ1 => ∃ t, d = .bl t ∧ A ((.bl (!t))) τ1) B) : Rm (mNot a) τ A B := v_mNot q
theorem w_mAnd {A : D → Tau → Prop} (q : Rm a τ (fun d τ1 => ∃ t, d = .bl t ∧ if t = true then Rm b τ1 A B else A ((.bl false)) τ1) B) : Rm (mAnd a b) τ A B := v_mAnd q
theorem w_mOr {A : D → Tau → Prop} (q : Rm a τ (fun d τ1 => ∃ t, d = .bl t ∧ if t = true then A ((.bl true)) τ1 else Rm b τ1 A B) B) : Rm (mOr a b) τ A B := v_mOr q
theorem w_mIf {A : SV → Tau → Prop} (q : Rm ta τ (fun t τ1 => if t = true then Rm e1 τ1 A B else Rm e2 τ1 A B) B) : Rm (mIf ta e1 e2) τ A B := v_mIf q
theorem w_chain {A : D → Tau → Prop} (q : Rm a τ (fun x τ1 => Rm b τ1 (fun y τ2 => ∃ t, f x y = some (.fz (.bl t)) ∧ if t = true then Rm cc τ2 (fun z τ3 => ∃ d, g y z = some (.fz d) ∧ A (d) τ3) B else A ((.bl false)) τ2) B) B) : Rm (mChain f g a b cc) τ A B := v_chain q
theorem w_itD {A : (List D) → Tau → Prop} (q : Rm a τ (fun x τ1 => ∃ l, itemsD x = some l ∧ A (l) τ1) B) : Rm (itD a) τ A B := v_itD q
theorem w_itEn {A : (List D) → Tau → Prop} (q : Rm a τ (fun x τ1 => ∃ l, itemsD x = some l ∧ A ((enumL l)) τ1) B) : Rm (itEn a) τ A B := v_itEn q
theorem w_itR1 {A : (List D) → Tau → Prop} (q : Rm a τ (fun x τ1 => ∃ m, x = .int m ∧ (-(2 ^ 62) ≤ m ∧ m < 2 ^ 62) ∧ A ((rangeL 0 m.toNat)) τ1) B) : Rm (itR1 a) τ A B := v_itR1 q
theorem w_itR2 {A : (List D) → Tau → Prop} (q : Rm a τ (fun x τ1 => Rm b τ1 (fun y τ2 => ∃ m k, x = .int m ∧ y = .int k ∧ (-(2 ^ 62) ≤ m ∧ m < 2 ^ 62 ∧ -(2 ^ 62) ≤ k ∧ k < 2 ^ 62) ∧ A ((rangeL m (k - m).toNat)) τ2) B) B) : Rm (itR2 a b) τ A B := v_itR2 q
theorem w_itZip {A : (List D) → Tau → Prop} (q : Rm a τ (fun x τ1 => Rm b τ1 (fun y τ2 => ∃ l m, itemsD x = some l ∧ itemsD y = some m ∧ A ((zipL l m)) τ2) B) B) : Rm (itZip a b) τ A B := v_itZip q
theorem w_rnil {A : (List Arg) → Tau → Prop} (q : A ([]) τ) : Rm rNil τ A B := v_rnil q
theorem w_rD {A : (List Arg) → Tau → Prop} (q : Rm a τ (fun x τ1 => Rm ra τ1 (fun xs τ2 => A ((.d x :: xs)) τ2) B) B) : Rm (rD a ra) τ A B := v_rD q
theorem w_rN {A : (List Arg) → Tau → Prop} (e : τ[i]? = some (some (.fz d))) (q : Rm ra τ (fun xs τ2 => A ((.d d :: xs)) τ2) B) : Rm (rN i ra) τ A B := v_rN e q
theorem w_rO {A : (List Arg) → Tau → Prop} (e : τ[i]? = some (some (.mu h l))) (q : Rm ra τ (fun xs τ2 => A ((.n i :: xs)) τ2) B) : Rm (rN i ra) τ A B := v_rO e q
theorem w_call {A : SV → Tau → Prop} {F : Fn} (q : Rm ra τ (fun args τ1 => Rc F args τ1 A B) B) : Rm (mCall F ra) τ A B := v_call q
theorem w_make {A : SV → Tau → Prop} {F : Fn} (q : Rm ra τ (fun args τ1 => Rk c F args τ1 A B) B) : Rm (mMake c F ra) τ A B := v_make q
theorem w_sNx (q : N τ) : Ru sNx τ N Qf := v_sNx q
theorem w_sBk (q : Qf .bk τ) : Ru sBk τ N Qf := v_sBk q
theorem w_sCt (q : Qf .ct τ) : Ru sCt τ N Qf := v_sCt q
theorem w_raise (q : Qf (.ex c [] []) τ) : Ru (sRaise c) τ N Qf := v_raise q
theorem w_seq (q : Ru sa τ (fun τ1 => Ru sb τ1 N Qf) Qf) : Ru (sSeq sa sb) τ N Qf := v_seq (by
  obtain ⟨fl, τ', e, q⟩ := q
  refine ⟨fl, τ', e, ?_⟩
  cases fl <;> exact q)
theorem w_set (q : Rm e1 τ (fun s τ1 => N (τ1.set i (some s))) (exQ Qf)) : Ru (sSet i e1) τ N Qf := v_set q
theorem w_drop (q : Rm a τ (fun s τ1 => N τ1) (exQ Qf)) : Ru (sDrop a) τ N Qf := v_drop q
theorem w_sret (q : Rm e1 τ (fun s τ1 => Qf (.rt s) τ1) (exQ Qf)) : Ru (sRet e1) τ N Qf := v_sret q
theorem w_sretN (q : Qf (.rt (.fz .non)) τ) : Ru sRetN τ N Qf := v_sretN q
theorem w_sif (q : Rm ta τ (fun t τ1 => if t = true then Ru sa τ1 N Qf else Ru sb τ1 N Qf) (exQ Qf)) : Ru (sIf ta sa sb) τ N Qf := v_sif q
theorem w_par (q : Rm a τ (fun x τ1 => Rm b τ1 (fun y τ2 => N ((τ2.set i (some (.fz x))).set j (some (.fz y)))) (exQ Qf)) (exQ Qf)) : Ru (sPar i j a b) τ N Qf := v_par q
theorem w_asg {t : TD} (q : Rm a τ (fun x τ1 => ∃ τ2, t x τ1 = some τ2 ∧ N τ2) (exQ Qf)) : Ru (sAsg t a) τ N Qf := v_asg q
theorem w_aug {fi : D → D → Option D} {x : D} (e : τ[i]? = some (some (.fz x))) (q : Rm a τ (fun y τ1 => ∃ d, fi x y = some d ∧ N (τ1.set i (some (.fz d)))) (exQ Qf)) : Ru (sAug i fi a) τ N Qf := v_aug e q
theorem w_mut {A : D → Tau → Prop} {T : String} {fm : Hd → List SV → List D → Option (Hd × List SV × D)} (e : τ[i]? = some (some (.mu h l))) (hT : hdTy h = T) (q : Rm la τ (fun ds τ1 => ∃ h1 l1 h2 l2 d, τ1[i]? = some (some (.mu h1 l1)) ∧ fm h1 l1 ds = some (h2, l2, d) ∧ A (d) (τ1.set i (some (.mu h2 l2)))) B) : Rm (mMut T fm i la) τ A B := v_mut e hT q
theorem w_put (q : Rm a τ (fun d τ1 => ∃ h0 l0, τ1[i]? = some (some (.mu h0 l0)) ∧ Rm b τ1 (fun k τ2 => ∃ h1 l1 h2 l2, τ2[i]? = some (some (.mu h1 l1)) ∧ setSV h1 l1 k d = some (h2, l2) ∧ N (τ2.set i (some (.mu h2 l2)))) (exQ Qf)) (exQ Qf)) : Ru (mPut i a b) τ N Qf := v_put q
theorem w_fldS {cs : List Nat} {fl : Str} (q : Rm e1 τ (fun s τ1 => ∃ c fs l, τ1[i]? = some (some (.mu (.ins c fs) l)) ∧ (c ∈ cs ∧ fs.length < 1000) ∧ N (τ1.set i (some (.mu (.ins c (putSf fs l fl s).1) (putSf fs l fl s).2)))) (exQ Qf)) : Ru (VS.sFld i cs fl e1) τ N Qf := v_fldS q
theorem w_for {it : CM (List D)} {t : TD} (q : Rm it τ (fun l τ1 => Ru (sLoop t sa l) τ1 N Qf) (exQ Qf)) : Ru (sFor it t sa) τ N Qf := v_for q
theorem w_lc {A : SV → Tau → Prop} {vs : List Nat} {it : CM (List D)} {t : TD} (q : Rm it τ (fun l τ1 => ∃ out τ2, lcGo t ta a vs l [] τ1 = some (out, τ2) ∧ A ((.mu .lst (out.map .fz))) τ2) B) : Rm (mLc vs it t ta a) τ A B := v_lc q
theorem w_seqM (M : Tau → Prop) (h1 : Ru sa τ M Qf) (h2 : ∀ τ', M τ' → Ru sb τ' N Qf) : Ru (sSeq sa sb) τ N Qf := w_seq (w_mid M h1 h2)
/-- gives v and leaves its arguments as they are -/
def Ret (F : Fn) (args : List SV) (v : SV) : Prop := RunF F args fun r os => r = .ok v ∧ os = args
theorem w_ret {F : Fn} {as : List Arg} {svs : List SV} {v : SV} {A : SV → Tau → Prop} (ho : once (lent as) = true) (hv : svsOf τ as = some svs) (hr : Ret F svs v) (hl : svs.length = as.length) (q : A v (wb (lent as) svs τ)) : Rc F as τ A B := w_callC ho hv (RunF.mono hr fun r os ⟨h1, h2⟩ => by
  subst h1 h2
  exact ⟨hl, q⟩)
theorem w_run {F : Fn} {as : List Arg} {svs : List SV} {A : SV → Tau → Prop} {Q1 : Res SV → List SV → Prop} (ho : once (lent as) = true) (hv : svsOf τ as = some svs) (hr : RunF F svs Q1) (q : ∀ r os, Q1 r os → os.length = as.length ∧ onOk A B r (wb (lent as) os τ)) : Rc F as τ A B := w_callC ho hv (RunF.mono hr q)
theorem w_if {t : Bool} {P Q : Prop} (b : Bool) (h : t = b) (q : if b = true then P else Q) : if t = true then P else Q := by subst h; exact q
theorem w_isiT {A : SV → Tau → Prop} {tb : String → Bool} {cs : List Nat} {cb : Nat → Bool} {n : String} (e : p τ = some s) (h : tyN s.toD = some n) (h2 : tb n = true) (q : A (.fz (.bl true)) τ) : Rm (mIsi (isiF tb cs cb) p) τ A B := ⟨.ok _, τ, by unfold mIsi; rw [e, Option.bind_some]; unfold isiF; rw [h]; dsimp only; rw [h2, Option.bind_some]; rfl, q⟩
theorem w_isiF {A : SV → Tau → Prop} {tb : String → Bool} {cs : List Nat} {cb : Nat → Bool} {n : String} (e : p τ = some s) (h : tyN s.toD = some n) (h2 : tb n = false) (q : A (.fz (.bl false)) τ) : Rm (mIsi (isiF tb cs cb) p) τ A B := ⟨.ok _, τ, by unfold mIsi; rw [e, Option.bind_some]; unfold isiF; rw [h]; dsimp only; rw [h2, Option.bind_some]; rfl, q⟩
/-- an own object -/
def IsMu (s : SV) : Prop := ∃ h l, s = .mu h l
theorem w_rH {A : List Arg → Tau → Prop} (e : τ[i]? = some (some s)) (hm : IsMu s) (q : Rm ra τ (fun xs τ2 => A ((.n i :: xs)) τ2) B) : Rm (rN i ra) τ A B := by
  obtain ⟨h, l, rfl⟩ := hm
  exact w_rO e q
/-- any slot, its content known as data -/
theorem w_varS {A : D → Tau → Prop} (e : τ[i]? = some (some s)) (hd : s.toD = d) (q : A d (τ.set i (some (.fz d)))) : Rm (mVar i) τ A B := by
  subst hd
  cases s with
  | fz x =>
    have he : τ.set i (some (.fz x)) = τ := by
      obtain ⟨hi, e'⟩ := List.getElem?_eq_some_iff.mp e
      rw [← e']
      exact List.set_getElem_self hi
    have q : A x (τ.set i (some (.fz x))) := q
    rw [he] at q
    exact w_var e q
  | mu h l => exact w_varO e q
/-- {n: f(n) for n in texts}, no text twice -/
theorem w_dcS {vs : List Nat} {t : TD} {kx el : CM D} {ns : List Str} {P : List DK → List SV → Tau → Prop} (f : Str → D) (hn : ns.Nodup) (hz : ns.length ≤ sizeLine) (hw : wipeT τ vs = τ) (hs : ∀ n ∈ ns, ∃ τ1, t (.str n) τ = some τ1 ∧ Rm kx τ1 (fun q τ3 => q = .str n ∧ Rm el τ3 (fun y τ4 => y = f n ∧ wipeT τ4 vs = τ) noX) noX) (q : P (ns.map fun n => DK.k (.inr n)) ((ns.map f).map .fz) τ) :
    ∃ ks sl τ2, dcGo t cYes kx el vs (ns.map D.str) ([], []) τ = some ((ks, sl), τ2) ∧ P ks sl τ2 := by
  have key : ∀ (r pre : List Str), (pre ++ r).Nodup → pre.length + r.length ≤ sizeLine → (∀ n ∈ r, n ∈ ns) → dcGo t cYes kx el vs (r.map D.str) ((pre.map fun n => DK.k (.inr n)), ((pre.map f).map .fz)) τ = some ((((pre ++ r).map fun n => DK.k (.inr n)), ((pre ++ r).map f).map .fz), τ) := by
    intro r
    induction r with
    | nil => intro pre _ _ _; rw [List.append_nil]; rfl
    | cons n r ih =>
      intro pre hnd hl hm
      obtain ⟨τ1, ht, r1, τ3, e1, q1⟩ := hs n (hm n List.mem_cons_self)
      cases r1 with
      | ex c fs l => exact False.elim q1
      | ok x =>
        obtain ⟨hx, r2, τ4, e2, q2⟩ := q1
        subst hx
        cases r2 with
        | ex c fs l => exact False.elim q2
        | ok y =>
          obtain ⟨hy, hw4⟩ := q2
          subst hy
          have hni : n ∉ pre := fun hp => (List.nodup_append.mp hnd).2.2 n hp n List.mem_cons_self rfl
          have hc : (pre.map fun n => DK.k (.inr n)).contains (DK.k (.inr n)) = false := by
            refine Bool.eq_false_iff.mpr fun h => hni ?_
            obtain ⟨m, hm', e⟩ := List.mem_map.mp (List.contains_iff_mem.mp h)
            cases e
            exact hm'
          have e3 : putKs (pre.map fun n => DK.k (.inr n)) (.k (.inr n)) = (pre ++ [n]).map fun n => DK.k (.inr n) := by
            unfold putKs
            rw [hc, List.map_append]
            rfl
          have e4 : (putSV (pre.map fun n => DK.k (.inr n)) ((pre.map f).map .fz) (.k (.inr n)) (f n) false).2 = ((pre ++ [n]).map f).map .fz := by
            unfold putSV
            rw [hc, List.map_append, List.map_append]
            rfl
          have := ih (pre ++ [n]) (by rw [List.append_assoc]; exact hnd) (by simp at hl ⊢; omega) fun m hm' => hm m (List.mem_cons_of_mem _ hm')
          rw [List.append_assoc] at this
          show dcGo t cYes kx el vs (D.str n :: r.map D.str) _ τ = _
          unfold dcGo
          rw [hw, ht]
          dsimp only
          rw [show cYes τ1 = some (.ok true, τ1) from rfl]
          dsimp only
          rw [e1]
          dsimp only
          rw [show keyK (.str n) = some (.inr n) from rfl]
          dsimp only
          rw [e2]
          dsimp only
          rw [if_pos (by rw [List.length_map]; simp at hl; omega), e3, e4, hw4]
          exact this
  exact ⟨_, _, τ, key ns [] (by simpa using hn) (by simpa using hz) (fun _ h => h), by simpa using q⟩
end
end VS

/-! ## V2: leaves, and tactics that step -/
namespace VS
open PySem PySem.Spec PyProof.Rows L2
/-- a slice of anything -/
def cutG {α : Type} (xs : List α) (lo hi : Option Int) : List α := (xs.drop (HT.sIx xs.length 0 lo)).take (HT.sIx xs.length xs.length hi - HT.sIx xs.length 0 lo)
theorem cut_map {α : Type} (f : α → D) (xs : List α) (lo hi : Option Int) : VS.cutD (xs.map f) lo hi = (cutG xs lo hi).map f := by
  unfold VS.cutD cutG
  rw [List.length_map, ← List.map_drop, ← List.map_take]
theorem cut_len {α : Type} (l : List α) (lo hi : Option Int) : (cutG l lo hi).length ≤ l.length := by
  unfold cutG
  rw [List.length_take, List.length_drop]
  omega
theorem cut_mem {α : Type} {l : List α} {lo hi : Option Int} {d : α} (h : d ∈ cutG l lo hi) : d ∈ l := by
  unfold cutG at h
  exact List.mem_of_mem_drop (List.mem_of_mem_take h)
section
variable {A : SV → Prop} {i j : Int} {a b : Str} {x y : D} {s : SV} {l m : List D} {f : D → D → Option SV} {f1 : D → Option SV}
theorem v_lf2 (e : f x y = some s) (q : A s) : ∃ s, f x y = some s ∧ A s := ⟨s, e, q⟩
theorem v_outE {pin : List Nat} {τ' : Tau} {n : Nat} {args o : List SV} {A : List SV → Prop} (e : outs pin τ' n args = some o) (q : A o) : ∃ o, outs pin τ' n args = some o ∧ A o := ⟨o, e, q⟩
theorem fuel_le {τ : Tau} {n : Nat} (h : n < (τ.map fuelS).sum + 1099511627776) : n < fuelT τ := by unfold fuelT; exact h
theorem v_lf1 (e : f1 x = some s) (q : A s) : ∃ s, f1 x = some s ∧ A s := ⟨s, e, q⟩
theorem v_addI (q : A (.fz (.int (i + j)))) : ∃ s, addF (.int i) (.int j) = some s ∧ A s := ⟨_, rfl, q⟩
theorem v_addS (h : a.length + b.length ≤ sizeLine) (q : A (.fz (.str (a ++ b)))) : ∃ s, addF (.str a) (.str b) = some s ∧ A s := ⟨_, if_pos h, q⟩
theorem v_addL (h : l.length + m.length ≤ sizeLine) (q : A (.mu .lst ((l ++ m).map .fz))) : ∃ s, addF (.ob .lst l) (.ob .lst m) = some s ∧ A s := ⟨_, if_pos h, q⟩
theorem v_addT (h : l.length + m.length ≤ sizeLine) (q : A (.fz (.tup (l ++ m)))) : ∃ s, addF (.tup l) (.tup m) = some s ∧ A s := ⟨_, if_pos h, q⟩
theorem v_subI (q : A (.fz (.int (i - j)))) : ∃ s, subF (.int i) (.int j) = some s ∧ A s := ⟨_, rfl, q⟩
theorem mulOk_l (h1 : -(2 ^ 64) < i) (h2 : i < 2 ^ 64) : mulOk i j = true := by
  unfold mulOk
  rw [decide_eq_true (⟨h1, h2⟩ : -(2 ^ 64) < i ∧ i < 2 ^ 64)]
  rfl
theorem mulOk_r (h1 : -(2 ^ 64) < j) (h2 : j < 2 ^ 64) : mulOk i j = true := by
  unfold mulOk
  rw [decide_eq_true (⟨h1, h2⟩ : -(2 ^ 64) < j ∧ j < 2 ^ 64)]
  rw [Bool.true_or, Bool.or_true]
theorem v_mulI (h : mulOk i j = true) (q : A (.fz (.int (i * j)))) : ∃ s, mulF (.int i) (.int j) = some s ∧ A s := ⟨_, if_pos h, q⟩
theorem v_mulIl (h1 : -(2 ^ 64) < i) (h2 : i < 2 ^ 64) (q : A (.fz (.int (i * j)))) : ∃ s, mulF (.int i) (.int j) = some s ∧ A s := ⟨_, if_pos (mulOk_l h1 h2), q⟩
theorem v_mulIr (h1 : -(2 ^ 64) < j) (h2 : j < 2 ^ 64) (q : A (.fz (.int (i * j)))) : ∃ s, mulF (.int i) (.int j) = some s ∧ A s := ⟨_, if_pos (mulOk_r h1 h2), q⟩
theorem v_modI (h : 0 < j) (q : A (.fz (.int (i % j)))) : ∃ s, modF (.int i) (.int j) = some s ∧ A s := ⟨_, if_pos h, q⟩
theorem v_divI (h : 0 < j) (h2 : j < 1073741824) (q : A (.fz (.int (i / j)))) : ∃ s, fdivF (.int i) (.int j) = some s ∧ A s := ⟨_, if_pos ⟨h, by unfold divOk; rw [decide_eq_true h2]; rfl⟩, q⟩
theorem v_divIg (h : 0 < j) (h2 : divOk j = true) (q : A (.fz (.int (i / j)))) : ∃ s, fdivF (.int i) (.int j) = some s ∧ A s := ⟨_, if_pos ⟨h, h2⟩, q⟩
theorem v_powI (h : 0 ≤ j) (h2 : j ≤ 1000000) (h3 : i.natAbs < 2 ^ 64) (q : A (.fz (.int (i ^ j.toNat)))) : ∃ s, powF (.int i) (.int j) = some s ∧ A s := ⟨_, if_pos ⟨h, h2, h3⟩, q⟩
theorem v_ltI (q : A (.fz (.bl (decide (i < j))))) : ∃ s, ltF (.int i) (.int j) = some s ∧ A s := ⟨_, rfl, q⟩
theorem v_leI (q : A (.fz (.bl (decide (i ≤ j))))) : ∃ s, leF (.int i) (.int j) = some s ∧ A s := ⟨_, rfl, q⟩
theorem v_gtI (q : A (.fz (.bl (decide (j < i))))) : ∃ s, gtF (.int i) (.int j) = some s ∧ A s := ⟨_, rfl, q⟩
theorem v_geI (q : A (.fz (.bl (decide (j ≤ i))))) : ∃ s, geF (.int i) (.int j) = some s ∧ A s := ⟨_, rfl, q⟩
theorem v_eqI (q : A (.fz (.bl (decide (i = j))))) : ∃ s, eqF (.int i) (.int j) = some s ∧ A s := ⟨_, rfl, q⟩
theorem v_neI (q : A (.fz (.bl (!decide (i = j))))) : ∃ s, neF (.int i) (.int j) = some s ∧ A s := ⟨_, rfl, q⟩
theorem v_eqS (q : A (.fz (.bl (decide (a = b))))) : ∃ s, eqF (.str a) (.str b) = some s ∧ A s := ⟨_, rfl, q⟩
theorem v_neS (q : A (.fz (.bl (!decide (a = b))))) : ∃ s, neF (.str a) (.str b) = some s ∧ A s := ⟨_, rfl, q⟩
theorem v_negI (q : A (.fz (.int (-i)))) : ∃ s, negF (.int i) = some s ∧ A s := ⟨_, rfl, q⟩
theorem v_absI (q : A (.fz (.int (if i < 0 then -i else i)))) : ∃ s, absF (.int i) = some s ∧ A s := ⟨_, rfl, q⟩
theorem v_intI (q : A (.fz (.int i))) : ∃ s, intF (.int i) = some s ∧ A s := ⟨_, rfl, q⟩
theorem v_isiT {tb : String → Bool} {cs : List Nat} {cb : Nat → Bool} {n : String} (h : tyN x = some n) (h2 : tb n = true) (q : A (.fz (.bl true))) : ∃ s, isiF tb cs cb x = some s ∧ A s := ⟨_, by unfold isiF; rw [h]; dsimp only; rw [h2], q⟩
theorem v_isiF {tb : String → Bool} {cs : List Nat} {cb : Nat → Bool} {n : String} (h : tyN x = some n) (h2 : tb n = false) (q : A (.fz (.bl false))) : ∃ s, isiF tb cs cb x = some s ∧ A s := ⟨_, by unfold isiF; rw [h]; dsimp only; rw [h2], q⟩
theorem v_lenS (h : a.length ≤ sizeLine) (q : A (.fz (.int a.length))) : ∃ s, lenF (.str a) = some s ∧ A s := ⟨_, if_pos h, q⟩
theorem v_lenL (q : A (.fz (.int l.length))) : ∃ s, lenF (.ob .lst l) = some s ∧ A s := ⟨_, rfl, q⟩
theorem v_lenT (q : A (.fz (.int l.length))) : ∃ s, lenF (.tup l) = some s ∧ A s := ⟨_, rfl, q⟩
theorem v_lenO (q : A (.fz (.int l.length))) : ∃ s, lenF (.fro l) = some s ∧ A s := ⟨_, rfl, q⟩
theorem v_lenD {t : Bool} {ks : List DK} (q : A (.fz (.int l.length))) : ∃ s, lenF (.ob (.dct t ks) l) = some s ∧ A s := ⟨_, rfl, q⟩
theorem v_sliL {lo hi : Option Int} (q : A (.mu .lst ((cutD l lo hi).map .fz))) : ∃ s, sliceF lo hi (.ob .lst l) = some s ∧ A s := ⟨_, rfl, q⟩
theorem v_sliO {lo hi : Option Int} (q : A (.mu .lst ((cutD l lo hi).map .fz))) : ∃ s, sliceF lo hi (.fro l) = some s ∧ A s := ⟨_, rfl, q⟩
theorem v_sliT {lo hi : Option Int} (q : A (.fz (.tup (cutD l lo hi)))) : ∃ s, sliceF lo hi (.tup l) = some s ∧ A s := ⟨_, rfl, q⟩
theorem v_sliS {lo hi : Option Int} (h : a.length ≤ sizeLine) (q : A (.fz (.str (cutS a lo hi)))) : ∃ s, sliceF lo hi (.str a) = some s ∧ A s := ⟨_, if_pos h, q⟩
theorem v_itmL {A : List D → Prop} (q : A l) : ∃ m, itemsD (.ob .lst l) = some m ∧ A m := ⟨_, rfl, q⟩
theorem v_itmT {A : List D → Prop} (q : A l) : ∃ m, itemsD (.tup l) = some m ∧ A m := ⟨_, rfl, q⟩
theorem v_itmO {A : List D → Prop} (q : A l) : ∃ m, itemsD (.fro l) = some m ∧ A m := ⟨_, rfl, q⟩
theorem v_dName {i : Nat} {d : D} {τ : Tau} {A : Tau → Prop} (q : A (τ.set i (some (.fz d)))) : ∃ τ1, dName i d τ = some τ1 ∧ A τ1 := ⟨_, rfl, q⟩
theorem v_cYes {τ : Tau} {A : Bool → Tau → Prop} {B : Nat → List Str → List D → Tau → Prop} (q : A true τ) : Rm cYes τ A B := ⟨.ok true, τ, rfl, q⟩
theorem v_setL {sl : List SV} {j : Nat} {d : D} {N : Hd → List SV → Prop} (h : ixN sl.length i = some j) (q : N .lst (sl.set j (.fz d))) : ∃ h1 l1 h2 l2, (some (some (SV.mu .lst sl)) : Option (Option SV)) = some (some (.mu h1 l1)) ∧ setSV h1 l1 (.int i) d = some (h2, l2) ∧ N h2 l2 := ⟨_, _, _, _, rfl, by show (ixN sl.length i).map _ = _; rw [h]; rfl, q⟩
theorem v_sz {n : Nat} {P : Prop} (h : n ≤ sizeLine) (q : P) : n ≤ sizeLine ∧ P := ⟨h, q⟩
theorem v_put0 {τ : Tau} {i : Nat} {h : Hd} {sl : List SV} {P : Hd → List SV → Prop} (e : τ[i]? = some (some (.mu h sl))) (q : P h sl) : ∃ h0 l0, τ[i]? = some (some (.mu h0 l0)) ∧ P h0 l0 := ⟨h, sl, e, q⟩
theorem v_put1 {τ : Tau} {i : Nat} {h hh : Hd} {sl ll : List SV} {k d : D} {P : Hd → List SV → Prop} (e : τ[i]? = some (some (.mu h sl))) (e2 : setSV h sl k d = some (hh, ll)) (q : P hh ll) : ∃ h1 l1 h2 l2, τ[i]? = some (some (.mu h1 l1)) ∧ setSV h1 l1 k d = some (h2, l2) ∧ P h2 l2 := ⟨h, sl, hh, ll, e, e2, q⟩
theorem v_itmS {A : List D → Prop} (q : A (a.cps.toList.map fun c => D.str ⟨#[c]⟩)) : ∃ m, itemsD (.str a) = some m ∧ A m := ⟨_, rfl, q⟩
theorem v_op2Rl {τ : Tau} {p : PB} (e1 : bView p τ = some y) (e2 : f x y = some s) (q : A s) : ∃ y s, bView p τ = some y ∧ f x y = some s ∧ A s := ⟨y, s, e1, e2, q⟩
theorem v_inS {τ : Tau} {p : PB} {c : Nat} (e1 : bView p τ = some (.str a)) (q : A (.fz (.bl (decide (c ∈ a.cps.toList))))) : ∃ y s, bView p τ = some y ∧ inF false (.str ⟨#[c]⟩) y = some s ∧ A s := ⟨_, _, e1, rfl, q⟩
theorem v_ninS {τ : Tau} {p : PB} {c : Nat} (e1 : bView p τ = some (.str a)) (q : A (.fz (.bl (!decide (c ∈ a.cps.toList))))) : ∃ y s, bView p τ = some y ∧ inF true (.str ⟨#[c]⟩) y = some s ∧ A s := ⟨_, _, e1, rfl, q⟩
theorem divOk_sm (h : j.natAbs < 2 ^ 9000) : divOk j = true := by
  have : j.natAbs.log2 < 9000 := by
    by_cases z : j.natAbs = 0
    · rw [z]; decide
    · exact (Nat.log2_lt z).mpr h
  unfold divOk
  rw [decide_eq_true this, Bool.or_true]
theorem mulOk_sm {n m : Nat} (h1 : i.natAbs < 2 ^ n) (h2 : j.natAbs < 2 ^ m) (h : n + m < 1000000) : mulOk i j = true := by
  have lg : ∀ {a n : Nat}, a < 2 ^ n → a.log2 ≤ n := fun {a n} h => by
    by_cases z : a = 0
    · subst z; exact Nat.zero_le _
    · exact Nat.le_of_lt ((Nat.log2_lt z).mpr h)
  have := lg h1
  have := lg h2
  unfold mulOk
  rw [decide_eq_true (show i.natAbs.log2 + j.natAbs.log2 < 1000000 by omega), Bool.or_true, Bool.or_true]
theorem v_iteNT {P Q : Prop} (q : P) : if (!false) = true then P else Q := q
theorem v_iteNF {P Q : Prop} (q : Q) : if (!true) = true then P else Q := q
theorem v_app {τ : Tau} {i : Nat} {xs : List D} {d : D} {P : Hd → List SV → D → Prop} (h : xs.length < sizeLine) (e : τ[i]? = some (some (.mu .lst (xs.map .fz)))) (q : P .lst ((xs ++ [d]).map .fz) .non) : ∃ h1 l1 h2 l2 d', τ[i]? = some (some (.mu h1 l1)) ∧ appendM h1 l1 [d] = some (h2, l2, d') ∧ P h2 l2 d' := ⟨.lst, xs.map .fz, _, _, _, e, if_pos (by rw [List.length_map]; exact h), by rw [List.map_append] at q; exact q⟩
theorem v_ext {τ : Tau} {i : Nat} {xs m : List D} {P : Hd → List SV → D → Prop} (h : xs.length + m.length ≤ sizeLine) (e : τ[i]? = some (some (.mu .lst (xs.map .fz)))) (q : P .lst ((xs ++ m).map .fz) .non) : ∃ h1 l1 h2 l2 d', τ[i]? = some (some (.mu h1 l1)) ∧ extendM h1 l1 [.ob .lst m] = some (h2, l2, d') ∧ P h2 l2 d' := ⟨.lst, xs.map .fz, _, _, _, e, if_pos (by rw [List.length_map]; exact h), by rw [List.map_append] at q; exact q⟩
theorem strsD_map' : ∀ ns : List Str, strsD (ns.map D.str) = some ns
  | [] => rfl
  | c :: r => by simp only [List.map_cons, strsD, strsD_map' r, Option.map_some]
theorem v_sorted {ns : List Str} (q : A (.mu .lst (((sortS ns).map D.str).map .fz))) : ∃ s, sortedF (.ob .lst (ns.map D.str)) = some s ∧ A s := ⟨_, by
  show (strsD (ns.map D.str)).map _ = _
  rw [strsD_map']
  rfl, q⟩
theorem v_rb1 {m : Int} {P : Prop} (h : -(2 ^ 62) ≤ m ∧ m < 2 ^ 62) (q : P) : (-(2 ^ 62) ≤ m ∧ m < 2 ^ 62) ∧ P := ⟨h, q⟩
theorem v_rb2 {P : Int → Int → Prop} (h : -(2 ^ 62) ≤ i ∧ i < 2 ^ 62 ∧ -(2 ^ 62) ≤ j ∧ j < 2 ^ 62) (q : P i j) : ∃ m k, D.int i = .int m ∧ D.int j = .int k ∧ (-(2 ^ 62) ≤ m ∧ m < 2 ^ 62 ∧ -(2 ^ 62) ≤ k ∧ k < 2 ^ 62) ∧ P m k := ⟨i, j, rfl, rfl, h, q⟩
theorem intsD_map' : ∀ ns : List Int, intsD (ns.map D.int) = some ns
  | [] => rfl
  | c :: r => by simp only [List.map_cons, intsD, intsD_map' r, Option.map_some]
theorem v_sum {ns : List Int} (q : A (.fz (.int ns.sum))) : ∃ s, sumF (.ob .lst (ns.map D.int)) = some s ∧ A s := ⟨_, by
  show (intsD (ns.map D.int)).map _ = _
  rw [intsD_map']
  rfl, q⟩
theorem bsD_map' : ∀ ns : List Bool, bsD (ns.map D.bl) = some ns
  | [] => rfl
  | c :: r => by simp only [List.map_cons, bsD, bsD_map' r, Option.map_some]
theorem v_all {ns : List Bool} (q : A (.fz (.bl (ns.all id)))) : ∃ s, allF (.ob .lst (ns.map D.bl)) = some s ∧ A s := ⟨_, by
  show (bsD (ns.map D.bl)).map _ = _
  rw [bsD_map']
  rfl, q⟩
theorem putSf_new {s : SV} {fl : Str} : ∀ (fs : List Str) (l : List SV), fl ∉ fs → fs.length = l.length → putSf fs l fl s = (fs ++ [fl], l ++ [s])
  | [], [], _, _ => rfl
  | [], _ :: _, _, h => by cases h
  | _ :: _, [], _, h => by cases h
  | f :: fs, x :: l, hn, h => by
    unfold putSf
    rw [if_neg (fun e => hn (by rw [e]; exact List.mem_cons_self)), putSf_new fs l (fun m => hn (List.mem_cons_of_mem _ m)) (by simpa using h)]
    rfl
theorem v_fldN {τ : Tau} {i c : Nat} {cs : List Nat} {fs : List Str} {sl : List SV} {P : Nat → List Str → List SV → Prop} (e : τ[i]? = some (some (.mu (.ins c fs) sl))) (hc : c ∈ cs) (hl : fs.length < 1000) (q : P c fs sl) : ∃ c fs l, τ[i]? = some (some (.mu (.ins c fs) l)) ∧ (c ∈ cs ∧ fs.length < 1000) ∧ P c fs l := ⟨c, fs, sl, e, ⟨hc, hl⟩, q⟩
theorem v_iteT {P Q : Prop} (q : P) : if true = true then P else Q := q
theorem v_iteF {P Q : Prop} (q : Q) : if false = true then P else Q := q
theorem v_ite {t : Bool} {P Q : Prop} (h1 : t = true → P) (h2 : t = false → Q) : if t = true then P else Q := by
  cases t with
  | true => exact h1 rfl
  | false => exact h2 rfl
theorem v_iteD {p : Prop} [Decidable p] {P Q : Prop} (h1 : p → P) (h2 : ¬ p → Q) : if decide p = true then P else Q := v_ite (fun h => h1 (of_decide_eq_true h)) fun h => h2 (of_decide_eq_false h)
theorem v_iteN {p : Prop} [Decidable p] {P Q : Prop} (h1 : ¬ p → P) (h2 : p → Q) : if (!decide p) = true then P else Q := v_ite (fun h => h1 (by simpa using h)) fun h => h2 (by simpa using h)
theorem toD_fz (d : D) : SV.toD (.fz d) = d := rfl
theorem toD_mu (h : Hd) (l : List D) : SV.toD (.mu h (l.map .fz)) = .ob h l := congrArg (D.ob h) (toDs_fz l)
theorem toD_mu' (h : Hd) (l : List SV) : SV.toD (.mu h l) = .ob h (toDs l) := rfl
theorem toDs_nil : toDs [] = [] := rfl
theorem toDs_cons (d : D) (l : List SV) : toDs (.fz d :: l) = d :: toDs l := rfl
theorem view_fz (d : D) : SV.view (.fz d) = some d := rfl
theorem view_mu (h : Hd) (l : List D) : SV.view (.mu h (l.map .fz)) = some (.ob h l) := by
  show (allFz (l.map SV.fz)).map (D.ob h) = _
  rw [allFz_map]; rfl
theorem view_of {τ : Tau} {i : Nat} {d : D} (h : τ[i]? = some (some (.fz d))) : bView (bVar i) τ = some d := by unfold bView bVar; rw [h]; rfl
theorem view_ofL {τ : Tau} {i : Nat} {h : Hd} {l : List D} (e : τ[i]? = some (some (.mu h (l.map .fz)))) : bView (bVar i) τ = some (.ob h l) := by unfold bView bVar; rw [e]; exact view_mu h l
theorem view_B {τ : Tau} {p : PB} {d : D} (h : p τ = some (.fz d)) : bView p τ = some d := by unfold bView; rw [h]; rfl
theorem atI_pos {α : Type} {xs : List α} {n : Nat} {x : α} (h : xs[n]? = some x) : L2.atI xs (n : Int) = some x := by
  have hl : n < xs.length := by
    rcases Nat.lt_or_ge n xs.length with h2 | h2
    · exact h2
    · rw [List.getElem?_eq_none h2] at h; cases h
  unfold L2.atI L2.ixN
  rw [if_pos (Int.natCast_nonneg n), if_pos (by omega), Option.bind_some]
  exact h
/-- x[i] of a slot that holds an own list -/
theorem bIx_L {τ : Tau} {k : Nat} {l : List SV} {p : PB} {i : Int} {s : SV} (e : τ[k]? = some (some (.mu .lst l))) (hp : p τ = some (.fz (.int i))) (h : L2.atI l i = some s) : bIx (bVar k) p τ = some s := by
  unfold bIx
  rw [show bVar k τ = some (.mu .lst l) by unfold bVar; rw [e]; rfl, Option.bind_some, hp, Option.bind_some]
  exact h
theorem bIx_S {τ : Tau} {o p : PB} {z : Str} {i : Int} {c : Nat} (e : o τ = some (.fz (.str z))) (hp : p τ = some (.fz (.int i))) (hz : z.length ≤ sizeLine) (h : L2.atI z.cps.toList i = some c) : bIx o p τ = some (.fz (.str ⟨#[c]⟩)) := by
  unfold bIx
  rw [e, Option.bind_some, hp, Option.bind_some]
  show (if z.length ≤ sizeLine then (L2.atI z.cps.toList i).map fun c => SV.fz (.str ⟨#[c]⟩) else none) = _
  rw [if_pos hz, h]
  rfl
theorem bIx_F {τ : Tau} {o p : PB} {x k : D} {s : SV} (e : o τ = some (.fz x)) (hp : p τ = some (.fz k)) (h : ixF x k = some s) : bIx o p τ = some s := by
  unfold bIx
  rw [e, Option.bind_some, hp, Option.bind_some]
  exact h
theorem ixF_L {i : Int} {d : D} (h : L2.atI l i = some d) : ixF (.ob .lst l) (.int i) = some (.fz d) := by
  show ((seqD (.ob .lst l)).bind fun l => (L2.atI l i).map SV.fz) = _
  rw [show seqD (.ob .lst l) = some l from rfl, Option.bind_some, h]
  rfl
theorem ixF_T {i : Int} {d : D} (h : L2.atI l i = some d) : ixF (.tup l) (.int i) = some (.fz d) := by
  show ((seqD (.tup l)).bind fun l => (L2.atI l i).map SV.fz) = _
  rw [show seqD (.tup l) = some l from rfl, Option.bind_some, h]
  rfl
theorem ixF_D {ks : List DK} {z : Str} {d : D} (h : dLook ks l (.k (.inr z)) = some d) : ixF (.ob (.dct false ks) l) (.str z) = some (.fz d) := by
  show ((lookF false ks l (.str z)).bind id).map SV.fz = _
  rw [show lookF false ks l (.str z) = some (dLook ks l (.k (.inr z))) from rfl, h]
  rfl
end
end VS

namespace Lw
open PySem PySem.Spec PyProof.Rows L2 VS
def Txt_mt_NoCode : Nat → Option Bool := fun c => match c with
  | 12 => some true
  | _ => none
def Txt_mt_StretchError : Nat → Option Bool := fun c => match c with
  | 12 => some true
  | _ => none

/-- is_ascending(word): slots 0 word, 1 at -/
def m_is_ascending : SC := (sSeq (sFor (itR2 (mC (.int 1)) (frz (mOp1B lenF (bVar 0)))) (dName 1)
  (sIf (cB (frz (mOp2 geF (mB (bIx (bVar 0) (bOp2 subF (bVar 1) (bC (.int 1))))) (mB (bIx (bVar 0) (bVar 1)))))) (sRet (up (mC (.bl false)))) sNx))
  (sRet (up (mC (.bl true)))))
def f_is_ascending : Fn := ary 1 (mkFn 2 [0] m_is_ascending)
/-- is_string_of(thing, signs): slots 0 thing, 1 signs, 2 sign -/
def m_is_string_of : SC := (sSeq (sIf (cNot (cB (frz (mIsi (isiF tbStr [] fun _ => false) (bVar 0))))) (sRet (up (mC (.bl false)))) sNx)
  (sSeq (sFor (itD (mVar 0)) (dName 2)
  (sIf (cB (frz (mOp2R (inF true) (mVar 2) (bVar 1)))) (sRet (up (mC (.bl false)))) sNx))
  (sRet (up (mC (.bl true))))))
def f_is_string_of : Fn := ary 2 (mkFn 3 [0, 1] m_is_string_of)
/-- is_word(thing): slots 0 thing -/
def m_is_word : SC := (sRet (up (mAnd (frz (mCall f_is_string_of (rN 0 (rD (mC (.str "abcdefghijklmnopqrstuvwxyz")) rNil)))) (frz (mOp2 gtF (frz (mOp1B lenF (bVar 0))) (mC (.int 0)))))))
def f_is_word : Fn := ary 1 (mkFn 1 [0] m_is_word)
/-- is_rows(thing): slots 0 thing -/
def m_is_rows : SC := (sRet (up (mAnd (frz (mCall f_is_word (rN 0 rNil))) (mAnd (frz (mOp2 leF (frz (mOp1B lenF (bVar 0))) (mC (.int 4)))) (frz (mCall f_is_ascending (rN 0 rNil)))))))
def f_is_rows : Fn := ary 1 (mkFn 1 [0] m_is_rows)
/-- common_divisor(one, other): slots 0 one, 1 other -/
def m_common_divisor : SC := (sSeq (sWhileT (cB (frz (mOp2B neF (bVar 1) (bC (.int 0)))))
  (sPar 0 1 (mVar 1) (frz (mOp2 modF (frz (mOp1B intF (bVar 0))) (mVar 1)))))
  (sRet (up (mVar 0))))
def f_common_divisor : Fn := ary 2 (mkFn 2 [] m_common_divisor)
/-- is_integer(thing): slots 0 thing -/
def m_is_integer : SC := (sRet (up (mAnd (frz (mIsi (isiF tbInt [] fun _ => false) (bVar 0))) (mNot (frz (mIsi (isiF tbBool [] fun _ => false) (bVar 0)))))))
def f_is_integer : Fn := ary 1 (mkFn 1 [0] m_is_integer)
/-- is_pair(thing): slots 0 thing -/
def m_is_pair : SC := (sRet (up (mAnd (frz (mIsi (isiF tbTup [] fun _ => false) (bVar 0))) (frz (mOp2 eqF (frz (mOp1B lenF (bVar 0))) (mC (.int 2)))))))
def f_is_pair : Fn := ary 1 (mkFn 1 [0] m_is_pair)
/-- is_fraction(thing): slots 0 thing -/
def m_is_fraction : SC := (sSeq (sIf (cOr (cNot (cB (frz (mCall f_is_pair (rN 0 rNil))))) (cOr (cNot (cB (frz (mCall f_is_integer (rD (mB (bIx (bVar 0) (bC (.int 0)))) rNil))))) (cOr (cNot (cB (frz (mCall f_is_integer (rD (mB (bIx (bVar 0) (bC (.int 1)))) rNil))))) (cB (frz (mOp2 ltF (mB (bIx (bVar 0) (bC (.int 1)))) (mC (.int 1)))))))) (sRet (up (mC (.bl false)))) sNx)
  (sRet (mOp2 eqF (frz (mCall f_common_divisor (rD (frz (mOp1 absF (mB (bIx (bVar 0) (bC (.int 0)))))) (rD (mB (bIx (bVar 0) (bC (.int 1)))) rNil)))) (mC (.int 1)))))
def f_is_fraction : Fn := ary 1 (mkFn 1 [0] m_is_fraction)
/-- is_table(thing, names): slots 0 thing, 1 names, 2 name -/
def m_is_table : SC := (sSeq (sIf (cOr (cNot (cB (frz (mIsi (isiF tbDct [] fun _ => false) (bVar 0))))) (cB (frz (mOp2 neF (frz (mOp1B lenF (bVar 0))) (frz (mOp1B lenF (bVar 1))))))) (sRet (up (mC (.bl false)))) sNx)
  (sRet (mOp1 allF (frz (mLc [2] (itD (mVar 1)) (dName 2) cYes (mAnd (frz (mOp2R (inF false) (mVar 2) (bVar 0))) (frz (mCall f_is_fraction (rD (mB (bIx (bVar 0) (bVar 2))) rNil)))))))))
def f_is_table : Fn := ary 2 (mkFn 3 [0, 1] m_is_table)
/-- is_within(thing, least, most): slots 0 thing, 1 least, 2 most -/
def m_is_within : SC := (sRet (up (mAnd (frz (mCall f_is_integer (rN 0 rNil))) (mChain leF leF (mVar 1) (mVar 0) (mVar 2)))))
def f_is_within : Fn := ary 3 (mkFn 3 [0, 1, 2] m_is_within)
/-- is_width(thing): slots 0 thing -/
def m_is_width : SC := (sRet (mCall f_is_within (rN 0 (rD (mC (.int 1)) (rD (mC (.int 3)) rNil)))))
def f_is_width : Fn := ary 1 (mkFn 1 [0] m_is_width)
/-- codes_of_length(rows, length): slots 0 rows, 1 length, 2 found, 3 turn, 4 code, 5 row -/
def m_codes_of_length : SC := (sSeq (sSet 2 (mLst (aCons (mC (.str "")) aNil)))
  (sSeq (sFor (itR1 (mVar 1)) (dName 3)
  (sSet 2 (mLc2 [4, 5] [5] (itD (mVar 2)) (dName 4) (itD (mVar 0)) (dName 5) (frz (mOp2 addF (mVar 4) (mVar 5))))))
  (sRet (mMove 2))))
def f_codes_of_length : Fn := ary 2 (mkFn 6 [0, 1] m_codes_of_length)
/-- stretch_names(rows, width): slots 0 rows, 1 width, 2 found, 3 length, 4 code -/
def m_stretch_names : SC := (sSeq (sSet 2 (mCall f_codes_of_length (rN 0 (rN 1 rNil))))
  (sSeq (sFor (itR2 (mC (.int 1)) (mVar 1)) (dName 3)
  (sDrop (mMut "list" extendM 2 (aCons (frz (mLc [4] (itD (frz (mCall f_codes_of_length (rN 0 (rN 3 rNil))))) (dName 4) cYes (frz (mOp2 addF (mC (.str "^")) (mVar 4))))) aNil))))
  (sRet (mOp1B sortedF (bVar 2)))))
def f_stretch_names : Fn := ary 2 (mkFn 5 [0, 1] m_stretch_names)
/-- Prices.__init__(self, rows, width, table): slots 0 self, 1 rows, 2 width, 3 table, 4 names, 5 name -/
def m_Prices_init : SC := (sSeq (sIf (cNot (cB (frz (mCall f_is_rows (rN 1 rNil))))) sNever sNx)
  (sSeq (sIf (cNot (cB (frz (mCall f_is_width (rN 2 rNil))))) sNever sNx)
  (sSeq (sSet 4 (mCall f_stretch_names (rN 1 (rN 2 rNil))))
  (sSeq (sIf (cNot (cB (frz (mCall f_is_table (rN 3 (rN 4 rNil)))))) sNever sNx)
  (sSeq (sFld 0 [33] "rows" (up (mVar 1)))
  (sSeq (sFld 0 [33] "width" (up (mVar 2)))
  (sFld 0 [33] "kept_table" (mDc [5] (itD (mVar 4)) (dName 5) cYes (mVar 5) (mB (bIx (bVar 3) (bVar 5)))))))))))
def f_Prices_init : Fn := ary 4 (mkFn 6 [0, 1, 2, 3] m_Prices_init)
/-- _law_cut(_law_code, _law_width): slots 0 _law_code, 1 _law_width, 2 _law_found, 3 _law_k, 4 _law_begin -/
def m_law_cut : SC := (sSeq (sSet 2 (mLst aNil))
  (sSeq (sFor (itR1 (frz (mOp1B lenF (bVar 0)))) (dName 3)
  (sSeq (sSet 4 (mOp2 subF (frz (mOp2 addF (mVar 3) (mC (.int 1)))) (mVar 1)))
  (sDrop (mMut "list" appendM 2 (aCons (frz (mIf (cB (frz (mOp2 geF (mVar 4) (mC (.int 0))))) (mSlice (mVar 0) (oSome (mVar 4)) (oSome (frz (mOp2 addF (mVar 3) (mC (.int 1)))))) (mOp2 addF (mC (.str "^")) (frz (mSlice (mVar 0) oNone (oSome (frz (mOp2 addF (mVar 3) (mC (.int 1)))))))))) aNil)))))
  (sRet (mMove 2))))
def f_law_cut : Fn := ary 2 (mkFn 5 [0, 1] m_law_cut)
/-- _law_draw(_law_hand_here, _law_many): slots 0 _law_hand_here, 1 _law_many, 2 _law_cell, 3 _law_digit, 4 _law_number -/
def m_law_draw : SC := (sSeq (sIf (cAnd (cB (frz (mOp2 eqF (mB (bIx (bVar 0) (bC (.int 2)))) (mC (.int 0))))) (cB (frz (mOp2 ltF (mB (bIx (bVar 0) (bC (.int 1)))) (frz (mOp1 lenF (mB (bIx (bVar 0) (bC (.int 0)))))))))) (sSeq (sSet 2 (up (mB (bIx (bIx (bVar 0) (bC (.int 0))) (bIx (bVar 0) (bC (.int 1)))))))
  (sSeq (mPut 0 (frz (mOp2 addF (mB (bIx (bVar 0) (bC (.int 1)))) (mC (.int 1)))) (mC (.int 1)))
  (sSeq (mPut 0 (frz (mOp2 modF (frz (mOp1 intF (frz (mOp2 addF (frz (mOp2 addF (frz (mOp2 mulF (mB (bIx (bVar 0) (bC (.int 3)))) (mC (.int 69621)))) (mVar 2))) (mC (.int 11)))))) (mC (.int 2147483629)))) (mC (.int 3)))
  (sIf (cB (frz (mOp2 geF (mVar 2) (frz (mOp2 powF (mC (.int 10)) (mC (.int 18))))))) (mPut 0 (mVar 2) (mC (.int 2))) sNx)))) sNx)
  (sSeq (sIf (cB (frz (mOp2 gtF (mB (bIx (bVar 0) (bC (.int 2)))) (mC (.int 0))))) (sSeq (sSet 3 (mOp2 modF (frz (mOp1 intF (mB (bIx (bVar 0) (bC (.int 2)))))) (mVar 1)))
  (sSeq (mPut 0 (frz (mOp2 fdivF (mB (bIx (bVar 0) (bC (.int 2)))) (mVar 1))) (mC (.int 2)))
  (sRet (mMove 3)))) sNx)
  (sSeq (mPut 0 (frz (mOp2 addF (mB (bIx (bVar 0) (bC (.int 4)))) (mC (.int 1)))) (mC (.int 4)))
  (sSeq (sSet 4 (mOp2 modF (frz (mOp1 intF (frz (mOp2 mulF (frz (mOp1 intF (frz (mOp2 addF (mB (bIx (bVar 0) (bC (.int 3)))) (frz (mOp2 mulF (mC (.int 7919)) (mB (bIx (bVar 0) (bC (.int 4)))))))))) (mC (.int 48271)))))) (mC (.int 2147483647))))
  (sSeq (sSet 4 (mOp2 modF (frz (mOp1 intF (frz (mOp2 mulF (mVar 4) (frz (mOp2 addF (frz (mOp2 fdivF (mVar 4) (mC (.int 1009)))) (mC (.int 69621)))))))) (mC (.int 2147483647))))
  (sSeq (sSet 4 (mOp2 modF (frz (mOp1 intF (frz (mOp2 mulF (mVar 4) (frz (mOp2 addF (frz (mOp2 fdivF (mVar 4) (mC (.int 2003)))) (mC (.int 40692)))))))) (mC (.int 2147483399))))
  (sRet (mOp2 modF (frz (mOp1 intF (frz (mOp2 fdivF (mVar 4) (mC (.int 16)))))) (mVar 1)))))))))
def f_law_draw : Fn := ary 2 (mkFn 5 [0, 1] m_law_draw)
/-- _law_made(_law_top, _law_bottom): slots 0 _law_top, 1 _law_bottom, 2 _law_one, 3 _law_other, 4 _law_rest -/
def m_law_made : SC := (sSeq (sSet 2 (mOp1B absF (bVar 0)))
  (sSeq (sSet 3 (up (mVar 1)))
  (sSeq (sWhileT (cB (frz (mOp2B neF (bVar 3) (bC (.int 0)))))
  (sSeq (sSet 4 (mOp2 modF (frz (mOp1B intF (bVar 2))) (mVar 3)))
  (sSeq (sSet 2 (up (mVar 3)))
  (sSet 3 (up (mVar 4))))))
  (sRet (up (mTup (aCons (frz (mOp2 fdivF (mVar 0) (mVar 2))) (aCons (frz (mOp2 fdivF (mVar 1) (mVar 2))) aNil))))))))
def f_law_made : Fn := ary 2 (mkFn 5 [0, 1] m_law_made)
/-- _law_fraction(_law_hand_here): slots 0 _law_hand_here, 1 _law_bottom -/
def m_law_fraction : SC := (sSeq (sSet 1 (mOp2 addF (mC (.int 1)) (frz (mCall f_law_draw (rN 0 (rD (frz (mOp2 ixF (frz (mLst (aCons (mC (.int 1)) (aCons (mC (.int 2)) (aCons (mC (.int 6)) (aCons (mC (.int 30)) aNil)))))) (frz (mCall f_law_draw (rN 0 (rD (mC (.int 4)) rNil)))))) rNil))))))
  (sRet (mCall f_law_made (rD (frz (mOp2 subF (frz (mCall f_law_draw (rN 0 (rD (mC (.int 60)) rNil)))) (frz (mCall f_law_draw (rN 0 (rD (mC (.int 30)) rNil)))))) (rN 1 rNil)))))
def f_law_fraction : Fn := ary 1 (mkFn 2 [0] m_law_fraction)
/-- _law_hand(_law_script): slots 0 _law_script, 1 _law_cells, 2 _law_cell -/
def m_law_hand : SC := (sSeq (sSet 1 (mLc [2] (itD (frz (mSlice (mVar 0) oNone (oSome (mC (.int 63)))))) (dName 2) cYes (frz (mOp1 absF (frz (mOp1B intF (bVar 2)))))))
  (sRet (mLst (aCons (mVar 1) (aCons (mC (.int 0)) (aCons (mC (.int 0)) (aCons (frz (mOp2 addF (mC (.int 1)) (frz (mOp1B lenF (bVar 1))))) (aCons (mC (.int 0)) aNil))))))))
def f_law_hand : Fn := ary 1 (mkFn 3 [0] m_law_hand)
/-- _law_odd(_law_hand_here): slots 0 _law_hand_here, 1 _law_deep, 2 _law_turn, 3 _law_odd_here -/
def m_law_odd : SC := (sSeq (sSet 1 (mLst (aCons (mC .non) aNil)))
  (sSeq (sFor (itR1 (mC (.int 18))) (dName 2)
  (sSet 1 (mLst (aCons (mVar 1) aNil))))
  (sSeq (sSet 3 (mLst (aCons (mC .non) (aCons (mC (.bl true)) (aCons (mC (.bl false)) (aCons (mC (.str "A")) (aCons (mC (.str "a b")) (aCons (mC (.str "a1")) (aCons (frz (mLst (aCons (mC (.str "a")) aNil))) (aCons (frz (mDisp1 "a" (mC (.str "b")))) (aCons (frz (mLst aNil)) (aCons (frz mNewK) (aCons (mTup (aCons (mTup aNil) aNil)) (aCons (mTup (aCons (mC (.int 1)) aNil)) (aCons (mTup (aCons (mC (.str "a")) aNil)) (aCons (mVar 1) (aCons (mTup (aCons (mC (.str "a")) (aCons (mC (.str "b")) (aCons (mC (.str "c")) aNil)))) (aCons (mC (.str "^")) aNil))))))))))))))))))
  (sRet (mOp2 ixF (mVar 3) (frz (mCall f_law_draw (rN 0 (rD (frz (mOp1B lenF (bVar 3))) rNil)))))))))
def f_law_odd : Fn := ary 1 (mkFn 4 [0] m_law_odd)
/-- is_code(rows, thing): slots 0 rows, 1 thing -/
def m_is_code : SC := (sRet (mCall f_is_string_of (rN 1 (rN 0 rNil))))
def f_is_code : Fn := ary 2 (mkFn 2 [0, 1] m_is_code)
/-- stretches_of(code, width): slots 0 code, 1 width, 2 found, 3 last -/
def m_stretches_of : SC := (sSeq (sSet 2 (mLst aNil))
  (sSeq (sFor (itR2 (mC (.int 1)) (frz (mOp2 addF (frz (mOp1B lenF (bVar 0))) (mC (.int 1))))) (dName 3)
  (sDrop (mMut "list" appendM 2 (aCons (frz (mIf (cB (frz (mOp2 geF (mVar 3) (mVar 1)))) (mSlice (mVar 0) (oSome (frz (mOp2 subF (mVar 3) (mVar 1)))) (oSome (mVar 3))) (mOp2 addF (mC (.str "^")) (frz (mSlice (mVar 0) oNone (oSome (mVar 3))))))) aNil))))
  (sRet (mMove 2))))
def f_stretches_of : Fn := ary 2 (mkFn 4 [0, 1] m_stretches_of)
/-- made(top, bottom): slots 0 top, 1 bottom, 2 part -/
def m_made : SC := (sSeq (sIf (cB (frz (mOp2 ltF (mVar 1) (mC (.int 0))))) (sPar 0 1 (frz (mOp1 negF (mVar 0))) (frz (mOp1 negF (mVar 1)))) sNx)
  (sSeq (sSet 2 (mCall f_common_divisor (rD (frz (mOp1B absF (bVar 0))) (rN 1 rNil))))
  (sRet (up (mTup (aCons (frz (mOp2 fdivF (mVar 0) (mVar 2))) (aCons (frz (mOp2 fdivF (mVar 1) (mVar 2))) aNil)))))))
def f_made : Fn := ary 2 (mkFn 3 [] m_made)
/-- plus(one, other): slots 0 one, 1 other -/
def m_plus : SC := (sSeq (sIf (cB (frz (mOp2 eqF (mB (bIx (bVar 0) (bC (.int 1)))) (mB (bIx (bVar 1) (bC (.int 1))))))) (sRet (mCall f_made (rD (frz (mOp2 addF (mB (bIx (bVar 0) (bC (.int 0)))) (mB (bIx (bVar 1) (bC (.int 0)))))) (rD (mB (bIx (bVar 0) (bC (.int 1)))) rNil)))) sNx)
  (sRet (mCall f_made (rD (frz (mOp2 addF (frz (mOp2 mulF (mB (bIx (bVar 0) (bC (.int 0)))) (mB (bIx (bVar 1) (bC (.int 1)))))) (frz (mOp2 mulF (mB (bIx (bVar 1) (bC (.int 0)))) (mB (bIx (bVar 0) (bC (.int 1)))))))) (rD (frz (mOp2 mulF (mB (bIx (bVar 0) (bC (.int 1)))) (mB (bIx (bVar 1) (bC (.int 1)))))) rNil)))))
def f_plus : Fn := ary 2 (mkFn 2 [0, 1] m_plus)
/-- sum_of(fractions): slots 0 fractions, 1 found, 2 fraction -/
def m_sum_of : SC := (sSeq (sSet 1 (up (mC (.tup [.int 0, .int 1]))))
  (sSeq (sFor (itD (mVar 0)) (dName 2)
  (sSet 1 (mCall f_plus (rN 1 (rN 2 rNil)))))
  (sRet (mMove 1))))
def f_sum_of : Fn := ary 1 (mkFn 3 [0] m_sum_of)
/-- price_of(prices, code): slots 0 prices, 1 code, 2 stretch -/
def m_price_of : SC := (sRet (mCall f_sum_of (rD (frz (mLc [2] (itD (frz (mCall f_stretches_of (rN 1 (rD (mB (bFld [33] "width" (bVar 0))) rNil))))) (dName 2) cYes (mB (bIx (bFld [33] "kept_table" (bVar 0)) (bVar 2))))) rNil)))
def f_price_of : Fn := ary 2 (mkFn 3 [0, 1] m_price_of)
/-- price(prices, code): slots 0 prices, 1 code -/
def m_price : SC := (sSeq (sIf (cNot (cB (frz (mCall f_is_code (rD (mB (bFld [33] "rows" (bVar 0))) (rN 1 rNil)))))) (sRaise 12) sNx)
  (sRet (mCall f_price_of (rN 0 (rN 1 rNil)))))
def f_price : Fn := ary 2 (mkFn 2 [0, 1] m_price)
/-- _law_refused(_law_prices, _law_thing): slots 0 _law_prices, 1 _law_thing, 2 _law_refused_here, 3 e -/
def m_law_refused : SC := (sSeq (sSet 2 (up (mC (.bl false))))
  (sSeq (sTry (sDrop (frz (mCall f_price (rN 0 (rN 1 rNil))))) ((Txt_mt_NoCode, fun c fs l τ => if 3 < τ.length ∧ fs = [] then sB 2 (fun c => match c with | 12 => some (true && true) | _ => none) c (τ.set 3 none) else none) :: ((Txt_mt_StretchError, fun _ _ _ => (sSet 2 (up (mC (.bl false))))) :: [])))
  (sRet (mMove 2))))
def f_law_refused : Fn := ary 2 (mkFn 4 [0, 1] m_law_refused)
/-- _law_rows(_law_hand_here, _law_most): slots 0 _law_hand_here, 1 _law_most, 2 _law_many, 3 _law_found, 4 _law_rest, 5 _law_turn, 6 _law_at -/
def m_law_rows : SC := (sSeq (sSet 2 (mOp2 addF (mC (.int 1)) (frz (mCall f_law_draw (rN 0 (rN 1 rNil))))))
  (sSeq (sSet 3 (up (mC (.str ""))))
  (sSeq (sSet 4 (up (mC (.str "abcdefghijklmnopqrstuvwxyz"))))
  (sSeq (sFor (itR1 (mVar 2)) (dName 5)
  (sSeq (sSet 6 (mCall f_law_draw (rN 0 (rD (frz (mOp2 subF (frz (mOp1B lenF (bVar 4))) (frz (mOp2 subF (frz (mOp2 subF (mVar 2) (mVar 5))) (mC (.int 1)))))) rNil))))
  (sSeq (sSet 3 (mOp2 addF (mVar 3) (mB (bIx (bVar 4) (bVar 6)))))
  (sSet 4 (mSlice (mVar 4) (oSome (frz (mOp2 addF (mVar 6) (mC (.int 1))))) oNone)))))
  (sRet (mMove 3))))))
def f_law_rows : Fn := ary 2 (mkFn 7 [0, 1] m_law_rows)
/-- _law_common(_law_one, _law_other): slots 0 _law_one, 1 _law_other, 2 _law_rest -/
def m_law_common : SC := (sSeq (sWhileT (cB (frz (mOp2B neF (bVar 1) (bC (.int 0)))))
  (sSeq (sSet 2 (mOp2 modF (frz (mOp1B intF (bVar 0))) (mVar 1)))
  (sSeq (sSet 0 (up (mVar 1)))
  (sSet 1 (up (mVar 2))))))
  (sRet (up (mVar 0))))
def f_law_common : Fn := ary 2 (mkFn 3 [] m_law_common)
/-- _law_sum(_law_fractions): slots 0 _law_fractions, 1 _law_bottom, 2 _law_fraction_here -/
def m_law_sum : SC := (sSeq (sSet 1 (up (mC (.int 1))))
  (sSeq (sFor (itD (mVar 0)) (dName 2)
  (sSet 1 (mOp2 fdivF (frz (mOp2 mulF (mVar 1) (mB (bIx (bVar 2) (bC (.int 1)))))) (frz (mCall f_law_common (rN 1 (rD (mB (bIx (bVar 2) (bC (.int 1)))) rNil)))))))
  (sRet (mCall f_law_made (rD (frz (mOp1 sumF (frz (mLc [2] (itD (mVar 0)) (dName 2) cYes (frz (mOp2 mulF (mB (bIx (bVar 2) (bC (.int 0)))) (frz (mOp2 fdivF (mVar 1) (mB (bIx (bVar 2) (bC (.int 1)))))))))))) (rN 1 rNil))))))
def f_law_sum : Fn := ary 1 (mkFn 3 [0] m_law_sum)
/-- _law_names(_law_rows_here, _law_width): slots 0 _law_rows_here, 1 _law_width, 2 _law_found, 3 _law_codes, 4 _law_many, 5 _law_longer, 6 _law_code, 7 _law_row -/
def m_law_names : SC := (sSeq (sSet 2 (mLst aNil))
  (sSeq (sSet 3 (mLst (aCons (mC (.str "")) aNil)))
  (sSeq (sFor (itR2 (mC (.int 1)) (frz (mOp2 addF (mVar 1) (mC (.int 1))))) (dName 4)
  (sSeq (sSet 5 (mLst aNil))
  (sSeq (sFor (itD (mVar 3)) (dName 6)
  (sSet 5 (mOp2 addF (mVar 5) (frz (mLc [7] (itD (mVar 0)) (dName 7) cYes (frz (mOp2 addF (mVar 6) (mVar 7))))))))
  (sSeq (sSet 3 (up (mVar 5)))
  (sSet 2 (mOp2 addF (mVar 2) (frz (mLc [6] (itD (mVar 3)) (dName 6) cYes (frz (mOp2 addF (frz (mOp2 ixF (frz (mLst (aCons (mC (.str "")) (aCons (mC (.str "^")) aNil)))) (frz (mOp1 intF (frz (mOp2 ltF (mVar 4) (mVar 1))))))) (mVar 6)))))))))))
  (sRet (mMove 2)))))
def f_law_names : Fn := ary 2 (mkFn 8 [0, 1] m_law_names)
/-- _law_table(_law_hand_here, _law_rows_here, _law_width): slots 0 _law_hand_here, 1 _law_rows_here, 2 _law_width, 3 _law_table_here, 4 _law_name -/
def m_law_table : SC := (sSeq (sSet 3 mNewK)
  (sSeq (sFor (itD (frz (mCall f_law_names (rN 1 (rN 2 rNil))))) (dName 4)
  (mPut 3 (frz (mCall f_law_fraction (rN 0 rNil))) (mVar 4)))
  (sRet (mMove 3))))
def f_law_table : Fn := ary 3 (mkFn 5 [0, 1, 2] m_law_table)
/-- law(_law_script): slots 0 _law_script, 1 _law_hand_here, 2 _law_turn, 3 _law_rows_here, 4 _law_width, 5 _law_table_here, 6 _law_prices, 7 _law_code, 8 _law_stretches, 9 _law_one, 10 _law_name, 11 _law_far, 12 _law_thing, 13 _law_row, 14 _law_letter -/
def m_law : SC := (sSeq (sSet 1 (mCall f_law_hand (rN 0 rNil)))
  (sSeq (sFor (itR1 (mC (.int 2))) (dName 2)
  (sSeq (sSet 3 (mCall f_law_rows (rN 1 (rD (frz (mOp2 ixF (frz (mLst (aCons (mC (.int 3)) (aCons (mC (.int 3)) (aCons (mC (.int 4)) aNil))))) (frz (mCall f_law_draw (rN 1 (rD (mC (.int 3)) rNil)))))) rNil))))
  (sSeq (sSet 4 (mOp2 addF (mC (.int 1)) (frz (mCall f_law_draw (rN 1 (rD (frz (mOp2 subF (mC (.int 3)) (frz (mOp1 intF (frz (mOp2 gtF (frz (mOp1B lenF (bVar 3))) (mC (.int 3)))))))) rNil))))))
  (sSeq (sSet 5 (mCall f_law_table (rN 1 (rN 3 (rN 4 rNil)))))
  (sSeq (sSet 6 (mMake 33 f_Prices_init (rN 3 (rN 4 (rN 5 rNil)))))
  (sSeq (sSet 7 (mJoin (mC (.str "")) (frz (mLc [13] (itR1 (frz (mOp2 ixF (frz (mLst (aCons (mC (.int 0)) (aCons (mC (.int 1)) (aCons (mC (.int 2)) (aCons (mC (.int 8)) (aCons (mC (.int 60)) (aCons (mC (.int 200)) aNil)))))))) (frz (mCall f_law_draw (rN 1 (rD (mC (.int 6)) rNil))))))) (dName 13) cYes (frz (mOp2 ixF (mVar 3) (frz (mCall f_law_draw (rN 1 (rD (frz (mOp1B lenF (bVar 3))) rNil))))))))))
  (sSeq (sSet 8 (mCall f_law_cut (rN 7 (rN 4 rNil))))
  (sSeq (sIf (cOr (cB (frz (mOp2 neF (frz (mCall f_price (rN 6 (rN 7 rNil)))) (frz (mCall f_law_sum (rD (frz (mLc [10] (itD (mVar 8)) (dName 10) cYes (mB (bIx (bVar 5) (bVar 10))))) rNil)))))) (cB (frz (mOp2 neF (frz (mCall f_price (rN 6 (rD (mC (.str "")) rNil)))) (mTup (aCons (mC (.int 0)) (aCons (mC (.int 1)) aNil))))))) (sRet (up (mC (.bl false)))) sNx)
  (sSeq (sIf (cAnd (cB (frz (mOp2B neF (bVar 7) (bC (.str ""))))) (cB (frz (mOp2 neF (frz (mCall f_price (rN 6 (rN 7 rNil)))) (frz (mCall f_law_sum (rD (frz (mLst (aCons (frz (mCall f_price (rN 6 (rD (frz (mSlice (mVar 7) oNone (oSome (frz (mOp1 negF (mC (.int 1))))))) rNil)))) (aCons (mB (bIx (bVar 5) (bIx (bVar 8) (bOp1 negF (bC (.int 1)))))) aNil)))) rNil))))))) (sRet (up (mC (.bl false)))) sNx)
  (sSeq (sSet 9 (mCall f_law_fraction (rN 1 rNil)))
  (sSeq (sFor (itD (frz (mOp1B listF (bVar 5)))) (dName 10)
  (mPut 5 (mVar 9) (mVar 10)))
  (sSeq (sIf (cB (frz (mOp2 neF (frz (mCall f_price (rD (frz (mMake 33 f_Prices_init (rN 3 (rN 4 (rN 5 rNil))))) (rN 7 rNil)))) (frz (mCall f_law_made (rD (frz (mOp2 mulF (mB (bIx (bVar 9) (bC (.int 0)))) (frz (mOp1B lenF (bVar 7))))) (rD (mB (bIx (bVar 9) (bC (.int 1)))) rNil))))))) (sRet (up (mC (.bl false)))) sNx)
  (sSeq (sSet 11 (mOp2 ixF (frz (mLc [14] (itD (mC (.str "abcde"))) (dName 14) (cB (frz (mOp2R (inF true) (mVar 14) (bVar 3)))) (mVar 14))) (mC (.int 0))))
  (sSeq (sSet 7 (mSlice (mVar 7) oNone (oSome (mC (.int 100)))))
  (sFor (itD (frz (mLst (aCons (frz (mOp2 addF (mVar 7) (mVar 11))) (aCons (mVar 11) (aCons (frz (mOp1 upperF (mB (bIx (bVar 3) (bC (.int 0)))))) (aCons (frz (mOp1B listF (bVar 3))) (aCons (mTup (aCons (mB (bIx (bVar 3) (bC (.int 0)))) aNil)) (aCons (mC .non) (aCons (mC (.int 5)) (aCons (mC (.bl true)) (aCons (frz (mOp2 addF (mC (.str "^")) (mB (bIx (bVar 3) (bC (.int 0)))))) (aCons (frz (mCall f_law_odd (rN 1 rNil))) aNil))))))))))))) (dName 12)
  (sIf (cNot (cB (frz (mCall f_law_refused (rN 6 (rN 12 rNil)))))) (sRet (up (mC (.bl false)))) sNx))))))))))))))))
  (sRet (up (mC (.bl true))))))
def f_law : Fn := ary 1 (mkFn 15 [0] m_law)
def top (i : Nat) : Stmt := PySem.Challenge.pw_stretchprices_k14_whole_prices_of_codes.main.body.getD i (.Pass ⟨0, 0, 0, 0⟩)
abbrev s_common_divisor : Stmt := top 6
abbrev N_common_divisor : List Str := ["one", "other"]
theorem sc_common_divisor : FnScope N_common_divisor ["one", "other"] (defScope s_common_divisor) := ⟨rfl, rfl, rfl, by decide +kernel, rfl, by decide +kernel, by decide +kernel⟩
abbrev s_made : Stmt := top 7
abbrev N_made : List Str := ["top", "bottom", "part"]
theorem sc_made : FnScope N_made ["top", "bottom"] (defScope s_made) := ⟨rfl, rfl, rfl, by decide +kernel, rfl, by decide +kernel, by decide +kernel⟩
abbrev s_plus : Stmt := top 8
abbrev N_plus : List Str := ["one", "other"]
theorem sc_plus : FnScope N_plus ["one", "other"] (defScope s_plus) := ⟨rfl, rfl, rfl, by decide +kernel, rfl, by decide +kernel, by decide +kernel⟩
abbrev s_sum_of : Stmt := top 9
abbrev N_sum_of : List Str := ["fractions", "found", "fraction"]
theorem sc_sum_of : FnScope N_sum_of ["fractions"] (defScope s_sum_of) := ⟨rfl, rfl, rfl, by decide +kernel, rfl, by decide +kernel, by decide +kernel⟩
abbrev s_is_integer : Stmt := top 14
abbrev N_is_integer : List Str := ["thing"]
theorem sc_is_integer : FnScope N_is_integer ["thing"] (defScope s_is_integer) := ⟨rfl, rfl, rfl, by decide +kernel, rfl, by decide +kernel, by decide +kernel⟩
abbrev s_is_within : Stmt := top 15
abbrev N_is_within : List Str := ["thing", "least", "most"]
theorem sc_is_within : FnScope N_is_within ["thing", "least", "most"] (defScope s_is_within) := ⟨rfl, rfl, rfl, by decide +kernel, rfl, by decide +kernel, by decide +kernel⟩
abbrev s_is_pair : Stmt := top 16
abbrev N_is_pair : List Str := ["thing"]
theorem sc_is_pair : FnScope N_is_pair ["thing"] (defScope s_is_pair) := ⟨rfl, rfl, rfl, by decide +kernel, rfl, by decide +kernel, by decide +kernel⟩
abbrev s_is_string_of : Stmt := top 17
abbrev N_is_string_of : List Str := ["thing", "signs", "sign"]
theorem sc_is_string_of : FnScope N_is_string_of ["thing", "signs"] (defScope s_is_string_of) := ⟨rfl, rfl, rfl, by decide +kernel, rfl, by decide +kernel, by decide +kernel⟩
abbrev s_is_word : Stmt := top 18
abbrev N_is_word : List Str := ["thing"]
theorem sc_is_word : FnScope N_is_word ["thing"] (defScope s_is_word) := ⟨rfl, rfl, rfl, by decide +kernel, rfl, by decide +kernel, by decide +kernel⟩
abbrev s_is_ascending : Stmt := top 19
abbrev N_is_ascending : List Str := ["word", "at"]
theorem sc_is_ascending : FnScope N_is_ascending ["word"] (defScope s_is_ascending) := ⟨rfl, rfl, rfl, by decide +kernel, rfl, by decide +kernel, by decide +kernel⟩
abbrev s_is_rows : Stmt := top 20
abbrev N_is_rows : List Str := ["thing"]
theorem sc_is_rows : FnScope N_is_rows ["thing"] (defScope s_is_rows) := ⟨rfl, rfl, rfl, by decide +kernel, rfl, by decide +kernel, by decide +kernel⟩
abbrev s_is_code : Stmt := top 21
abbrev N_is_code : List Str := ["rows", "thing"]
theorem sc_is_code : FnScope N_is_code ["rows", "thing"] (defScope s_is_code) := ⟨rfl, rfl, rfl, by decide +kernel, rfl, by decide +kernel, by decide +kernel⟩
abbrev s_is_width : Stmt := top 22
abbrev N_is_width : List Str := ["thing"]
theorem sc_is_width : FnScope N_is_width ["thing"] (defScope s_is_width) := ⟨rfl, rfl, rfl, by decide +kernel, rfl, by decide +kernel, by decide +kernel⟩
abbrev s_is_fraction : Stmt := top 23
abbrev N_is_fraction : List Str := ["thing"]
theorem sc_is_fraction : FnScope N_is_fraction ["thing"] (defScope s_is_fraction) := ⟨rfl, rfl, rfl, by decide +kernel, rfl, by decide +kernel, by decide +kernel⟩
abbrev s_stretches_of : Stmt := top 25
abbrev N_stretches_of : List Str := ["code", "width", "found", "last"]
theorem sc_stretches_of : FnScope N_stretches_of ["code", "width"] (defScope s_stretches_of) := ⟨rfl, rfl, rfl, by decide +kernel, rfl, by decide +kernel, by decide +kernel⟩
abbrev s_codes_of_length : Stmt := top 26
abbrev N_codes_of_length : List Str := ["rows", "length", "found", "turn", "code", "row"]
theorem sc_codes_of_length : FnScope N_codes_of_length ["rows", "length"] (defScope s_codes_of_length) := ⟨rfl, rfl, rfl, by decide +kernel, rfl, by decide +kernel, by decide +kernel⟩
abbrev s_stretch_names : Stmt := top 27
abbrev N_stretch_names : List Str := ["rows", "width", "found", "length", "code"]
theorem sc_stretch_names : FnScope N_stretch_names ["rows", "width"] (defScope s_stretch_names) := ⟨rfl, rfl, rfl, by decide +kernel, rfl, by decide +kernel, by decide +kernel⟩
abbrev s_is_table : Stmt := top 28
abbrev N_is_table : List Str := ["thing", "names", "name"]
theorem sc_is_table : FnScope N_is_table ["thing", "names"] (defScope s_is_table) := ⟨rfl, rfl, rfl, by decide +kernel, rfl, by decide +kernel, by decide +kernel⟩
abbrev s_Prices_init : Stmt := inClass (top 29) 0
abbrev N_Prices_init : List Str := ["self", "rows", "width", "table", "names", "name"]
theorem sc_Prices_init : FnScope N_Prices_init ["self", "rows", "width", "table"] (defScope s_Prices_init) := ⟨rfl, rfl, rfl, by decide +kernel, rfl, by decide +kernel, by decide +kernel⟩
abbrev s_price_of : Stmt := top 30
abbrev N_price_of : List Str := ["prices", "code", "stretch"]
theorem sc_price_of : FnScope N_price_of ["prices", "code"] (defScope s_price_of) := ⟨rfl, rfl, rfl, by decide +kernel, rfl, by decide +kernel, by decide +kernel⟩
abbrev s_price : Stmt := top 31
abbrev N_price : List Str := ["prices", "code"]
theorem sc_price : FnScope N_price ["prices", "code"] (defScope s_price) := ⟨rfl, rfl, rfl, by decide +kernel, rfl, by decide +kernel, by decide +kernel⟩
abbrev s_law_hand : Stmt := top 33
abbrev N_law_hand : List Str := ["_law_script", "_law_cells", "_law_cell"]
theorem sc_law_hand : FnScope N_law_hand ["_law_script"] (defScope s_law_hand) := ⟨rfl, rfl, rfl, by decide +kernel, rfl, by decide +kernel, by decide +kernel⟩
abbrev s_law_draw : Stmt := top 34
abbrev N_law_draw : List Str := ["_law_hand_here", "_law_many", "_law_cell", "_law_digit", "_law_number"]
theorem sc_law_draw : FnScope N_law_draw ["_law_hand_here", "_law_many"] (defScope s_law_draw) := ⟨rfl, rfl, rfl, by decide +kernel, rfl, by decide +kernel, by decide +kernel⟩
abbrev s_law_rows : Stmt := top 35
abbrev N_law_rows : List Str := ["_law_hand_here", "_law_most", "_law_many", "_law_found", "_law_rest", "_law_turn", "_law_at"]
theorem sc_law_rows : FnScope N_law_rows ["_law_hand_here", "_law_most"] (defScope s_law_rows) := ⟨rfl, rfl, rfl, by decide +kernel, rfl, by decide +kernel, by decide +kernel⟩
abbrev s_law_odd : Stmt := top 36
abbrev N_law_odd : List Str := ["_law_hand_here", "_law_deep", "_law_turn", "_law_odd_here"]
theorem sc_law_odd : FnScope N_law_odd ["_law_hand_here"] (defScope s_law_odd) := ⟨rfl, rfl, rfl, by decide +kernel, rfl, by decide +kernel, by decide +kernel⟩
abbrev s_law_made : Stmt := top 37
abbrev N_law_made : List Str := ["_law_top", "_law_bottom", "_law_one", "_law_other", "_law_rest"]
theorem sc_law_made : FnScope N_law_made ["_law_top", "_law_bottom"] (defScope s_law_made) := ⟨rfl, rfl, rfl, by decide +kernel, rfl, by decide +kernel, by decide +kernel⟩
abbrev s_law_sum : Stmt := top 38
abbrev N_law_sum : List Str := ["_law_fractions", "_law_bottom", "_law_fraction_here"]
theorem sc_law_sum : FnScope N_law_sum ["_law_fractions"] (defScope s_law_sum) := ⟨rfl, rfl, rfl, by decide +kernel, rfl, by decide +kernel, by decide +kernel⟩
abbrev s_law_common : Stmt := top 39
abbrev N_law_common : List Str := ["_law_one", "_law_other", "_law_rest"]
theorem sc_law_common : FnScope N_law_common ["_law_one", "_law_other"] (defScope s_law_common) := ⟨rfl, rfl, rfl, by decide +kernel, rfl, by decide +kernel, by decide +kernel⟩
abbrev s_law_fraction : Stmt := top 40
abbrev N_law_fraction : List Str := ["_law_hand_here", "_law_bottom"]
theorem sc_law_fraction : FnScope N_law_fraction ["_law_hand_here"] (defScope s_law_fraction) := ⟨rfl, rfl, rfl, by decide +kernel, rfl, by decide +kernel, by decide +kernel⟩
abbrev s_law_names : Stmt := top 41
abbrev N_law_names : List Str := ["_law_rows_here", "_law_width", "_law_found", "_law_codes", "_law_many", "_law_longer", "_law_code", "_law_row"]
theorem sc_law_names : FnScope N_law_names ["_law_rows_here", "_law_width"] (defScope s_law_names) := ⟨rfl, rfl, rfl, by decide +kernel, rfl, by decide +kernel, by decide +kernel⟩
abbrev s_law_table : Stmt := top 42
abbrev N_law_table : List Str := ["_law_hand_here", "_law_rows_here", "_law_width", "_law_table_here", "_law_name"]
theorem sc_law_table : FnScope N_law_table ["_law_hand_here", "_law_rows_here", "_law_width"] (defScope s_law_table) := ⟨rfl, rfl, rfl, by decide +kernel, rfl, by decide +kernel, by decide +kernel⟩
abbrev s_law_cut : Stmt := top 43
abbrev N_law_cut : List Str := ["_law_code", "_law_width", "_law_found", "_law_k", "_law_begin"]
theorem sc_law_cut : FnScope N_law_cut ["_law_code", "_law_width"] (defScope s_law_cut) := ⟨rfl, rfl, rfl, by decide +kernel, rfl, by decide +kernel, by decide +kernel⟩
abbrev s_law_refused : Stmt := top 44
abbrev N_law_refused : List Str := ["_law_prices", "_law_thing", "_law_refused_here", "e"]
theorem sc_law_refused : FnScope N_law_refused ["_law_prices", "_law_thing"] (defScope s_law_refused) := ⟨rfl, rfl, rfl, by decide +kernel, rfl, by decide +kernel, by decide +kernel⟩
abbrev s_law : Stmt := top 45
abbrev N_law : List Str := ["_law_script", "_law_hand_here", "_law_turn", "_law_rows_here", "_law_width", "_law_table_here", "_law_prices", "_law_code", "_law_stretches", "_law_one", "_law_name", "_law_far", "_law_thing", "_law_row", "_law_letter"]
theorem sc_law : FnScope N_law ["_law_script"] (defScope s_law) := ⟨rfl, rfl, rfl, by decide +kernel, rfl, by decide +kernel, by decide +kernel⟩
/-- what the top has written -/
structure Txt (K : PySem.W.Frag) (mg : Str → Option Value) where
  f_common_divisor : DefAt K mg "common_divisor" "common_divisor" s_common_divisor ["one", "other"]
  f_made : DefAt K mg "made" "made" s_made ["top", "bottom"]
  f_plus : DefAt K mg "plus" "plus" s_plus ["one", "other"]
  f_sum_of : DefAt K mg "sum_of" "sum_of" s_sum_of ["fractions"]
  f_is_integer : DefAt K mg "is_integer" "is_integer" s_is_integer ["thing"]
  f_is_within : DefAt K mg "is_within" "is_within" s_is_within ["thing", "least", "most"]
  f_is_pair : DefAt K mg "is_pair" "is_pair" s_is_pair ["thing"]
  f_is_string_of : DefAt K mg "is_string_of" "is_string_of" s_is_string_of ["thing", "signs"]
  f_is_word : DefAt K mg "is_word" "is_word" s_is_word ["thing"]
  f_is_ascending : DefAt K mg "is_ascending" "is_ascending" s_is_ascending ["word"]
  f_is_rows : DefAt K mg "is_rows" "is_rows" s_is_rows ["thing"]
  f_is_code : DefAt K mg "is_code" "is_code" s_is_code ["rows", "thing"]
  f_is_width : DefAt K mg "is_width" "is_width" s_is_width ["thing"]
  f_is_fraction : DefAt K mg "is_fraction" "is_fraction" s_is_fraction ["thing"]
  f_stretches_of : DefAt K mg "stretches_of" "stretches_of" s_stretches_of ["code", "width"]
  f_codes_of_length : DefAt K mg "codes_of_length" "codes_of_length" s_codes_of_length ["rows", "length"]
  f_stretch_names : DefAt K mg "stretch_names" "stretch_names" s_stretch_names ["rows", "width"]
  f_is_table : DefAt K mg "is_table" "is_table" s_is_table ["thing", "names"]
  f_price_of : DefAt K mg "price_of" "price_of" s_price_of ["prices", "code"]
  f_price : DefAt K mg "price" "price" s_price ["prices", "code"]
  f_law_hand : DefAt K mg "_law_hand" "_law_hand" s_law_hand ["_law_script"]
  f_law_draw : DefAt K mg "_law_draw" "_law_draw" s_law_draw ["_law_hand_here", "_law_many"]
  f_law_rows : DefAt K mg "_law_rows" "_law_rows" s_law_rows ["_law_hand_here", "_law_most"]
  f_law_odd : DefAt K mg "_law_odd" "_law_odd" s_law_odd ["_law_hand_here"]
  f_law_made : DefAt K mg "_law_made" "_law_made" s_law_made ["_law_top", "_law_bottom"]
  f_law_sum : DefAt K mg "_law_sum" "_law_sum" s_law_sum ["_law_fractions"]
  f_law_common : DefAt K mg "_law_common" "_law_common" s_law_common ["_law_one", "_law_other"]
  f_law_fraction : DefAt K mg "_law_fraction" "_law_fraction" s_law_fraction ["_law_hand_here"]
  f_law_names : DefAt K mg "_law_names" "_law_names" s_law_names ["_law_rows_here", "_law_width"]
  f_law_table : DefAt K mg "_law_table" "_law_table" s_law_table ["_law_hand_here", "_law_rows_here", "_law_width"]
  f_law_cut : DefAt K mg "_law_cut" "_law_cut" s_law_cut ["_law_code", "_law_width"]
  f_law_refused : DefAt K mg "_law_refused" "_law_refused" s_law_refused ["_law_prices", "_law_thing"]
  f_law : DefAt K mg "law" "law" s_law ["_law_script"]
  b_ValueError : mg "ValueError" = none
  b_abs : mg "abs" = none
  b_all : mg "all" = none
  b_bool : mg "bool" = none
  b_dict : mg "dict" = none
  b_int : mg "int" = none
  b_isinstance : mg "isinstance" = none
  b_len : mg "len" = none
  b_list : mg "list" = none
  b_range : mg "range" = none
  b_sorted : mg "sorted" = none
  b_str : mg "str" = none
  b_sum : mg "sum" = none
  b_tuple : mg "tuple" = none
  g_NOUGHT : Addr
  c_NOUGHT : mg "NOUGHT" = some (.ref g_NOUGHT)
  q_NOUGHT : ∀ H, SqT K H g_NOUGHT [V.int 0, V.int 1]
  t_MOST_ROWS : Tok
  c_MOST_ROWS : mg "MOST_ROWS" = some (.int 4 t_MOST_ROWS)
  t_MOST_WIDTH : Tok
  c_MOST_WIDTH : mg "MOST_WIDTH" = some (.int 3 t_MOST_WIDTH)
  t_SMALL : Tok
  c_SMALL : mg "SMALL" = some (.str "abcdefghijklmnopqrstuvwxyz" t_SMALL)
  f_Prices_init : MDefAt K "__init__" "Prices.__init__" s_Prices_init ["self", "rows", "width", "table"]
  o_Prices : Addr
  k_Prices : mg "Prices" = some (.ref o_Prices)
  cl_Prices : Cls K o_Prices
  m_Prices : Mk K o_Prices f_Prices_init.f
  n_Prices_kept_table : NoAttr K o_Prices "kept_table"
  n_Prices_rows : NoAttr K o_Prices "rows"
  n_Prices_width : NoAttr K o_Prices "width"
  x_StretchError : ExcAt K mg "StretchError"
  x_NoCode : ExcAt K mg "NoCode"
  ec_NoCode : ExcC K x_NoCode.C
  ki_NoCode_StretchError : PySem.W.kitOne K (.ref x_NoCode.C) (.ref x_StretchError.C) = some true
  ki_NoCode_ValueError : PySem.W.kitOne K (.ref x_NoCode.C) (.type "ValueError") = some true
  e_NoCode_NoCode : PySem.W.exmOne K (.ref x_NoCode.C) (.ref x_NoCode.C) = some true
  e_NoCode_StretchError : PySem.W.exmOne K (.ref x_NoCode.C) (.ref x_StretchError.C) = some true
def Txt.cls {K : PySem.W.Frag} {mg : Str → Option Value} (T : Txt K mg) : Nat → Addr := fun n => match n with
  | 38 => T.x_StretchError.C
  | 12 => T.x_NoCode.C
  | 33 => T.o_Prices
  | _ => 0
theorem Txt.fl_kept_table {K : PySem.W.Frag} {mg : Str → Option Value} (T : Txt K mg) : ∀ c ∈ [33], Cls K (T.cls c) ∧ NoAttr K (T.cls c) "kept_table" := mem1 ⟨T.cl_Prices, T.n_Prices_kept_table⟩
theorem Txt.fl_rows {K : PySem.W.Frag} {mg : Str → Option Value} (T : Txt K mg) : ∀ c ∈ [33], Cls K (T.cls c) ∧ NoAttr K (T.cls c) "rows" := mem1 ⟨T.cl_Prices, T.n_Prices_rows⟩
theorem Txt.fl_width {K : PySem.W.Frag} {mg : Str → Option Value} (T : Txt K mg) : ∀ c ∈ [33], Cls K (T.cls c) ∧ NoAttr K (T.cls c) "width" := mem1 ⟨T.cl_Prices, T.n_Prices_width⟩
theorem Txt.mt_NoCode {K : PySem.W.Frag} {mg : Str → Option Value} (T : Txt K mg) (c : Nat) (b : Bool) (h : Txt_mt_NoCode c = some b) : PySem.W.exmOne K (.ref (T.cls c)) (.ref T.x_NoCode.C) = some b := by
  unfold Txt_mt_NoCode at h
  split at h
  · cases h; exact T.e_NoCode_NoCode
  · cases h
theorem Txt.mt_StretchError {K : PySem.W.Frag} {mg : Str → Option Value} (T : Txt K mg) (c : Nat) (b : Bool) (h : Txt_mt_StretchError c = some b) : PySem.W.exmOne K (.ref (T.cls c)) (.ref T.x_StretchError.C) = some b := by
  unfold Txt_mt_StretchError at h
  split at h
  · cases h; exact T.e_NoCode_StretchError
  · cases h
section
variable {P : Program} {w : World} {K : PySem.W.Frag} {mg : Str → Option Value} {base : Heap}

theorem ok_is_ascending (T : Txt K mg) : FnOk P w K mg base (L2.CX P w) 1 T.f_is_ascending.f T.f_is_ascending.fd ["word"] (spF (gK K T.cls hid0) f_is_ascending) := by
  unfold f_is_ascending m_is_ascending
  exact fn_S T.f_is_ascending.F sc_is_ascending rfl rfl (fun cdv A outer s H E hr =>
  (b_seq (pss_cons (s_for rfl (ps_for (passes_of rfl) rfl (i_range2 (pi_range2 (by rfl) T.b_range (pa_cons (s_cst pe_int (fun _ _ => .int _)) (pa_cons (s_frz (s_call1B o_len (pe_callB (call_lenS (K := K)) (by rfl) T.b_len (by decide +kernel) (pa_cons (p_var (pv 0)) pa_nil)))) pa_nil)))) (g_name (pg_name (i := 1) sc_is_ascending.nd rfl (by first | exact Or.inl rfl | exact Or.inr rfl)))
  (pss_one (s_ifS (ps_if (t_E (le_op2 o_ge) (pt_cmpR op_geU (s_B (p_ix (pe_ix (ix_S (K := K) (hu_of hr)) (p_var (pv 0)) (p_op2 o_sub (pe_op op_sub (p_var (pv 1)) (p_cst pe_int (fun _ _ => .int _)))) (fun _ _ => rfl)))) (s_B (p_ix (pe_ix (ix_S (K := K) (hu_of hr)) (p_var (pv 0)) (p_var (pv 1)) (fun _ _ => rfl)))) (by first | exact nomark _ | rfl))) (pss_one (s_ret (ps_ret (s_up (s_cst pe_bl (fun _ _ => .bl _)))))) (b_nil pss_nil))))))
  (pss_one (s_ret (ps_ret (s_up (s_cst pe_bl (fun _ _ => .bl _)))))))))

theorem ok_is_string_of (T : Txt K mg) : FnOk P w K mg base (L2.CX P w) 1 T.f_is_string_of.f T.f_is_string_of.fd ["thing", "signs"] (spF (gK K T.cls hid0) f_is_string_of) := by
  unfold f_is_string_of m_is_string_of
  exact fn_S T.f_is_string_of.F sc_is_string_of rfl rfl (fun cdv A outer s H E hr =>
  (b_seq (pss_cons (s_ifS (ps_if (t_not (pt_not (t_val (pt_val (s_frz (s_isiP (o_isi (.ty "str") isT_str) (pe_callB (call_isiY (K := K)) (by rfl) T.b_isinstance (by decide +kernel) (pa_cons (p_var (pv 0)) (pa_cons (pe_bltn (v := .ty "str") rfl T.b_str (by decide +kernel) rfl) pa_nil))))))))) (pss_one (s_ret (ps_ret (s_up (s_cst pe_bl (fun _ _ => .bl _)))))) (b_nil pss_nil)))
  (b_seq (pss_cons (s_for rfl (ps_for (passes_of rfl) rfl (i_seq (pi_U (K := K) (s_var (pv 0)))) (g_name (pg_name (i := 2) sc_is_string_of.nd rfl (by first | exact Or.inl rfl | exact Or.inr rfl)))
  (pss_one (s_ifS (ps_if (t_E (le_op2R (o_in true)) (pt_cmpR (op_notInS (K := K) (hu_of hr) hr.units) (s_var (pv 2)) (p_var (pv 1)) (by first | exact nomark _ | rfl))) (pss_one (s_ret (ps_ret (s_up (s_cst pe_bl (fun _ _ => .bl _)))))) (b_nil pss_nil))))))
  (pss_one (s_ret (ps_ret (s_up (s_cst pe_bl (fun _ _ => .bl _)))))))))))

theorem ok_is_word (T : Txt K mg) : FnOk P w K mg base (L2.CX P w) 2 T.f_is_word.f T.f_is_word.fd ["thing"] (spF (gK K T.cls hid0) f_is_word) := by
  unfold f_is_word m_is_word
  exact fn_S T.f_is_word.F sc_is_word rfl rfl (fun cdv A outer s H E hr =>
  (pss_one (s_ret (ps_ret (s_up (s_and (pe_and (s_frz (s_call (pe_callS (ok_is_string_of T) (hr.mono (by decide)) rfl T.f_is_string_of.mg T.f_is_string_of.kp T.f_is_string_of.bd (fun σ pins H s e s' I c => passes_call (takes_of rfl rfl rfl rfl) (fun _ _ _ _ q => q) pins σ H s e s' I c) (r_n (pa_cons (pv 0) (r_d (pa_cons (s_cst (pe_glob (v := V.str "abcdefghijklmnopqrstuvwxyz") rfl T.c_SMALL ⟨_, rfl⟩) (fun _ _ => .str _)) (r_nil pa_nil)))))))) (pe_one (s_frz (s_op2 o_gt (pe_cmpR op_gtU (s_frz (s_call1B o_len (pe_callB (call_lenS (K := K)) (by rfl) T.b_len (by decide +kernel) (pa_cons (p_var (pv 0)) pa_nil)))) (s_cst pe_int (fun _ _ => .int _)) (by first | exact nomark _ | rfl))))))))))))

theorem ok_is_rows (T : Txt K mg) : FnOk P w K mg base (L2.CX P w) 3 T.f_is_rows.f T.f_is_rows.fd ["thing"] (spF (gK K T.cls hid0) f_is_rows) := by
  unfold f_is_rows m_is_rows
  exact fn_S T.f_is_rows.F sc_is_rows rfl rfl (fun cdv A outer s H E hr =>
  (pss_one (s_ret (ps_ret (s_up (s_and (pe_and (s_frz (s_call (pe_callS (ok_is_word T) (hr.mono (by decide)) rfl T.f_is_word.mg T.f_is_word.kp T.f_is_word.bd (fun σ pins H s e s' I c => passes_call (takes_of rfl rfl rfl rfl) (fun _ _ _ _ q => q) pins σ H s e s' I c) (r_n (pa_cons (pv 0) (r_nil pa_nil)))))) (s_and (pe_and (s_frz (s_op2 o_le (pe_cmpR op_leU (s_frz (s_call1B o_len (pe_callB (call_lenS (K := K)) (by rfl) T.b_len (by decide +kernel) (pa_cons (p_var (pv 0)) pa_nil)))) (s_cst (pe_glob (v := V.int 4) rfl T.c_MOST_ROWS ⟨_, rfl⟩) (fun _ _ => .int _)) (by first | exact nomark _ | rfl)))) (pe_one (s_frz (s_call (pe_callS (ok_is_ascending T) (hr.mono (by decide)) rfl T.f_is_ascending.mg T.f_is_ascending.kp T.f_is_ascending.bd (fun σ pins H s e s' I c => passes_call (takes_of rfl rfl rfl rfl) (fun _ _ _ _ q => q) pins σ H s e s' I c) (r_n (pa_cons (pv 0) (r_nil pa_nil))))))))))))))))

theorem ok_common_divisor (T : Txt K mg) : FnOk P w K mg base (L2.CX P w) 1 T.f_common_divisor.f T.f_common_divisor.fd ["one", "other"] (spF (gK K T.cls hid0) f_common_divisor) := by
  unfold f_common_divisor m_common_divisor
  exact fn_S T.f_common_divisor.F sc_common_divisor rfl rfl (fun cdv A outer s H E hr =>
  (b_seq (pss_cons (s_whileT (ps_while (passes_of rfl) (t_E (le_op2B o_ne) (pt_cmpR (op_neU (K := K) (hu_of hr) hr.units) (p_var (pv 1)) (p_cst pe_int (fun _ _ => .int _)) (by first | exact nomark _ | rfl)))
  (pss_one (s_par rfl rfl (ps_par (by rfl) sc_common_divisor.nd (i := 0) (j := 1) rfl rfl (by decide) rfl rfl (pa_cons (s_var (pv 1)) (pa_cons (s_frz (s_op2 o_mod (pe_op op_modU (s_frz (s_call1B o_int (pe_callTy call_intU (by rfl) T.b_int (by decide +kernel) (pa_cons (p_var (pv 0)) pa_nil)))) (s_var (pv 1))))) pa_nil)) (by rfl))))))
  (pss_one (s_ret (ps_ret (s_up (s_var (pv 0)))))))))

theorem ok_is_integer (T : Txt K mg) : FnOk P w K mg base (L2.CX P w) 1 T.f_is_integer.f T.f_is_integer.fd ["thing"] (spF (gK K T.cls hid0) f_is_integer) := by
  unfold f_is_integer m_is_integer
  exact fn_S T.f_is_integer.F sc_is_integer rfl rfl (fun cdv A outer s H E hr =>
  (pss_one (s_ret (ps_ret (s_up (s_and (pe_and (s_frz (s_isiP (o_isi (.ty "int") isT_int) (pe_callB (call_isiY (K := K)) (by rfl) T.b_isinstance (by decide +kernel) (pa_cons (p_var (pv 0)) (pa_cons (pe_bltn (v := .ty "int") rfl T.b_int (by decide +kernel) rfl) pa_nil))))) (pe_one (s_not (pe_not (s_frz (s_isiP (o_isi (.ty "bool") isT_bool) (pe_callB (call_isiY (K := K)) (by rfl) T.b_isinstance (by decide +kernel) (pa_cons (p_var (pv 0)) (pa_cons (pe_bltn (v := .ty "bool") rfl T.b_bool (by decide +kernel) rfl) pa_nil)))))))))))))))

theorem ok_is_pair (T : Txt K mg) : FnOk P w K mg base (L2.CX P w) 1 T.f_is_pair.f T.f_is_pair.fd ["thing"] (spF (gK K T.cls hid0) f_is_pair) := by
  unfold f_is_pair m_is_pair
  exact fn_S T.f_is_pair.F sc_is_pair rfl rfl (fun cdv A outer s H E hr =>
  (pss_one (s_ret (ps_ret (s_up (s_and (pe_and (s_frz (s_isiP (o_isi (.ty "tuple") isT_tuple) (pe_callB (call_isiY (K := K)) (by rfl) T.b_isinstance (by decide +kernel) (pa_cons (p_var (pv 0)) (pa_cons (pe_bltn (v := .ty "tuple") rfl T.b_tuple (by decide +kernel) rfl) pa_nil))))) (pe_one (s_frz (s_op2 o_eq (pe_cmpR (op_eqU (K := K) (hu_of hr) hr.units) (s_frz (s_call1B o_len (pe_callB (call_lenS (K := K)) (by rfl) T.b_len (by decide +kernel) (pa_cons (p_var (pv 0)) pa_nil)))) (s_cst pe_int (fun _ _ => .int _)) (by first | exact nomark _ | rfl))))))))))))

theorem ok_is_fraction (T : Txt K mg) : FnOk P w K mg base (L2.CX P w) 2 T.f_is_fraction.f T.f_is_fraction.fd ["thing"] (spF (gK K T.cls hid0) f_is_fraction) := by
  unfold f_is_fraction m_is_fraction
  exact fn_S T.f_is_fraction.F sc_is_fraction rfl rfl (fun cdv A outer s H E hr =>
  (b_seq (pss_cons (s_ifS (ps_if (PW.pt (w_or (pw_or (t_not (pt_not (t_val (pt_val (s_frz (s_call (pe_callS (ok_is_pair T) (hr.mono (by decide)) rfl T.f_is_pair.mg T.f_is_pair.kp T.f_is_pair.bd (fun σ pins H s e s' I c => passes_call (takes_of rfl rfl rfl rfl) (fun _ _ _ _ q => q) pins σ H s e s' I c) (r_n (pa_cons (pv 0) (r_nil pa_nil)))))))))) (w_or (pw_or (t_not (pt_not (t_val (pt_val (s_frz (s_call (pe_callS (ok_is_integer T) (hr.mono (by decide)) rfl T.f_is_integer.mg T.f_is_integer.kp T.f_is_integer.bd (fun σ pins H s e s' I c => passes_call (takes_of rfl rfl rfl rfl) (fun _ _ _ _ q => q) pins σ H s e s' I c) (r_d (pa_cons (s_B (p_ix (pe_ix (ix_S (K := K) (hu_of hr)) (p_var (pv 0)) (p_cst pe_int (fun _ _ => .int _)) (fun _ _ => rfl)))) (r_nil pa_nil)))))))))) (w_or (pw_or (t_not (pt_not (t_val (pt_val (s_frz (s_call (pe_callS (ok_is_integer T) (hr.mono (by decide)) rfl T.f_is_integer.mg T.f_is_integer.kp T.f_is_integer.bd (fun σ pins H s e s' I c => passes_call (takes_of rfl rfl rfl rfl) (fun _ _ _ _ q => q) pins σ H s e s' I c) (r_d (pa_cons (s_B (p_ix (pe_ix (ix_S (K := K) (hu_of hr)) (p_var (pv 0)) (p_cst pe_int (fun _ _ => .int _)) (fun _ _ => rfl)))) (r_nil pa_nil)))))))))) (pw_or1 (t_E (le_op2 o_lt) (pt_cmpR op_ltU (s_B (p_ix (pe_ix (ix_S (K := K) (hu_of hr)) (p_var (pv 0)) (p_cst pe_int (fun _ _ => .int _)) (fun _ _ => rfl)))) (s_cst pe_int (fun _ _ => .int _)) (by first | exact nomark _ | rfl))))))))))) (pss_one (s_ret (ps_ret (s_up (s_cst pe_bl (fun _ _ => .bl _)))))) (b_nil pss_nil)))
  (pss_one (s_ret (ps_ret (s_op2 o_eq (pe_cmpR (op_eqU (K := K) (hu_of hr) hr.units) (s_frz (s_call (pe_callS (ok_common_divisor T) (hr.mono (by decide)) rfl T.f_common_divisor.mg T.f_common_divisor.kp T.f_common_divisor.bd (fun σ pins H s e s' I c => passes_call (takes_of rfl rfl rfl rfl) (fun _ _ _ _ q => q) pins σ H s e s' I c) (r_d (pa_cons (s_frz (s_call1 o_abs (pe_callB call_absU (by rfl) T.b_abs (by decide +kernel) (pa_cons (s_B (p_ix (pe_ix (ix_S (K := K) (hu_of hr)) (p_var (pv 0)) (p_cst pe_int (fun _ _ => .int _)) (fun _ _ => rfl)))) pa_nil)))) (r_d (pa_cons (s_B (p_ix (pe_ix (ix_S (K := K) (hu_of hr)) (p_var (pv 0)) (p_cst pe_int (fun _ _ => .int _)) (fun _ _ => rfl)))) (r_nil pa_nil)))))))) (s_cst pe_int (fun _ _ => .int _)) (by first | exact nomark _ | rfl)))))))))

theorem ok_is_table (T : Txt K mg) : FnOk P w K mg base (L2.CX P w) 3 T.f_is_table.f T.f_is_table.fd ["thing", "names"] (spF (gK K T.cls hid0) f_is_table) := by
  unfold f_is_table m_is_table
  exact fn_S T.f_is_table.F sc_is_table rfl rfl (fun cdv A outer s H E hr =>
  (b_seq (pss_cons (s_ifS (ps_if (PW.pt (w_or (pw_or (t_not (pt_not (t_val (pt_val (s_frz (s_isiP (o_isi (.ty "dict") isT_dict) (pe_callB (call_isiY (K := K)) (by rfl) T.b_isinstance (by decide +kernel) (pa_cons (p_var (pv 0)) (pa_cons (pe_bltn (v := .ty "dict") rfl T.b_dict (by decide +kernel) rfl) pa_nil))))))))) (pw_or1 (t_E (le_op2 o_ne) (pt_cmpR (op_neU (K := K) (hu_of hr) hr.units) (s_frz (s_call1B o_len (pe_callB (call_lenS (K := K)) (by rfl) T.b_len (by decide +kernel) (pa_cons (p_var (pv 0)) pa_nil)))) (s_frz (s_call1B o_len (pe_callB (call_lenS (K := K)) (by rfl) T.b_len (by decide +kernel) (pa_cons (p_var (pv 1)) pa_nil)))) (by first | exact nomark _ | rfl))))))) (pss_one (s_ret (ps_ret (s_up (s_cst pe_bl (fun _ _ => .bl _)))))) (b_nil pss_nil)))
  (pss_one (s_ret (ps_ret (s_call1 o_all (pe_callB (cr_allU (K := K)) (by rfl) T.b_all (by decide +kernel) (pa_cons (s_frz (s_lc (by decide) (pe_lcU (own := [("name", 2)]) (vs := [2]) rfl (by rfl) sc_is_table.nd (i_seq (pi_U (K := K) (s_var (pv 1)))) (blkOk_by (own := [("name", 2)]) (N := N_is_table) (sc := defScope s_is_table) (by decide +kernel)) (fun _ _ _ _ _ => (g_name (pg_name (i := 2) sc_is_table.nd rfl (by first | exact Or.inl rfl | exact Or.inr rfl)))) (fun _ _ _ _ _ => pts_nil) (fun _ _ _ _ _ => (s_and (pe_and (s_frz (s_op2R (o_in false) (pe_cmpR (op_inS (K := K) (hu_of hr) hr.units) (s_var (pv 2)) (p_var (pv 0)) (by first | exact nomark _ | rfl)))) (pe_one (s_frz (s_call (pe_callS (ok_is_fraction T) (hr.mono (by decide)) rfl T.f_is_fraction.mg T.f_is_fraction.kp T.f_is_fraction.bd (fun σ pins H s e s' I c => passL pins σ H s e s' I c) (r_d (pa_cons (s_B (p_ix (pe_ix (ix_S (K := K) (hu_of hr)) (p_var (pv 0)) (p_var (pv 2)) (fun _ _ => rfl)))) (r_nil pa_nil))))))))))))) pa_nil)))))))))

theorem ok_is_within (T : Txt K mg) : FnOk P w K mg base (L2.CX P w) 2 T.f_is_within.f T.f_is_within.fd ["thing", "least", "most"] (spF (gK K T.cls hid0) f_is_within) := by
  unfold f_is_within m_is_within
  exact fn_S T.f_is_within.F sc_is_within rfl rfl (fun cdv A outer s H E hr =>
  (pss_one (s_ret (ps_ret (s_up (s_and (pe_and (s_frz (s_call (pe_callS (ok_is_integer T) (hr.mono (by decide)) rfl T.f_is_integer.mg T.f_is_integer.kp T.f_is_integer.bd (fun σ pins H s e s' I c => passes_call (takes_of rfl rfl rfl rfl) (fun _ _ _ _ q => q) pins σ H s e s' I c) (r_n (pa_cons (pv 0) (r_nil pa_nil)))))) (pe_one (s_chain o_le o_le (pe_chain op_leU op_leU (s_var (pv 1)) (s_var (pv 0)) (s_var (pv 2))))))))))))

theorem ok_is_width (T : Txt K mg) : FnOk P w K mg base (L2.CX P w) 3 T.f_is_width.f T.f_is_width.fd ["thing"] (spF (gK K T.cls hid0) f_is_width) := by
  unfold f_is_width m_is_width
  exact fn_S T.f_is_width.F sc_is_width rfl rfl (fun cdv A outer s H E hr =>
  (pss_one (s_ret (ps_ret (s_call (pe_callS (ok_is_within T) (hr.mono (by decide)) rfl T.f_is_within.mg T.f_is_within.kp T.f_is_within.bd (fun σ pins H s e s' I c => passes_call (takes_of rfl rfl rfl rfl) (fun _ _ _ _ q => q) pins σ H s e s' I c) (r_n (pa_cons (pv 0) (r_d (pa_cons (s_cst pe_int (fun _ _ => .int _)) (r_d (pa_cons (s_cst (pe_glob (v := V.int 3) rfl T.c_MOST_WIDTH ⟨_, rfl⟩) (fun _ _ => .int _)) (r_nil pa_nil)))))))))))))

theorem ok_codes_of_length (T : Txt K mg) : FnOk P w K mg base (L2.CX P w) 1 T.f_codes_of_length.f T.f_codes_of_length.fd ["rows", "length"] (spF (gK K T.cls hid0) f_codes_of_length) := by
  unfold f_codes_of_length m_codes_of_length
  exact fn_S T.f_codes_of_length.F sc_codes_of_length rfl rfl (fun cdv A outer s H E hr =>
  (b_seq (pss_cons (s_set rfl (ps_set (i := 2) sc_codes_of_length.nd rfl (by first | exact Or.inl rfl | exact Or.inr rfl) (s_lst (pe_lst (s_acons (pa_cons (s_cst pe_str (fun _ _ => .str _)) (s_anil pa_nil)))))))
  (b_seq (pss_cons (s_for rfl (ps_for (passes_of rfl) rfl (i_range1 (pi_range1 (by rfl) T.b_range (pa_cons (s_var (pv 1)) pa_nil))) (g_name (pg_name (i := 3) sc_codes_of_length.nd rfl (by first | exact Or.inl rfl | exact Or.inr rfl)))
  (pss_one (s_setLc2 rfl (by decide) (by decide) (by decide) (ps_setLc2U (i := 2) (own := [("code", 4), ("row", 5)]) (vs := [4, 5]) (vs1 := [5]) rfl (by rfl) sc_codes_of_length.nd rfl rfl (sw_true rfl rfl rfl (by decide +kernel)) (i_seq (pi_U (K := K) (s_var (pv 2)))) (blkOk_by (own := [("code", 4), ("row", 5)]) (N := N_codes_of_length) (sc := defScope s_codes_of_length) (by decide +kernel)) (by decide) (fun _ _ _ _ _ => (g_name (pg_name (i := 4) sc_codes_of_length.nd rfl (by first | exact Or.inl rfl | exact Or.inr rfl)))) (fun _ _ _ _ _ => pts_nil) (fun _ _ _ _ _ => (i_seq (pi_U (K := K) (s_var (pv 0))))) (fun _ _ _ _ _ => (g_name (pg_name (i := 5) sc_codes_of_length.nd rfl (by first | exact Or.inl rfl | exact Or.inr rfl)))) (fun _ _ _ _ _ => pts_nil) (fun _ _ _ _ _ => (s_frz (s_op2 o_add (pe_op (op_addU (K := K)) (s_var (pv 4)) (s_var (pv 5)))))))))))
  (pss_one (s_ret (ps_ret (s_move (pv 2))))))))))

theorem ok_stretch_names (T : Txt K mg) : FnOk P w K mg base (L2.CX P w) 2 T.f_stretch_names.f T.f_stretch_names.fd ["rows", "width"] (spF (gK K T.cls hid0) f_stretch_names) := by
  unfold f_stretch_names m_stretch_names
  exact fn_S T.f_stretch_names.F sc_stretch_names rfl rfl (fun cdv A outer s H E hr =>
  (b_seq (pss_cons (s_set rfl (ps_set (i := 2) sc_stretch_names.nd rfl (by first | exact Or.inl rfl | exact Or.inr rfl) (s_call (pe_callS (ok_codes_of_length T) (hr.mono (by decide)) rfl T.f_codes_of_length.mg T.f_codes_of_length.kp T.f_codes_of_length.bd (fun σ pins H s e s' I c => passes_call (takes_of rfl rfl rfl rfl) (fun _ _ _ _ q => q) pins σ H s e s' I c) (r_n (pa_cons (pv 0) (r_n (pa_cons (pv 1) (r_nil pa_nil)))))))))
  (b_seq (pss_cons (s_for rfl (ps_for (passes_of rfl) rfl (i_range2 (pi_range2 (by rfl) T.b_range (pa_cons (s_cst pe_int (fun _ _ => .int _)) (pa_cons (s_var (pv 1)) pa_nil)))) (g_name (pg_name (i := 3) sc_stretch_names.nd rfl (by first | exact Or.inl rfl | exact Or.inr rfl)))
  (pss_one (s_drop (ps_expr (s_mut rfl u_extend (pe_bmU (K := K) PySem.F.plainAttrs_list PySem.F.slot_list_extend PySem.F.type_list_extend mt_extend (pv 2) (s_acons (pa_cons (s_frz (s_lc (by decide) (pe_lcU (own := [("code", 4)]) (vs := [4]) rfl (by rfl) sc_stretch_names.nd (i_seq (pi_U (K := K) (s_frz (s_call (pe_callS (ok_codes_of_length T) (hr.mono (by decide)) rfl T.f_codes_of_length.mg T.f_codes_of_length.kp T.f_codes_of_length.bd (fun σ pins H s e s' I c => passes_call (takes_of rfl rfl rfl rfl) (fun _ _ _ _ q => q) pins σ H s e s' I c) (r_n (pa_cons (pv 0) (r_n (pa_cons (pv 3) (r_nil pa_nil)))))))))) (blkOk_by (own := [("code", 4)]) (N := N_stretch_names) (sc := defScope s_stretch_names) (by decide +kernel)) (fun _ _ _ _ _ => (g_name (pg_name (i := 4) sc_stretch_names.nd rfl (by first | exact Or.inl rfl | exact Or.inr rfl)))) (fun _ _ _ _ _ => pts_nil) (fun _ _ _ _ _ => (s_frz (s_op2 o_add (pe_op (op_addU (K := K)) (s_cst pe_str (fun _ _ => .str _)) (s_var (pv 4))))))))) (s_anil pa_nil))))))))))
  (pss_one (s_ret (ps_ret (s_call1B o_sorted (pe_callB (cr_sortedU (K := K)) (by rfl) T.b_sorted (by decide +kernel) (pa_cons (p_var (pv 2)) pa_nil)))))))))))

theorem ok_Prices_init (T : Txt K mg) : FnOk P w K mg base (L2.CX P w) 4 T.f_Prices_init.f T.f_Prices_init.fd ["self", "rows", "width", "table"] (spF (gK K T.cls hid0) f_Prices_init) := by
  unfold f_Prices_init m_Prices_init
  exact fn_S T.f_Prices_init.F sc_Prices_init rfl rfl (fun cdv A outer s H E hr =>
  (b_seq (pss_cons (s_ifS (ps_if (t_not (pt_not (t_val (pt_val (s_frz (s_call (pe_callS (ok_is_rows T) (hr.mono (by decide)) rfl T.f_is_rows.mg T.f_is_rows.kp T.f_is_rows.bd (fun σ pins H s e s' I c => passes_call (takes_of rfl rfl rfl rfl) (fun _ _ _ _ q => q) pins σ H s e s' I c) (r_n (pa_cons (pv 1) (r_nil pa_nil)))))))))) (pss_one s_never) (b_nil pss_nil)))
  (b_seq (pss_cons (s_ifS (ps_if (t_not (pt_not (t_val (pt_val (s_frz (s_call (pe_callS (ok_is_width T) (hr.mono (by decide)) rfl T.f_is_width.mg T.f_is_width.kp T.f_is_width.bd (fun σ pins H s e s' I c => passes_call (takes_of rfl rfl rfl rfl) (fun _ _ _ _ q => q) pins σ H s e s' I c) (r_n (pa_cons (pv 2) (r_nil pa_nil)))))))))) (pss_one s_never) (b_nil pss_nil)))
  (b_seq (pss_cons (s_set rfl (ps_set (i := 4) sc_Prices_init.nd rfl (by first | exact Or.inl rfl | exact Or.inr rfl) (s_call (pe_callS (ok_stretch_names T) (hr.mono (by decide)) rfl T.f_stretch_names.mg T.f_stretch_names.kp T.f_stretch_names.bd (fun σ pins H s e s' I c => passes_call (takes_of rfl rfl rfl rfl) (fun _ _ _ _ q => q) pins σ H s e s' I c) (r_n (pa_cons (pv 1) (r_n (pa_cons (pv 2) (r_nil pa_nil)))))))))
  (b_seq (pss_cons (s_ifS (ps_if (t_not (pt_not (t_val (pt_val (s_frz (s_call (pe_callS (ok_is_table T) (hr.mono (by decide)) rfl T.f_is_table.mg T.f_is_table.kp T.f_is_table.bd (fun σ pins H s e s' I c => passes_call (takes_of rfl rfl rfl rfl) (fun _ _ _ _ q => q) pins σ H s e s' I c) (r_n (pa_cons (pv 3) (r_n (pa_cons (pv 4) (r_nil pa_nil)))))))))))) (pss_one s_never) (b_nil pss_nil)))
  (b_seq (pss_cons (s_fldS (cs := [33]) (T.fl_rows) (ps_fldU (K := K) (pv 0) (s_up (s_var (pv 1))) rfl))
  (b_seq (pss_cons (s_fldS (cs := [33]) (T.fl_width) (ps_fldU (K := K) (pv 0) (s_up (s_var (pv 2))) rfl))
  (pss_one (s_fldS (cs := [33]) (T.fl_kept_table) (ps_fldU (K := K) (pv 0) (s_dc (by decide) (pe_dcU (own := [("name", 5)]) (vs := [5]) rfl (by rfl) sc_Prices_init.nd (i_seq (pi_U (K := K) (s_var (pv 4)))) (blkOk_by (own := [("name", 5)]) (N := N_Prices_init) (sc := defScope s_Prices_init) (by decide +kernel)) (fun _ _ _ _ _ => (g_name (pg_name (i := 5) sc_Prices_init.nd rfl (by first | exact Or.inl rfl | exact Or.inr rfl)))) (fun _ _ _ _ _ => pts_nil) (fun _ _ _ _ _ => (s_var (pv 5))) (fun _ _ _ _ _ => (s_B (p_ix (pe_ix (ix_S (K := K) (hu_of hr)) (p_var (pv 3)) (p_var (pv 5)) (fun _ _ => rfl))))))) rfl))))))))))))))))

theorem ok_law_cut (T : Txt K mg) : FnOk P w K mg base (L2.CX P w) 1 T.f_law_cut.f T.f_law_cut.fd ["_law_code", "_law_width"] (spF (gK K T.cls hid0) f_law_cut) := by
  unfold f_law_cut m_law_cut
  exact fn_S T.f_law_cut.F sc_law_cut rfl rfl (fun cdv A outer s H E hr =>
  (b_seq (pss_cons (s_set rfl (ps_set (i := 2) sc_law_cut.nd rfl (by first | exact Or.inl rfl | exact Or.inr rfl) (s_lst (pe_lst (s_anil pa_nil)))))
  (b_seq (pss_cons (s_for rfl (ps_for (passes_of rfl) rfl (i_range1 (pi_range1 (by rfl) T.b_range (pa_cons (s_frz (s_call1B o_len (pe_callB (call_lenS (K := K)) (by rfl) T.b_len (by decide +kernel) (pa_cons (p_var (pv 0)) pa_nil)))) pa_nil))) (g_name (pg_name (i := 3) sc_law_cut.nd rfl (by first | exact Or.inl rfl | exact Or.inr rfl)))
  (b_seq (pss_cons (s_set rfl (ps_set (i := 4) sc_law_cut.nd rfl (by first | exact Or.inl rfl | exact Or.inr rfl) (s_op2 o_sub (pe_op op_sub (s_frz (s_op2 o_add (pe_op (op_addU (K := K)) (s_var (pv 3)) (s_cst pe_int (fun _ _ => .int _))))) (s_var (pv 1))))))
  (pss_one (s_drop (ps_expr (s_mut rfl u_append (pe_bmU (K := K) PySem.F.plainAttrs_list PySem.F.slot_list_append PySem.F.type_list_append mt_append (pv 2) (s_acons (pa_cons (s_frz (s_if (pe_ifExp (t_E (le_op2 o_ge) (pt_cmpR op_geU (s_var (pv 4)) (s_cst pe_int (fun _ _ => .int _)) (by first | exact nomark _ | rfl))) (s_slice o_some o_some (pe_slice (sl_U (K := K)) (s_var (pv 0)) (po_some (s_var (pv 4))) (po_some (s_frz (s_op2 o_add (pe_op (op_addU (K := K)) (s_var (pv 3)) (s_cst pe_int (fun _ _ => .int _)))))))) (s_op2 o_add (pe_op (op_addU (K := K)) (s_cst pe_str (fun _ _ => .str _)) (s_frz (s_slice o_none o_some (pe_slice (sl_U (K := K)) (s_var (pv 0)) po_none (po_some (s_frz (s_op2 o_add (pe_op (op_addU (K := K)) (s_var (pv 3)) (s_cst pe_int (fun _ _ => .int _)))))))))))))) (s_anil pa_nil))))))))))))
  (pss_one (s_ret (ps_ret (s_move (pv 2))))))))))

theorem ok_law_draw (T : Txt K mg) : FnOk P w K mg base (L2.CX P w) 1 T.f_law_draw.f T.f_law_draw.fd ["_law_hand_here", "_law_many"] (spF (gK K T.cls hid0) f_law_draw) := by
  unfold f_law_draw m_law_draw
  exact fn_S T.f_law_draw.F sc_law_draw rfl rfl (fun cdv A outer s H E hr =>
  (b_seq (pss_cons (s_ifS (ps_if (PW.pt (w_and (pw_and (t_E (le_op2 o_eq) (pt_cmpR (op_eqU (K := K) (hu_of hr) hr.units) (s_B (p_ix (pe_ix (ix_S (K := K) (hu_of hr)) (p_var (pv 0)) (p_cst pe_int (fun _ _ => .int _)) (fun _ _ => rfl)))) (s_cst pe_int (fun _ _ => .int _)) (by first | exact nomark _ | rfl))) (pw_and1 (t_E (le_op2 o_lt) (pt_cmpR op_ltU (s_B (p_ix (pe_ix (ix_S (K := K) (hu_of hr)) (p_var (pv 0)) (p_cst pe_int (fun _ _ => .int _)) (fun _ _ => rfl)))) (s_frz (s_call1 o_len (pe_callB (call_lenS (K := K)) (by rfl) T.b_len (by decide +kernel) (pa_cons (s_B (p_ix (pe_ix (ix_S (K := K) (hu_of hr)) (p_var (pv 0)) (p_cst pe_int (fun _ _ => .int _)) (fun _ _ => rfl)))) pa_nil)))) (by first | exact nomark _ | rfl))))))) (b_seq (pss_cons (s_set rfl (ps_set (i := 2) sc_law_draw.nd rfl (by first | exact Or.inl rfl | exact Or.inr rfl) (s_up (s_B (p_ix (pe_ix (ix_S (K := K) (hu_of hr)) (p_ix (pe_ix (ix_S (K := K) (hu_of hr)) (p_var (pv 0)) (p_cst pe_int (fun _ _ => .int _)) (fun _ _ => rfl))) (p_ix (pe_ix (ix_S (K := K) (hu_of hr)) (p_var (pv 0)) (p_cst pe_int (fun _ _ => .int _)) (fun _ _ => rfl))) (fun _ _ => rfl)))))))
  (b_seq (pss_cons (s_put rfl (ps_asg (s_frz (s_op2 o_add (pe_op (op_addU (K := K)) (s_B (p_ix (pe_ix (ix_S (K := K) (hu_of hr)) (p_var (pv 0)) (p_cst pe_int (fun _ _ => .int _)) (fun _ _ => rfl)))) (s_cst pe_int (fun _ _ => .int _))))) (pg_sub (pv 0) (s_cst pe_int (fun _ _ => .int _)) (set_U (hu_of hr)))))
  (b_seq (pss_cons (s_put rfl (ps_asg (s_frz (s_op2 o_mod (pe_op op_modU (s_frz (s_call1 o_int (pe_callTy call_intU (by rfl) T.b_int (by decide +kernel) (pa_cons (s_frz (s_op2 o_add (pe_op (op_addU (K := K)) (s_frz (s_op2 o_add (pe_op (op_addU (K := K)) (s_frz (s_op2 o_mul (pe_op op_mulU (s_B (p_ix (pe_ix (ix_S (K := K) (hu_of hr)) (p_var (pv 0)) (p_cst pe_int (fun _ _ => .int _)) (fun _ _ => rfl)))) (s_cst pe_int (fun _ _ => .int _))))) (s_var (pv 2))))) (s_cst pe_int (fun _ _ => .int _))))) pa_nil)))) (s_cst pe_int (fun _ _ => .int _))))) (pg_sub (pv 0) (s_cst pe_int (fun _ _ => .int _)) (set_U (hu_of hr)))))
  (pss_one (s_ifS (ps_if (t_E (le_op2 o_ge) (pt_cmpR op_geU (s_var (pv 2)) (s_frz (s_op2 o_pow (pe_op op_pow (s_cst pe_int (fun _ _ => .int _)) (s_cst pe_int (fun _ _ => .int _))))) (by first | exact nomark _ | rfl))) (pss_one (s_put rfl (ps_asg (s_var (pv 2)) (pg_sub (pv 0) (s_cst pe_int (fun _ _ => .int _)) (set_U (hu_of hr)))))) (b_nil pss_nil)))))))))) (b_nil pss_nil)))
  (b_seq (pss_cons (s_ifS (ps_if (t_E (le_op2 o_gt) (pt_cmpR op_gtU (s_B (p_ix (pe_ix (ix_S (K := K) (hu_of hr)) (p_var (pv 0)) (p_cst pe_int (fun _ _ => .int _)) (fun _ _ => rfl)))) (s_cst pe_int (fun _ _ => .int _)) (by first | exact nomark _ | rfl))) (b_seq (pss_cons (s_set rfl (ps_set (i := 3) sc_law_draw.nd rfl (by first | exact Or.inl rfl | exact Or.inr rfl) (s_op2 o_mod (pe_op op_modU (s_frz (s_call1 o_int (pe_callTy call_intU (by rfl) T.b_int (by decide +kernel) (pa_cons (s_B (p_ix (pe_ix (ix_S (K := K) (hu_of hr)) (p_var (pv 0)) (p_cst pe_int (fun _ _ => .int _)) (fun _ _ => rfl)))) pa_nil)))) (s_var (pv 1))))))
  (b_seq (pss_cons (s_put rfl (ps_asg (s_frz (s_op2 o_fdiv (pe_op op_fdivU (s_B (p_ix (pe_ix (ix_S (K := K) (hu_of hr)) (p_var (pv 0)) (p_cst pe_int (fun _ _ => .int _)) (fun _ _ => rfl)))) (s_var (pv 1))))) (pg_sub (pv 0) (s_cst pe_int (fun _ _ => .int _)) (set_U (hu_of hr)))))
  (pss_one (s_ret (ps_ret (s_move (pv 3))))))))) (b_nil pss_nil)))
  (b_seq (pss_cons (s_put rfl (ps_asg (s_frz (s_op2 o_add (pe_op (op_addU (K := K)) (s_B (p_ix (pe_ix (ix_S (K := K) (hu_of hr)) (p_var (pv 0)) (p_cst pe_int (fun _ _ => .int _)) (fun _ _ => rfl)))) (s_cst pe_int (fun _ _ => .int _))))) (pg_sub (pv 0) (s_cst pe_int (fun _ _ => .int _)) (set_U (hu_of hr)))))
  (b_seq (pss_cons (s_set rfl (ps_set (i := 4) sc_law_draw.nd rfl (by first | exact Or.inl rfl | exact Or.inr rfl) (s_op2 o_mod (pe_op op_modU (s_frz (s_call1 o_int (pe_callTy call_intU (by rfl) T.b_int (by decide +kernel) (pa_cons (s_frz (s_op2 o_mul (pe_op op_mulU (s_frz (s_call1 o_int (pe_callTy call_intU (by rfl) T.b_int (by decide +kernel) (pa_cons (s_frz (s_op2 o_add (pe_op (op_addU (K := K)) (s_B (p_ix (pe_ix (ix_S (K := K) (hu_of hr)) (p_var (pv 0)) (p_cst pe_int (fun _ _ => .int _)) (fun _ _ => rfl)))) (s_frz (s_op2 o_mul (pe_op op_mulU (s_cst pe_int (fun _ _ => .int _)) (s_B (p_ix (pe_ix (ix_S (K := K) (hu_of hr)) (p_var (pv 0)) (p_cst pe_int (fun _ _ => .int _)) (fun _ _ => rfl)))))))))) pa_nil)))) (s_cst pe_int (fun _ _ => .int _))))) pa_nil)))) (s_cst pe_int (fun _ _ => .int _))))))
  (b_seq (pss_cons (s_set rfl (ps_set (i := 4) sc_law_draw.nd rfl (by first | exact Or.inl rfl | exact Or.inr rfl) (s_op2 o_mod (pe_op op_modU (s_frz (s_call1 o_int (pe_callTy call_intU (by rfl) T.b_int (by decide +kernel) (pa_cons (s_frz (s_op2 o_mul (pe_op op_mulU (s_var (pv 4)) (s_frz (s_op2 o_add (pe_op (op_addU (K := K)) (s_frz (s_op2 o_fdiv (pe_op op_fdivU (s_var (pv 4)) (s_cst pe_int (fun _ _ => .int _))))) (s_cst pe_int (fun _ _ => .int _)))))))) pa_nil)))) (s_cst pe_int (fun _ _ => .int _))))))
  (b_seq (pss_cons (s_set rfl (ps_set (i := 4) sc_law_draw.nd rfl (by first | exact Or.inl rfl | exact Or.inr rfl) (s_op2 o_mod (pe_op op_modU (s_frz (s_call1 o_int (pe_callTy call_intU (by rfl) T.b_int (by decide +kernel) (pa_cons (s_frz (s_op2 o_mul (pe_op op_mulU (s_var (pv 4)) (s_frz (s_op2 o_add (pe_op (op_addU (K := K)) (s_frz (s_op2 o_fdiv (pe_op op_fdivU (s_var (pv 4)) (s_cst pe_int (fun _ _ => .int _))))) (s_cst pe_int (fun _ _ => .int _)))))))) pa_nil)))) (s_cst pe_int (fun _ _ => .int _))))))
  (pss_one (s_ret (ps_ret (s_op2 o_mod (pe_op op_modU (s_frz (s_call1 o_int (pe_callTy call_intU (by rfl) T.b_int (by decide +kernel) (pa_cons (s_frz (s_op2 o_fdiv (pe_op op_fdivU (s_var (pv 4)) (s_cst pe_int (fun _ _ => .int _))))) pa_nil)))) (s_var (pv 1))))))))))))))))))))

theorem ok_law_made (T : Txt K mg) : FnOk P w K mg base (L2.CX P w) 1 T.f_law_made.f T.f_law_made.fd ["_law_top", "_law_bottom"] (spF (gK K T.cls hid0) f_law_made) := by
  unfold f_law_made m_law_made
  exact fn_S T.f_law_made.F sc_law_made rfl rfl (fun cdv A outer s H E hr =>
  (b_seq (pss_cons (s_set rfl (ps_set (i := 2) sc_law_made.nd rfl (by first | exact Or.inl rfl | exact Or.inr rfl) (s_call1B o_abs (pe_callB call_absU (by rfl) T.b_abs (by decide +kernel) (pa_cons (p_var (pv 0)) pa_nil)))))
  (b_seq (pss_cons (s_set rfl (ps_set (i := 3) sc_law_made.nd rfl (by first | exact Or.inl rfl | exact Or.inr rfl) (s_up (s_var (pv 1)))))
  (b_seq (pss_cons (s_whileT (ps_while (passes_of rfl) (t_E (le_op2B o_ne) (pt_cmpR (op_neU (K := K) (hu_of hr) hr.units) (p_var (pv 3)) (p_cst pe_int (fun _ _ => .int _)) (by first | exact nomark _ | rfl)))
  (b_seq (pss_cons (s_set rfl (ps_set (i := 4) sc_law_made.nd rfl (by first | exact Or.inl rfl | exact Or.inr rfl) (s_op2 o_mod (pe_op op_modU (s_frz (s_call1B o_int (pe_callTy call_intU (by rfl) T.b_int (by decide +kernel) (pa_cons (p_var (pv 2)) pa_nil)))) (s_var (pv 3))))))
  (b_seq (pss_cons (s_set rfl (ps_set (i := 2) sc_law_made.nd rfl (by first | exact Or.inl rfl | exact Or.inr rfl) (s_up (s_var (pv 3)))))
  (pss_one (s_set rfl (ps_set (i := 3) sc_law_made.nd rfl (by first | exact Or.inl rfl | exact Or.inr rfl) (s_up (s_var (pv 4))))))))))))
  (pss_one (s_ret (ps_ret (s_up (s_tup (pe_tup (s_acons (pa_cons (s_frz (s_op2 o_fdiv (pe_op op_fdivU (s_var (pv 0)) (s_var (pv 2))))) (s_acons (pa_cons (s_frz (s_op2 o_fdiv (pe_op op_fdivU (s_var (pv 1)) (s_var (pv 2))))) (s_anil pa_nil))))))))))))))))))

theorem ok_law_fraction (T : Txt K mg) : FnOk P w K mg base (L2.CX P w) 2 T.f_law_fraction.f T.f_law_fraction.fd ["_law_hand_here"] (spF (gK K T.cls hid0) f_law_fraction) := by
  unfold f_law_fraction m_law_fraction
  exact fn_S T.f_law_fraction.F sc_law_fraction rfl rfl (fun cdv A outer s H E hr =>
  (b_seq (pss_cons (s_set rfl (ps_set (i := 1) sc_law_fraction.nd rfl (by first | exact Or.inl rfl | exact Or.inr rfl) (s_op2 o_add (pe_op (op_addU (K := K)) (s_cst pe_int (fun _ _ => .int _)) (s_frz (s_call (pe_callS (ok_law_draw T) (hr.mono (by decide)) rfl T.f_law_draw.mg T.f_law_draw.kp T.f_law_draw.bd (fun σ pins H s e s' I c => passes_call (takes_of rfl rfl rfl rfl) (fun _ _ _ _ q => q) pins σ H s e s' I c) (r_n (pa_cons (pv 0) (r_d (pa_cons (s_frz (s_op2 o_ix (pe_ix (ix_S (K := K) (hu_of hr)) (s_frz (s_lst (pe_lst (s_acons (pa_cons (s_cst pe_int (fun _ _ => .int _)) (s_acons (pa_cons (s_cst pe_int (fun _ _ => .int _)) (s_acons (pa_cons (s_cst pe_int (fun _ _ => .int _)) (s_acons (pa_cons (s_cst pe_int (fun _ _ => .int _)) (s_anil pa_nil)))))))))))) (s_frz (s_call (pe_callS (ok_law_draw T) (hr.mono (by decide)) rfl T.f_law_draw.mg T.f_law_draw.kp T.f_law_draw.bd (fun σ pins H s e s' I c => passes_call (takes_of rfl rfl rfl rfl) (fun _ _ _ _ q => q) pins σ H s e s' I c) (r_n (pa_cons (pv 0) (r_d (pa_cons (s_cst pe_int (fun _ _ => .int _)) (r_nil pa_nil)))))))) (fun _ _ => rfl)))) (r_nil pa_nil))))))))))))
  (pss_one (s_ret (ps_ret (s_call (pe_callS (ok_law_made T) (hr.mono (by decide)) rfl T.f_law_made.mg T.f_law_made.kp T.f_law_made.bd (fun σ pins H s e s' I c => passes_call (takes_of rfl rfl rfl rfl) (fun _ _ _ _ q => q) pins σ H s e s' I c) (r_d (pa_cons (s_frz (s_op2 o_sub (pe_op op_sub (s_frz (s_call (pe_callS (ok_law_draw T) (hr.mono (by decide)) rfl T.f_law_draw.mg T.f_law_draw.kp T.f_law_draw.bd (fun σ pins H s e s' I c => passes_call (takes_of rfl rfl rfl rfl) (fun _ _ _ _ q => q) pins σ H s e s' I c) (r_n (pa_cons (pv 0) (r_d (pa_cons (s_cst pe_int (fun _ _ => .int _)) (r_nil pa_nil)))))))) (s_frz (s_call (pe_callS (ok_law_draw T) (hr.mono (by decide)) rfl T.f_law_draw.mg T.f_law_draw.kp T.f_law_draw.bd (fun σ pins H s e s' I c => passes_call (takes_of rfl rfl rfl rfl) (fun _ _ _ _ q => q) pins σ H s e s' I c) (r_n (pa_cons (pv 0) (r_d (pa_cons (s_cst pe_int (fun _ _ => .int _)) (r_nil pa_nil))))))))))) (r_n (pa_cons (pv 1) (r_nil pa_nil)))))))))))))

theorem ok_law_hand (T : Txt K mg) : FnOk P w K mg base (L2.CX P w) 1 T.f_law_hand.f T.f_law_hand.fd ["_law_script"] (spF (gK K T.cls hid0) f_law_hand) := by
  unfold f_law_hand m_law_hand
  exact fn_S T.f_law_hand.F sc_law_hand rfl rfl (fun cdv A outer s H E hr =>
  (b_seq (pss_cons (s_setLc rfl (by decide) (ps_setLcU (i := 1) (own := [("_law_cell", 2)]) (vs := [2]) rfl (by rfl) sc_law_hand.nd rfl rfl (sw_true rfl rfl rfl (by decide +kernel)) (i_seq (pi_U (K := K) (s_frz (s_slice o_none o_some (pe_slice (sl_U (K := K)) (s_var (pv 0)) po_none (po_some (s_cst pe_int (fun _ _ => .int _)))))))) (blkOk_by (own := [("_law_cell", 2)]) (N := N_law_hand) (sc := defScope s_law_hand) (by decide +kernel)) (fun _ _ _ _ _ => (g_name (pg_name (i := 2) sc_law_hand.nd rfl (by first | exact Or.inl rfl | exact Or.inr rfl)))) (fun _ _ _ _ _ => pts_nil) (fun _ _ _ _ _ => (s_frz (s_call1 o_abs (pe_callB call_absU (by rfl) T.b_abs (by decide +kernel) (pa_cons (s_frz (s_call1B o_int (pe_callTy call_intU (by rfl) T.b_int (by decide +kernel) (pa_cons (p_var (pv 2)) pa_nil)))) pa_nil)))))))
  (pss_one (s_ret (ps_ret (s_lst (pe_lst (s_acons (pa_cons (s_var (pv 1)) (s_acons (pa_cons (s_cst pe_int (fun _ _ => .int _)) (s_acons (pa_cons (s_cst pe_int (fun _ _ => .int _)) (s_acons (pa_cons (s_frz (s_op2 o_add (pe_op (op_addU (K := K)) (s_cst pe_int (fun _ _ => .int _)) (s_frz (s_call1B o_len (pe_callB (call_lenS (K := K)) (by rfl) T.b_len (by decide +kernel) (pa_cons (p_var (pv 1)) pa_nil))))))) (s_acons (pa_cons (s_cst pe_int (fun _ _ => .int _)) (s_anil pa_nil)))))))))))))))))))

theorem ok_law_odd (T : Txt K mg) : FnOk P w K mg base (L2.CX P w) 2 T.f_law_odd.f T.f_law_odd.fd ["_law_hand_here"] (spF (gK K T.cls hid0) f_law_odd) := by
  unfold f_law_odd m_law_odd
  exact fn_S T.f_law_odd.F sc_law_odd rfl rfl (fun cdv A outer s H E hr =>
  (b_seq (pss_cons (s_set rfl (ps_set (i := 1) sc_law_odd.nd rfl (by first | exact Or.inl rfl | exact Or.inr rfl) (s_lst (pe_lst (s_acons (pa_cons (s_cst pe_non (fun _ _ => .non)) (s_anil pa_nil)))))))
  (b_seq (pss_cons (s_for rfl (ps_for (passes_of rfl) rfl (i_range1 (pi_range1 (by rfl) T.b_range (pa_cons (s_cst pe_int (fun _ _ => .int _)) pa_nil))) (g_name (pg_name (i := 2) sc_law_odd.nd rfl (by first | exact Or.inl rfl | exact Or.inr rfl)))
  (pss_one (s_set rfl (ps_set (i := 1) sc_law_odd.nd rfl (by first | exact Or.inl rfl | exact Or.inr rfl) (s_lst (pe_lst (s_acons (pa_cons (s_var (pv 1)) (s_anil pa_nil))))))))))
  (b_seq (pss_cons (s_set rfl (ps_set (i := 3) sc_law_odd.nd rfl (by first | exact Or.inl rfl | exact Or.inr rfl) (s_lst (pe_lst (s_acons (pa_cons (s_cst pe_non (fun _ _ => .non)) (s_acons (pa_cons (s_cst pe_bl (fun _ _ => .bl _)) (s_acons (pa_cons (s_cst pe_bl (fun _ _ => .bl _)) (s_acons (pa_cons (s_cst pe_str (fun _ _ => .str _)) (s_acons (pa_cons (s_cst pe_str (fun _ _ => .str _)) (s_acons (pa_cons (s_cst pe_str (fun _ _ => .str _)) (s_acons (pa_cons (s_frz (s_lst (pe_lst (s_acons (pa_cons (s_cst pe_str (fun _ _ => .str _)) (s_anil pa_nil)))))) (s_acons (pa_cons (s_frz (s_disp1 (pe_disp (pps_cons pe_str (s_cst pe_str (fun _ _ => .str _)) pps_nil) (by rfl) (by rfl) (fun z => by cases z) (by decide)))) (s_acons (pa_cons (s_frz (s_lst (pe_lst (s_anil pa_nil)))) (s_acons (pa_cons (s_frz (s_newK pe_dnewK)) (s_acons (pa_cons (s_tup (pe_tup (s_acons (pa_cons (s_tup (pe_tup (s_anil pa_nil))) (s_anil pa_nil))))) (s_acons (pa_cons (s_tup (pe_tup (s_acons (pa_cons (s_cst pe_int (fun _ _ => .int _)) (s_anil pa_nil))))) (s_acons (pa_cons (s_tup (pe_tup (s_acons (pa_cons (s_cst pe_str (fun _ _ => .str _)) (s_anil pa_nil))))) (s_acons (pa_cons (s_var (pv 1)) (s_acons (pa_cons (s_tup (pe_tup (s_acons (pa_cons (s_cst pe_str (fun _ _ => .str _)) (s_acons (pa_cons (s_cst pe_str (fun _ _ => .str _)) (s_acons (pa_cons (s_cst pe_str (fun _ _ => .str _)) (s_anil pa_nil))))))))) (s_acons (pa_cons (s_cst pe_str (fun _ _ => .str _)) (s_anil pa_nil)))))))))))))))))))))))))))))))))))))
  (pss_one (s_ret (ps_ret (s_op2 o_ix (pe_ix (ix_S (K := K) (hu_of hr)) (s_var (pv 3)) (s_frz (s_call (pe_callS (ok_law_draw T) (hr.mono (by decide)) rfl T.f_law_draw.mg T.f_law_draw.kp T.f_law_draw.bd (fun σ pins H s e s' I c => passes_call (takes_of rfl rfl rfl rfl) (fun _ _ _ _ q => q) pins σ H s e s' I c) (r_n (pa_cons (pv 0) (r_d (pa_cons (s_frz (s_call1B o_len (pe_callB (call_lenS (K := K)) (by rfl) T.b_len (by decide +kernel) (pa_cons (p_var (pv 3)) pa_nil)))) (r_nil pa_nil)))))))) (fun _ _ => rfl)))))))))))))

theorem ok_is_code (T : Txt K mg) : FnOk P w K mg base (L2.CX P w) 2 T.f_is_code.f T.f_is_code.fd ["rows", "thing"] (spF (gK K T.cls hid0) f_is_code) := by
  unfold f_is_code m_is_code
  exact fn_S T.f_is_code.F sc_is_code rfl rfl (fun cdv A outer s H E hr =>
  (pss_one (s_ret (ps_ret (s_call (pe_callS (ok_is_string_of T) (hr.mono (by decide)) rfl T.f_is_string_of.mg T.f_is_string_of.kp T.f_is_string_of.bd (fun σ pins H s e s' I c => passes_call (takes_of rfl rfl rfl rfl) (fun _ _ _ _ q => q) pins σ H s e s' I c) (r_n (pa_cons (pv 1) (r_n (pa_cons (pv 0) (r_nil pa_nil)))))))))))

theorem ok_stretches_of (T : Txt K mg) : FnOk P w K mg base (L2.CX P w) 1 T.f_stretches_of.f T.f_stretches_of.fd ["code", "width"] (spF (gK K T.cls hid0) f_stretches_of) := by
  unfold f_stretches_of m_stretches_of
  exact fn_S T.f_stretches_of.F sc_stretches_of rfl rfl (fun cdv A outer s H E hr =>
  (b_seq (pss_cons (s_set rfl (ps_set (i := 2) sc_stretches_of.nd rfl (by first | exact Or.inl rfl | exact Or.inr rfl) (s_lst (pe_lst (s_anil pa_nil)))))
  (b_seq (pss_cons (s_for rfl (ps_for (passes_of rfl) rfl (i_range2 (pi_range2 (by rfl) T.b_range (pa_cons (s_cst pe_int (fun _ _ => .int _)) (pa_cons (s_frz (s_op2 o_add (pe_op (op_addU (K := K)) (s_frz (s_call1B o_len (pe_callB (call_lenS (K := K)) (by rfl) T.b_len (by decide +kernel) (pa_cons (p_var (pv 0)) pa_nil)))) (s_cst pe_int (fun _ _ => .int _))))) pa_nil)))) (g_name (pg_name (i := 3) sc_stretches_of.nd rfl (by first | exact Or.inl rfl | exact Or.inr rfl)))
  (pss_one (s_drop (ps_expr (s_mut rfl u_append (pe_bmU (K := K) PySem.F.plainAttrs_list PySem.F.slot_list_append PySem.F.type_list_append mt_append (pv 2) (s_acons (pa_cons (s_frz (s_if (pe_ifExp (t_E (le_op2 o_ge) (pt_cmpR op_geU (s_var (pv 3)) (s_var (pv 1)) (by first | exact nomark _ | rfl))) (s_slice o_some o_some (pe_slice (sl_U (K := K)) (s_var (pv 0)) (po_some (s_frz (s_op2 o_sub (pe_op op_sub (s_var (pv 3)) (s_var (pv 1)))))) (po_some (s_var (pv 3))))) (s_op2 o_add (pe_op (op_addU (K := K)) (s_cst pe_str (fun _ _ => .str _)) (s_frz (s_slice o_none o_some (pe_slice (sl_U (K := K)) (s_var (pv 0)) po_none (po_some (s_var (pv 3))))))))))) (s_anil pa_nil))))))))))
  (pss_one (s_ret (ps_ret (s_move (pv 2))))))))))

theorem ok_made (T : Txt K mg) : FnOk P w K mg base (L2.CX P w) 2 T.f_made.f T.f_made.fd ["top", "bottom"] (spF (gK K T.cls hid0) f_made) := by
  unfold f_made m_made
  exact fn_S T.f_made.F sc_made rfl rfl (fun cdv A outer s H E hr =>
  (b_seq (pss_cons (s_ifS (ps_if (t_E (le_op2 o_lt) (pt_cmpR op_ltU (s_var (pv 1)) (s_cst pe_int (fun _ _ => .int _)) (by first | exact nomark _ | rfl))) (pss_one (s_par rfl rfl (ps_par (by rfl) sc_made.nd (i := 0) (j := 1) rfl rfl (by decide) rfl rfl (pa_cons (s_frz (s_op1 o_neg (pe_un un_neg (s_var (pv 0))))) (pa_cons (s_frz (s_op1 o_neg (pe_un un_neg (s_var (pv 1))))) pa_nil)) (by rfl)))) (b_nil pss_nil)))
  (b_seq (pss_cons (s_set rfl (ps_set (i := 2) sc_made.nd rfl (by first | exact Or.inl rfl | exact Or.inr rfl) (s_call (pe_callS (ok_common_divisor T) (hr.mono (by decide)) rfl T.f_common_divisor.mg T.f_common_divisor.kp T.f_common_divisor.bd (fun σ pins H s e s' I c => passes_call (takes_of rfl rfl rfl rfl) (fun _ _ _ _ q => q) pins σ H s e s' I c) (r_d (pa_cons (s_frz (s_call1B o_abs (pe_callB call_absU (by rfl) T.b_abs (by decide +kernel) (pa_cons (p_var (pv 0)) pa_nil)))) (r_n (pa_cons (pv 1) (r_nil pa_nil)))))))))
  (pss_one (s_ret (ps_ret (s_up (s_tup (pe_tup (s_acons (pa_cons (s_frz (s_op2 o_fdiv (pe_op op_fdivU (s_var (pv 0)) (s_var (pv 2))))) (s_acons (pa_cons (s_frz (s_op2 o_fdiv (pe_op op_fdivU (s_var (pv 1)) (s_var (pv 2))))) (s_anil pa_nil))))))))))))))))

theorem ok_plus (T : Txt K mg) : FnOk P w K mg base (L2.CX P w) 3 T.f_plus.f T.f_plus.fd ["one", "other"] (spF (gK K T.cls hid0) f_plus) := by
  unfold f_plus m_plus
  exact fn_S T.f_plus.F sc_plus rfl rfl (fun cdv A outer s H E hr =>
  (b_seq (pss_cons (s_ifS (ps_if (t_E (le_op2 o_eq) (pt_cmpR (op_eqU (K := K) (hu_of hr) hr.units) (s_B (p_ix (pe_ix (ix_S (K := K) (hu_of hr)) (p_var (pv 0)) (p_cst pe_int (fun _ _ => .int _)) (fun _ _ => rfl)))) (s_B (p_ix (pe_ix (ix_S (K := K) (hu_of hr)) (p_var (pv 1)) (p_cst pe_int (fun _ _ => .int _)) (fun _ _ => rfl)))) (by first | exact nomark _ | rfl))) (pss_one (s_ret (ps_ret (s_call (pe_callS (ok_made T) (hr.mono (by decide)) rfl T.f_made.mg T.f_made.kp T.f_made.bd (fun σ pins H s e s' I c => passes_call (takes_of rfl rfl rfl rfl) (fun _ _ _ _ q => q) pins σ H s e s' I c) (r_d (pa_cons (s_frz (s_op2 o_add (pe_op (op_addU (K := K)) (s_B (p_ix (pe_ix (ix_S (K := K) (hu_of hr)) (p_var (pv 0)) (p_cst pe_int (fun _ _ => .int _)) (fun _ _ => rfl)))) (s_B (p_ix (pe_ix (ix_S (K := K) (hu_of hr)) (p_var (pv 1)) (p_cst pe_int (fun _ _ => .int _)) (fun _ _ => rfl))))))) (r_d (pa_cons (s_B (p_ix (pe_ix (ix_S (K := K) (hu_of hr)) (p_var (pv 0)) (p_cst pe_int (fun _ _ => .int _)) (fun _ _ => rfl)))) (r_nil pa_nil)))))))))) (b_nil pss_nil)))
  (pss_one (s_ret (ps_ret (s_call (pe_callS (ok_made T) (hr.mono (by decide)) rfl T.f_made.mg T.f_made.kp T.f_made.bd (fun σ pins H s e s' I c => passes_call (takes_of rfl rfl rfl rfl) (fun _ _ _ _ q => q) pins σ H s e s' I c) (r_d (pa_cons (s_frz (s_op2 o_add (pe_op (op_addU (K := K)) (s_frz (s_op2 o_mul (pe_op op_mulU (s_B (p_ix (pe_ix (ix_S (K := K) (hu_of hr)) (p_var (pv 0)) (p_cst pe_int (fun _ _ => .int _)) (fun _ _ => rfl)))) (s_B (p_ix (pe_ix (ix_S (K := K) (hu_of hr)) (p_var (pv 1)) (p_cst pe_int (fun _ _ => .int _)) (fun _ _ => rfl))))))) (s_frz (s_op2 o_mul (pe_op op_mulU (s_B (p_ix (pe_ix (ix_S (K := K) (hu_of hr)) (p_var (pv 1)) (p_cst pe_int (fun _ _ => .int _)) (fun _ _ => rfl)))) (s_B (p_ix (pe_ix (ix_S (K := K) (hu_of hr)) (p_var (pv 0)) (p_cst pe_int (fun _ _ => .int _)) (fun _ _ => rfl)))))))))) (r_d (pa_cons (s_frz (s_op2 o_mul (pe_op op_mulU (s_B (p_ix (pe_ix (ix_S (K := K) (hu_of hr)) (p_var (pv 0)) (p_cst pe_int (fun _ _ => .int _)) (fun _ _ => rfl)))) (s_B (p_ix (pe_ix (ix_S (K := K) (hu_of hr)) (p_var (pv 1)) (p_cst pe_int (fun _ _ => .int _)) (fun _ _ => rfl))))))) (r_nil pa_nil)))))))))))))

theorem ok_sum_of (T : Txt K mg) : FnOk P w K mg base (L2.CX P w) 4 T.f_sum_of.f T.f_sum_of.fd ["fractions"] (spF (gK K T.cls hid0) f_sum_of) := by
  unfold f_sum_of m_sum_of
  exact fn_S T.f_sum_of.F sc_sum_of rfl rfl (fun cdv A outer s H E hr =>
  (b_seq (pss_cons (s_set rfl (ps_set (i := 1) sc_sum_of.nd rfl (by first | exact Or.inl rfl | exact Or.inr rfl) (s_up (s_cst (pe_glob (v := V.ref T.g_NOUGHT) rfl T.c_NOUGHT rfl) (fun M H => .tup (T.q_NOUGHT H) (.cons (.int _) (.cons (.int _) .nil)))))))
  (b_seq (pss_cons (s_for rfl (ps_for (passes_of rfl) rfl (i_seq (pi_U (K := K) (s_var (pv 0)))) (g_name (pg_name (i := 2) sc_sum_of.nd rfl (by first | exact Or.inl rfl | exact Or.inr rfl)))
  (pss_one (s_set rfl (ps_set (i := 1) sc_sum_of.nd rfl (by first | exact Or.inl rfl | exact Or.inr rfl) (s_call (pe_callS (ok_plus T) (hr.mono (by decide)) rfl T.f_plus.mg T.f_plus.kp T.f_plus.bd (fun σ pins H s e s' I c => passes_call (takes_of rfl rfl rfl rfl) (fun _ _ _ _ q => q) pins σ H s e s' I c) (r_n (pa_cons (pv 1) (r_n (pa_cons (pv 2) (r_nil pa_nil))))))))))))
  (pss_one (s_ret (ps_ret (s_move (pv 1))))))))))

theorem ok_price_of (T : Txt K mg) : FnOk P w K mg base (L2.CX P w) 5 T.f_price_of.f T.f_price_of.fd ["prices", "code"] (spF (gK K T.cls hid0) f_price_of) := by
  unfold f_price_of m_price_of
  exact fn_S T.f_price_of.F sc_price_of rfl rfl (fun cdv A outer s H E hr =>
  (pss_one (s_ret (ps_ret (s_call (pe_callS (ok_sum_of T) (hr.mono (by decide)) rfl T.f_sum_of.mg T.f_sum_of.kp T.f_sum_of.bd (fun σ pins H s e s' I c => passes_call (takes_of rfl rfl rfl rfl) (fun _ _ _ _ q => q) pins σ H s e s' I c) (r_d (pa_cons (s_frz (s_lc (by decide) (pe_lcU (own := [("stretch", 2)]) (vs := [2]) rfl (by rfl) sc_price_of.nd (i_seq (pi_U (K := K) (s_frz (s_call (pe_callS (ok_stretches_of T) (hr.mono (by decide)) rfl T.f_stretches_of.mg T.f_stretches_of.kp T.f_stretches_of.bd (fun σ pins H s e s' I c => passes_call (takes_of rfl rfl rfl rfl) (fun _ _ _ _ q => q) pins σ H s e s' I c) (r_n (pa_cons (pv 1) (r_d (pa_cons (s_B (p_fld (cs := [33]) (T.fl_width) (pe_fldU (K := K) (p_var (pv 0)) rfl))) (r_nil pa_nil)))))))))) (blkOk_by (own := [("stretch", 2)]) (N := N_price_of) (sc := defScope s_price_of) (by decide +kernel)) (fun _ _ _ _ _ => (g_name (pg_name (i := 2) sc_price_of.nd rfl (by first | exact Or.inl rfl | exact Or.inr rfl)))) (fun _ _ _ _ _ => pts_nil) (fun _ _ _ _ _ => (s_B (p_ix (pe_ix (ix_S (K := K) (hu_of hr)) (p_fld (cs := [33]) (T.fl_kept_table) (pe_fldU (K := K) (p_var (pv 0)) rfl)) (p_var (pv 2)) (fun _ _ => rfl)))))))) (r_nil pa_nil)))))))))

theorem ok_price (T : Txt K mg) : FnOk P w K mg base (L2.CX P w) 6 T.f_price.f T.f_price.fd ["prices", "code"] (spF (gK K T.cls hid0) f_price) := by
  unfold f_price m_price
  exact fn_S T.f_price.F sc_price rfl rfl (fun cdv A outer s H E hr =>
  (b_seq (pss_cons (s_ifS (ps_if (t_not (pt_not (t_val (pt_val (s_frz (s_call (pe_callS (ok_is_code T) (hr.mono (by decide)) rfl T.f_is_code.mg T.f_is_code.kp T.f_is_code.bd (fun σ pins H s e s' I c => passes_call (takes_of rfl rfl rfl rfl) (fun _ _ _ _ q => q) pins σ H s e s' I c) (r_d (pa_cons (s_B (p_fld (cs := [33]) (T.fl_rows) (pe_fldU (K := K) (p_var (pv 0)) rfl))) (r_n (pa_cons (pv 1) (r_nil pa_nil)))))))))))) (pss_one (s_raise (c := 12) (ps_raise rfl (takes_of rfl rfl rfl rfl) (pmk_own0 T.x_NoCode rfl)) (fun _ _ _ _ q => q) (fun _ _ _ q => q))) (b_nil pss_nil)))
  (pss_one (s_ret (ps_ret (s_call (pe_callS (ok_price_of T) (hr.mono (by decide)) rfl T.f_price_of.mg T.f_price_of.kp T.f_price_of.bd (fun σ pins H s e s' I c => passes_call (takes_of rfl rfl rfl rfl) (fun _ _ _ _ q => q) pins σ H s e s' I c) (r_n (pa_cons (pv 0) (r_n (pa_cons (pv 1) (r_nil pa_nil)))))))))))))

theorem ok_law_refused (T : Txt K mg) : FnOk P w K mg base (L2.CX P w) 7 T.f_law_refused.f T.f_law_refused.fd ["_law_prices", "_law_thing"] (spF (gK K T.cls hid0) f_law_refused) := by
  unfold f_law_refused m_law_refused
  exact fn_S T.f_law_refused.F sc_law_refused rfl rfl (fun cdv A outer s H E hr =>
  (b_seq (pss_cons (s_set rfl (ps_set (i := 2) sc_law_refused.nd rfl (by first | exact Or.inl rfl | exact Or.inr rfl) (s_up (s_cst pe_bl (fun _ _ => .bl _)))))
  (b_seq (pss_cons (s_tryU rfl rfl (takes_of rfl rfl rfl rfl) rfl (fun _ _ _ _ q => q) (fun W pn xe tk po => (pss_one (s_drop (ps_expr (s_frz (s_call (pe_callS (ok_price T) (hr.mono (by decide)) rfl T.f_price.mg T.f_price.kp T.f_price.bd (fun σ => passAt tk σ) (r_n (pa_cons (pv 0) (r_n (pa_cons (pv 1) (r_nil pa_nil))))))))))))
 (HdsU.named (i := 3) sc_law_refused.nd rfl rfl ⟨rfl, by decide, .inl T.x_NoCode.gC⟩ (fun a oe cls d pn hz hf => (pss_one (ps_set (i := 2) sc_law_refused.nd rfl (by first | exact Or.inl rfl | exact Or.inr rfl) (pe_and (pe_callB (call_isEU (K := K) hz hf) (by rfl) T.b_isinstance (by decide +kernel) (pa_cons (pv 3) (pa_cons (pe_glob (v := V.ref T.x_StretchError.C) rfl T.x_StretchError.gC rfl) pa_nil))) (pe_one (pe_callB (call_isEU (K := K) hz hf) (by rfl) T.b_isinstance (by decide +kernel) (pa_cons (pv 3) (pa_cons (pe_bltn (v := .ty "ValueError") rfl T.b_ValueError (by decide +kernel) rfl) pa_nil)))))))) (HdsU.cons ⟨rfl, by decide, .inl T.x_StretchError.gC⟩ (fun a oe cls d pn hz hf => (pss_one (s_set rfl (ps_set (i := 2) sc_law_refused.nd rfl (by first | exact Or.inl rfl | exact Or.inr rfl) (s_up (s_cst pe_bl (fun _ _ => .bl _))))))) HdsU.nil)) (.cons (hn_setB T.mt_NoCode (by decide) rfl rfl (fun c b h a => by
  try dsimp only at h
  split at h
  · cases h; exact (isB_and (isB_own T.ec_NoCode T.ki_NoCode_StretchError) (isB_ty T.ec_NoCode T.ki_NoCode_ValueError))
  · cases h)) (.cons (hn_plain T.mt_StretchError) .nil)))
  (pss_one (s_ret (ps_ret (s_move (pv 2))))))))))

theorem ok_law_rows (T : Txt K mg) : FnOk P w K mg base (L2.CX P w) 2 T.f_law_rows.f T.f_law_rows.fd ["_law_hand_here", "_law_most"] (spF (gK K T.cls hid0) f_law_rows) := by
  unfold f_law_rows m_law_rows
  exact fn_S T.f_law_rows.F sc_law_rows rfl rfl (fun cdv A outer s H E hr =>
  (b_seq (pss_cons (s_set rfl (ps_set (i := 2) sc_law_rows.nd rfl (by first | exact Or.inl rfl | exact Or.inr rfl) (s_op2 o_add (pe_op (op_addU (K := K)) (s_cst pe_int (fun _ _ => .int _)) (s_frz (s_call (pe_callS (ok_law_draw T) (hr.mono (by decide)) rfl T.f_law_draw.mg T.f_law_draw.kp T.f_law_draw.bd (fun σ pins H s e s' I c => passes_call (takes_of rfl rfl rfl rfl) (fun _ _ _ _ q => q) pins σ H s e s' I c) (r_n (pa_cons (pv 0) (r_n (pa_cons (pv 1) (r_nil pa_nil))))))))))))
  (b_seq (pss_cons (s_set rfl (ps_set (i := 3) sc_law_rows.nd rfl (by first | exact Or.inl rfl | exact Or.inr rfl) (s_up (s_cst pe_str (fun _ _ => .str _)))))
  (b_seq (pss_cons (s_set rfl (ps_set (i := 4) sc_law_rows.nd rfl (by first | exact Or.inl rfl | exact Or.inr rfl) (s_up (s_cst pe_str (fun _ _ => .str _)))))
  (b_seq (pss_cons (s_for rfl (ps_for (passes_of rfl) rfl (i_range1 (pi_range1 (by rfl) T.b_range (pa_cons (s_var (pv 2)) pa_nil))) (g_name (pg_name (i := 5) sc_law_rows.nd rfl (by first | exact Or.inl rfl | exact Or.inr rfl)))
  (b_seq (pss_cons (s_set rfl (ps_set (i := 6) sc_law_rows.nd rfl (by first | exact Or.inl rfl | exact Or.inr rfl) (s_call (pe_callS (ok_law_draw T) (hr.mono (by decide)) rfl T.f_law_draw.mg T.f_law_draw.kp T.f_law_draw.bd (fun σ pins H s e s' I c => passes_call (takes_of rfl rfl rfl rfl) (fun _ _ _ _ q => q) pins σ H s e s' I c) (r_n (pa_cons (pv 0) (r_d (pa_cons (s_frz (s_op2 o_sub (pe_op op_sub (s_frz (s_call1B o_len (pe_callB (call_lenS (K := K)) (by rfl) T.b_len (by decide +kernel) (pa_cons (p_var (pv 4)) pa_nil)))) (s_frz (s_op2 o_sub (pe_op op_sub (s_frz (s_op2 o_sub (pe_op op_sub (s_var (pv 2)) (s_var (pv 5))))) (s_cst pe_int (fun _ _ => .int _)))))))) (r_nil pa_nil)))))))))
  (b_seq (pss_cons (s_set rfl (ps_set (i := 3) sc_law_rows.nd rfl (by first | exact Or.inl rfl | exact Or.inr rfl) (s_op2 o_add (pe_op (op_addU (K := K)) (s_var (pv 3)) (s_B (p_ix (pe_ix (ix_S (K := K) (hu_of hr)) (p_var (pv 4)) (p_var (pv 6)) (fun _ _ => rfl))))))))
  (pss_one (s_set rfl (ps_set (i := 4) sc_law_rows.nd rfl (by first | exact Or.inl rfl | exact Or.inr rfl) (s_slice o_some o_none (pe_slice (sl_U (K := K)) (s_var (pv 4)) (po_some (s_frz (s_op2 o_add (pe_op (op_addU (K := K)) (s_var (pv 6)) (s_cst pe_int (fun _ _ => .int _)))))) po_none)))))))))))
  (pss_one (s_ret (ps_ret (s_move (pv 3))))))))))))))

theorem ok_law_common (T : Txt K mg) : FnOk P w K mg base (L2.CX P w) 1 T.f_law_common.f T.f_law_common.fd ["_law_one", "_law_other"] (spF (gK K T.cls hid0) f_law_common) := by
  unfold f_law_common m_law_common
  exact fn_S T.f_law_common.F sc_law_common rfl rfl (fun cdv A outer s H E hr =>
  (b_seq (pss_cons (s_whileT (ps_while (passes_of rfl) (t_E (le_op2B o_ne) (pt_cmpR (op_neU (K := K) (hu_of hr) hr.units) (p_var (pv 1)) (p_cst pe_int (fun _ _ => .int _)) (by first | exact nomark _ | rfl)))
  (b_seq (pss_cons (s_set rfl (ps_set (i := 2) sc_law_common.nd rfl (by first | exact Or.inl rfl | exact Or.inr rfl) (s_op2 o_mod (pe_op op_modU (s_frz (s_call1B o_int (pe_callTy call_intU (by rfl) T.b_int (by decide +kernel) (pa_cons (p_var (pv 0)) pa_nil)))) (s_var (pv 1))))))
  (b_seq (pss_cons (s_set rfl (ps_set (i := 0) sc_law_common.nd rfl (by first | exact Or.inl rfl | exact Or.inr rfl) (s_up (s_var (pv 1)))))
  (pss_one (s_set rfl (ps_set (i := 1) sc_law_common.nd rfl (by first | exact Or.inl rfl | exact Or.inr rfl) (s_up (s_var (pv 2))))))))))))
  (pss_one (s_ret (ps_ret (s_up (s_var (pv 0)))))))))

theorem ok_law_sum (T : Txt K mg) : FnOk P w K mg base (L2.CX P w) 2 T.f_law_sum.f T.f_law_sum.fd ["_law_fractions"] (spF (gK K T.cls hid0) f_law_sum) := by
  unfold f_law_sum m_law_sum
  exact fn_S T.f_law_sum.F sc_law_sum rfl rfl (fun cdv A outer s H E hr =>
  (b_seq (pss_cons (s_set rfl (ps_set (i := 1) sc_law_sum.nd rfl (by first | exact Or.inl rfl | exact Or.inr rfl) (s_up (s_cst pe_int (fun _ _ => .int _)))))
  (b_seq (pss_cons (s_for rfl (ps_for (passes_of rfl) rfl (i_seq (pi_U (K := K) (s_var (pv 0)))) (g_name (pg_name (i := 2) sc_law_sum.nd rfl (by first | exact Or.inl rfl | exact Or.inr rfl)))
  (pss_one (s_set rfl (ps_set (i := 1) sc_law_sum.nd rfl (by first | exact Or.inl rfl | exact Or.inr rfl) (s_op2 o_fdiv (pe_op op_fdivU (s_frz (s_op2 o_mul (pe_op op_mulU (s_var (pv 1)) (s_B (p_ix (pe_ix (ix_S (K := K) (hu_of hr)) (p_var (pv 2)) (p_cst pe_int (fun _ _ => .int _)) (fun _ _ => rfl))))))) (s_frz (s_call (pe_callS (ok_law_common T) (hr.mono (by decide)) rfl T.f_law_common.mg T.f_law_common.kp T.f_law_common.bd (fun σ pins H s e s' I c => passes_call (takes_of rfl rfl rfl rfl) (fun _ _ _ _ q => q) pins σ H s e s' I c) (r_n (pa_cons (pv 1) (r_d (pa_cons (s_B (p_ix (pe_ix (ix_S (K := K) (hu_of hr)) (p_var (pv 2)) (p_cst pe_int (fun _ _ => .int _)) (fun _ _ => rfl)))) (r_nil pa_nil)))))))))))))))
  (pss_one (s_ret (ps_ret (s_call (pe_callS (ok_law_made T) (hr.mono (by decide)) rfl T.f_law_made.mg T.f_law_made.kp T.f_law_made.bd (fun σ pins H s e s' I c => passes_call (takes_of rfl rfl rfl rfl) (fun _ _ _ _ q => q) pins σ H s e s' I c) (r_d (pa_cons (s_frz (s_call1 o_sum (pe_callB (cr_sumU (K := K)) (by rfl) T.b_sum (by decide +kernel) (pa_cons (s_frz (s_lc (by decide) (pe_lcU (own := [("_law_fraction_here", 2)]) (vs := [2]) rfl (by rfl) sc_law_sum.nd (i_seq (pi_U (K := K) (s_var (pv 0)))) (blkOk_by (own := [("_law_fraction_here", 2)]) (N := N_law_sum) (sc := defScope s_law_sum) (by decide +kernel)) (fun _ _ _ _ _ => (g_name (pg_name (i := 2) sc_law_sum.nd rfl (by first | exact Or.inl rfl | exact Or.inr rfl)))) (fun _ _ _ _ _ => pts_nil) (fun _ _ _ _ _ => (s_frz (s_op2 o_mul (pe_op op_mulU (s_B (p_ix (pe_ix (ix_S (K := K) (hu_of hr)) (p_var (pv 2)) (p_cst pe_int (fun _ _ => .int _)) (fun _ _ => rfl)))) (s_frz (s_op2 o_fdiv (pe_op op_fdivU (s_var (pv 1)) (s_B (p_ix (pe_ix (ix_S (K := K) (hu_of hr)) (p_var (pv 2)) (p_cst pe_int (fun _ _ => .int _)) (fun _ _ => rfl)))))))))))))) pa_nil)))) (r_n (pa_cons (pv 1) (r_nil pa_nil)))))))))))))))

theorem ok_law_names (T : Txt K mg) : FnOk P w K mg base (L2.CX P w) 1 T.f_law_names.f T.f_law_names.fd ["_law_rows_here", "_law_width"] (spF (gK K T.cls hid0) f_law_names) := by
  unfold f_law_names m_law_names
  exact fn_S T.f_law_names.F sc_law_names rfl rfl (fun cdv A outer s H E hr =>
  (b_seq (pss_cons (s_set rfl (ps_set (i := 2) sc_law_names.nd rfl (by first | exact Or.inl rfl | exact Or.inr rfl) (s_lst (pe_lst (s_anil pa_nil)))))
  (b_seq (pss_cons (s_set rfl (ps_set (i := 3) sc_law_names.nd rfl (by first | exact Or.inl rfl | exact Or.inr rfl) (s_lst (pe_lst (s_acons (pa_cons (s_cst pe_str (fun _ _ => .str _)) (s_anil pa_nil)))))))
  (b_seq (pss_cons (s_for rfl (ps_for (passes_of rfl) rfl (i_range2 (pi_range2 (by rfl) T.b_range (pa_cons (s_cst pe_int (fun _ _ => .int _)) (pa_cons (s_frz (s_op2 o_add (pe_op (op_addU (K := K)) (s_var (pv 1)) (s_cst pe_int (fun _ _ => .int _))))) pa_nil)))) (g_name (pg_name (i := 4) sc_law_names.nd rfl (by first | exact Or.inl rfl | exact Or.inr rfl)))
  (b_seq (pss_cons (s_set rfl (ps_set (i := 5) sc_law_names.nd rfl (by first | exact Or.inl rfl | exact Or.inr rfl) (s_lst (pe_lst (s_anil pa_nil)))))
  (b_seq (pss_cons (s_for rfl (ps_for (passes_of rfl) rfl (i_seq (pi_U (K := K) (s_var (pv 3)))) (g_name (pg_name (i := 6) sc_law_names.nd rfl (by first | exact Or.inl rfl | exact Or.inr rfl)))
  (pss_one (s_set rfl (ps_set (i := 5) sc_law_names.nd rfl (by first | exact Or.inl rfl | exact Or.inr rfl) (s_op2 o_add (pe_op (op_addU (K := K)) (s_var (pv 5)) (s_frz (s_lc (by decide) (pe_lcU (own := [("_law_row", 7)]) (vs := [7]) rfl (by rfl) sc_law_names.nd (i_seq (pi_U (K := K) (s_var (pv 0)))) (blkOk_by (own := [("_law_row", 7)]) (N := N_law_names) (sc := defScope s_law_names) (by decide +kernel)) (fun _ _ _ _ _ => (g_name (pg_name (i := 7) sc_law_names.nd rfl (by first | exact Or.inl rfl | exact Or.inr rfl)))) (fun _ _ _ _ _ => pts_nil) (fun _ _ _ _ _ => (s_frz (s_op2 o_add (pe_op (op_addU (K := K)) (s_var (pv 6)) (s_var (pv 7))))))))))))))))
  (b_seq (pss_cons (s_set rfl (ps_set (i := 3) sc_law_names.nd rfl (by first | exact Or.inl rfl | exact Or.inr rfl) (s_up (s_var (pv 5)))))
  (pss_one (s_set rfl (ps_set (i := 2) sc_law_names.nd rfl (by first | exact Or.inl rfl | exact Or.inr rfl) (s_op2 o_add (pe_op (op_addU (K := K)) (s_var (pv 2)) (s_frz (s_lc (by decide) (pe_lcU (own := [("_law_code", 6)]) (vs := [6]) rfl (by rfl) sc_law_names.nd (i_seq (pi_U (K := K) (s_var (pv 3)))) (blkOk_by (own := [("_law_code", 6)]) (N := N_law_names) (sc := defScope s_law_names) (by decide +kernel)) (fun _ _ _ _ _ => (g_name (pg_name (i := 6) sc_law_names.nd rfl (by first | exact Or.inl rfl | exact Or.inr rfl)))) (fun _ _ _ _ _ => pts_nil) (fun _ _ _ _ _ => (s_frz (s_op2 o_add (pe_op (op_addU (K := K)) (s_frz (s_op2 o_ix (pe_ix (ix_S (K := K) (hu_of hr)) (s_frz (s_lst (pe_lst (s_acons (pa_cons (s_cst pe_str (fun _ _ => .str _)) (s_acons (pa_cons (s_cst pe_str (fun _ _ => .str _)) (s_anil pa_nil)))))))) (s_frz (s_call1 o_int (pe_callTy call_intU (by rfl) T.b_int (by decide +kernel) (pa_cons (s_frz (s_op2 o_lt (pe_cmpR op_ltU (s_var (pv 4)) (s_var (pv 1)) (by first | exact nomark _ | rfl)))) pa_nil)))) (fun _ _ => rfl)))) (s_var (pv 6))))))))))))))))))))))
  (pss_one (s_ret (ps_ret (s_move (pv 2))))))))))))

theorem ok_law_table (T : Txt K mg) : FnOk P w K mg base (L2.CX P w) 3 T.f_law_table.f T.f_law_table.fd ["_law_hand_here", "_law_rows_here", "_law_width"] (spF (gK K T.cls hid0) f_law_table) := by
  unfold f_law_table m_law_table
  exact fn_S T.f_law_table.F sc_law_table rfl rfl (fun cdv A outer s H E hr =>
  (b_seq (pss_cons (s_set rfl (ps_set (i := 3) sc_law_table.nd rfl (by first | exact Or.inl rfl | exact Or.inr rfl) (s_newK pe_dnewK)))
  (b_seq (pss_cons (s_for rfl (ps_for (passes_of rfl) rfl (i_seq (pi_U (K := K) (s_frz (s_call (pe_callS (ok_law_names T) (hr.mono (by decide)) rfl T.f_law_names.mg T.f_law_names.kp T.f_law_names.bd (fun σ pins H s e s' I c => passes_call (takes_of rfl rfl rfl rfl) (fun _ _ _ _ q => q) pins σ H s e s' I c) (r_n (pa_cons (pv 1) (r_n (pa_cons (pv 2) (r_nil pa_nil)))))))))) (g_name (pg_name (i := 4) sc_law_table.nd rfl (by first | exact Or.inl rfl | exact Or.inr rfl)))
  (pss_one (s_put rfl (ps_asg (s_frz (s_call (pe_callS (ok_law_fraction T) (hr.mono (by decide)) rfl T.f_law_fraction.mg T.f_law_fraction.kp T.f_law_fraction.bd (fun σ pins H s e s' I c => passes_call (takes_of rfl rfl rfl rfl) (fun _ _ _ _ q => q) pins σ H s e s' I c) (r_n (pa_cons (pv 0) (r_nil pa_nil)))))) (pg_sub (pv 3) (s_var (pv 4)) (set_U (hu_of hr))))))))
  (pss_one (s_ret (ps_ret (s_move (pv 3))))))))))

theorem ok_law (T : Txt K mg) : FnOk P w K mg base (L2.CX P w) 8 T.f_law.f T.f_law.fd ["_law_script"] (spF (gK K T.cls hid0) f_law) := by
  unfold f_law m_law
  exact fn_S T.f_law.F sc_law rfl rfl (fun cdv A outer s H E hr =>
  (b_seq (pss_cons (s_set rfl (ps_set (i := 1) sc_law.nd rfl (by first | exact Or.inl rfl | exact Or.inr rfl) (s_call (pe_callS (ok_law_hand T) (hr.mono (by decide)) rfl T.f_law_hand.mg T.f_law_hand.kp T.f_law_hand.bd (fun σ pins H s e s' I c => passes_call (takes_of rfl rfl rfl rfl) (fun _ _ _ _ q => q) pins σ H s e s' I c) (r_n (pa_cons (pv 0) (r_nil pa_nil)))))))
  (b_seq (pss_cons (s_for rfl (ps_for (passes_of rfl) rfl (i_range1 (pi_range1 (by rfl) T.b_range (pa_cons (s_cst pe_int (fun _ _ => .int _)) pa_nil))) (g_name (pg_name (i := 2) sc_law.nd rfl (by first | exact Or.inl rfl | exact Or.inr rfl)))
  (b_seq (pss_cons (s_set rfl (ps_set (i := 3) sc_law.nd rfl (by first | exact Or.inl rfl | exact Or.inr rfl) (s_call (pe_callS (ok_law_rows T) (hr.mono (by decide)) rfl T.f_law_rows.mg T.f_law_rows.kp T.f_law_rows.bd (fun σ pins H s e s' I c => passes_call (takes_of rfl rfl rfl rfl) (fun _ _ _ _ q => q) pins σ H s e s' I c) (r_n (pa_cons (pv 1) (r_d (pa_cons (s_frz (s_op2 o_ix (pe_ix (ix_S (K := K) (hu_of hr)) (s_frz (s_lst (pe_lst (s_acons (pa_cons (s_cst pe_int (fun _ _ => .int _)) (s_acons (pa_cons (s_cst pe_int (fun _ _ => .int _)) (s_acons (pa_cons (s_cst pe_int (fun _ _ => .int _)) (s_anil pa_nil)))))))))) (s_frz (s_call (pe_callS (ok_law_draw T) (hr.mono (by decide)) rfl T.f_law_draw.mg T.f_law_draw.kp T.f_law_draw.bd (fun σ pins H s e s' I c => passes_call (takes_of rfl rfl rfl rfl) (fun _ _ _ _ q => q) pins σ H s e s' I c) (r_n (pa_cons (pv 1) (r_d (pa_cons (s_cst pe_int (fun _ _ => .int _)) (r_nil pa_nil)))))))) (fun _ _ => rfl)))) (r_nil pa_nil)))))))))
  (b_seq (pss_cons (s_set rfl (ps_set (i := 4) sc_law.nd rfl (by first | exact Or.inl rfl | exact Or.inr rfl) (s_op2 o_add (pe_op (op_addU (K := K)) (s_cst pe_int (fun _ _ => .int _)) (s_frz (s_call (pe_callS (ok_law_draw T) (hr.mono (by decide)) rfl T.f_law_draw.mg T.f_law_draw.kp T.f_law_draw.bd (fun σ pins H s e s' I c => passes_call (takes_of rfl rfl rfl rfl) (fun _ _ _ _ q => q) pins σ H s e s' I c) (r_n (pa_cons (pv 1) (r_d (pa_cons (s_frz (s_op2 o_sub (pe_op op_sub (s_cst pe_int (fun _ _ => .int _)) (s_frz (s_call1 o_int (pe_callTy call_intU (by rfl) T.b_int (by decide +kernel) (pa_cons (s_frz (s_op2 o_gt (pe_cmpR op_gtU (s_frz (s_call1B o_len (pe_callB (call_lenS (K := K)) (by rfl) T.b_len (by decide +kernel) (pa_cons (p_var (pv 3)) pa_nil)))) (s_cst pe_int (fun _ _ => .int _)) (by first | exact nomark _ | rfl)))) pa_nil))))))) (r_nil pa_nil))))))))))))
  (b_seq (pss_cons (s_set rfl (ps_set (i := 5) sc_law.nd rfl (by first | exact Or.inl rfl | exact Or.inr rfl) (s_call (pe_callS (ok_law_table T) (hr.mono (by decide)) rfl T.f_law_table.mg T.f_law_table.kp T.f_law_table.bd (fun σ pins H s e s' I c => passes_call (takes_of rfl rfl rfl rfl) (fun _ _ _ _ q => q) pins σ H s e s' I c) (r_n (pa_cons (pv 1) (r_n (pa_cons (pv 3) (r_n (pa_cons (pv 4) (r_nil pa_nil)))))))))))
  (b_seq (pss_cons (s_set rfl (ps_set (i := 6) sc_law.nd rfl (by first | exact Or.inl rfl | exact Or.inr rfl) (s_make (c := 33) (pe_makeS T.m_Prices (ok_Prices_init T) (hr.mono (by decide)) rfl T.k_Prices T.f_Prices_init.bd (fun σ pins H s e s' I c => passes_call (takes_of rfl rfl rfl rfl) (fun _ _ _ _ q => q) pins σ H s e s' I c) (r_n (pa_cons (pv 3) (r_n (pa_cons (pv 4) (r_n (pa_cons (pv 5) (r_nil pa_nil)))))))))))
  (b_seq (pss_cons (s_set rfl (ps_set (i := 7) sc_law.nd rfl (by first | exact Or.inl rfl | exact Or.inr rfl) (s_join (pe_joinU (K := K) (s_cst pe_str (fun _ _ => .str _)) (s_frz (s_lc (by decide) (pe_lcU (own := [("_law_row", 13)]) (vs := [13]) rfl (by rfl) sc_law.nd (i_range1 (pi_range1 (by rfl) T.b_range (pa_cons (s_frz (s_op2 o_ix (pe_ix (ix_S (K := K) (hu_of hr)) (s_frz (s_lst (pe_lst (s_acons (pa_cons (s_cst pe_int (fun _ _ => .int _)) (s_acons (pa_cons (s_cst pe_int (fun _ _ => .int _)) (s_acons (pa_cons (s_cst pe_int (fun _ _ => .int _)) (s_acons (pa_cons (s_cst pe_int (fun _ _ => .int _)) (s_acons (pa_cons (s_cst pe_int (fun _ _ => .int _)) (s_acons (pa_cons (s_cst pe_int (fun _ _ => .int _)) (s_anil pa_nil)))))))))))))))) (s_frz (s_call (pe_callS (ok_law_draw T) (hr.mono (by decide)) rfl T.f_law_draw.mg T.f_law_draw.kp T.f_law_draw.bd (fun σ pins H s e s' I c => passes_call (takes_of rfl rfl rfl rfl) (fun _ _ _ _ q => q) pins σ H s e s' I c) (r_n (pa_cons (pv 1) (r_d (pa_cons (s_cst pe_int (fun _ _ => .int _)) (r_nil pa_nil)))))))) (fun _ _ => rfl)))) pa_nil))) (blkOk_by (own := [("_law_row", 13)]) (N := N_law) (sc := defScope s_law) (by decide +kernel)) (fun _ _ _ _ _ => (g_name (pg_name (i := 13) sc_law.nd rfl (by first | exact Or.inl rfl | exact Or.inr rfl)))) (fun _ _ _ _ _ => pts_nil) (fun _ _ _ _ _ => (s_frz (s_op2 o_ix (pe_ix (ix_S (K := K) (hu_of hr)) (s_var (pv 3)) (s_frz (s_call (pe_callS (ok_law_draw T) (hr.mono (by decide)) rfl T.f_law_draw.mg T.f_law_draw.kp T.f_law_draw.bd (fun σ pins H s e s' I c => passL pins σ H s e s' I c) (r_n (pa_cons (pv 1) (r_d (pa_cons (s_frz (s_call1B o_len (pe_callB (call_lenS (K := K)) (by rfl) T.b_len (by decide +kernel) (pa_cons (p_var (pv 3)) pa_nil)))) (r_nil pa_nil)))))))) (fun _ _ => rfl))))))))))))
  (b_seq (pss_cons (s_set rfl (ps_set (i := 8) sc_law.nd rfl (by first | exact Or.inl rfl | exact Or.inr rfl) (s_call (pe_callS (ok_law_cut T) (hr.mono (by decide)) rfl T.f_law_cut.mg T.f_law_cut.kp T.f_law_cut.bd (fun σ pins H s e s' I c => passes_call (takes_of rfl rfl rfl rfl) (fun _ _ _ _ q => q) pins σ H s e s' I c) (r_n (pa_cons (pv 7) (r_n (pa_cons (pv 4) (r_nil pa_nil)))))))))
  (b_seq (pss_cons (s_ifS (ps_if (PW.pt (w_or (pw_or (t_E (le_op2 o_ne) (pt_cmpR (op_neU (K := K) (hu_of hr) hr.units) (s_frz (s_call (pe_callS (ok_price T) (hr.mono (by decide)) rfl T.f_price.mg T.f_price.kp T.f_price.bd (fun σ pins H s e s' I c => passes_call (takes_of rfl rfl rfl rfl) (fun _ _ _ _ q => q) pins σ H s e s' I c) (r_n (pa_cons (pv 6) (r_n (pa_cons (pv 7) (r_nil pa_nil)))))))) (s_frz (s_call (pe_callS (ok_law_sum T) (hr.mono (by decide)) rfl T.f_law_sum.mg T.f_law_sum.kp T.f_law_sum.bd (fun σ pins H s e s' I c => passes_call (takes_of rfl rfl rfl rfl) (fun _ _ _ _ q => q) pins σ H s e s' I c) (r_d (pa_cons (s_frz (s_lc (by decide) (pe_lcU (own := [("_law_name", 10)]) (vs := [10]) rfl (by rfl) sc_law.nd (i_seq (pi_U (K := K) (s_var (pv 8)))) (blkOk_by (own := [("_law_name", 10)]) (N := N_law) (sc := defScope s_law) (by decide +kernel)) (fun _ _ _ _ _ => (g_name (pg_name (i := 10) sc_law.nd rfl (by first | exact Or.inl rfl | exact Or.inr rfl)))) (fun _ _ _ _ _ => pts_nil) (fun _ _ _ _ _ => (s_B (p_ix (pe_ix (ix_S (K := K) (hu_of hr)) (p_var (pv 5)) (p_var (pv 10)) (fun _ _ => rfl)))))))) (r_nil pa_nil)))))) (by first | exact nomark _ | rfl))) (pw_or1 (t_E (le_op2 o_ne) (pt_cmpR (op_neU (K := K) (hu_of hr) hr.units) (s_frz (s_call (pe_callS (ok_price T) (hr.mono (by decide)) rfl T.f_price.mg T.f_price.kp T.f_price.bd (fun σ pins H s e s' I c => passes_call (takes_of rfl rfl rfl rfl) (fun _ _ _ _ q => q) pins σ H s e s' I c) (r_n (pa_cons (pv 6) (r_d (pa_cons (s_cst pe_str (fun _ _ => .str _)) (r_nil pa_nil)))))))) (s_tup (pe_tup (s_acons (pa_cons (s_cst pe_int (fun _ _ => .int _)) (s_acons (pa_cons (s_cst pe_int (fun _ _ => .int _)) (s_anil pa_nil))))))) (by first | exact nomark _ | rfl))))))) (pss_one (s_ret (ps_ret (s_up (s_cst pe_bl (fun _ _ => .bl _)))))) (b_nil pss_nil)))
  (b_seq (pss_cons (s_ifS (ps_if (PW.pt (w_and (pw_and (t_E (le_op2B o_ne) (pt_cmpR (op_neU (K := K) (hu_of hr) hr.units) (p_var (pv 7)) (p_cst pe_str (fun _ _ => .str _)) (by first | exact nomark _ | rfl))) (pw_and1 (t_E (le_op2 o_ne) (pt_cmpR (op_neU (K := K) (hu_of hr) hr.units) (s_frz (s_call (pe_callS (ok_price T) (hr.mono (by decide)) rfl T.f_price.mg T.f_price.kp T.f_price.bd (fun σ pins H s e s' I c => passes_call (takes_of rfl rfl rfl rfl) (fun _ _ _ _ q => q) pins σ H s e s' I c) (r_n (pa_cons (pv 6) (r_n (pa_cons (pv 7) (r_nil pa_nil)))))))) (s_frz (s_call (pe_callS (ok_law_sum T) (hr.mono (by decide)) rfl T.f_law_sum.mg T.f_law_sum.kp T.f_law_sum.bd (fun σ pins H s e s' I c => passes_call (takes_of rfl rfl rfl rfl) (fun _ _ _ _ q => q) pins σ H s e s' I c) (r_d (pa_cons (s_frz (s_lst (pe_lst (s_acons (pa_cons (s_frz (s_call (pe_callS (ok_price T) (hr.mono (by decide)) rfl T.f_price.mg T.f_price.kp T.f_price.bd (fun σ pins H s e s' I c => passes_call (takes_of rfl rfl rfl rfl) (fun _ _ _ _ q => q) pins σ H s e s' I c) (r_n (pa_cons (pv 6) (r_d (pa_cons (s_frz (s_slice o_none o_some (pe_slice (sl_U (K := K)) (s_var (pv 7)) po_none (po_some (s_frz (s_op1 o_neg (pe_un un_neg (s_cst pe_int (fun _ _ => .int _))))))))) (r_nil pa_nil)))))))) (s_acons (pa_cons (s_B (p_ix (pe_ix (ix_S (K := K) (hu_of hr)) (p_var (pv 5)) (p_ix (pe_ix (ix_S (K := K) (hu_of hr)) (p_var (pv 8)) (p_op1 o_neg (pe_un un_neg (p_cst pe_int (fun _ _ => .int _)))) (fun _ _ => rfl))) (fun _ _ => rfl)))) (s_anil pa_nil)))))))) (r_nil pa_nil)))))) (by first | exact nomark _ | rfl))))))) (pss_one (s_ret (ps_ret (s_up (s_cst pe_bl (fun _ _ => .bl _)))))) (b_nil pss_nil)))
  (b_seq (pss_cons (s_set rfl (ps_set (i := 9) sc_law.nd rfl (by first | exact Or.inl rfl | exact Or.inr rfl) (s_call (pe_callS (ok_law_fraction T) (hr.mono (by decide)) rfl T.f_law_fraction.mg T.f_law_fraction.kp T.f_law_fraction.bd (fun σ pins H s e s' I c => passes_call (takes_of rfl rfl rfl rfl) (fun _ _ _ _ q => q) pins σ H s e s' I c) (r_n (pa_cons (pv 1) (r_nil pa_nil)))))))
  (b_seq (pss_cons (s_for rfl (ps_for (passes_of rfl) rfl (i_seq (pi_U (K := K) (s_frz (s_call1B o_list (pe_callTy (call_listU2 (K := K)) (by rfl) T.b_list (by decide +kernel) (pa_cons (p_var (pv 5)) pa_nil)))))) (g_name (pg_name (i := 10) sc_law.nd rfl (by first | exact Or.inl rfl | exact Or.inr rfl)))
  (pss_one (s_put rfl (ps_asg (s_var (pv 9)) (pg_sub (pv 5) (s_var (pv 10)) (set_U (hu_of hr))))))))
  (b_seq (pss_cons (s_ifS (ps_if (t_E (le_op2 o_ne) (pt_cmpR (op_neU (K := K) (hu_of hr) hr.units) (s_frz (s_call (pe_callS (ok_price T) (hr.mono (by decide)) rfl T.f_price.mg T.f_price.kp T.f_price.bd (fun σ pins H s e s' I c => passes_call (takes_of rfl rfl rfl rfl) (fun _ _ _ _ q => q) pins σ H s e s' I c) (r_d (pa_cons (s_frz (s_make (c := 33) (pe_makeS T.m_Prices (ok_Prices_init T) (hr.mono (by decide)) rfl T.k_Prices T.f_Prices_init.bd (fun σ pins H s e s' I c => passes_call (takes_of rfl rfl rfl rfl) (fun _ _ _ _ q => q) pins σ H s e s' I c) (r_n (pa_cons (pv 3) (r_n (pa_cons (pv 4) (r_n (pa_cons (pv 5) (r_nil pa_nil)))))))))) (r_n (pa_cons (pv 7) (r_nil pa_nil)))))))) (s_frz (s_call (pe_callS (ok_law_made T) (hr.mono (by decide)) rfl T.f_law_made.mg T.f_law_made.kp T.f_law_made.bd (fun σ pins H s e s' I c => passes_call (takes_of rfl rfl rfl rfl) (fun _ _ _ _ q => q) pins σ H s e s' I c) (r_d (pa_cons (s_frz (s_op2 o_mul (pe_op op_mulU (s_B (p_ix (pe_ix (ix_S (K := K) (hu_of hr)) (p_var (pv 9)) (p_cst pe_int (fun _ _ => .int _)) (fun _ _ => rfl)))) (s_frz (s_call1B o_len (pe_callB (call_lenS (K := K)) (by rfl) T.b_len (by decide +kernel) (pa_cons (p_var (pv 7)) pa_nil))))))) (r_d (pa_cons (s_B (p_ix (pe_ix (ix_S (K := K) (hu_of hr)) (p_var (pv 9)) (p_cst pe_int (fun _ _ => .int _)) (fun _ _ => rfl)))) (r_nil pa_nil)))))))) (by first | exact nomark _ | rfl))) (pss_one (s_ret (ps_ret (s_up (s_cst pe_bl (fun _ _ => .bl _)))))) (b_nil pss_nil)))
  (b_seq (pss_cons (s_set rfl (ps_set (i := 11) sc_law.nd rfl (by first | exact Or.inl rfl | exact Or.inr rfl) (s_op2 o_ix (pe_ix (ix_S (K := K) (hu_of hr)) (s_frz (s_lcIf (by decide) (pe_lcU (own := [("_law_letter", 14)]) (vs := [14]) rfl (by rfl) sc_law.nd (i_seq (pi_U (K := K) (s_cst pe_str (fun _ _ => .str _)))) (blkOk_by (own := [("_law_letter", 14)]) (N := N_law) (sc := defScope s_law) (by decide +kernel)) (fun _ _ _ _ _ => (g_name (pg_name (i := 14) sc_law.nd rfl (by first | exact Or.inl rfl | exact Or.inr rfl)))) (fun _ _ _ _ _ => (pts_one (t_E (le_op2R (o_in true)) (pt_cmpR (op_notInS (K := K) (hu_of hr) hr.units) (s_var (pv 14)) (p_var (pv 3)) (by first | exact nomark _ | rfl))))) (fun _ _ _ _ _ => (s_var (pv 14)))))) (s_cst pe_int (fun _ _ => .int _)) (fun _ _ => rfl)))))
  (b_seq (pss_cons (s_set rfl (ps_set (i := 7) sc_law.nd rfl (by first | exact Or.inl rfl | exact Or.inr rfl) (s_slice o_none o_some (pe_slice (sl_U (K := K)) (s_var (pv 7)) po_none (po_some (s_cst pe_int (fun _ _ => .int _)))))))
  (pss_one (s_for rfl (ps_for (passes_of rfl) rfl (i_seq (pi_U (K := K) (s_frz (s_lst (pe_lst (s_acons (pa_cons (s_frz (s_op2 o_add (pe_op (op_addU (K := K)) (s_var (pv 7)) (s_var (pv 11))))) (s_acons (pa_cons (s_var (pv 11)) (s_acons (pa_cons (s_frz (s_upper (pe_bm0U (K := K) PySem.F.plainAttrs_str PySem.F.slot_str_upper PySem.F.type_str_upper mt_upperU (s_B (p_ix (pe_ix (ix_S (K := K) (hu_of hr)) (p_var (pv 3)) (p_cst pe_int (fun _ _ => .int _)) (fun _ _ => rfl))))))) (s_acons (pa_cons (s_frz (s_call1B o_list (pe_callTy (call_listU2 (K := K)) (by rfl) T.b_list (by decide +kernel) (pa_cons (p_var (pv 3)) pa_nil)))) (s_acons (pa_cons (s_tup (pe_tup (s_acons (pa_cons (s_B (p_ix (pe_ix (ix_S (K := K) (hu_of hr)) (p_var (pv 3)) (p_cst pe_int (fun _ _ => .int _)) (fun _ _ => rfl)))) (s_anil pa_nil))))) (s_acons (pa_cons (s_cst pe_non (fun _ _ => .non)) (s_acons (pa_cons (s_cst pe_int (fun _ _ => .int _)) (s_acons (pa_cons (s_cst pe_bl (fun _ _ => .bl _)) (s_acons (pa_cons (s_frz (s_op2 o_add (pe_op (op_addU (K := K)) (s_cst pe_str (fun _ _ => .str _)) (s_B (p_ix (pe_ix (ix_S (K := K) (hu_of hr)) (p_var (pv 3)) (p_cst pe_int (fun _ _ => .int _)) (fun _ _ => rfl))))))) (s_acons (pa_cons (s_frz (s_call (pe_callS (ok_law_odd T) (hr.mono (by decide)) rfl T.f_law_odd.mg T.f_law_odd.kp T.f_law_odd.bd (fun σ pins H s e s' I c => passes_call (takes_of rfl rfl rfl rfl) (fun _ _ _ _ q => q) pins σ H s e s' I c) (r_n (pa_cons (pv 1) (r_nil pa_nil)))))) (s_anil pa_nil)))))))))))))))))))))))))) (g_name (pg_name (i := 12) sc_law.nd rfl (by first | exact Or.inl rfl | exact Or.inr rfl)))
  (pss_one (s_ifS (ps_if (t_not (pt_not (t_val (pt_val (s_frz (s_call (pe_callS (ok_law_refused T) (hr.mono (by decide)) rfl T.f_law_refused.mg T.f_law_refused.kp T.f_law_refused.bd (fun σ pins H s e s' I c => passes_call (takes_of rfl rfl rfl rfl) (fun _ _ _ _ q => q) pins σ H s e s' I c) (r_n (pa_cons (pv 6) (r_n (pa_cons (pv 12) (r_nil pa_nil)))))))))))) (pss_one (s_ret (ps_ret (s_up (s_cst pe_bl (fun _ _ => .bl _)))))) (b_nil pss_nil)))))))))))))))))))))))))))))))))))
  (pss_one (s_ret (ps_ret (s_up (s_cst pe_bl (fun _ _ => .bl _)))))))))))

end
end Lw
namespace Lw
open PySem PySem.Spec PyProof.Rows L2 VS
-- side goals
local macro_rules | `(tactic| walk_at "va") => `(tactic| (first | with_reducible assumption | decide | omega | (simp only [sizeLine]; omega)))
-- normal forms of slots
local macro_rules | `(tactic| walk_at "vn") => `(tactic| (simp only [List.set_cons_succ, List.set_cons_zero, toD_fz, toD_mu', toDs_fz, toDs_cons, toDs_nil, lent, wb, List.map_cons, List.map_nil, wipeT, List.replicate_succ, List.replicate_zero, List.cons_append, List.nil_append, Bool.not_true, Bool.not_false, List.length_cons, List.length_nil, Nat.reduceAdd, Nat.reduceSub, and_true, true_and, if_true, if_false, Bool.false_eq_true]))
-- a slot
local macro_rules | `(tactic| walk_at "vt") => `(tactic| exact rfl)
-- one step
local macro_rules | `(tactic| walk_at "v1") => `(tactic| (first
  | with_reducible refine w_ok ?_
  | with_reducible refine w_ex ?_
  | with_reducible refine w_exQ ?_
  | ((with_reducible refine w_finN (o := ?mo) ?h1 ?_); (case h1 => exact rfl))
  | ((with_reducible refine w_finR (o := ?mo) ?h1 ?_); (case h1 => exact rfl))
  | ((with_reducible refine w_finX (o := ?mo) ?h1 ?_); (case h1 => exact rfl))
  | with_reducible refine w_inC ?_
  | with_reducible refine w_inB ?_
  | with_reducible refine w_inR ?_
  | with_reducible refine w_inX ?_
  | with_reducible refine w_tryX ?_
  | with_reducible refine w_tryR ?_
  | with_reducible refine w_try ?_
  | with_reducible refine w_lc2 ?_
  | with_reducible refine w_dc ?_
  | with_reducible refine w_seq ?_
  | with_reducible refine w_set ?_
  | with_reducible refine w_frz ?_
  | with_reducible refine w_up ?_
  | with_reducible refine w_op2 ?_
  | with_reducible refine w_op1 ?_
  | with_reducible refine w_C ?_
  | ((with_reducible refine w_var (d := ?md) ?h1 ?_); (case h1 => (walk_at "vt")))
  | ((with_reducible refine w_varO (h := ?mh) (l := ?ml) ?h1 ?_); (case h1 => (walk_at "vt")))
  | ((with_reducible refine w_move (d := ?md) ?h1 ?_); (case h1 => (walk_at "vt")))
  | ((with_reducible refine w_moveO (h := ?mh) (l := ?ml) ?h1 ?_); (case h1 => (walk_at "vt")))
  | with_reducible refine w_isbl ?_
  | with_reducible refine w_isint ?_
  | with_reducible refine w_isstr ?_
  | with_reducible refine v_iteT ?_
  | with_reducible refine v_iteF ?_
  | with_reducible refine v_iteNT ?_
  | with_reducible refine v_iteNF ?_
  | with_reducible refine w_cB ?_
  | with_reducible refine w_cNot ?_
  | with_reducible refine w_cAnd ?_
  | with_reducible refine w_cOr ?_
  | with_reducible refine w_mNot ?_
  | with_reducible refine w_mAnd ?_
  | with_reducible refine w_mOr ?_
  | with_reducible refine w_mIf ?_
  | with_reducible refine w_chain ?_
  | with_reducible refine w_sif ?_
  | with_reducible refine w_sret ?_
  | with_reducible refine w_sretN ?_
  | with_reducible refine w_sNx ?_
  | with_reducible refine w_sBk ?_
  | with_reducible refine w_sCt ?_
  | with_reducible refine w_drop ?_
  | with_reducible refine w_par ?_
  | with_reducible refine w_asg ?_
  | with_reducible refine w_anil ?_
  | with_reducible refine w_acons ?_
  | ((with_reducible refine w_tup ?_); refine ⟨by walk_at "va", ?_⟩)
  | ((with_reducible refine w_lst ?_); refine ⟨by walk_at "va", ?_⟩)
  | with_reducible refine w_tup ?_
  | with_reducible refine w_lst ?_
  | with_reducible refine w_newK ?_
  | with_reducible refine w_newT ?_
  | with_reducible refine w_disp1 ?_
  | with_reducible refine w_oNone ?_
  | with_reducible refine w_oSome ?_
  | with_reducible refine w_slice ?_
  | with_reducible refine w_itD ?_
  | with_reducible refine w_itEn ?_
  | with_reducible refine w_itR1 ?_
  | with_reducible refine w_itR2 ?_
  | with_reducible refine w_itZip ?_
  | with_reducible refine w_bm ?_
  | with_reducible refine w_join ?_
  | with_reducible refine w_rnil ?_
  | with_reducible refine w_rD ?_
  | ((with_reducible refine w_rN (d := ?md) ?h1 ?_); (case h1 => (walk_at "vt")))
  | ((with_reducible refine w_rO (h := ?mh) (l := ?ml) ?h1 ?_); (case h1 => (walk_at "vt")))
  | ((with_reducible refine w_rH (s := ?ms) ?h1 ?h2 ?_); (case h1 => exact rfl); (case h2 => with_reducible assumption))
  | with_reducible refine w_call ?_
  | with_reducible refine w_make ?_
  | with_reducible refine w_put ?_
  | with_reducible refine w_raise ?_
  | with_reducible refine w_for ?_
  | with_reducible refine w_lc ?_
  | with_reducible refine v_addI ?_
  | with_reducible refine v_subI ?_
  | ((with_reducible refine v_mulIr ?h1 ?h2 ?_); (case h1 => (walk_at "va")); (case h2 => (walk_at "va")))
  | ((with_reducible refine v_mulIl ?h1 ?h2 ?_); (case h1 => (walk_at "va")); (case h2 => (walk_at "va")))
  | ((with_reducible refine v_modI ?h1 ?_); (case h1 => (walk_at "va")))
  | ((with_reducible refine v_divI ?h1 ?h2 ?_); (case h1 => (walk_at "va")); (case h2 => (walk_at "va")))
  | ((with_reducible refine v_powI ?h1 ?h2 ?h3 ?_); (case h1 => (walk_at "va")); (case h2 => (walk_at "va")); (case h3 => (walk_at "va")))
  | ((with_reducible refine v_addS ?h1 ?_); (case h1 => (walk_at "va")))
  | ((with_reducible refine v_addL ?h1 ?_); (case h1 => (walk_at "va")))
  | ((with_reducible refine v_addT ?h1 ?_); (case h1 => (walk_at "va")))
  | with_reducible refine v_ltI ?_
  | with_reducible refine v_leI ?_
  | with_reducible refine v_gtI ?_
  | with_reducible refine v_geI ?_
  | with_reducible refine v_eqI ?_
  | with_reducible refine v_neI ?_
  | with_reducible refine v_eqS ?_
  | with_reducible refine v_neS ?_
  | with_reducible refine v_negI ?_
  | with_reducible refine v_absI ?_
  | with_reducible refine v_intI ?_
  | ((with_reducible refine v_isiT (n := ?mn) ?h1 ?h2 ?_); (case h1 => (exact rfl)); (case h2 => (exact rfl)))
  | ((with_reducible refine v_isiF (n := ?mn) ?h1 ?h2 ?_); (case h1 => (exact rfl)); (case h2 => (exact rfl)))
  | ((with_reducible refine w_isiT (s := ?ms) (n := ?mn) ?h1 ?h2 ?h3 ?_); (case h1 => exact rfl); (case h2 => exact rfl); (case h3 => exact rfl))
  | ((with_reducible refine w_isiF (s := ?ms) (n := ?mn) ?h1 ?h2 ?h3 ?_); (case h1 => exact rfl); (case h2 => exact rfl); (case h3 => exact rfl))
  | ((with_reducible refine v_lenS ?h1 ?_); (case h1 => (walk_at "va")))
  | with_reducible refine v_lenL ?_
  | with_reducible refine v_lenT ?_
  | with_reducible refine v_lenO ?_
  | with_reducible refine v_lenD ?_
  | ((with_reducible refine w_op1B (x := ?mx) ?h1 ?_); (case h1 => ((first | (exact rfl) | (refine view_ofL (h := ?vh) (l := ?vl) ?vv; (case vv => exact rfl))))))
  | ((with_reducible refine w_op2B (x := ?mx) (y := ?my) ?h1 ?h2 ?_); (case h1 => ((first | (exact rfl) | (refine view_ofL (h := ?vh) (l := ?vl) ?vv; (case vv => exact rfl))))); (case h2 => ((first | (exact rfl) | (refine view_ofL (h := ?vh) (l := ?vl) ?vv; (case vv => exact rfl))))))
  | ((with_reducible refine w_B (d := ?md) ?h1 ?_); (case h1 => (exact rfl)))
  | ((with_reducible refine v_put0 (h := ?mh) (sl := ?ml) ?h1 ?_); (case h1 => exact rfl))
  | ((with_reducible refine v_put1 (h := ?mh) (sl := ?ml) (hh := ?mh2) (ll := ?ml2) ?h1 ?h2 ?_); (case h1 => exact rfl); (case h2 => exact rfl))
  | ((with_reducible refine w_mut (h := ?mh) (l := ?ml) ?h1 ?h2 ?_); (case h1 => exact rfl); (case h2 => exact rfl))
  | ((with_reducible refine v_rb1 ?h1 ?_); (case h1 => omega))
  | ((with_reducible refine v_rb2 ?h1 ?_); (case h1 => omega))
  | with_reducible refine w_fldS ?_
  | ((with_reducible refine v_fldN (c := ?mc) (fs := ?mfs) (sl := ?ml) ?h1 ?h2 ?h3 ?_); (case h1 => exact rfl); (case h2 => decide); (case h3 => decide))
  | (rw [putSf_new]; rotate_left; (decide +kernel); (exact rfl); dsimp only)
  | with_reducible refine v_sliL ?_
  | with_reducible refine v_sliO ?_
  | with_reducible refine v_sliT ?_
  | ((with_reducible refine v_sliS ?h1 ?_); (case h1 => (walk_at "va")))
  | with_reducible refine v_itmL ?_
  | with_reducible refine v_itmS ?_
  | ((with_reducible refine v_inS (a := ?ma) ?h1 ?_); (case h1 => exact rfl))
  | ((with_reducible refine v_ninS (a := ?ma) ?h1 ?_); (case h1 => exact rfl))
  | with_reducible refine v_itmT ?_
  | with_reducible refine v_itmO ?_
  | with_reducible refine v_dName ?_
  | with_reducible refine v_cYes ?_
  | with_reducible refine w_op2R ?_
  | ((with_reducible refine v_sz ?h1 ?_); (case h1 => (walk_at "va")))
  | ((fail_if_success (with_reducible refine fin_id ?_)); (walk_at "vn"))))
local macro_rules | `(tactic| walk_at "v") => `(tactic| repeat walk_at "v1")

theorem gcd_turn {a b : Int} (ha : 0 ≤ a) (hb : 0 ≤ b) : Int.gcd b (a % b) = Int.gcd a b := by
  obtain ⟨m, rfl⟩ : ∃ m : Nat, a = (m : Int) := ⟨a.toNat, by omega⟩
  obtain ⟨n, rfl⟩ : ∃ n : Nat, b = (n : Int) := ⟨b.toNat, by omega⟩
  show Nat.gcd n ((m : Int) % (n : Int)).natAbs = Nat.gcd m n
  rw [show ((m : Int) % (n : Int)).natAbs = m % n by rw [← Int.natCast_emod]; rfl, Nat.gcd_comm m n, Nat.gcd_rec n m, Nat.gcd_comm]
theorem p_common_divisor {a b : Int} (ha : 0 ≤ a) (hb : 0 ≤ b) : RunF f_common_divisor [.fz (.int a), .fz (.int b)] fun r os => r = .ok (.fz (.int (Int.gcd a b))) ∧ os = [.fz (.int a), .fz (.int b)] := by
  unfold f_common_divisor m_common_divisor
  refine w_fn rfl rfl ?_
  walk_at "v"
  refine w_while (fun m τ => ∃ x y : Int, τ = [some (.fz (.int x)), some (.fz (.int y))] ∧ 0 ≤ x ∧ 0 ≤ y ∧ Int.gcd x y = Int.gcd a b ∧ y.toNat = m) b.toNat (fuel_le (by simp only [List.map_cons, List.map_nil, List.sum_cons, List.sum_nil, fuelS]; omega)) ⟨a, b, rfl, ha, hb, rfl, rfl⟩ ?_
  rintro m τ ⟨x, y, rfl, hx, hy, hg, rfl⟩
  walk_at "v"
  refine v_iteN (fun hz => ?_) fun hz => ?_
  · have h1 := Int.emod_nonneg x hz
    have h2 := Int.emod_lt_of_pos x (show 0 < y by omega)
    walk_at "v"
    exact ⟨(x % y).toNat, by omega, y, x % y, rfl, hy, h1, by rw [gcd_turn hx hy]; exact hg, rfl⟩
  · subst hz
    walk_at "v"
    rw [← hg, Int.gcd_zero_right, Int.natAbs_of_nonneg hx]
    exact ⟨rfl, rfl⟩

-- use common_divisor
/-- a fraction in lowest terms, its bottom above 0 -/
def nf (t b : Int) : Int × Int := (t / (Int.gcd t b : Int), b / (Int.gcd t b : Int))
theorem nf_pos {t b : Int} (hb : 0 < b) : 0 < (nf t b).2 := by
  have hg : (Int.gcd t b : Int) ∣ b := Int.gcd_dvd_right ..
  have h0 : 0 < (Int.gcd t b : Int) := by
    have : Int.gcd t b ≠ 0 := fun e => by
      have := (Int.gcd_eq_zero_iff.mp e).2
      omega
    omega
  exact Int.ediv_pos_of_pos_of_dvd hb (Int.le_of_lt h0) hg
theorem gcd_pos_of {t b : Int} (hb : 0 < b) : 0 < (Int.gcd t b : Int) := by
  have : Int.gcd t b ≠ 0 := fun e => by
    have := (Int.gcd_eq_zero_iff.mp e).2
    omega
  omega
/-- small numbers -/
def Sm (n : Nat) (i : Int) : Prop := i.natAbs < 2 ^ n
theorem nf_scale {t b k : Int} (hk : 0 < k) : nf (t * k) (b * k) = nf t b := by
  unfold nf
  have e : (Int.gcd (t * k) (b * k) : Int) = (Int.gcd t b : Int) * k := by
    rw [Int.gcd_mul_right]
    rw [Int.natCast_mul, Int.natAbs_of_nonneg (Int.le_of_lt hk)]
  rw [e, Int.mul_ediv_mul_of_pos_left _ _ hk, Int.mul_ediv_mul_of_pos_left _ _ hk]
/-- of one worth: of one form -/
theorem nf_eq {t b t' b' : Int} (hb : 0 < b) (hb' : 0 < b') (h : t * b' = t' * b) : nf t b = nf t' b' := by
  rw [← nf_scale (t := t) (b := b) hb', ← nf_scale (t := t') (b := b') hb, h, Int.mul_comm b b']
def plusF (x y : Int × Int) : Int × Int := nf (x.1 * y.2 + y.1 * x.2) (x.2 * y.2)
def frD (f : Int × Int) : D := .tup [.int f.1, .int f.2]
theorem sm_mono {n m : Nat} {i : Int} (h : Sm n i) (hn : n ≤ m) : Sm m i := Nat.lt_of_lt_of_le h (Nat.pow_le_pow_right (by decide) hn)
theorem sm_mul {n m : Nat} {i j : Int} (h1 : Sm n i) (h2 : Sm m j) : Sm (n + m) (i * j) := by
  unfold Sm at *
  rw [Int.natAbs_mul, Nat.pow_add]
  exact Nat.mul_lt_mul'' h1 h2
theorem sm_add {n : Nat} {i j : Int} (h1 : Sm n i) (h2 : Sm n j) : Sm (n + 1) (i + j) := by
  unfold Sm at *
  have := Int.natAbs_add_le i j
  rw [Nat.pow_succ]
  omega
theorem sm_div {n : Nat} {i j : Int} (h : Sm n i) : Sm n (i / j) := by
  unfold Sm at *
  exact Nat.lt_of_le_of_lt (Int.natAbs_ediv_le_natAbs i j) h
theorem sm_nf {n m : Nat} {t b : Int} (h1 : Sm n t) (h2 : Sm m b) : Sm n (nf t b).1 ∧ Sm m (nf t b).2 := ⟨sm_div h1, sm_div h2⟩

theorem abs_gcd {t b : Int} : Int.gcd (if t < 0 then -t else t) b = Int.gcd t b := by
  split
  · exact Int.neg_gcd ..
  · rfl
theorem gcd_ok {t b : Int} (hb : 0 < b) (hs : Sm 9000 b) : divOk (Int.gcd t b : Int) = true := by
  have hd : (Int.gcd t b : Int) ∣ b := Int.gcd_dvd_right ..
  have hle : (Int.gcd t b : Int) ≤ b := Int.le_of_dvd hb hd
  refine divOk_sm (Nat.lt_of_le_of_lt ?_ (show b.natAbs < 2 ^ 9000 from hs))
  omega
theorem p_made {t b : Int} (hb : 0 < b) (hs : Sm 9000 b) : Ret f_made [.fz (.int t), .fz (.int b)] (.fz (frD (nf t b))) := by
  unfold f_made m_made
  have hg := gcd_pos_of (t := t) hb
  have hd : (Int.gcd t b : Int) ∣ b := Int.gcd_dvd_right ..
  have hle : (Int.gcd t b : Int) ≤ b := Int.le_of_dvd hb hd
  have okg := gcd_ok (t := t) hb hs
  refine w_fn rfl rfl ?_
  walk_at "v"
  refine v_iteD (fun h => absurd h (by omega)) fun _ => ?_
  walk_at "v"
  refine w_run rfl rfl (p_common_divisor (by split <;> omega) (by omega)) ?_
  rintro _ _ ⟨rfl, rfl⟩
  rw [abs_gcd]
  refine ⟨rfl, ?_⟩
  walk_at "v"
  refine v_divIg hg okg ?_
  walk_at "v"
  refine v_divIg hg okg ?_
  walk_at "v"
  exact ⟨rfl, rfl⟩

-- use made
theorem p_plus {x y : Int × Int} (bx : 0 < x.2) (by_ : 0 < y.2) (s1 : Sm 4000 x.1) (s2 : Sm 4000 x.2) (s3 : Sm 4000 y.1) (s4 : Sm 4000 y.2) : Ret f_plus [.fz (frD x), .fz (frD y)] (.fz (frD (plusF x y))) := by
  unfold f_plus m_plus frD
  refine w_fn rfl rfl ?_
  walk_at "v"
  refine v_iteD (fun e => ?_) fun e => ?_
  · walk_at "v"
    refine w_ret rfl rfl (p_made bx (sm_mono s2 (by decide))) rfl ?_
    walk_at "v"
    have : plusF x y = nf (x.1 + y.1) x.2 := by
      unfold plusF
      rw [← e, ← Int.add_mul, nf_scale bx]
    rw [this]
    exact ⟨rfl, rfl⟩
  · walk_at "v"
    refine v_mulI (mulOk_sm s1 s4 (by decide)) ?_
    walk_at "v"
    refine v_mulI (mulOk_sm s3 s2 (by decide)) ?_
    walk_at "v"
    refine v_mulI (mulOk_sm s2 s4 (by decide)) ?_
    walk_at "v"
    refine w_ret rfl rfl (p_made (Int.mul_pos bx by_) (sm_mono (sm_mul s2 s4) (by decide))) rfl ?_
    walk_at "v"
    exact ⟨rfl, rfl⟩

-- use plus
def sumQ (fs : List (Int × Int)) : Int × Int := fs.foldl plusF (0, 1)
structure Frs (n : Nat) (fs : List (Int × Int)) : Prop where
  pos : ∀ f ∈ fs, 0 < f.2
  top : ∀ f ∈ fs, Sm n f.1
  bot : ∀ f ∈ fs, Sm n f.2
theorem plusF_sm {n a b : Nat} {x y : Int × Int} (h1 : Sm a x.1) (h2 : Sm b x.2) (h3 : Sm n y.1) (h4 : Sm n y.2) : Sm (max (a + n) (n + b) + 1) (plusF x y).1 ∧ Sm (b + n) (plusF x y).2 :=
  sm_nf (sm_add (sm_mono (sm_mul h1 h4) (Nat.le_max_left _ _)) (sm_mono (sm_mul h3 h2) (Nat.le_max_right _ _))) (sm_mul h2 h4)
theorem sumQ_sm {n : Nat} {fs : List (Int × Int)} (h : Frs n fs) : ∀ i, i ≤ fs.length → 0 < (sumQ (fs.take i)).2 ∧ Sm ((n + 1) * i + 1) (sumQ (fs.take i)).1 ∧ Sm (n * i + 1) (sumQ (fs.take i)).2
  | 0, _ => by
    have e : sumQ (fs.take 0) = (0, 1) := rfl
    rw [e]
    refine ⟨by decide, ?_, ?_⟩
    · show (0 : Nat) < 2 ^ ((n + 1) * 0 + 1)
      rw [Nat.mul_zero]; decide
    · show (1 : Nat) < 2 ^ (n * 0 + 1)
      rw [Nat.mul_zero]; decide
  | i + 1, hi => by
    have e : fs[i]? = some fs[i] := List.getElem?_eq_getElem (by omega)
    have hm := List.mem_of_getElem? e
    obtain ⟨h1, h2, h3⟩ := sumQ_sm h i (by omega)
    have es : sumQ (fs.take (i + 1)) = plusF (sumQ (fs.take i)) fs[i] := by
      unfold sumQ
      rw [List.take_add_one, e, List.foldl_append]
      rfl
    rw [es]
    obtain ⟨q1, q2⟩ := plusF_sm h2 h3 (h.top _ hm) (h.bot _ hm)
    refine ⟨nf_pos (Int.mul_pos h1 (h.pos _ hm)), sm_mono q1 ?_, sm_mono q2 ?_⟩
    · have e1 : (n + 1) * (i + 1) = (n + 1) * i + n + 1 := by rw [Nat.mul_succ]; omega
      have e2 : (n + 1) * i = n * i + i := by rw [Nat.succ_mul]
      omega
    · have e1 : n * (i + 1) = n * i + n := Nat.mul_succ ..
      omega

theorem p_sum_of {fs : List (Int × Int)} {n : Nat} (hf : Frs n fs) (hn : (n + 1) * fs.length + 1 ≤ 4000) (hn4 : n ≤ 4000) : Ret f_sum_of [.fz (.ob .lst (fs.map frD))] (.fz (frD (sumQ fs))) := by
  unfold f_sum_of m_sum_of
  refine w_fn rfl rfl ?_
  walk_at "v"
  refine w_loopX (fun i τ => ∃ o, τ = [some (.fz (.ob .lst (fs.map frD))), some (.fz (frD (sumQ (fs.take i)))), o]) ⟨_, rfl⟩ ?_ ?_
  · rintro i f τ hfi ⟨o, rfl⟩
    have hm := List.mem_of_getElem? hfi
    have hi := (List.getElem?_eq_some_iff.mp hfi).1
    obtain ⟨h1, h2, h3⟩ := sumQ_sm hf i (by omega)
    have hmul : (n + 1) * i ≤ (n + 1) * fs.length := Nat.mul_le_mul_left _ (by omega)
    have e2 : (n + 1) * i = n * i + i := by rw [Nat.succ_mul]
    walk_at "v"
    refine w_ret rfl rfl (p_plus h1 (hf.pos f hm) (sm_mono h2 (by omega)) (sm_mono h3 (by omega)) (sm_mono (hf.top f hm) hn4) (sm_mono (hf.bot f hm) hn4)) rfl ?_
    walk_at "v"
    refine ⟨some (.fz (frD f)), ?_⟩
    have es : sumQ (fs.take (i + 1)) = plusF (sumQ (fs.take i)) f := by
      unfold sumQ
      rw [List.take_add_one, hfi, List.foldl_append]
      rfl
    rw [es]
  · rintro τ ⟨o, rfl⟩
    rw [List.take_of_length_le (by omega)]
    walk_at "v"
    exact ⟨rfl, rfl⟩

-- use common_divisor
theorem p_law_common {a b : Int} (ha : 0 ≤ a) (hb : 0 ≤ b) : Ret f_law_common [.fz (.int a), .fz (.int b)] (.fz (.int (Int.gcd a b))) := by
  unfold f_law_common m_law_common
  refine w_fn rfl rfl ?_
  walk_at "v"
  refine w_while (fun m τ => ∃ (x y : Int) (o : Option SV), τ = [some (.fz (.int x)), some (.fz (.int y)), o] ∧ 0 ≤ x ∧ 0 ≤ y ∧ Int.gcd x y = Int.gcd a b ∧ y.toNat = m) b.toNat (fuel_le (by simp only [List.map_cons, List.map_nil, List.sum_cons, List.sum_nil, fuelS]; omega)) ⟨a, b, _, rfl, ha, hb, rfl, rfl⟩ ?_
  rintro m τ ⟨x, y, o, rfl, hx, hy, hg, rfl⟩
  walk_at "v"
  refine v_iteN (fun hz => ?_) fun hz => ?_
  · have h1 := Int.emod_nonneg x hz
    have h2 := Int.emod_lt_of_pos x (show 0 < y by omega)
    walk_at "v"
    exact ⟨(x % y).toNat, by omega, y, x % y, _, rfl, hy, h1, by rw [gcd_turn hx hy]; exact hg, rfl⟩
  · subst hz
    walk_at "v"
    rw [← hg, Int.gcd_zero_right, Int.natAbs_of_nonneg hx]
    exact ⟨rfl, rfl⟩

-- use made
theorem p_law_made {t b : Int} (hb : 0 < b) (hs : Sm 9000 b) : Ret f_law_made [.fz (.int t), .fz (.int b)] (.fz (frD (nf t b))) := by
  unfold f_law_made m_law_made
  refine w_fn rfl rfl ?_
  walk_at "v"
  refine w_while (fun m τ => ∃ (x y : Int) (o : Option SV), τ = [some (.fz (.int t)), some (.fz (.int b)), some (.fz (.int x)), some (.fz (.int y)), o] ∧ 0 ≤ x ∧ 0 ≤ y ∧ Int.gcd x y = Int.gcd t b ∧ y.toNat = m) b.toNat (fuel_le (by simp only [List.map_cons, List.map_nil, List.sum_cons, List.sum_nil, fuelS]; omega)) ⟨_, b, _, rfl, by split <;> omega, by omega, abs_gcd, rfl⟩ ?_
  rintro m τ ⟨x, y, o, rfl, hx, hy, hg, rfl⟩
  walk_at "v"
  refine v_iteN (fun hz => ?_) fun hz => ?_
  · have h1 := Int.emod_nonneg x hz
    have h2 := Int.emod_lt_of_pos x (show 0 < y by omega)
    walk_at "v"
    exact ⟨(x % y).toNat, by omega, y, x % y, _, rfl, hy, h1, by rw [gcd_turn hx hy]; exact hg, rfl⟩
  · subst hz
    have ex : x = (Int.gcd t b : Int) := by rw [← hg, Int.gcd_zero_right, Int.natAbs_of_nonneg hx]
    subst ex
    have hg := gcd_pos_of (t := t) hb
    have hd : (Int.gcd t b : Int) ∣ b := Int.gcd_dvd_right ..
    have hle : (Int.gcd t b : Int) ≤ b := Int.le_of_dvd hb hd
    have okg := gcd_ok (t := t) hb hs
    walk_at "v"
    refine v_divIg hg okg ?_
    walk_at "v"
    refine v_divIg hg okg ?_
    walk_at "v"
    exact ⟨rfl, rfl⟩

-- use sum_of
-- use law_common
-- use law_made
theorem plus_nf {S L t b q : Int} (hL : 0 < L) (hb : 0 < b) (hq : L = q * b) : plusF (nf S L) (t, b) = nf (S + t * q) L := by
  have hg := gcd_pos_of (t := S) hL
  have h1 : S = (nf S L).1 * (Int.gcd S L : Int) := (Int.ediv_mul_cancel (Int.gcd_dvd_left ..)).symm
  have h2 : L = (nf S L).2 * (Int.gcd S L : Int) := (Int.ediv_mul_cancel (Int.gcd_dvd_right ..)).symm
  have hp := nf_pos (t := S) hL
  obtain ⟨x, y, exy⟩ : ∃ x y, nf S L = (x, y) := ⟨_, _, rfl⟩
  rw [exy] at h1 h2 hp ⊢
  change S = x * (Int.gcd S L : Int) at h1
  change L = y * (Int.gcd S L : Int) at h2
  change 0 < y at hp
  generalize (Int.gcd S L : Int) = g at *
  show nf (x * b + t * y) (y * b) = _
  refine nf_eq (Int.mul_pos hp hb) hL ?_
  subst h1
  have e : (x * g + t * q) * (y * b) = x * b * (y * g) + t * y * (q * b) := by
    rw [Int.add_mul]
    congr 1
    · simp only [Int.mul_assoc, Int.mul_comm, Int.mul_left_comm]
    · simp only [Int.mul_assoc, Int.mul_comm, Int.mul_left_comm]
  rw [e, ← h2, ← hq, Int.add_mul]
theorem sum_nf {fs : List (Int × Int)} {L : Int} (hL : 0 < L) (hp : ∀ f ∈ fs, 0 < f.2) (hd : ∀ f ∈ fs, f.2 ∣ L) : ∀ i, i ≤ fs.length → sumQ (fs.take i) = nf (((fs.take i).map fun f => f.1 * (L / f.2)).sum) L
  | 0, _ => by
    have : nf 0 L = nf 0 1 := nf_eq hL (by decide) (by simp)
    show (0, 1) = nf 0 L
    rw [this]
    rfl
  | i + 1, hi => by
    have e : fs[i]? = some fs[i] := List.getElem?_eq_getElem (by omega)
    have hm := List.mem_of_getElem? e
    have ih := sum_nf hL hp hd i (by omega)
    have es : sumQ (fs.take (i + 1)) = plusF (sumQ (fs.take i)) fs[i] := by
      unfold sumQ
      rw [List.take_add_one, e, List.foldl_append]
      rfl
    rw [es, ih, List.take_add_one, e, List.map_append, List.sum_append]
    have := plus_nf (S := ((fs.take i).map fun f => f.1 * (L / f.2)).sum) (t := (fs[i]).1) hL (hp _ hm) (Int.ediv_mul_cancel (hd _ hm)).symm
    rw [show ((fs[i]).1, (fs[i]).2) = fs[i] from rfl] at this
    rw [this]
    simp

theorem p_law_sum {fs : List (Int × Int)} {n : Nat} (hf : Frs n fs) (hn : (n + 1) * fs.length + 1 ≤ 4000) (hn4 : n ≤ 4000) (hz : fs.length ≤ sizeLine) : Ret f_law_sum [.fz (.ob .lst (fs.map frD))] (.fz (frD (sumQ fs))) := by
  unfold f_law_sum m_law_sum
  refine w_fn rfl rfl ?_
  walk_at "v"
  refine w_loopX (xs := fs) (e := frD) (fun i τ => ∃ (L : Int) (o : Option SV), τ = [some (.fz (.ob .lst (fs.map frD))), some (.fz (.int L)), o] ∧ 0 < L ∧ Sm (n * i + 1) L ∧ ∀ f ∈ fs.take i, f.2 ∣ L) ⟨1, _, rfl, by decide, by show 1 < 2 ^ (n * 0 + 1); rw [Nat.mul_zero]; decide, fun _ h => nomatch h⟩ ?_ ?_
  · rintro i f τ hfi ⟨L, o, rfl, hL, sL, dL⟩
    have hm := List.mem_of_getElem? hfi
    have hi := (List.getElem?_eq_some_iff.mp hfi).1
    have hpf := hf.pos f hm
    have hmul : (n + 1) * i ≤ (n + 1) * fs.length := Nat.mul_le_mul_left _ (by omega)
    have e2 : (n + 1) * i = n * i + i := by rw [Nat.succ_mul]
    have hg := gcd_pos_of (t := L) hpf
    have hgd : (Int.gcd L f.2 : Int) ∣ f.2 := Int.gcd_dvd_right ..
    have hgL : (Int.gcd L f.2 : Int) ∣ L := Int.gcd_dvd_left ..
    have okg : divOk (Int.gcd L f.2 : Int) = true := gcd_ok hpf (sm_mono (hf.bot f hm) (by omega))
    unfold frD
    walk_at "v"
    refine v_mulI (mulOk_sm sL (hf.bot f hm) (by omega)) ?_
    walk_at "v"
    refine w_ret rfl rfl (p_law_common (by omega) (by omega)) rfl ?_
    walk_at "v"
    refine v_divIg hg okg ?_
    walk_at "v"
    have eL2 : L * f.2 / (Int.gcd L f.2 : Int) = L * (f.2 / (Int.gcd L f.2 : Int)) := Int.mul_ediv_assoc _ hgd
    refine ⟨L * f.2 / (Int.gcd L f.2 : Int), _, rfl, ?_, ?_, fun f' hf' => ?_⟩
    · rw [eL2]
      exact Int.mul_pos hL (Int.ediv_pos_of_pos_of_dvd hpf (Int.le_of_lt hg) hgd)
    · refine sm_mono (sm_div (sm_mul sL (hf.bot f hm))) ?_
      rw [Nat.mul_succ]
      omega
    · rw [List.take_add_one, hfi] at hf'
      rcases List.mem_append.mp hf' with q | q
      · rw [eL2]
        exact Int.dvd_trans (dL f' q) (Int.dvd_mul_right ..)
      · simp at q
        subst q
        rw [Int.mul_comm, Int.mul_ediv_assoc _ hgL]
        exact Int.dvd_mul_right ..
  · rintro τ ⟨L, o, rfl, hL, sL, dL⟩
    rw [List.take_length] at dL
    have hmul : (n + 1) * fs.length = n * fs.length + fs.length := Nat.succ_mul ..
    walk_at "v"
    refine w_lcMq (xs := fs) (e := frD) _ (fun f => D.int (f.1 * (L / f.2))) rfl rfl hz (fun f hm => ?_) fun τ3 hτ => ?_
    · have hpf := hf.pos f hm
      have okf : divOk f.2 = true := divOk_sm (sm_mono (hf.bot f hm) (by omega))
      unfold frD
      walk_at "v"
      refine v_divIg hpf okf ?_
      walk_at "v"
      refine v_mulI (mulOk_sm (n := n) (m := n * fs.length + 1) (hf.top f hm) (sm_div sL) (by omega)) ?_
      walk_at "v"
      all_goals first | rfl | exact ⟨rfl, rfl⟩
    · have hτ3 : ∃ o, τ3 = [some (.fz (.ob .lst (fs.map frD))), some (.fz (.int L)), o] := by
        rcases hτ with rfl | rfl
        · exact ⟨_, rfl⟩
        · exact ⟨_, rfl⟩
      obtain ⟨o, rfl⟩ := hτ3
      walk_at "v"
      rw [show (fs.map fun f => D.int (f.1 * (L / f.2))) = (fs.map fun f => f.1 * (L / f.2)).map D.int by rw [List.map_map]; rfl]
      refine v_sum ?_
      walk_at "v"
      refine w_ret rfl rfl (p_law_made hL (sm_mono sL (by omega))) rfl ?_
      walk_at "v"
      have := sum_nf hL hf.pos dL fs.length (Nat.le_refl _)
      rw [List.take_length] at this
      rw [this]
      exact ⟨rfl, rfl⟩

theorem p_is_pair {a b : D} : Ret f_is_pair [.fz (.tup [a, b])] (.fz (.bl true)) := by
  unfold f_is_pair m_is_pair
  refine w_fn rfl rfl ?_
  walk_at "v"
  exact ⟨rfl, rfl⟩

theorem p_is_integer {i : Int} : Ret f_is_integer [.fz (.int i)] (.fz (.bl true)) := by
  unfold f_is_integer m_is_integer
  refine w_fn rfl rfl ?_
  walk_at "v"
  exact ⟨rfl, rfl⟩

-- use is_pair
-- use is_integer
-- use made
/-- a fraction in lowest terms, its bottom above 0 -/
def Frac (f : Int × Int) : Prop := 1 ≤ f.2 ∧ Int.gcd f.1 f.2 = 1
theorem p_is_fraction {f : Int × Int} (h : Frac f) : Ret f_is_fraction [.fz (frD f)] (.fz (.bl true)) := by
  obtain ⟨h1, h2⟩ := h
  unfold f_is_fraction m_is_fraction frD
  refine w_fn rfl rfl ?_
  walk_at "v"
  refine w_ret rfl rfl p_is_pair rfl ?_
  walk_at "v"
  refine w_ret rfl rfl p_is_integer rfl ?_
  walk_at "v"
  refine w_ret rfl rfl p_is_integer rfl ?_
  walk_at "v"
  refine v_iteD (fun h => absurd h (by omega)) fun _ => ?_
  walk_at "v"
  refine w_run rfl rfl (p_common_divisor (by split <;> omega) (by omega)) ?_
  rintro _ _ ⟨rfl, rfl⟩
  rw [abs_gcd, h2]
  refine ⟨rfl, ?_⟩
  walk_at "v"
  exact ⟨rfl, rfl⟩

/-- the stretch that ends with the sign at k -/
def stAt (l : List Nat) (w k : Nat) : List Nat := if k + 1 < w then 94 :: l.take (k + 1) else (l.drop (k + 1 - w)).take w
def dueL (l : List Nat) (w : Nat) : List (List Nat) := (List.range l.length).map (stAt l w)

theorem caret_is : ("^" : Str) = ofL [94] := by decide +kernel
/-- texts as data -/
def txD (ls : List (List Nat)) : List D := ls.map fun l => D.str (ofL l)
theorem txD_app (a b : List (List Nat)) : txD (a ++ b) = txD a ++ txD b := List.map_append
theorem txD_len (a : List (List Nat)) : (txD a).length = a.length := List.length_map ..
theorem txD_strs (a : List (List Nat)) : txD a = (a.map ofL).map D.str := by simp [txD]
theorem p_stretches_of {x : Str} {w : Nat} (w1 : 1 ≤ w) (hz : x.length + 1 ≤ sizeLine) : Ret f_stretches_of [.fz (.str x), .fz (.int w)] (.mu .lst ((txD (dueL x.cps.toList w)).map .fz)) := by
  unfold f_stretches_of m_stretches_of
  have hs : (sizeLine : Nat) = 16777216 := sizeLine_eq
  have len : x.cps.toList.length = x.length := by simp [Str.length]
  refine w_fn rfl rfl ?_
  walk_at "v"
  rw [show ((x.length : Int) + 1 - 1).toNat = x.length by omega]
  refine w_loopR (fun i τ => ∃ o, τ = [some (.fz (.str x)), some (.fz (.int w)), some (.mu .lst ((txD ((List.range i).map (stAt x.cps.toList w))).map .fz)), o]) ⟨_, rfl⟩ ?_ ?_
  · rintro i τ hi ⟨o, rfl⟩
    walk_at "v"
    refine v_iteD (fun c => ?_) fun c => ?_
    · walk_at "v"
      refine v_app (by rw [txD_len, List.length_map, List.length_range]; omega) rfl ?_
      walk_at "v"
      refine ⟨some (.fz (.int (1 + (i : Int)))), ?_⟩
      rw [range_snoc, txD_app]
      show _ = [_, _, some (SV.mu .lst ((_ ++ [D.str (ofL (stAt x.cps.toList w i))]).map .fz)), _]
      rw [cut_of _ _ _ (by omega) (by omega), stAt, if_neg (by omega)]
      rw [show (1 + (i : Int) - (w : Int)).toNat = i + 1 - w by omega, show (1 + (i : Int)).toNat - (i + 1 - w) = w by omega]
    · walk_at "v"
      rw [cut_to _ _ (by omega), caret_is]
      refine v_addS (by rw [ofL_len, ofL_len, List.length_take]; show 1 + _ ≤ _; omega) ?_
      walk_at "v"
      refine v_app (by rw [txD_len, List.length_map, List.length_range]; omega) rfl ?_
      walk_at "v"
      refine ⟨some (.fz (.int (1 + (i : Int)))), ?_⟩
      rw [range_snoc, txD_app]
      show _ = [_, _, some (SV.mu .lst ((_ ++ [D.str (ofL (stAt x.cps.toList w i))]).map .fz)), _]
      rw [ofL_app, stAt, if_pos (by omega), show (1 + (i : Int)).toNat = i + 1 by omega]
      rfl
  · rintro τ ⟨o, rfl⟩
    walk_at "v"
    rw [dueL, len]
    exact ⟨rfl, rfl⟩

-- use stretches_of
/-- all lists of n signs out of rows, in the program's order -/
def codesL (rows : List Nat) : Nat → List (List Nat)
  | 0 => [[]]
  | n + 1 => (codesL rows n).flatMap fun c => rows.map fun r => c ++ [r]
theorem codesL_len (rows : List Nat) : ∀ n, (codesL rows n).length = rows.length ^ n
  | 0 => rfl
  | n + 1 => by
    have : ∀ ls : List (List Nat), (ls.flatMap fun c => rows.map fun r => c ++ [r]).length = ls.length * rows.length := by
      intro ls
      induction ls with
      | nil => simp
      | cons l r ih => rw [List.flatMap_cons, List.length_append, ih, List.length_map, List.length_cons, Nat.succ_mul, Nat.add_comm]
    rw [codesL, this, codesL_len rows n, Nat.pow_succ]
theorem codesL_mem (rows : List Nat) : ∀ (n : Nat) (c : List Nat), c ∈ codesL rows n ↔ c.length = n ∧ ∀ x ∈ c, x ∈ rows
  | 0, c => by
    simp only [codesL, List.mem_singleton]
    constructor
    · rintro rfl; simp
    · rintro ⟨h, _⟩; exact List.length_eq_zero_iff.mp h
  | n + 1, c => by
    simp only [codesL, List.mem_flatMap, List.mem_map]
    constructor
    · rintro ⟨d, hd, r, hr, rfl⟩
      obtain ⟨h1, h2⟩ := (codesL_mem rows n d).mp hd
      refine ⟨by simp [h1], fun x hx => ?_⟩
      rcases List.mem_append.mp hx with h | h
      · exact h2 x h
      · simp at h; subst h; exact hr
    · rintro ⟨h1, h2⟩
      have ne : c ≠ [] := by rintro rfl; cases h1
      refine ⟨c.dropLast, (codesL_mem rows n _).mpr ⟨by simp [h1], fun x hx => h2 x ((List.dropLast_sublist c).mem hx)⟩, c.getLast ne, h2 _ (List.getLast_mem ne), List.dropLast_concat_getLast ne⟩
theorem codesL_nodup {rows : List Nat} (hn : rows.Nodup) : ∀ n, (codesL rows n).Nodup
  | 0 => by simp [codesL]
  | n + 1 => by
    have key : ∀ ls : List (List Nat), ls.Nodup → (ls.flatMap fun c => rows.map fun r => c ++ [r]).Nodup := by
      intro ls
      induction ls with
      | nil => simp
      | cons l r ih =>
        intro h
        obtain ⟨h1, h2⟩ := List.nodup_cons.mp h
        rw [List.flatMap_cons]
        refine List.nodup_append.mpr ⟨?_, ih h2, ?_⟩
        · refine List.pairwise_map.mpr (hn.imp fun {a b} ne e => ne ?_)
          have := List.append_cancel_left e
          simpa using this
        · intro a ha b hb e
          subst e
          simp only [List.mem_map, List.mem_flatMap] at ha hb
          obtain ⟨x, _, rfl⟩ := ha
          obtain ⟨d, hd, y, _, e⟩ := hb
          have := List.append_inj_left' e rfl
          subst this
          exact h1 hd
    exact key _ (codesL_nodup hn n)
theorem pow_bound {k n : Nat} (h : k ≤ 4) (h2 : n ≤ 4) : k ^ n ≤ 256 := calc
  k ^ n ≤ 4 ^ n := Nat.pow_le_pow_left h n
  _ ≤ 4 ^ 4 := Nat.pow_le_pow_right (by omega) h2
  _ = 256 := rfl

theorem p_codes_of_length {x : Str} {n : Nat} (hl : x.length ≤ 4) (hn : n ≤ 4) : Ret f_codes_of_length [.fz (.str x), .fz (.int n)] (.mu .lst ((txD (codesL x.cps.toList n)).map .fz)) := by
  unfold f_codes_of_length m_codes_of_length
  have hs : (sizeLine : Nat) = 16777216 := sizeLine_eq
  have len : x.cps.toList.length = x.length := by simp [Str.length]
  refine w_fn rfl rfl ?_
  walk_at "v"
  rw [show (n : Int).toNat = n by omega]
  refine w_loopR (fun i τ => ∃ o, τ = [some (.fz (.str x)), some (.fz (.int n)), some (.mu .lst ((txD (codesL x.cps.toList i)).map .fz)), o, none, none]) ⟨_, rfl⟩ ?_ ?_
  · rintro i τ hi ⟨o, rfl⟩
    walk_at "v"
    have hc : (codesL x.cps.toList i).length ≤ 256 := by rw [codesL_len, len]; exact pow_bound hl (by omega)
    obtain ⟨out, τ2, e, rfl, rfl⟩ : ∃ out τ2, lc2Go (dName 4) (itD (mVar 0)) (dName 5) (frz (mOp2 addF (mVar 4) (mVar 5))) [4, 5] [5] (txD (codesL x.cps.toList i)) [] [some (.fz (.str x)), some (.fz (.int n)), some (.fz (.ob .lst (txD (codesL x.cps.toList i)))), some (.fz (.int (0 + (i : Int)))), none, none] = some (out, τ2) ∧ out = txD (codesL x.cps.toList (i + 1)) ∧ τ2 = [some (.fz (.str x)), some (.fz (.int n)), some (.fz (.ob .lst (txD (codesL x.cps.toList i)))), some (.fz (.int (0 + (i : Int)))), none, none] := by
      refine Exists.elim (w_lc2Go (τ := [some (.fz (.str x)), some (.fz (.int n)), some (.fz (.ob .lst (txD (codesL x.cps.toList i)))), some (.fz (.int (0 + (i : Int)))), none, none]) (t := dName 4) (it1 := itD (mVar 0)) (t1 := dName 5) (a := frz (mOp2 addF (mVar 4) (mVar 5))) (vs := [4, 5]) (vs1 := [5]) (items := txD (codesL x.cps.toList i)) (acc0 := []) (fun j acc τ => acc = txD (((codesL x.cps.toList i).take j).flatMap fun c => x.cps.toList.map fun r => c ++ [r]) ∧ τ = [some (.fz (.str x)), some (.fz (.int n)), some (.fz (.ob .lst (txD (codesL x.cps.toList i)))), some (.fz (.int (0 + (i : Int)))), none, none]) ⟨rfl, rfl⟩ ?_) fun out ⟨τ2, e, h1, h2⟩ => ⟨out, τ2, e, ?_, h2⟩
      · rintro j d acc τ hd ⟨rfl, rfl⟩
        rw [txD, List.getElem?_map] at hd
        obtain ⟨l, hl2, rfl⟩ := Option.map_eq_some_iff.mp hd
        have h1 := ((codesL_mem _ _ _).mp (List.mem_of_getElem? hl2)).1
        walk_at "v"
        have hj := (List.getElem?_eq_some_iff.mp hl2).1
        refine Exists.elim (w_lcMap (a := frz (mOp2 addF (mVar 4) (mVar 5))) (t := dName 5) (vs := [5]) (xs := x.cps.toList) (e := fun c => D.str ⟨#[c]⟩) (acc0 := txD (((codesL x.cps.toList i).take j).flatMap fun c => x.cps.toList.map fun r => c ++ [r])) (τ := [some (.fz (.str x)), some (.fz (.int n)), some (.fz (.ob .lst (txD (codesL x.cps.toList i)))), some (.fz (.int (0 + (i : Int)))), some (.fz (.str (ofL l))), none]) _ (fun c => D.str (ofL (l ++ [c]))) rfl rfl ?_ ?_) fun out ⟨τ3, e, ho, ht⟩ => ?_
        · rw [txD_len, len]
          have key : ∀ ls : List (List Nat), (ls.flatMap fun c => x.cps.toList.map fun r => c ++ [r]).length = ls.length * x.length := by
            intro ls
            induction ls with
            | nil => simp
            | cons l r ih => rw [List.flatMap_cons, List.length_append, ih, List.length_map, List.length_cons, len, Nat.succ_mul, Nat.add_comm]
          rw [key, List.length_take]
          have : min j (codesL x.cps.toList i).length * x.length ≤ 256 * 4 := Nat.mul_le_mul (by omega) hl
          omega
        · intro c hc
          walk_at "v"
          refine v_addS (by rw [ofL_len, h1]; show i + 1 ≤ _; omega) ?_
          walk_at "v"
          rw [show (⟨#[c]⟩ : Str) = ofL [c] from rfl, ofL_app]
          all_goals exact ⟨rfl, rfl⟩
        · refine ⟨out, τ3, e, ?_, ?_⟩
          · rw [ho, List.take_add_one, hl2, List.flatMap_append, txD_app]
            congr 1
            simp [txD, Function.comp_def]
          · have : τ3 = [some (.fz (.str x)), some (.fz (.int n)), some (.fz (.ob .lst (txD (codesL x.cps.toList i)))), some (.fz (.int (0 + (i : Int)))), some (.fz (.str (ofL l))), none] := by rcases ht with h | h <;> exact h
            rw [this]
            rfl
      · rw [h1, txD_len, List.take_length]
        rfl
    refine ⟨_, _, e, ?_⟩
    walk_at "v"
    exact ⟨_, rfl⟩
  · rintro τ ⟨o, rfl⟩
    walk_at "v"
    exact ⟨rfl, rfl⟩

-- use codes_of_length
/-- the names before they are sorted -/
def namesL (rows : List Nat) (w : Nat) : List (List Nat) := codesL rows w ++ (List.range (w - 1)).flatMap fun n => (codesL rows (n + 1)).map (94 :: ·)
theorem namesL_len (rows : List Nat) (h : rows.length ≤ 4) (w i : Nat) (hw : w ≤ 4) (hi : i ≤ w - 1) : (codesL rows w ++ (List.range i).flatMap fun n => (codesL rows (n + 1)).map (94 :: ·)).length ≤ 256 + i * 256 := by
  have h0 : (codesL rows w).length ≤ 256 := by rw [codesL_len]; exact pow_bound h hw
  rw [List.length_append]
  have : ∀ i, i ≤ w - 1 → ((List.range i).flatMap fun n => (codesL rows (n + 1)).map (94 :: ·)).length ≤ i * 256 := by
    intro i
    induction i with
    | zero => intro _; simp
    | succ i ih =>
      intro hi
      rw [List.range_succ, List.flatMap_append, List.length_append]
      have h1 := ih (by omega)
      have h2 : (codesL rows (i + 1)).length ≤ 256 := by rw [codesL_len]; exact pow_bound h (by omega)
      simp only [List.flatMap_cons, List.flatMap_nil, List.append_nil, List.length_map]
      omega
  have := this i hi
  omega
theorem namesL_nodup {rows : List Nat} (h : rows.Nodup) (h94 : 94 ∉ rows) (w : Nat) : (namesL rows w).Nodup := by
  unfold namesL
  refine List.nodup_append.mpr ⟨codesL_nodup h w, ?_, ?_⟩
  · have key : ∀ i, ((List.range i).flatMap fun n => (codesL rows (n + 1)).map (94 :: ·)).Nodup := by
      intro i
      induction i with
      | zero => simp
      | succ i ih =>
        rw [List.range_succ, List.flatMap_append]
        refine List.nodup_append.mpr ⟨ih, ?_, ?_⟩
        · simp only [List.flatMap_cons, List.flatMap_nil, List.append_nil]
          exact List.pairwise_map.mpr ((codesL_nodup h (i + 1)).imp fun {a b} ne e => ne (List.cons.inj e).2)
        · intro a ha b hb e
          subst e
          simp only [List.flatMap_cons, List.flatMap_nil, List.append_nil, List.mem_map, List.mem_flatMap, List.mem_range] at ha hb
          obtain ⟨k, hk, c, hc, rfl⟩ := ha
          obtain ⟨d, hd, e⟩ := hb
          have e := (List.cons.inj e).2
          subst e
          have h1 := ((codesL_mem _ _ _).mp hc).1
          have h2 := ((codesL_mem _ _ _).mp hd).1
          omega
    exact key _
  · intro a ha b hb e
    subst e
    obtain ⟨k, hk, hb⟩ := List.mem_flatMap.mp hb
    obtain ⟨c, hc, rfl⟩ := List.mem_map.mp hb
    exact h94 (((codesL_mem _ _ _).mp ha).2 94 List.mem_cons_self)

/-- the names, sorted -/
def sortedN (rows : List Nat) (w : Nat) : List Str := sortS ((namesL rows w).map ofL)
theorem p_stretch_names {x : Str} {w : Nat} (hl : x.length ≤ 4) (w1 : 1 ≤ w) (w3 : w ≤ 3) : Ret f_stretch_names [.fz (.str x), .fz (.int w)] (.mu .lst (((sortedN x.cps.toList w).map D.str).map .fz)) := by
  unfold f_stretch_names m_stretch_names
  have hs : (sizeLine : Nat) = 16777216 := sizeLine_eq
  have len : x.cps.toList.length = x.length := by simp [Str.length]
  refine w_fn rfl rfl ?_
  walk_at "v"
  refine w_ret rfl rfl (p_codes_of_length hl (by omega)) rfl ?_
  walk_at "v"
  rw [show ((w : Int) - 1).toNat = w - 1 by omega]
  refine w_loopR (fun i τ => ∃ o, τ = [some (.fz (.str x)), some (.fz (.int w)), some (.mu .lst ((txD (codesL x.cps.toList w ++ (List.range i).flatMap fun n => (codesL x.cps.toList (n + 1)).map (94 :: ·))).map .fz)), o, none]) ⟨none, by simp⟩ ?_ ?_
  · rintro i τ hi ⟨o, rfl⟩
    walk_at "v"
    rw [show (1 : Int) + (i : Int) = ((i + 1 : Nat) : Int) by omega]
    refine w_ret rfl rfl (p_codes_of_length hl (by omega)) rfl ?_
    walk_at "v"
    have h2 : (codesL x.cps.toList (i + 1)).length ≤ 256 := by rw [codesL_len, len]; exact pow_bound hl (by omega)
    refine w_lcM (f := fun l => D.str (ofL (94 :: l))) rfl (by omega) (fun l hl2 => ?_) ?_
    · have hz := ((codesL_mem _ _ _).mp hl2).1
      walk_at "v"
      rw [caret_is]
      refine v_addS (by rw [ofL_len, ofL_len, hz]; show 1 + (i + 1) ≤ _; omega) ?_
      walk_at "v"
      rw [ofL_app]
      all_goals first | rfl | exact ⟨rfl, rfl⟩
    · walk_at "v"
      have h1 := namesL_len x.cps.toList (by omega) w i (by omega) (by omega)
      refine v_ext (by rw [txD_len, List.length_map]; omega) rfl ?_
      walk_at "v"
      refine ⟨some (.fz (.int ((i + 1 : Nat) : Int))), ?_⟩
      rw [List.range_succ, List.flatMap_append, ← List.append_assoc, txD_app]
      simp [txD]
  · rintro τ ⟨o, rfl⟩
    walk_at "v"
    rw [txD_strs]
    walk_at "v"
    refine v_sorted ?_
    walk_at "v"
    exact ⟨rfl, rfl⟩

-- use stretch_names
/-- the names, shortest first -/
def ownNames (rows : List Nat) (w : Nat) : List (List Nat) := (List.range w).flatMap fun n => (codesL rows (n + 1)).map fun c => if n + 1 < w then 94 :: c else c
theorem ownNames_mem {rows : List Nat} {w : Nat} (w1 : 1 ≤ w) (l : List Nat) : l ∈ ownNames rows w ↔ l ∈ namesL rows w := by
  unfold ownNames namesL
  rw [List.mem_append, List.mem_flatMap, List.mem_flatMap]
  constructor
  · rintro ⟨n, hn, h⟩
    obtain ⟨c, hc, rfl⟩ := List.mem_map.mp h
    have hn := List.mem_range.mp hn
    by_cases q : n + 1 < w
    · rw [if_pos q]
      exact .inr ⟨n, List.mem_range.mpr (by omega), List.mem_map_of_mem hc⟩
    · rw [if_neg q]
      exact .inl (by rw [show w = n + 1 by omega]; exact hc)
  · rintro (h | ⟨n, hn, h⟩)
    · exact ⟨w - 1, List.mem_range.mpr (by omega), List.mem_map.mpr ⟨l, by rw [show w - 1 + 1 = w by omega]; exact h, by rw [if_neg (by omega)]⟩⟩
    · obtain ⟨c, hc, rfl⟩ := List.mem_map.mp h
      have hn := List.mem_range.mp hn
      exact ⟨n, List.mem_range.mpr (by omega), List.mem_map.mpr ⟨c, hc, by rw [if_pos (by omega)]⟩⟩
theorem ownNames_len (rows : List Nat) (h : rows.length ≤ 4) (w i : Nat) (hw : w ≤ 4) (hi : i ≤ w) : ((List.range i).flatMap fun n => (codesL rows (n + 1)).map fun c => if n + 1 < w then 94 :: c else c).length ≤ i * 256 := by
  induction i with
  | zero => simp
  | succ i ih =>
    rw [List.range_succ, List.flatMap_append, List.length_append]
    have h1 := ih (by omega)
    have h2 : (codesL rows (i + 1)).length ≤ 256 := by rw [codesL_len]; exact pow_bound h (by omega)
    simp only [List.flatMap_cons, List.flatMap_nil, List.append_nil, List.length_map]
    omega

theorem p_law_names {x : Str} {w : Nat} (hl : x.length ≤ 4) (w1 : 1 ≤ w) (w3 : w ≤ 3) : Ret f_law_names [.fz (.str x), .fz (.int w)] (.mu .lst ((txD (ownNames x.cps.toList w)).map .fz)) := by
  unfold f_law_names m_law_names
  have hs : (sizeLine : Nat) = 16777216 := sizeLine_eq
  have len : x.cps.toList.length = x.length := by simp [Str.length]
  have small : ∀ i, i ≤ 4 → (codesL x.cps.toList i).length ≤ 256 := fun i hi => by rw [codesL_len, len]; exact pow_bound hl hi
  refine w_fn rfl rfl ?_
  walk_at "v"
  rw [show ((w : Int) + 1 - 1).toNat = w by omega]
  refine w_loopR (fun i τ => ∃ o4 o5 o6 s3, τ = [some (.fz (.str x)), some (.fz (.int w)), some (.mu .lst ((txD ((List.range i).flatMap fun n => (codesL x.cps.toList (n + 1)).map fun c => if n + 1 < w then 94 :: c else c)).map .fz)), some s3, o4, o5, o6, none] ∧ s3.toD = .ob .lst (txD (codesL x.cps.toList i))) ⟨_, _, _, _, rfl, rfl⟩ ?_ ?_
  · rintro i τ hi ⟨o4, o5, o6, s3, rfl, h3⟩
    walk_at "v"
    have step : ∀ (ls : List (List Nat)) j l, ls[j]? = some l → (ls.take (j + 1)).flatMap (fun c => x.cps.toList.map fun r => c ++ [r]) = (ls.take j).flatMap (fun c => x.cps.toList.map fun r => c ++ [r]) ++ x.cps.toList.map fun r => l ++ [r] := fun ls j l h => by
      rw [List.take_add_one, h, List.flatMap_append]
      simp
    have lenE : ∀ j, (((codesL x.cps.toList i).take j).flatMap (fun c => x.cps.toList.map fun r => c ++ [r])).length ≤ 1024 := fun j => by
      have h1 : ∀ ls : List (List Nat), (ls.flatMap (fun c => x.cps.toList.map fun r => c ++ [r])).length = ls.length * x.length := by
        intro ls
        induction ls with
        | nil => simp
        | cons l r ih => rw [List.flatMap_cons, List.length_append, ih, List.length_map, List.length_cons, len, Nat.succ_mul, Nat.add_comm]
      rw [h1, List.length_take]
      have := small i (by omega)
      have h2 : min j (codesL x.cps.toList i).length * x.length ≤ 256 * 4 := Nat.mul_le_mul (by omega) hl
      omega
    refine w_varS (s := s3) rfl h3 ?_
    walk_at "v"
    refine w_loopX (X := List Nat) (xs := codesL x.cps.toList i) (e := fun l => D.str (ofL l)) (fun j τ => ∃ o6 s5, τ = [some (.fz (.str x)), some (.fz (.int w)), some (.mu .lst ((txD ((List.range i).flatMap fun n => (codesL x.cps.toList (n + 1)).map fun c => if n + 1 < w then 94 :: c else c)).map .fz)), some (.fz (.ob .lst (txD (codesL x.cps.toList i)))), some (.fz (.int (1 + (i : Int)))), some s5, o6, none] ∧ s5.toD = .ob .lst (txD (((codesL x.cps.toList i).take j).flatMap fun c => x.cps.toList.map fun r => c ++ [r]))) ⟨_, _, rfl, rfl⟩ ?_ ?_
    · rintro j l τ hj ⟨o6, s5, rfl, h5⟩
      have hl2 := ((codesL_mem _ _ _).mp (List.mem_of_getElem? hj)).1
      walk_at "v"
      refine w_varS (s := s5) rfl h5 ?_
      walk_at "v"
      refine w_lcM (f := fun c => D.str (ofL (l ++ [c]))) rfl (by omega) (fun c hc => ?_) ?_
      · walk_at "v"
        refine v_addS (by rw [ofL_len, hl2]; show i + 1 ≤ _; omega) ?_
        walk_at "v"
        rw [show (⟨#[c]⟩ : Str) = ofL [c] from rfl, ofL_app]
        all_goals first | rfl | exact ⟨rfl, rfl⟩
      · walk_at "v"
        refine v_addL (by
          have h1 := lenE j
          rw [txD_len, List.length_map]
          omega) ?_
        walk_at "v"
        refine ⟨_, _, rfl, ?_⟩
        rw [toD_mu, step _ _ _ hj, txD_app]
        simp [txD]
    · rintro τ ⟨o6, s5, rfl, h5⟩
      rw [List.take_length] at h5
      walk_at "v"
      refine w_varS (s := s5) rfl h5 ?_
      walk_at "v"
      refine w_lcMq (X := List Nat) (xs := codesL x.cps.toList (i + 1)) (e := fun l => D.str (ofL l)) _ (fun c => D.str (ofL (if i + 1 < w then 94 :: c else c))) rfl rfl ?_ (fun c hc => ?_) fun τ3 hτ => ?_
      · have := small (i + 1) (by omega)
        omega
      · have hz := ((codesL_mem _ _ _).mp hc).1
        walk_at "v"
        by_cases q : 1 + (i : Int) < (w : Int)
        · rw [decide_eq_true q]
          refine v_lf1 (s := .fz (.int 1)) rfl ?_
          walk_at "vn"
          refine v_lf2 (s := .fz (.str "^")) rfl ?_
          walk_at "v"
          rw [caret_is]
          refine v_addS (by rw [ofL_len, ofL_len, hz]; show 1 + (i + 1) ≤ _; omega) ?_
          walk_at "v"
          rw [ofL_app, if_pos (show i + 1 < w by omega)]
          all_goals first | rfl | exact ⟨rfl, rfl⟩
        · rw [decide_eq_false q]
          refine v_lf1 (s := .fz (.int 0)) rfl ?_
          walk_at "vn"
          refine v_lf2 (s := .fz (.str "")) rfl ?_
          walk_at "v"
          rw [show ("" : Str) = ofL [] from rfl]
          refine v_addS (by rw [ofL_len, ofL_len, hz]; show 0 + (i + 1) ≤ _; omega) ?_
          walk_at "v"
          rw [ofL_app, if_neg (show ¬ i + 1 < w by omega)]
          all_goals first | rfl | exact ⟨rfl, rfl⟩
      · have hτ3 : ∃ o, τ3 = [some (.fz (.str x)), some (.fz (.int w)), some (.fz (.ob .lst (txD ((List.range i).flatMap fun n => (codesL x.cps.toList (n + 1)).map fun c => if n + 1 < w then 94 :: c else c)))), some (.fz (.ob .lst (txD (codesL x.cps.toList (i + 1))))), some (.fz (.int (1 + (i : Int)))), some (.fz (.ob .lst (txD (codesL x.cps.toList (i + 1))))), o, none] := by
          rcases hτ with rfl | rfl
          · exact ⟨_, rfl⟩
          · exact ⟨_, rfl⟩
        obtain ⟨o, rfl⟩ := hτ3
        walk_at "v"
        refine v_addL (by
          have h1 := ownNames_len x.cps.toList (by omega) w i (by omega) (by omega)
          have h2 := small (i + 1) (by omega)
          rw [txD_len, List.length_map]
          omega) ?_
        walk_at "v"
        refine ⟨some (.fz (.int (1 + (i : Int)))), some (.fz (.ob .lst (txD (codesL x.cps.toList (i + 1))))), o, .fz (.ob .lst (txD (codesL x.cps.toList (i + 1)))), ?_, rfl⟩
        rw [List.range_succ, List.flatMap_append, txD_app]
        have e : (codesL x.cps.toList (i + 1)).map (fun c => D.str (ofL (if i + 1 < w then 94 :: c else c))) = txD ([i].flatMap fun n => (codesL x.cps.toList (n + 1)).map fun c => if n + 1 < w then 94 :: c else c) := by simp [txD]
        rw [← e]
  · rintro τ ⟨o4, o5, o6, s3, rfl, h3⟩
    walk_at "v"
    exact ⟨rfl, rfl⟩

-- use is_fraction
-- use law_names
/-! tables of fractions by texts -/
def kD (ls : List Str) : List DK := ls.map fun l => DK.k (.inr l)
def tabL (ls : List Str) (F : Str → Int × Int) : List D := ls.map fun l => frD (F l)
def tabO (ls : List Str) (F : Str → Int × Int) : SV := .mu (.dct false (kD ls)) ((tabL ls F).map .fz)
def tabD (ls : List Str) (F : Str → Int × Int) : D := .ob (.dct false (kD ls)) (tabL ls F)
theorem tab_mu (ls : List Str) (F : Str → Int × Int) : IsMu (tabO ls F) := ⟨_, _, rfl⟩
theorem dLook_tab {F : Str → Int × Int} : ∀ {ls : List Str} {l : Str}, l ∈ ls → dLook (kD ls) (tabL ls F) (.k (.inr l)) = some (frD (F l))
  | a :: r, l, h => by
    show (if DK.k (.inr a) = DK.k (.inr l) then some (frD (F a)) else dLook (kD r) (tabL r F) (.k (.inr l))) = _
    by_cases e : a = l
    · rw [if_pos (by rw [e]), e]
    · rw [if_neg (fun q => e (by cases q; rfl))]
      rcases List.mem_cons.mp h with q | q
      · exact absurd q.symm e
      · exact dLook_tab q
theorem in_tab {ls : List Str} {F : Str → Int × Int} {l : Str} (h : l ∈ ls) : inF false (.str l) (tabD ls F) = some (.fz (.bl true)) := by
  show ((some (dLook (kD ls) (tabL ls F) (.k (.inr l)))).map Option.isSome).map _ = _
  rw [dLook_tab h]
  rfl
theorem bIx_tab {τ : Tau} {k : Nat} {p : PB} {ls : List Str} {F : Str → Int × Int} {l : Str} (e : τ[k]? = some (some (tabO ls F))) (hp : p τ = some (.fz (.str l))) (h : l ∈ ls) : bIx (bVar k) p τ = some (.fz (frD (F l))) := by
  unfold bIx
  rw [show bVar k τ = some (tabO ls F) by unfold bVar; rw [e]; rfl, Option.bind_some, hp, Option.bind_some]
  show ((tabO ls F).view).bind (fun x => ((SV.fz (.str l)).view).bind fun y => ixF x y) = _
  rw [show (tabO ls F).view = some (tabD ls F) from view_mu _ _, Option.bind_some]
  exact ixF_D (dLook_tab h)
theorem kD_not {ls : List Str} {z : Str} (h : z ∉ ls) : (kD ls).contains (.k (.inr z)) = false := by
  refine Bool.eq_false_iff.mpr fun q => h ?_
  obtain ⟨m, hm, e⟩ := List.mem_map.mp (List.contains_iff_mem.mp q)
  cases e
  exact hm
theorem set_new {ls : List Str} {z : Str} {d : D} {l : List SV} (h : z ∉ ls) (hl : ls.length < sizeLine) : setSV (.dct false (kD ls)) l (.str z) d = some (.dct false (kD (ls ++ [z])), l ++ [.fz d]) := by
  show (if (kD ls).length < sizeLine then some (putSV (kD ls) l (.k (.inr z)) d false) else none) = _
  rw [if_pos (by unfold kD; rw [List.length_map]; exact hl)]
  unfold putSV
  rw [kD_not h]
  unfold kD
  rw [List.map_append]
  rfl
theorem rep_tab {F : Str → Int × Int} {z : Str} {f : Int × Int} : ∀ ls : List Str, repSV (kD ls) ((tabL ls F).map .fz) (.k (.inr z)) (frD f) = (tabL ls fun l => if l = z then f else F l).map .fz
  | [] => rfl
  | a :: r => by
    show (if DK.k (.inr a) = DK.k (.inr z) then SV.fz (frD f) :: repSV (kD r) ((tabL r F).map .fz) (.k (.inr z)) (frD f) else SV.fz (frD (F a)) :: repSV (kD r) ((tabL r F).map .fz) (.k (.inr z)) (frD f)) = SV.fz (frD (if a = z then f else F a)) :: (tabL r fun l => if l = z then f else F l).map .fz
    rw [rep_tab r]
    by_cases e : a = z
    · rw [if_pos (by rw [e]), if_pos e]
    · rw [if_neg (fun q => e (by cases q; rfl)), if_neg e]
theorem set_old {ls : List Str} {F : Str → Int × Int} {z : Str} {f : Int × Int} (h : z ∈ ls) (hl : ls.length < sizeLine) : setSV (.dct false (kD ls)) ((tabL ls F).map .fz) (.str z) (frD f) = some (.dct false (kD ls), (tabL ls fun l => if l = z then f else F l).map .fz) := by
  show (if (kD ls).length < sizeLine then some (putSV (kD ls) ((tabL ls F).map .fz) (.k (.inr z)) (frD f) false) else none) = _
  rw [if_pos (by unfold kD; rw [List.length_map]; exact hl)]
  unfold putSV
  have hc : (kD ls).contains (.k (.inr z)) = true := List.contains_iff_mem.mpr (List.mem_map.mpr ⟨z, h, rfl⟩)
  rw [if_pos hc, rep_tab]
theorem tabL_congr {ls : List Str} {F G : Str → Int × Int} (h : ∀ l ∈ ls, F l = G l) : tabL ls F = tabL ls G := List.map_congr_left fun l hl => by rw [h l hl]
/-- all prices are small fractions -/
def FOk (F : Str → Int × Int) : Prop := ∀ l, Frac (F l) ∧ Sm 6 (F l).1 ∧ Sm 6 (F l).2
theorem FOk.put {F : Str → Int × Int} {f : Int × Int} (h : FOk F) (hf : Frac f ∧ Sm 6 f.1 ∧ Sm 6 f.2) (z : Str) : FOk fun l => if l = z then f else F l := fun l => by
  by_cases e : l = z
  · simp only [if_pos e]; exact hf
  · simp only [if_neg e]; exact h l
theorem fok0 : FOk fun _ => (0, 1) := fun _ => ⟨⟨Int.le_refl 1, (by decide : Int.gcd 0 1 = 1)⟩, (by decide : 0 < 2 ^ 6), (by decide : 1 < 2 ^ 6)⟩
def NamesOf (z : Str) (w : Nat) : List Str := (ownNames z.cps.toList w).map ofL

-- use tab
theorem p_is_table {ls ns : List Str} {F : Str → Int × Int} (hlen : ls.length = ns.length) (hin : ∀ n ∈ ns, n ∈ ls) (hF : ∀ n, Frac (F n)) (hz : ns.length ≤ sizeLine) : RunF f_is_table [tabO ls F, .mu .lst ((ns.map D.str).map .fz)] fun r os => r = .ok (.fz (.bl true)) ∧ os = [tabO ls F, .fz (.ob .lst (ns.map D.str))] := by
  unfold f_is_table m_is_table
  refine w_fn rfl rfl ?_
  walk_at "vn"
  refine w_seq (w_sif (w_cOr (w_cNot (w_cB (w_frz (w_isiT (s := tabO ls F) (n := "dict") rfl rfl rfl ?_))))))
  walk_at "v"
  refine v_iteN (fun h => absurd (by unfold tabL; rw [List.length_map, List.length_map, hlen] : ((tabL ls F).length : Int) = ((ns.map D.str).length : Int)) h) fun _ => ?_
  walk_at "v"
  refine w_lcM (xs := ns) (e := D.str) (fun _ => D.bl true) rfl hz (fun n hn => ?_) ?_
  · walk_at "v"
    refine v_op2Rl (y := tabD ls F) (view_ofL (h := .dct false (kD ls)) (l := tabL ls F) rfl) (in_tab (hin n hn)) ?_
    walk_at "v"
    refine w_B (bIx_tab (l := n) rfl rfl (hin n hn)) ?_
    walk_at "v"
    refine w_ret rfl rfl (p_is_fraction (hF n)) rfl ?_
    walk_at "v"
    all_goals first | rfl | exact ⟨rfl, rfl⟩
  · walk_at "v"
    rw [show (ns.map fun _ => D.bl true) = (ns.map fun _ => true).map D.bl by rw [List.map_map]; rfl]
    refine v_all ?_
    walk_at "v"
    rw [show (ns.map fun _ => true).all id = true by rw [List.all_map, List.all_eq_true]; intro _ _; rfl]
    exact ⟨rfl, rfl⟩

-- use is_integer
theorem p_is_within {i a b : Int} (h1 : a ≤ i) (h2 : i ≤ b) : Ret f_is_within [.fz (.int i), .fz (.int a), .fz (.int b)] (.fz (.bl true)) := by
  unfold f_is_within m_is_within
  refine w_fn rfl rfl ?_
  walk_at "v"
  refine w_ret rfl rfl p_is_integer rfl ?_
  walk_at "v"
  refine ⟨true, by rw [← decide_eq_true h1]; rfl, ?_⟩
  walk_at "v"
  refine ⟨.bl true, by rw [← decide_eq_true h2]; rfl, ?_⟩
  walk_at "v"
  exact ⟨rfl, rfl⟩

-- use is_within
theorem p_is_width {i : Int} (h1 : 1 ≤ i) (h2 : i ≤ 3) : Ret f_is_width [.fz (.int i)] (.fz (.bl true)) := by
  unfold f_is_width m_is_width
  refine w_fn rfl rfl ?_
  walk_at "v"
  refine w_ret rfl rfl (p_is_within h1 h2) rfl ?_
  walk_at "v"
  exact ⟨rfl, rfl⟩

/-- a hand of scripted draws -/
def Hand (s : SV) : Prop := ∃ (cs : List Int) (i big st cnt : Int), s = .mu .lst [.fz (.ob .lst (cs.map .int)), .fz (.int i), .fz (.int big), .fz (.int st), .fz (.int cnt)] ∧ 0 ≤ i
theorem Hand.mu {s : SV} (h : Hand s) : IsMu s := by
  obtain ⟨_, _, _, _, _, rfl, _⟩ := h
  exact ⟨_, _, rfl⟩
theorem hand_mk {l : List D} {cs : List Int} {i big st cnt : Int} (h : l = cs.map .int) (hi : 0 ≤ i) : Hand (.mu .lst [.fz (.ob .lst l), .fz (.int i), .fz (.int big), .fz (.int st), .fz (.int cnt)]) := ⟨cs, i, big, st, cnt, by rw [h], hi⟩
theorem p_law_hand {ns : List Int} (h : ns.length ≤ 63) : RunF f_law_hand [scr ns] fun r os => os = [scr ns] ∧ ∃ s, r = .ok s ∧ Hand s := by
  unfold f_law_hand m_law_hand scr
  refine w_fn rfl rfl ?_
  walk_at "v"
  rw [cut_map]
  refine w_lcM (fun n : Int => D.int (if n < 0 then -n else n)) rfl ?_ (fun n hn => ?_) ?_
  · have := cut_len ns none (some 63)
    walk_at "va"
  · walk_at "v"
    all_goals rfl
  · walk_at "v"
    exact ⟨rfl, _, rfl, hand_mk (cs := (cutG ns none (some 63)).map fun n => if n < 0 then -n else n) (by rw [List.map_map]; rfl) (Int.le_refl 0)⟩

-- use law_hand
theorem p_law_draw {s : SV} {n : Int} (hs : Hand s) (h1 : 0 < n) (h2 : n < 1073741824) : RunF f_law_draw [s, .fz (.int n)] fun r os => ∃ v s', r = .ok (.fz (.int v)) ∧ os = [s', .fz (.int n)] ∧ Hand s' ∧ 0 ≤ v ∧ v < n := by
  obtain ⟨cs, i, big, st, cnt, rfl, hi⟩ := hs
  unfold f_law_draw m_law_draw
  refine w_fn rfl rfl ?_
  walk_at "vn"
  refine w_seqM (fun τ => ∃ (i big st cnt : Int) (x : Option SV), τ = [some (.mu .lst [.fz (.ob .lst (cs.map .int)), .fz (.int i), .fz (.int big), .fz (.int st), .fz (.int cnt)]), some (.fz (.int n)), x, none, none] ∧ 0 ≤ i) ?_ ?_
  · walk_at "v"
    refine v_iteD (fun hb => ?_) fun hb => ?_
    · walk_at "v"
      refine v_iteD (fun hb2 => ?_) fun hb2 => ?_
      · obtain ⟨k, rfl⟩ : ∃ k : Nat, i = (k : Int) := ⟨i.toNat, by omega⟩
        have hk : k < cs.length := by rw [List.length_map] at hb2; omega
        walk_at "v"
        refine w_B (d := .int cs[k]) (bIx_F rfl rfl (ixF_L (atI_pos (by rw [List.getElem?_map, List.getElem?_eq_getElem hk]; rfl)))) ?_
        walk_at "v"
        refine v_iteD (fun hb3 => ?_) fun hb3 => ?_
        · walk_at "v"
          exact ⟨_, _, _, _, _, rfl, by omega⟩
        · walk_at "v"
          exact ⟨_, _, _, _, _, rfl, by omega⟩
      · walk_at "v"
        exact ⟨_, _, _, _, _, rfl, by omega⟩
    · walk_at "v"
      exact ⟨_, _, _, _, _, rfl, by omega⟩
  · rintro τ ⟨i, big, st, cnt, x, rfl, hi⟩
    walk_at "v"
    refine v_iteD (fun hb => ?_) fun hb => ?_
    · walk_at "v"
      exact ⟨_, _, rfl, rfl, hand_mk rfl hi, Int.emod_nonneg _ (by omega), Int.emod_lt_of_pos _ h1⟩
    · walk_at "v"
      exact ⟨_, _, rfl, rfl, hand_mk rfl hi, Int.emod_nonneg _ (by omega), Int.emod_lt_of_pos _ h1⟩

/-- a text of these signs -/
def isStrOf : D → Str → Bool
  | .str s, z => s.cps.toList.all fun c => decide (c ∈ z.cps.toList)
  | _, _ => false
/-- no object of a class -/
def Pln (d : D) : Prop := tyN d ≠ none
theorem p_is_string_of {d : D} {z : Str} (hp : Pln d) : Ret f_is_string_of [.fz d, .fz (.str z)] (.fz (.bl (isStrOf d z))) := by
  unfold f_is_string_of m_is_string_of
  refine w_fn rfl rfl ?_
  cases d with
  | str x =>
    walk_at "v"
    refine w_loopX (fun i τ => ∃ o, τ = [some (.fz (.str x)), some (.fz (.str z)), o] ∧ (x.cps.toList.take i).all (fun c => decide (c ∈ z.cps.toList)) = true) ⟨_, rfl, rfl⟩ ?_ ?_
    · rintro i c τ hc ⟨o, rfl, ha⟩
      walk_at "v"
      have e : x.cps.toList.take (i + 1) = x.cps.toList.take i ++ [c] := by
        rw [List.take_add_one, hc]
        rfl
      refine v_iteN (fun q => ?_) fun q => ?_
      · walk_at "v"
        have f : isStrOf (.str x) z = false := by
          show x.cps.toList.all _ = false
          refine Bool.eq_false_iff.mpr fun t => q ?_
          have hm : c ∈ x.cps.toList := List.mem_of_getElem? hc
          exact of_decide_eq_true (List.all_eq_true.mp t c hm)
        rw [f]
        exact ⟨rfl, rfl⟩
      · walk_at "v"
        exact ⟨_, rfl, by rw [e, List.all_append, ha, List.all_cons, decide_eq_true q]; rfl⟩
    · rintro τ ⟨o, rfl, ha⟩
      walk_at "v"
      have f : isStrOf (.str x) z = true := by
        show x.cps.toList.all _ = true
        rw [List.take_length] at ha
        exact ha
      rw [f]
      exact ⟨rfl, rfl⟩
  | ob h l =>
    cases h with
    | ins c fs => exact absurd rfl hp
    | lst => walk_at "v"; exact ⟨rfl, rfl⟩
    | dct t ks => walk_at "v"; exact ⟨rfl, rfl⟩
  | _ => walk_at "v"; exact ⟨rfl, rfl⟩

-- use is_string_of
def SMALL : Str := "abcdefghijklmnopqrstuvwxyz"
def isWord (d : D) : Bool := isStrOf d SMALL && match d with | .str s => decide (0 < s.length) | _ => false
/-- a plain value of measure -/
def Fit : D → Prop
  | .str s => s.length ≤ sizeLine
  | d => Pln d
theorem Fit.pln {d : D} (h : Fit d) : Pln d := by
  cases d with
  | str s => exact fun e => nomatch e
  | _ => exact h
theorem p_is_word {d : D} (hf : Fit d) : Ret f_is_word [.fz d] (.fz (.bl (isWord d))) := by
  unfold f_is_word m_is_word
  refine w_fn rfl rfl ?_
  walk_at "v"
  refine w_ret rfl rfl (p_is_string_of hf.pln) rfl ?_
  walk_at "v"
  unfold isWord
  refine v_ite (fun e => ?_) fun e => ?_
  · cases d with
    | str x =>
      have hf : x.length ≤ sizeLine := hf
      walk_at "v"
      change isStrOf (.str x) SMALL = true at e
      rw [e]
      exact ⟨by rw [Bool.true_and]; exact congrArg (fun b => Res.ok (SV.fz (.bl b))) (decide_eq_decide.mpr (by omega)), rfl⟩
    | _ => cases e
  · change isStrOf d SMALL = false at e
    walk_at "v"
    rw [e]
    exact ⟨rfl, rfl⟩

def ascL : List Nat → Bool
  | a :: b :: r => decide (a < b) && ascL (b :: r)
  | _ => true
theorem ascL_at : ∀ (l : List Nat), ascL l = true → ∀ i a b, l[i]? = some a → l[i + 1]? = some b → a < b
  | [], _, _, _, _, h, _ => nomatch h
  | [x], _, _, _, _, _, h => nomatch h
  | x :: y :: r, h, 0, a, b, h1, h2 => by
    have e1 : x = a := Option.some.inj h1
    have e2 : y = b := Option.some.inj h2
    subst e1 e2
    simp only [ascL, Bool.and_eq_true, decide_eq_true_eq] at h
    exact h.1
  | x :: y :: r, h, i + 1, a, b, h1, h2 => by
    simp only [ascL, Bool.and_eq_true] at h
    exact ascL_at (y :: r) h.2 i a b h1 h2
theorem ascL_of : ∀ (l : List Nat), (∀ i a b, l[i]? = some a → l[i + 1]? = some b → a < b) → ascL l = true
  | [], _ => rfl
  | [x], _ => rfl
  | x :: y :: r, h => by
    simp only [ascL, Bool.and_eq_true, decide_eq_true_eq]
    exact ⟨h 0 x y rfl rfl, ascL_of (y :: r) fun i a b h1 h2 => h (i + 1) a b h1 h2⟩
theorem lt_sign {a b : Nat} : decide ((⟨#[a]⟩ : Str).cps.toList < (⟨#[b]⟩ : Str).cps.toList) = decide (a < b) := by
  have : (([a] : List Nat) < [b]) ↔ a < b := by constructor <;> (intro h; first | (cases h with | rel h => exact h | cons h => cases h) | exact List.Lex.rel h)
  exact decide_eq_decide.mpr this

theorem p_is_ascending {x : Str} (hz : x.length ≤ sizeLine) : Ret f_is_ascending [.fz (.str x)] (.fz (.bl (ascL x.cps.toList))) := by
  unfold f_is_ascending m_is_ascending
  have hs : (sizeLine : Nat) = 16777216 := sizeLine_eq
  have len : x.length = x.cps.toList.length := by simp [Str.length]
  refine w_fn rfl rfl ?_
  walk_at "v"
  refine w_loopR (fun i τ => ∃ o, τ = [some (.fz (.str x)), o] ∧ ∀ j a b, j < i → x.cps.toList[j]? = some a → x.cps.toList[j + 1]? = some b → a < b) ⟨_, rfl, fun _ _ _ h => nomatch h⟩ ?_ ?_
  · rintro i τ hi ⟨o, rfl, ha⟩
    walk_at "v"
    have h1 : i < x.cps.toList.length := by omega
    have h2 : i + 1 < x.cps.toList.length := by omega
    have e1 : (1 : Int) + (i : Int) - 1 = (i : Nat) := by omega
    have e2 : (1 : Int) + (i : Int) = ((i + 1 : Nat) : Int) := by omega
    refine w_B (d := .str ⟨#[x.cps.toList[i]]⟩) (bIx_S (z := x) (i := 1 + (i : Int) - 1) rfl rfl hz (by rw [e1]; exact atI_pos (List.getElem?_eq_getElem h1))) ?_
    walk_at "v"
    refine w_B (d := .str ⟨#[x.cps.toList[i + 1]]⟩) (bIx_S (z := x) (i := 1 + (i : Int)) rfl rfl hz (by rw [e2]; exact atI_pos (List.getElem?_eq_getElem h2))) ?_
    walk_at "v"
    refine v_lf2 (s := .fz (.bl (!decide (x.cps.toList[i] < x.cps.toList[i + 1])))) (by rw [← lt_sign]; rfl) ?_
    walk_at "v"
    refine v_iteN (fun q => ?_) fun q => ?_
    · walk_at "v"
      have f : ascL x.cps.toList = false := Bool.eq_false_iff.mpr fun t => q (ascL_at _ t i _ _ (List.getElem?_eq_getElem h1) (List.getElem?_eq_getElem h2))
      rw [f]
      exact ⟨rfl, rfl⟩
    · walk_at "v"
      refine ⟨_, rfl, fun j a b hj ja jb => ?_⟩
      by_cases e : j = i
      · subst e
        rw [List.getElem?_eq_getElem h1] at ja
        rw [List.getElem?_eq_getElem h2] at jb
        cases ja
        cases jb
        exact q
      · exact ha j a b (by omega) ja jb
  · rintro τ ⟨o, rfl, ha⟩
    walk_at "v"
    have f : ascL x.cps.toList = true := ascL_of _ fun i a b h1 h2 => ha i a b (by
      have := (List.getElem?_eq_some_iff.mp h2).1
      omega) h1 h2
    rw [f]
    exact ⟨rfl, rfl⟩

-- use is_word
-- use is_ascending
def isRows (d : D) : Bool := isWord d && match d with | .str s => decide (s.length ≤ 4) && ascL s.cps.toList | _ => false
theorem rows_parts {s : Str} (h : isRows (.str s) = true) : isStrOf (.str s) SMALL = true ∧ 0 < s.length ∧ s.length ≤ 4 ∧ ascL s.cps.toList = true := by
  unfold isRows isWord at h
  simp only [Bool.and_eq_true, decide_eq_true_eq] at h
  exact ⟨h.1.1, h.1.2, h.2.1, h.2.2⟩
theorem p_is_rows {d : D} (hf : Fit d) : Ret f_is_rows [.fz d] (.fz (.bl (isRows d))) := by
  unfold f_is_rows m_is_rows
  refine w_fn rfl rfl ?_
  walk_at "v"
  refine w_ret rfl rfl (p_is_word hf) rfl ?_
  walk_at "v"
  unfold isRows
  refine v_ite (fun e => ?_) fun e => ?_
  · cases d with
    | str x =>
      have hf : x.length ≤ sizeLine := hf
      rw [e]
      walk_at "v"
      refine v_iteD (fun c => ?_) fun c => ?_
      · walk_at "v"
        refine w_ret rfl rfl (p_is_ascending hf) rfl ?_
        walk_at "v"
        rw [decide_eq_true (show x.length ≤ 4 by omega)]
        exact ⟨rfl, rfl⟩
      · walk_at "v"
        rw [decide_eq_false (show ¬ x.length ≤ 4 by omega)]
        exact ⟨rfl, rfl⟩
    | _ => cases e
  · rw [e]
    walk_at "v"
    exact ⟨rfl, rfl⟩

-- use law_draw
-- use is_rows
def abcL : List Nat := (List.range 26).map (97 + ·)
theorem SMALL_is : SMALL = ofL abcL := by decide +kernel
theorem abcL_drop (r : Nat) (j : Nat) (h : r + j < 26) : (abcL.drop r)[j]? = some (97 + (r + j)) := by
  rw [List.getElem?_drop, abcL, List.getElem?_map, List.getElem?_range h]
  rfl
theorem abcL_mem {c : Nat} : c ∈ abcL ↔ 97 ≤ c ∧ c < 123 := by
  unfold abcL
  rw [List.mem_map]
  constructor
  · rintro ⟨a, h, rfl⟩
    have := List.mem_range.mp h
    omega
  · rintro ⟨h1, h2⟩
    exact ⟨c - 97, List.mem_range.mpr (by omega), by omega⟩
theorem ascL_snoc : ∀ (l : List Nat) (c : Nat), ascL l = true → (∀ x ∈ l, x < c) → ascL (l ++ [c]) = true
  | [], c, _, _ => rfl
  | [x], c, _, h => by simp [ascL, h x (by simp)]
  | x :: y :: r, c, h, hx => by
    simp only [ascL, Bool.and_eq_true] at h
    show (decide (x < y) && ascL (y :: r ++ [c])) = true
    rw [h.1, ascL_snoc (y :: r) c h.2 fun z hz => hx z (List.mem_cons_of_mem _ hz)]
    rfl
/-- rows so far: of the first r letters -/
structure RowsSo (l : List Nat) (r : Nat) : Prop where
  asc : ascL l = true
  mem : ∀ x ∈ l, 97 ≤ x ∧ x < 97 + r
theorem RowsSo.snoc {l : List Nat} {r j : Nat} (h : RowsSo l r) : RowsSo (l ++ [97 + (r + j)]) (r + j + 1) where
  asc := ascL_snoc l _ h.asc fun x hx => by have := h.mem x hx; omega
  mem := fun x hx => by
    rcases List.mem_append.mp hx with q | q
    · have := h.mem x q; omega
    · simp at q; omega
theorem RowsSo.ok {l : List Nat} {r : Nat} (h : RowsSo l r) (hr : r ≤ 26) (n1 : 1 ≤ l.length) (n4 : l.length ≤ 4) : isRows (.str (ofL l)) = true := by
  unfold isRows isWord
  have e : (ofL l).cps.toList = l := by simp [ofL]
  have a : isStrOf (.str (ofL l)) SMALL = true := by
    show (ofL l).cps.toList.all _ = true
    rw [e, SMALL_is, List.all_eq_true]
    intro x hx
    have : x ∈ (ofL abcL).cps.toList := by
      have e2 : (ofL abcL).cps.toList = abcL := by simp [ofL]
      rw [e2, abcL_mem]
      have := h.mem x hx
      omega
    exact decide_eq_true this
  rw [a]
  simp only [ofL_len, e, h.asc, Bool.true_and, Bool.and_true, Bool.and_eq_true, decide_eq_true_eq]
  omega
theorem isStrOf_L (l : List Nat) : isStrOf (.str (ofL l)) SMALL = true ↔ ∀ x ∈ l, x ∈ abcL := by
  have e : (ofL l).cps.toList = l := by simp [ofL]
  have e2 : SMALL.cps.toList = abcL := by rw [SMALL_is]; simp [ofL]
  show (ofL l).cps.toList.all _ = true ↔ _
  rw [e, List.all_eq_true, e2]
  simp
/-- rows without twins and without a caret -/
structure RowsGood (x : Str) : Prop where
  len : x.length ≤ 4
  nd : x.cps.toList.Nodup
  nc : 94 ∉ x.cps.toList
theorem ascL_nodup : ∀ l : List Nat, ascL l = true → l.Pairwise (· < ·)
  | [], _ => .nil
  | [x], _ => by simp
  | x :: y :: r, h => by
    simp only [ascL, Bool.and_eq_true, decide_eq_true_eq] at h
    have q := ascL_nodup (y :: r) h.2
    refine List.pairwise_cons.mpr ⟨fun z hz => ?_, q⟩
    rcases List.mem_cons.mp hz with e | e
    · subst e; exact h.1
    · exact Nat.lt_trans h.1 ((List.pairwise_cons.mp q).1 z e)
theorem rows_good {s : Str} (h : isRows (.str s) = true) : RowsGood s := by
  obtain ⟨h1, h2, h3, h4⟩ := rows_parts h
  refine ⟨h3, (ascL_nodup _ h4).imp fun h => Nat.ne_of_lt h, fun q => ?_⟩
  rw [← ofL_cps s] at h1
  have := abcL_mem.mp ((isStrOf_L _).mp h1 94 q)
  omega
theorem join_signs (ls : List Nat) : Txt.join "" (ls.map fun c => ofL [c]) = ofL ls := by
  have h : ∀ ls : List Nat, TL.joinL [] (ls.map fun c => [c]) = ls := by
    intro ls
    induction ls with
    | nil => rfl
    | cons c r ih =>
      cases r with
      | nil => rfl
      | cons d r =>
        show [c] ++ ([] ++ TL.joinL [] ((d :: r).map fun c => [c])) = _
        rw [ih]; rfl
  have e := TL.tl_join "" (ls.map fun c => ofL [c])
  have e2 : (ls.map fun c => ofL [c]).map TL.tl = ls.map fun c => [c] := by rw [List.map_map]; exact List.map_congr_left fun c _ => rfl
  rw [e2, show TL.tl "" = [] from rfl, h] at e
  rw [TL.join_eq]
  exact (ofL_cps _).symm.trans (congrArg ofL e)

theorem p_law_rows {s : SV} {m : Int} (hs : Hand s) (m1 : 1 ≤ m) (m2 : m ≤ 4) : RunF f_law_rows [s, .fz (.int m)] fun r os => ∃ z s', r = .ok (.fz (.str z)) ∧ os = [s', .fz (.int m)] ∧ Hand s' ∧ isRows (.str z) = true ∧ (z.length : Int) ≤ m := by
  unfold f_law_rows m_law_rows
  have hz : (sizeLine : Nat) = 16777216 := sizeLine_eq
  have hm := hs.mu
  refine w_fn rfl rfl ?_
  walk_at "v"
  refine w_run rfl rfl (p_law_draw hs (by omega) (by omega)) ?_
  rintro _ _ ⟨d, s1, rfl, rfl, hs1, d0, d1⟩
  refine ⟨rfl, ?_⟩
  walk_at "v"
  refine w_loopR (fun i τ => ∃ l r o o2 s1, τ = [some s1, some (.fz (.int m)), some (.fz (.int (1 + d))), some (.fz (.str (ofL l))), some (.fz (.str (ofL (abcL.drop r)))), o, o2] ∧ RowsSo l r ∧ l.length = i ∧ (r : Int) + (1 + d - i) ≤ 26 ∧ Hand s1) ⟨[], 0, _, _, _, by rw [show (ofL (abcL.drop 0)) = SMALL from SMALL_is.symm]; rfl, ⟨rfl, fun _ h => nomatch h⟩, rfl, by omega, hs1⟩ ?_ ?_
  · rintro i τ hi ⟨l, r, o, o2, s1, rfl, rs, hl, hr, hs1⟩
    have hlen : (ofL (abcL.drop r)).length = 26 - r := by rw [ofL_len, List.length_drop]; rfl
    have hm1 := hs1.mu
    walk_at "v"
    refine w_run rfl rfl (p_law_draw hs1 (by omega) (by omega)) ?_
    rintro _ _ ⟨at_, s2, rfl, rfl, hs2, t0, t1⟩
    refine ⟨rfl, ?_⟩
    obtain ⟨j, rfl⟩ : ∃ j : Nat, at_ = (j : Int) := ⟨at_.toNat, by omega⟩
    walk_at "v"
    refine w_B (d := .str ⟨#[97 + (r + j)]⟩) (bIx_S (z := ofL (abcL.drop r)) (i := (j : Int)) rfl rfl (by omega) (atI_pos (show (ofL (abcL.drop r)).cps.toList[j]? = some (97 + (r + j)) by
      have e2 : (ofL (abcL.drop r)).cps.toList = abcL.drop r := by simp [ofL]
      rw [e2]; exact abcL_drop r j (by omega)))) ?_
    walk_at "v"
    refine v_addS (by rw [ofL_len]; show l.length + 1 ≤ _; omega) ?_
    walk_at "v"
    refine ⟨l ++ [97 + (r + j)], r + j + 1, some (.fz (.int (0 + (i : Int)))), some (.fz (.int j)), s2, ?_, rs.snoc, by simp [hl], by omega, hs2⟩
    rw [cut_from _ _ (by omega)]
    have e3 : (ofL (abcL.drop r)).cps.toList = abcL.drop r := by simp [ofL]
    rw [e3, List.drop_drop, show r + ((j : Int) + 1).toNat = r + j + 1 by omega]
    rw [show (⟨#[97 + (r + j)]⟩ : Str) = ofL [97 + (r + j)] from rfl, ofL_app]
  · rintro τ ⟨l, r, o, o2, s1, rfl, rs, hl, hr, hs1⟩
    walk_at "v"
    exact ⟨_, _, rfl, rfl, hs1, rs.ok (by omega) (by omega) (by omega), by rw [ofL_len]; omega⟩

-- use law_draw
-- use law_made
-- use is_fraction
theorem nf_frac {t b : Int} (hb : 0 < b) : Frac (nf t b) := by
  refine ⟨nf_pos hb, ?_⟩
  have hg := gcd_pos_of (t := t) hb
  unfold nf
  rw [Int.gcd_ediv (Int.gcd_dvd_left ..) (Int.gcd_dvd_right ..)]
  simp only [Int.natAbs_natCast]
  exact Nat.div_self (by omega)
theorem p_law_fraction {s : SV} (hs : Hand s) : RunF f_law_fraction [s] fun r os => ∃ f s', r = .ok (.fz (frD f)) ∧ os = [s'] ∧ Hand s' ∧ Frac f ∧ Sm 6 f.1 ∧ Sm 6 f.2 := by
  unfold f_law_fraction m_law_fraction
  have hs0 := hs
  obtain ⟨cs, i, big, st, cnt, rfl, hi⟩ := hs0
  refine w_fn rfl rfl ?_
  walk_at "v"
  refine w_run rfl rfl (p_law_draw hs (by decide) (by decide)) ?_
  rintro _ _ ⟨d, s1, rfl, rfl, hs1, d0, d1⟩
  refine ⟨rfl, ?_⟩
  obtain ⟨k, rfl⟩ : ∃ k : Nat, d = (k : Int) := ⟨d.toNat, by omega⟩
  have : ∃ m : Int, ixF (.ob .lst [.int 1, .int 2, .int 6, .int 30]) (.int (k : Int)) = some (.fz (.int m)) ∧ 0 < m ∧ m ≤ 30 := by
    have hk : k = 0 ∨ k = 1 ∨ k = 2 ∨ k = 3 := by omega
    rcases hk with rfl | rfl | rfl | rfl
    · exact ⟨1, rfl, by decide, by decide⟩
    · exact ⟨2, rfl, by decide, by decide⟩
    · exact ⟨6, rfl, by decide, by decide⟩
    · exact ⟨30, rfl, by decide, by decide⟩
  obtain ⟨m, em, m0, m1⟩ := this
  have hs1' := hs1
  obtain ⟨cs1, i1, big1, st1, cnt1, rfl, hi1⟩ := hs1'
  walk_at "v"
  refine v_lf2 em ?_
  walk_at "v"
  refine w_run rfl rfl (p_law_draw hs1 m0 (by omega)) ?_
  rintro _ _ ⟨b, s2, rfl, rfl, hs2, b0, b1⟩
  refine ⟨rfl, ?_⟩
  have hs2' := hs2
  obtain ⟨cs2, i2, big2, st2, cnt2, rfl, hi2⟩ := hs2'
  walk_at "v"
  refine w_run rfl rfl (p_law_draw hs2 (by decide) (by decide)) ?_
  rintro _ _ ⟨t, s3, rfl, rfl, hs3, t0, t1⟩
  refine ⟨rfl, ?_⟩
  have hs3' := hs3
  obtain ⟨cs3, i3, big3, st3, cnt3, rfl, hi3⟩ := hs3'
  walk_at "v"
  refine w_run rfl rfl (p_law_draw hs3 (by decide) (by decide)) ?_
  rintro _ _ ⟨u, s4, rfl, rfl, hs4, u0, u1⟩
  refine ⟨rfl, ?_⟩
  have hs4' := hs4
  obtain ⟨cs4, i4, big4, st4, cnt4, rfl, hi4⟩ := hs4'
  walk_at "v"
  have sb : Sm 6 (1 + b) := by show (1 + b).natAbs < 2 ^ 6; omega
  have st_ : Sm 6 (t - u) := by show (t - u).natAbs < 2 ^ 6; omega
  refine w_ret rfl rfl (p_law_made (by omega) (sm_mono sb (by decide))) rfl ?_
  walk_at "v"
  obtain ⟨q1, q2⟩ := sm_nf st_ sb
  exact ⟨_, _, rfl, rfl, hs4, nf_frac (by omega), q1, q2⟩

-- use tab
-- use law_fraction
-- use law_rows
theorem ownNames_nodup {rows : List Nat} (h : rows.Nodup) (h94 : 94 ∉ rows) (w : Nat) : (ownNames rows w).Nodup := by
  have key : ∀ i, i ≤ w → ((List.range i).flatMap fun n => (codesL rows (n + 1)).map fun c => if n + 1 < w then 94 :: c else c).Nodup := by
    intro i
    induction i with
    | zero => intro _; simp
    | succ i ih =>
      intro hi
      rw [List.range_succ, List.flatMap_append]
      refine List.nodup_append.mpr ⟨ih (by omega), ?_, ?_⟩
      · simp only [List.flatMap_cons, List.flatMap_nil, List.append_nil]
        refine List.pairwise_map.mpr ((codesL_nodup h (i + 1)).imp fun {a b} ne e => ne ?_)
        by_cases q : i + 1 < w
        · rw [if_pos q, if_pos q] at e
          exact (List.cons.inj e).2
        · rw [if_neg q, if_neg q] at e
          exact e
      · intro a ha b hb e
        subst e
        simp only [List.flatMap_cons, List.flatMap_nil, List.append_nil, List.mem_map, List.mem_flatMap, List.mem_range] at ha hb
        obtain ⟨k, hk, c, hc, rfl⟩ := ha
        obtain ⟨d, hd, e⟩ := hb
        have h1 := ((codesL_mem _ _ _).mp hc).1
        have h2 := (codesL_mem _ _ _).mp hd
        rw [if_pos (show k + 1 < w by omega)] at e
        by_cases q : i + 1 < w
        · rw [if_pos q] at e
          have e := congrArg List.length (List.cons.inj e).2
          omega
        · rw [if_neg q] at e
          exact h94 (h2.2 94 (by rw [e]; exact List.mem_cons_self))
  exact key w (Nat.le_refl _)

theorem p_law_table {s : SV} {z : Str} {w : Nat} (hs : Hand s) (rg : RowsGood z) (w1 : 1 ≤ w) (w3 : w ≤ 3) : RunF f_law_table [s, .fz (.str z), .fz (.int w)] fun r os => ∃ F s', r = .ok (tabO (NamesOf z w) F) ∧ os = [s', .fz (.str z), .fz (.int w)] ∧ Hand s' ∧ FOk F := by
  unfold f_law_table m_law_table
  have hz : (sizeLine : Nat) = 16777216 := sizeLine_eq
  have nd := ownNames_nodup rg.nd rg.nc w
  have zl : z.cps.toList.length = z.length := by simp [Str.length]
  have onl : (ownNames z.cps.toList w).length ≤ 1024 := by
    have h4 := rg.len
    have := ownNames_len z.cps.toList (by omega) w w (by omega) (Nat.le_refl _)
    unfold ownNames
    omega
  refine w_fn rfl rfl ?_
  walk_at "v"
  refine w_ret rfl rfl (p_law_names rg.len w1 w3) rfl ?_
  walk_at "v"
  refine w_loopX (X := List Nat) (xs := ownNames z.cps.toList w) (e := fun l => D.str (ofL l)) (fun i τ => ∃ s1 o F, τ = [some s1, some (.fz (.str z)), some (.fz (.int w)), some (tabO (((ownNames z.cps.toList w).take i).map ofL) F), o] ∧ Hand s1 ∧ FOk F) ⟨s, _, fun _ => (0, 1), rfl, hs, fok0⟩ ?_ ?_
  · rintro i l τ hl ⟨s1, o, F, rfl, hs1, hF⟩
    have hm1 := hs1.mu
    have hi := (List.getElem?_eq_some_iff.mp hl).1
    have fresh : ofL l ∉ ((ownNames z.cps.toList w).take i).map ofL := fun h => by
      obtain ⟨l', hl', e⟩ := List.mem_map.mp h
      have e := ofL_inj e
      subst e
      obtain ⟨j, hj⟩ := List.mem_iff_getElem?.mp hl'
      rw [List.getElem?_take] at hj
      split at hj
      · rename_i hji
        obtain ⟨a1, e1⟩ := List.getElem?_eq_some_iff.mp hj
        obtain ⟨a2, e2⟩ := List.getElem?_eq_some_iff.mp hl
        exact List.pairwise_iff_getElem.mp nd j i a1 a2 hji (e1.trans e2.symm)
      · cases hj
    walk_at "v"
    refine w_run rfl rfl (p_law_fraction hs1) ?_
    rintro _ _ ⟨f, s2, rfl, rfl, hs2, h1, h2, h3⟩
    refine ⟨rfl, ?_⟩
    walk_at "v"
    refine v_put1 rfl (set_new fresh (by rw [List.length_map, List.length_take]; omega)) ?_
    walk_at "v"
    refine ⟨s2, some (.fz (.str (ofL l))), fun x => if x = ofL l then f else F x, ?_, hs2, hF.put ⟨h1, h2, h3⟩ _⟩
    rw [List.take_add_one, hl, List.map_append]
    unfold tabO
    have e : tabL (((ownNames z.cps.toList w).take i).map ofL ++ [ofL l]) (fun x => if x = ofL l then f else F x) = tabL (((ownNames z.cps.toList w).take i).map ofL) F ++ [frD f] := by
      have : tabL (((ownNames z.cps.toList w).take i).map ofL) (fun x => if x = ofL l then f else F x) = tabL (((ownNames z.cps.toList w).take i).map ofL) F := tabL_congr fun x hx => if_neg fun e : x = ofL l => fresh (e ▸ hx)
      rw [← this]
      unfold tabL
      rw [List.map_append]
      simp
    show _ = [_, _, _, some (SV.mu (.dct false (kD (((ownNames z.cps.toList w).take i).map ofL ++ [ofL l]))) ((tabL (((ownNames z.cps.toList w).take i).map ofL ++ [ofL l]) fun x => if x = ofL l then f else F x).map .fz)), _]
    rw [e, List.map_append]
    rfl
  · rintro τ ⟨s1, o, F, rfl, hs1, hF⟩
    rw [List.take_length]
    walk_at "v"
    exact ⟨_, _, rfl, rfl, hs1, hF⟩

-- use is_table
-- use is_width
-- use law_rows
-- use stretch_names
-- use law_table
/-- the prices of rows z and width w, over the names ns -/
def prO (z : Str) (w : Nat) (ns : List Str) (F : Str → Int × Int) : SV := .mu (.ins 33 ["rows", "width", "kept_table"]) [.fz (.str z), .fz (.int w), tabO ns F]
def prD (z : Str) (w : Nat) (ns : List Str) (F : Str → Int × Int) : D := .ob (.ins 33 ["rows", "width", "kept_table"]) [.str z, .int w, tabD ns F]
theorem pr_mu (z : Str) (w : Nat) (ns : List Str) (F : Str → Int × Int) : IsMu (prO z w ns F) := ⟨_, _, rfl⟩
theorem pr_toD (z : Str) (w : Nat) (ns : List Str) (F : Str → Int × Int) : (prO z w ns F).toD = prD z w ns F := by
  show D.ob _ [.str z, .int w, (tabO ns F).toD] = _
  rw [show (tabO ns F).toD = tabD ns F from toD_mu _ _]
  rfl
theorem names_mem {z : Str} {w : Nat} (w1 : 1 ≤ w) (n : Str) : n ∈ sortedN z.cps.toList w ↔ n ∈ NamesOf z w := by
  unfold sortedN NamesOf
  rw [(sortS_perm _).mem_iff, List.mem_map, List.mem_map]
  constructor
  · rintro ⟨l, h, e⟩; exact ⟨l, (ownNames_mem w1 l).mpr h, e⟩
  · rintro ⟨l, h, e⟩; exact ⟨l, (ownNames_mem w1 l).mp h, e⟩
theorem sortedN_nodup {z : Str} {w : Nat} (rg : RowsGood z) : (sortedN z.cps.toList w).Nodup := (sortS_perm _).nodup_iff.mpr (List.pairwise_map.mpr ((namesL_nodup rg.nd rg.nc w).imp fun h e => h (ofL_inj e)))
theorem names_nodup {z : Str} {w : Nat} (rg : RowsGood z) : (NamesOf z w).Nodup := List.pairwise_map.mpr ((ownNames_nodup rg.nd rg.nc w).imp fun h e => h (ofL_inj e))
theorem names_len {z : Str} {w : Nat} (rg : RowsGood z) (w1 : 1 ≤ w) (w3 : w ≤ 3) : (NamesOf z w).length = (sortedN z.cps.toList w).length ∧ (NamesOf z w).length ≤ 1024 := by
  have zl : z.cps.toList.length = z.length := by simp [Str.length]
  have h4 := rg.len
  refine ⟨?_, ?_⟩
  · exact ((List.perm_ext_iff_of_nodup (names_nodup rg) (sortedN_nodup rg)).mpr fun n => (names_mem w1 n).symm).length_eq
  · unfold NamesOf
    rw [List.length_map]
    have := ownNames_len z.cps.toList (by omega) w w (by omega) (Nat.le_refl _)
    unfold ownNames
    omega
theorem p_Prices_init {z : Str} {w : Nat} {F : Str → Int × Int} (hz : isRows (.str z) = true) (w1 : 1 ≤ w) (w3 : w ≤ 3) (hF : FOk F) : RunF f_Prices_init [.mu (.ins 33 []) [], .fz (.str z), .fz (.int w), tabO (NamesOf z w) F] fun r os => r = .ok (.fz .non) ∧ os = [prO z w (sortedN z.cps.toList w) F, .fz (.str z), .fz (.int w), tabO (NamesOf z w) F] := by
  unfold f_Prices_init m_Prices_init
  have hs : (sizeLine : Nat) = 16777216 := sizeLine_eq
  have rg := rows_good hz
  have zl := rg.len
  have hm := tab_mu (NamesOf z w) F
  obtain ⟨nl, nb⟩ := names_len rg w1 w3
  refine w_fn rfl rfl ?_
  walk_at "v"
  refine w_ret rfl rfl (p_is_rows (d := .str z) (by show z.length ≤ sizeLine; omega)) rfl ?_
  rw [hz]
  walk_at "v"
  refine w_ret rfl rfl (p_is_width (by omega) (by omega)) rfl ?_
  walk_at "v"
  refine w_ret rfl rfl (p_stretch_names zl w1 w3) rfl ?_
  walk_at "v"
  refine w_run rfl rfl (p_is_table nl (fun n hn => (names_mem w1 n).mp hn) (fun n => (hF n).1) (by omega)) ?_
  rintro _ _ ⟨rfl, rfl⟩
  refine ⟨rfl, ?_⟩
  walk_at "v"
  refine w_dcS (fun n => frD (F n)) (sortedN_nodup (w := w) rg) (by omega) rfl (fun n hn => ?_) ?_
  · walk_at "v"
    refine w_B (bIx_tab (l := n) rfl rfl ((names_mem w1 n).mp hn)) ?_
    exact ⟨rfl, rfl⟩
  · walk_at "v"
    exact ⟨rfl, rfl⟩

-- use Prices_init
-- use sum_of
theorem due_names {rows l : List Nat} {w : Nat} (w1 : 1 ≤ w) (h : ∀ x ∈ l, x ∈ rows) : ∀ d ∈ dueL l w, d ∈ namesL rows w := by
  intro d hd
  obtain ⟨k, hk, rfl⟩ := List.mem_map.mp hd
  have hk := List.mem_range.mp hk
  unfold stAt namesL
  rw [List.mem_append]
  by_cases q : k + 1 < w
  · rw [if_pos q]
    refine .inr (List.mem_flatMap.mpr ⟨k, List.mem_range.mpr (by omega), List.mem_map.mpr ⟨l.take (k + 1), (codesL_mem _ _ _).mpr ⟨by rw [List.length_take]; omega, fun x hx => h x (List.mem_of_mem_take hx)⟩, rfl⟩⟩)
  · rw [if_neg q]
    exact .inl ((codesL_mem _ _ _).mpr ⟨by rw [List.length_take, List.length_drop]; omega, fun x hx => h x (List.mem_of_mem_drop (List.mem_of_mem_take hx))⟩)

/-- the price of a code -/
def priceF (F : Str → Int × Int) (w : Nat) (l : List Nat) : Int × Int := sumQ ((dueL l w).map fun d => F (ofL d))
/-- prices, one's own or handed over -/
def IsPr (s : SV) (z : Str) (w : Nat) (F : Str → Int × Int) : Prop := s = prO z w (sortedN z.cps.toList w) F ∨ s = .fz (prD z w (sortedN z.cps.toList w) F)
theorem due_in {z x : Str} {w : Nat} (w1 : 1 ≤ w) (hx : ∀ c ∈ x.cps.toList, c ∈ z.cps.toList) : ∀ d ∈ dueL x.cps.toList w, ofL d ∈ sortedN z.cps.toList w := fun d hd => by
  unfold sortedN
  rw [(sortS_perm _).mem_iff]
  exact List.mem_map_of_mem (due_names w1 hx d hd)
theorem due_frs {F : Str → Int × Int} (hF : FOk F) (ls : List (List Nat)) : Frs 6 (ls.map fun d => F (ofL d)) := ⟨fun f hf => by
  obtain ⟨d, _, rfl⟩ := List.mem_map.mp hf
  exact Int.lt_of_lt_of_le (by decide) (hF (ofL d)).1.1, fun f hf => by
  obtain ⟨d, _, rfl⟩ := List.mem_map.mp hf
  exact (hF (ofL d)).2.1, fun f hf => by
  obtain ⟨d, _, rfl⟩ := List.mem_map.mp hf
  exact (hF (ofL d)).2.2⟩
theorem p_price_of {s : SV} {z x : Str} {w : Nat} {F : Str → Int × Int} (hp : IsPr s z w F) (w1 : 1 ≤ w) (hx : ∀ c ∈ x.cps.toList, c ∈ z.cps.toList) (hF : FOk F) (hl : x.length ≤ 200) : Ret f_price_of [s, .fz (.str x)] (.fz (frD (priceF F w x.cps.toList))) := by
  have hs : (sizeLine : Nat) = 16777216 := sizeLine_eq
  have len : x.cps.toList.length = x.length := by simp [Str.length]
  have dl : (dueL x.cps.toList w).length = x.length := by rw [dueL, List.length_map, List.length_range, len]
  unfold f_price_of m_price_of
  refine w_fn rfl rfl ?_
  rcases hp with rfl | rfl
  · walk_at "v"
    refine w_ret rfl rfl (p_stretches_of w1 (by omega)) rfl ?_
    walk_at "v"
    refine w_lcM (X := List Nat) (xs := dueL x.cps.toList w) (e := fun l => D.str (ofL l)) (fun d => frD (F (ofL d))) rfl (by omega) (fun d hd => ?_) ?_
    · have hin := due_in w1 hx d hd
      walk_at "v"
      refine w_B (d := frD (F (ofL d))) ?_ ?_
      · show ((tabO (sortedN z.cps.toList w) F).view).bind (fun x => ((SV.fz (.str (ofL d))).view).bind fun y => ixF x y) = _
        rw [show (tabO (sortedN z.cps.toList w) F).view = some (tabD (sortedN z.cps.toList w) F) from view_mu _ _, Option.bind_some]
        exact ixF_D (dLook_tab hin)
      · walk_at "v"
        all_goals exact ⟨rfl, rfl⟩
    · walk_at "v"
      rw [show ((dueL x.cps.toList w).map fun d => frD (F (ofL d))) = ((dueL x.cps.toList w).map fun d => F (ofL d)).map frD by rw [List.map_map]; rfl]
      refine w_ret rfl rfl (p_sum_of (due_frs hF _) (by rw [List.length_map]; omega) (by decide)) rfl ?_
      walk_at "v"
      exact ⟨rfl, rfl⟩
  · walk_at "v"
    refine w_ret rfl rfl (p_stretches_of w1 (by omega)) rfl ?_
    walk_at "v"
    refine w_lcM (X := List Nat) (xs := dueL x.cps.toList w) (e := fun l => D.str (ofL l)) (fun d => frD (F (ofL d))) rfl (by omega) (fun d hd => ?_) ?_
    · have hin := due_in w1 hx d hd
      walk_at "v"
      refine w_B (d := frD (F (ofL d))) ?_ ?_
      · show ixF (tabD (sortedN z.cps.toList w) F) (.str (ofL d)) = _
        exact ixF_D (dLook_tab hin)
      · walk_at "v"
        all_goals exact ⟨rfl, rfl⟩
    · walk_at "v"
      rw [show ((dueL x.cps.toList w).map fun d => frD (F (ofL d))) = ((dueL x.cps.toList w).map fun d => F (ofL d)).map frD by rw [List.map_map]; rfl]
      refine w_ret rfl rfl (p_sum_of (due_frs hF _) (by rw [List.length_map]; omega) (by decide)) rfl ?_
      walk_at "v"
      exact ⟨rfl, rfl⟩

-- use is_string_of
theorem p_is_code {d : D} {z : Str} (hp : Pln d) : Ret f_is_code [.fz (.str z), .fz d] (.fz (.bl (isStrOf d z))) := by
  unfold f_is_code m_is_code
  refine w_fn rfl rfl ?_
  walk_at "v"
  refine w_ret rfl rfl (p_is_string_of hp) rfl ?_
  walk_at "v"
  exact ⟨rfl, rfl⟩

-- use price_of
-- use is_code
theorem pr_rows {s : SV} {z : Str} {w : Nat} {F : Str → Int × Int} (hp : IsPr s z w F) (rest : Tau) : bFld [33] "rows" (bVar 0) (some s :: rest) = some (.fz (.str z)) := by
  rcases hp with rfl | rfl <;> rfl
theorem p_price {s : SV} {z : Str} {w : Nat} {F : Str → Int × Int} {x : Str} (hp : IsPr s z w F) (w1 : 1 ≤ w) (hF : FOk F) (hl : x.length ≤ 200) (hc : isStrOf (.str x) z = true) : Ret f_price [s, .fz (.str x)] (.fz (frD (priceF F w x.cps.toList))) := by
  unfold f_price m_price
  refine w_fn rfl rfl ?_
  have hx : ∀ c ∈ x.cps.toList, c ∈ z.cps.toList := fun c hm => by
    have c' : x.cps.toList.all (fun c => decide (c ∈ z.cps.toList)) = true := hc
    exact of_decide_eq_true (List.all_eq_true.mp c' c hm)
  have go : Pln (.str x) := fun e => nomatch e
  have hp0 := hp
  rcases hp0 with rfl | rfl
  · walk_at "v"
    refine w_ret rfl rfl (p_is_code go) rfl ?_
    rw [hc]
    walk_at "v"
    refine w_ret rfl rfl (p_price_of hp w1 hx hF hl) rfl ?_
    walk_at "v"
    exact ⟨rfl, rfl⟩
  · walk_at "v"
    refine w_ret rfl rfl (p_is_code go) rfl ?_
    rw [hc]
    walk_at "v"
    refine w_ret rfl rfl (p_price_of hp w1 hx hF hl) rfl ?_
    walk_at "v"
    exact ⟨rfl, rfl⟩
theorem p_price_no {s : SV} {z : Str} {w : Nat} {F : Str → Int × Int} {d : D} (hp : IsPr s z w F) (hd : Pln d) (hc : isStrOf d z = false) : RunF f_price [s, .fz d] fun r os => r = .ex 12 [] [] ∧ os = [s, .fz d] := by
  unfold f_price m_price
  refine w_fn rfl rfl ?_
  rcases hp with rfl | rfl
  · walk_at "v"
    refine w_ret rfl rfl (p_is_code hd) rfl ?_
    rw [hc]
    walk_at "v"
    exact ⟨rfl, rfl⟩
  · walk_at "v"
    refine w_ret rfl rfl (p_is_code hd) rfl ?_
    rw [hc]
    walk_at "v"
    exact ⟨rfl, rfl⟩

-- use law_draw
-- use law_rows
-- use is_code
/-- no code over rows, whatever they are -/
def Odd (d : D) : Prop := Pln d ∧ ∀ z : Str, isRows (.str z) = true → isStrOf d z = false
theorem odd_str {s : Str} (c : Nat) (h : c ∈ s.cps.toList) (hc : c < 97 ∨ 123 ≤ c) : Odd (.str s) := ⟨(fun e => nomatch e), fun z hz => by
  refine Bool.eq_false_iff.mpr fun t => ?_
  have t : s.cps.toList.all (fun c => decide (c ∈ z.cps.toList)) = true := t
  have hm := of_decide_eq_true (List.all_eq_true.mp t c h)
  obtain ⟨h1, _⟩ := rows_parts hz
  rw [← ofL_cps z] at h1
  have := abcL_mem.mp ((isStrOf_L _).mp h1 c hm)
  omega⟩
theorem odd_of {d : D} (h : Pln d) (h2 : ∀ s, d ≠ .str s) : Odd d := ⟨h, fun z _ => by
  cases d with
  | str s => exact absurd rfl (h2 s)
  | _ => rfl⟩
def oddL (x : D) : List D := [.non, .bl true, .bl false, .str "A", .str "a b", .str "a1", .ob .lst [.str "a"], .ob (.dct false [.k (.inr "a")]) [.str "b"], .ob .lst [], .ob (.dct false []) [], .tup [.tup []], .tup [.int 1], .tup [.str "a"], .ob .lst [x], .tup [.str "a", .str "b", .str "c"], .str "^"]
theorem p_law_odd {s : SV} (hs : Hand s) : RunF f_law_odd [s] fun r os => ∃ d s', r = .ok (.fz d) ∧ os = [s'] ∧ Hand s' ∧ Odd d := by
  unfold f_law_odd m_law_odd
  have hm := hs.mu
  refine w_fn rfl rfl ?_
  walk_at "v"
  refine w_loopR (fun i τ => ∃ x o, τ = [some s, some (.mu .lst [.fz x]), o, none]) ⟨_, _, rfl⟩ ?_ ?_
  · rintro i τ hi ⟨x, o, rfl⟩
    walk_at "v"
    exact ⟨_, _, rfl⟩
  · rintro τ ⟨x, o, rfl⟩
    walk_at "v"
    refine w_run rfl rfl (p_law_draw hs (by decide) (by decide)) ?_
    rintro _ _ ⟨d, s1, rfl, rfl, hs1, d0, d1⟩
    refine ⟨rfl, ?_⟩
    obtain ⟨k, rfl⟩ : ∃ k : Nat, d = (k : Int) := ⟨d.toNat, by omega⟩
    walk_at "v"
    have hall : ∀ d ∈ oddL x, Odd d := fun d hd => by
      simp only [oddL, List.mem_cons, List.not_mem_nil, or_false] at hd
      rcases hd with rfl | rfl | rfl | rfl | rfl | rfl | rfl | rfl | rfl | rfl | rfl | rfl | rfl | rfl | rfl | rfl
      all_goals first
        | exact odd_str 65 (by decide +kernel) (by decide)
        | exact odd_str 32 (by decide +kernel) (by decide)
        | exact odd_str 49 (by decide +kernel) (by decide)
        | exact odd_str 94 (by decide +kernel) (by decide)
        | exact odd_of (by intro e; cases e) (by intro s e; cases e)
    have hk : k < (oddL x).length := by show k < 16; omega
    refine v_lf2 (s := .fz (oddL x)[k]) (ixF_L (atI_pos (List.getElem?_eq_getElem hk))) ?_
    walk_at "v"
    exact ⟨_, _, rfl, rfl, hs1, hall _ (List.getElem_mem hk)⟩

-- use law_sum
-- use price
-- use law_odd
theorem ne_self (x : Int × Int) : neF (frD x) (frD x) = some (.fz (.bl false)) := by
  have h : shapeD (frD x) = true := rfl
  have e : eqB (frD x) (frD x) = true := by
    unfold eqB frD
    simp [toP, toPs, PyData.eqv, PyData.eqvAll]
  show (if shapeD (frD x) && shapeD (frD x) then some (SV.fz (.bl (!eqB (frD x) (frD x)))) else none) = _
  rw [h, e]
  rfl
theorem sumQ_snoc (fs : List (Int × Int)) (f : Int × Int) : sumQ (fs ++ [f]) = plusF (sumQ fs) f := by
  unfold sumQ
  rw [List.foldl_append]
  rfl
theorem nf_self {f : Int × Int} (h : Frac f) : nf f.1 f.2 = f := by
  unfold nf
  rw [h.2]
  show (f.1 / 1, f.2 / 1) = f
  rw [Int.ediv_one, Int.ediv_one]
theorem plus_zero {f : Int × Int} (h : Frac f) : plusF (0, 1) f = f := by
  unfold plusF
  show nf (0 * f.2 + f.1 * 1) (1 * f.2) = f
  rw [Int.zero_mul, Int.zero_add, Int.mul_one, Int.one_mul]
  exact nf_self h
theorem sumQ_frac {fs : List (Int × Int)} (h : ∀ f ∈ fs, 0 < f.2) : Frac (sumQ fs) := by
  have key : ∀ (fs : List (Int × Int)) (a : Int × Int), Frac a → (∀ f ∈ fs, 0 < f.2) → Frac (fs.foldl plusF a) := by
    intro fs
    induction fs with
    | nil => intro a h _; exact h
    | cons f r ih =>
      intro a h hp
      refine ih _ ?_ fun g hg => hp g (List.mem_cons_of_mem _ hg)
      exact nf_frac (Int.mul_pos (Int.lt_of_lt_of_le (by decide) h.1) (hp f List.mem_cons_self))
  exact key fs (0, 1) ⟨Int.le_refl 1, (by decide : Int.gcd 0 1 = 1)⟩ h
theorem sum_two {fs : List (Int × Int)} {f : Int × Int} (h : ∀ f ∈ fs, 0 < f.2) : sumQ [sumQ fs, f] = sumQ (fs ++ [f]) := by
  rw [sumQ_snoc]
  show plusF (plusF (0, 1) (sumQ fs)) f = _
  rw [plus_zero (sumQ_frac h)]
theorem sum_rep {f : Int × Int} (h : Frac f) : ∀ n : Nat, sumQ (List.replicate n f) = nf (f.1 * n) f.2
  | 0 => by
    show (0, 1) = nf (f.1 * ((0 : Nat) : Int)) f.2
    have h1 : 0 < f.2 := Int.lt_of_lt_of_le (by decide) h.1
    have : nf (f.1 * ((0 : Nat) : Int)) f.2 = nf 0 1 := nf_eq h1 (by decide) (by simp)
    rw [this]
    rfl
  | n + 1 => by
    have h1 : 0 < f.2 := Int.lt_of_lt_of_le (by decide) h.1
    rw [List.replicate_succ', sumQ_snoc, sum_rep h n]
    have := plus_nf (S := f.1 * n) (L := f.2) (t := f.1) (b := f.2) (q := 1) h1 h1 (by omega)
    rw [show (f.1, f.2) = f from rfl] at this
    rw [this]
    congr 1
    rw [Int.natCast_add, Int.mul_add]
    simp
/-- the text without its last sign -/
theorem cut_init (s : Str) : cutS s none (some (-1)) = ofL s.cps.toList.dropLast := by
  have len : s.cps.toList.length = s.length := by simp [Str.length]
  unfold cutS
  rw [HT.sIx_none]
  show ofL _ = _
  congr 1
  have : HT.sIx s.length s.length (some (-1)) = s.length - 1 := by
    simp [HT.sIx]
    omega
  rw [this, List.drop_zero, List.dropLast_eq_take, len]
  rfl
theorem dueL_snoc (l : List Nat) (c : Nat) (w : Nat) : ∀ k, k < l.length → stAt (l ++ [c]) w k = stAt l w k := fun k hk => by
  unfold stAt
  by_cases q : k + 1 < w
  · rw [if_pos q, if_pos q, List.take_append_of_le_length (by omega)]
  · rw [if_neg q, if_neg q]
    by_cases e : w = 0
    · subst e; simp
    · rw [List.drop_append_of_le_length (by omega), List.take_append_of_le_length (by rw [List.length_drop]; omega)]
theorem due_init {l : List Nat} (w : Nat) (h : l ≠ []) : dueL l w = dueL l.dropLast w ++ [stAt l w (l.length - 1)] := by
  have h0 : 0 < l.length := List.length_pos_iff.mpr h
  unfold dueL
  rw [show l.length = l.length - 1 + 1 by omega, List.range_succ, List.map_append, List.length_dropLast]
  congr 1
  refine List.map_congr_left fun k hk => ?_
  have hk := List.mem_range.mp hk
  have := dueL_snoc l.dropLast (l.getLast h) w k (by rw [List.length_dropLast]; exact hk)
  rw [List.dropLast_concat_getLast h] at this
  exact this
theorem atI_last {α : Type} (l : List α) (x : α) : L2.atI (l ++ [x]) (-1) = some x := by
  unfold L2.atI L2.ixN
  rw [if_neg (by decide), if_pos (by rw [List.length_append]; simp; omega), Option.bind_some]
  rw [show ((-1 : Int) + ((l ++ [x]).length : Int)).toNat = l.length by rw [List.length_append, List.length_singleton]; omega]
  simp
theorem join_ofL (ls : List Nat) (h : ls.length ≤ 1000) : joinF (.str "") (.ob .lst (ls.map fun c => D.str ⟨#[c]⟩)) = some (.fz (.str (ofL ls))) := by
  have e : (ls.map fun c => D.str ⟨#[c]⟩) = (ls.map fun c => ofL [c]).map D.str := by rw [List.map_map]; rfl
  show (strsD (ls.map fun c => D.str ⟨#[c]⟩)).bind _ = _
  rw [e, strsD_map', Option.bind_some]
  have hs : ((ls.map fun c => ofL [c]).map (·.length)).sum = ls.length := by
    rw [List.map_map, show (Str.length ∘ fun c : Nat => ofL [c]) = fun _ => 1 from funext fun c => rfl]
    clear h e
    induction ls with
    | nil => rfl
    | cons x r ih => rw [List.map_cons, List.sum_cons, ih, List.length_cons]; omega
  rw [if_pos (by
    rw [hs]
    show ls.length + (ls.map fun c => ofL [c]).length * 0 ≤ 16777216
    omega), join_signs]
theorem ixF_S {z : Str} {k c : Nat} (hz : z.length ≤ sizeLine) (h : z.cps.toList[k]? = some c) : ixF (.str z) (.int (k : Int)) = some (.fz (.str ⟨#[c]⟩)) := by
  show (if z.length ≤ sizeLine then (L2.atI z.cps.toList (k : Int)).map fun c => SV.fz (.str ⟨#[c]⟩) else none) = _
  rw [if_pos hz, atI_pos h]
  rfl
theorem odd_upper {c : Nat} (h : 97 ≤ c ∧ c < 123) : Odd (.str (Txt.upper ⟨#[c]⟩)) := by
  have key : ∀ c : Fin 26, (c.val + 65) ∈ (Txt.upper ⟨#[c.val + 97]⟩).cps.toList := by decide +kernel
  have := key ⟨c - 97, by omega⟩
  simp only [show c - 97 + 97 = c by omega] at this
  exact odd_str _ this (by omega)
theorem w_lcV {τ : Tau} {ta : CM Bool} {a : CM D} {vs : List Nat} {t : TD} {items acc0 : List D} {P : List D → Tau → Prop} (Pv : Nat → List D → Tau → Prop) (hz : acc0.length + items.length ≤ sizeLine) (h0 : Pv 0 acc0 τ) (hs : ∀ i d acc τ, items[i]? = some d → Pv i acc τ → ∃ τ1, t d (wipeT τ vs) = some τ1 ∧ Rm ta τ1 (fun b τ2 => if b = true then Rm a τ2 (fun y τ3 => Pv (i + 1) (acc ++ [y]) (wipeT τ3 vs)) noX else Pv (i + 1) acc (wipeT τ2 vs)) noX) (hd : ∀ out τ2, Pv items.length out τ2 → P out τ2) :
    ∃ out τ2, lcGo t ta a vs items acc0 τ = some (out, τ2) ∧ P out τ2 := by
  obtain ⟨out, τ2, e, q⟩ := w_lcGo Pv hz h0 hs
  exact ⟨out, τ2, e, hd _ _ q⟩
theorem w_chk {τ : Tau} {ta : CM Bool} {sa : SC} {N : Tau → Prop} {Q : Fl → Tau → Prop} (M : Tau → Prop) (h : Rm ta τ (fun t τ1 => t = false ∧ M τ1) (exQ Q)) (q : ∀ τ', M τ' → N τ') : Ru (sIf ta sa sNx) τ N Q := by
  refine w_sif ?_
  obtain ⟨r, τ', e, p⟩ := h
  refine ⟨r, τ', e, ?_⟩
  cases r with
  | ok t =>
    obtain ⟨rfl, p⟩ := p
    exact (w_sNx (q _ p) : Ru sNx τ' N Q)
  | ex c fs l => exact p
theorem keysD_kD : ∀ ls : List Str, keysD (kD ls) = some (ls.map D.str)
  | [] => rfl
  | a :: r => by
    show ((keysD (kD r)).map (D.str a :: ·)) = _
    rw [keysD_kD r]
    rfl
theorem listF_tab {ls : List Str} {F : Str → Int × Int} (h : ls.length ≤ sizeLine) : listF (.ob (.dct false (kD ls)) (tabL ls F)) = some (.mu .lst ((ls.map D.str).map .fz)) := by
  show (if (kD ls).length ≤ sizeLine then (keysD (kD ls)).map fun l => SV.mu .lst (l.map .fz) else none) = _
  rw [if_pos (by unfold kD; rw [List.length_map]; exact h), keysD_kD]
  rfl
theorem far_some {z : Str} (h : z.length ≤ 4) : ∃ c ∈ [97, 98, 99, 100, 101], c ∉ z.cps.toList := by
  have zl : z.cps.toList.length = z.length := by simp [Str.length]
  refine Classical.byContradiction fun q => ?_
  have := List.Nodup.length_le_of_subset (l₁ := [97, 98, 99, 100, 101]) (l₂ := z.cps.toList) (by decide) fun x hx => Classical.byContradiction fun h2 => q ⟨x, hx, h2⟩
  rw [show ([97, 98, 99, 100, 101] : List Nat).length = 5 from rfl, zl] at this
  omega
theorem price_same {F : Str → Int × Int} {f : Int × Int} {w : Nat} {l : List Nat} (hf : Frac f) (h : ∀ d ∈ dueL l w, F (ofL d) = f) : priceF F w l = nf (f.1 * (l.length : Nat)) f.2 := by
  have e : ((dueL l w).map fun d => F (ofL d)) = List.replicate l.length f := by
    refine List.eq_replicate_iff.mpr ⟨by rw [List.length_map, dueL, List.length_map, List.length_range], fun x hx => ?_⟩
    obtain ⟨d, hd, rfl⟩ := List.mem_map.mp hx
    exact h d hd
  unfold priceF
  rw [e, sum_rep hf]
def OddZ (z : Str) (d : D) : Prop := Pln d ∧ isStrOf d z = false
theorem Odd.z {d : D} {z : Str} (h : Odd d) (hz : isRows (.str z) = true) : OddZ z d := ⟨h.1, h.2 z hz⟩
theorem oddz_str {s z : Str} (c : Nat) (h : c ∈ s.cps.toList) (hc : c ∉ z.cps.toList) : OddZ z (.str s) := ⟨(fun e => nomatch e), by
  refine Bool.eq_false_iff.mpr fun t => hc ?_
  have t : s.cps.toList.all (fun c => decide (c ∈ z.cps.toList)) = true := t
  exact of_decide_eq_true (List.all_eq_true.mp t c h)⟩
theorem abcde_is : ("abcde" : Str).cps.toList = [97, 98, 99, 100, 101] := by decide +kernel

-- use price
theorem p_law_refused {s : SV} {z : Str} {w : Nat} {F : Str → Int × Int} {d : D} (hp : IsPr s z w F) (hm : IsMu s) (hd : Pln d) (hc : isStrOf d z = false) : Ret f_law_refused [s, .fz d] (.fz (.bl true)) := by
  unfold f_law_refused m_law_refused
  refine w_fn rfl rfl ?_
  walk_at "v"
  refine w_run rfl rfl (p_price_no hp hd hc) ?_
  rintro _ _ ⟨rfl, rfl⟩
  refine ⟨rfl, ?_⟩
  walk_at "v"
  refine w_hnT rfl ?_
  refine w_hnB (b := true) (by show 3 < 4; decide) rfl rfl ?_
  walk_at "v"
  exact ⟨rfl, rfl⟩

-- use stretches_of
theorem p_law_cut {x : Str} {w : Nat} (w1 : 1 ≤ w) (hz : x.length + 1 ≤ sizeLine) : Ret f_law_cut [.fz (.str x), .fz (.int w)] (.mu .lst ((txD (dueL x.cps.toList w)).map .fz)) := by
  unfold f_law_cut m_law_cut
  have hs : (sizeLine : Nat) = 16777216 := sizeLine_eq
  have len : x.cps.toList.length = x.length := by simp [Str.length]
  refine w_fn rfl rfl ?_
  walk_at "v"
  rw [show (x.length : Int).toNat = x.length by omega]
  refine w_loopR (fun i τ => ∃ o o2, τ = [some (.fz (.str x)), some (.fz (.int w)), some (.mu .lst ((txD ((List.range i).map (stAt x.cps.toList w))).map .fz)), o, o2]) ⟨_, _, rfl⟩ ?_ ?_
  · rintro i τ hi ⟨o, o2, rfl⟩
    walk_at "v"
    refine v_iteD (fun c => ?_) fun c => ?_
    · walk_at "v"
      refine v_app (by rw [txD_len, List.length_map, List.length_range]; omega) rfl ?_
      walk_at "v"
      refine ⟨some (.fz (.int (0 + (i : Int)))), some (.fz (.int (0 + (i : Int) + 1 - w))), ?_⟩
      rw [range_snoc, txD_app]
      show _ = [_, _, some (SV.mu .lst ((_ ++ [D.str (ofL (stAt x.cps.toList w i))]).map .fz)), _, _]
      rw [cut_of _ _ _ (by omega) (by omega), stAt, if_neg (by omega)]
      rw [show (0 + (i : Int) + 1 - (w : Int)).toNat = i + 1 - w by omega, show (0 + (i : Int) + 1).toNat - (i + 1 - w) = w by omega]
    · walk_at "v"
      rw [cut_to _ _ (by omega), caret_is]
      refine v_addS (by rw [ofL_len, ofL_len, List.length_take]; show 1 + _ ≤ _; omega) ?_
      walk_at "v"
      refine v_app (by rw [txD_len, List.length_map, List.length_range]; omega) rfl ?_
      walk_at "v"
      refine ⟨some (.fz (.int (0 + (i : Int)))), some (.fz (.int (0 + (i : Int) + 1 - w))), ?_⟩
      rw [range_snoc, txD_app]
      show _ = [_, _, some (SV.mu .lst ((_ ++ [D.str (ofL (stAt x.cps.toList w i))]).map .fz)), _, _]
      rw [ofL_app, stAt, if_pos (by omega), show (0 + (i : Int) + 1).toNat = i + 1 by omega]
      rfl
  · rintro τ ⟨o, o2, rfl⟩
    walk_at "v"
    rw [dueL, len]
    exact ⟨rfl, rfl⟩

-- use math14
-- use law_refused
-- use law_cut
-- use law_table
theorem law_pure : ∀ ns : List Int, ns.length ≤ 63 → ∃ o, f_law [scr ns] = some (.ok (.fz (.bl true)), o) := by
  intro ns hns
  suffices h : RunF f_law [scr ns] fun r os => r = .ok (.fz (.bl true)) by
    obtain ⟨r, os, e, rfl⟩ := h
    exact ⟨os, e⟩
  have hs : (sizeLine : Nat) = 16777216 := sizeLine_eq
  unfold f_law m_law
  refine w_fn rfl rfl ?_
  walk_at "v"
  refine w_run rfl rfl (p_law_hand hns) ?_
  rintro _ _ ⟨rfl, s0, rfl, hh0⟩
  refine ⟨rfl, ?_⟩
  walk_at "v"
  refine w_loopR (fun i τ => ∃ hd o2 o3 o4 o5 o6 o7 o8 o9 o10 o11 o12, τ = [some (scr ns), some hd, o2, o3, o4, o5, o6, o7, o8, o9, o10, o11, o12, none, none] ∧ Hand hd) ⟨s0, _, _, _, _, _, _, _, _, _, _, _, rfl, hh0⟩ ?_ ?_
  · rintro i τ hi ⟨hd, o2, o3, o4, o5, o6, o7, o8, o9, o10, o11, o12, rfl, hh⟩
    have hm := hh.mu
    walk_at "v"
    refine w_run rfl rfl (p_law_draw hh (by decide) (by decide)) ?_
    rintro _ _ ⟨d, h1, rfl, rfl, hh1, d0, d1⟩
    refine ⟨rfl, ?_⟩
    have hm1 := hh1.mu
    obtain ⟨mo, em, m1, m2⟩ : ∃ m : Int, ixF (.ob .lst [.int 3, .int 3, .int 4]) (.int d) = some (.fz (.int m)) ∧ 1 ≤ m ∧ m ≤ 4 := by
      have hd : d = 0 ∨ d = 1 ∨ d = 2 := by omega
      rcases hd with rfl | rfl | rfl
      · exact ⟨3, rfl, by decide, by decide⟩
      · exact ⟨3, rfl, by decide, by decide⟩
      · exact ⟨4, rfl, by decide, by decide⟩
    walk_at "v"
    refine v_lf2 em ?_
    walk_at "v"
    refine w_run rfl rfl (p_law_rows hh1 m1 m2) ?_
    rintro _ _ ⟨z, h2, rfl, rfl, hh2, hz, hzl⟩
    refine ⟨rfl, ?_⟩
    have hm2 := hh2.mu
    have rg := rows_good hz
    have z4 := rg.len
    have z1 := (rows_parts hz).2.1
    walk_at "v"
    refine v_lf1 (s := .fz (.int (if (3 : Int) < z.length then 1 else 0))) (by by_cases q : (3 : Int) < z.length <;> simp [q, intF]) ?_
    walk_at "v"
    have hw1 : 1 ≤ (3 : Int) - (if (3 : Int) < z.length then 1 else 0) := by split <;> omega
    have hw3 : (3 : Int) - (if (3 : Int) < z.length then 1 else 0) ≤ 3 := by split <;> omega
    refine w_run rfl rfl (p_law_draw hh2 (by omega) (by omega)) ?_
    rintro _ _ ⟨x, h3, rfl, rfl, hh3, x0, x1⟩
    refine ⟨rfl, ?_⟩
    have hm3 := hh3.mu
    obtain ⟨w, ew⟩ : ∃ w : Nat, 1 + x = (w : Int) := ⟨(1 + x).toNat, by omega⟩
    have w1 : 1 ≤ w := by omega
    have w3 : w ≤ 3 := by omega
    walk_at "v"
    rw [ew]
    refine w_run rfl rfl (p_law_table hh3 rg w1 w3) ?_
    rintro _ _ ⟨F, h4, rfl, rfl, hh4, hF⟩
    refine ⟨rfl, ?_⟩
    have hm4 := hh4.mu
    have hmt := tab_mu (NamesOf z w) F
    walk_at "v"
    refine w_makeC rfl rfl (RunF.mono (p_Prices_init hz w1 w3 hF) ?_)
    rintro _ _ ⟨rfl, rfl⟩
    refine ⟨_, _, rfl, rfl, .inl ⟨rfl, ?_⟩⟩
    have hmp := pr_mu z w (sortedN z.cps.toList w) F
    have ip : IsPr (prO z w (sortedN z.cps.toList w) F) z w F := .inl rfl
    walk_at "v"
    refine w_run rfl rfl (p_law_draw hh4 (by decide) (by decide)) ?_
    rintro _ _ ⟨d, h5, rfl, rfl, hh5, d0, d1⟩
    refine ⟨rfl, ?_⟩
    have hm5 := hh5.mu
    obtain ⟨n, en, n2⟩ : ∃ n : Nat, ixF (.ob .lst [.int 0, .int 1, .int 2, .int 8, .int 60, .int 200]) (.int d) = some (.fz (.int (n : Int))) ∧ n ≤ 200 := by
      have hd : d = 0 ∨ d = 1 ∨ d = 2 ∨ d = 3 ∨ d = 4 ∨ d = 5 := by omega
      rcases hd with rfl | rfl | rfl | rfl | rfl | rfl
      · exact ⟨0, rfl, by decide⟩
      · exact ⟨1, rfl, by decide⟩
      · exact ⟨2, rfl, by decide⟩
      · exact ⟨8, rfl, by decide⟩
      · exact ⟨60, rfl, by decide⟩
      · exact ⟨200, rfl, by decide⟩
    walk_at "v"
    refine v_lf2 en ?_
    walk_at "v"
    have zl : z.cps.toList.length = z.length := by simp [Str.length]
    refine w_lcV (fun j acc τ => ∃ hd' cs, τ = [some (scr ns), some hd', some (.fz (.int (0 + (i : Int)))), some (.fz (.str z)), some (.fz (.int w)), some (tabO (NamesOf z w) F), some (prO z w (sortedN z.cps.toList w) F), o7, o8, o9, o10, o11, o12, none, none] ∧ Hand hd' ∧ acc = cs.map (fun c => D.str ⟨#[c]⟩) ∧ cs.length = j ∧ ∀ c ∈ cs, c ∈ z.cps.toList) (by show 0 + (rangeL 0 _).length ≤ _; unfold rangeL; rw [List.length_map, List.length_range]; omega) ⟨h5, [], rfl, hh5, rfl, rfl, fun _ h => nomatch h⟩ ?_ ?_
    · rintro j d acc τ hd ⟨hd', cs, rfl, hh', rfl, hcl, hcm⟩
      have hm' := hh'.mu
      walk_at "v"
      refine w_run rfl rfl (p_law_draw hh' (by omega) (by omega)) ?_
      rintro _ _ ⟨y, h6, rfl, rfl, hh6, y0, y1⟩
      refine ⟨rfl, ?_⟩
      obtain ⟨r, rfl⟩ : ∃ r : Nat, y = (r : Int) := ⟨y.toNat, by omega⟩
      have hr : r < z.cps.toList.length := by omega
      walk_at "v"
      refine v_lf2 (ixF_S (by omega) (List.getElem?_eq_getElem hr)) ?_
      walk_at "v"
      refine ⟨h6, cs ++ [z.cps.toList[r]], rfl, hh6, by simp, by simp [hcl], fun q hq => ?_⟩
      rcases List.mem_append.mp hq with q1 | q1
      · exact hcm q q1
      · simp at q1
        subst q1
        exact List.getElem_mem hr
    · rintro out τ2 ⟨h6, cs, rfl, hh6, rfl, hcl, hcm⟩
      have hcl : cs.length = n := by rw [hcl]; unfold rangeL; rw [List.length_map, List.length_range]; omega
      have hm6 := hh6.mu
      have ccs : (ofL cs).cps.toList = cs := by simp [ofL]
      have clen : (ofL cs).length = n := by rw [ofL_len, hcl]
      have hso : isStrOf (.str (ofL cs)) z = true := by
        show (ofL cs).cps.toList.all _ = true
        rw [ccs, List.all_eq_true]
        exact fun c hc => decide_eq_true (hcm c hc)
      walk_at "v"
      refine ⟨_, join_ofL cs (by omega), ?_⟩
      walk_at "v"
      refine w_ret rfl rfl (p_law_cut w1 (by omega)) rfl ?_
      rw [ccs]
      walk_at "vn"
      have hin : ∀ l ∈ dueL cs w, ofL l ∈ NamesOf z w := fun l hl => (names_mem w1 _).mp (by
        have := due_in (z := z) (x := ofL cs) w1 (by rw [ccs]; exact hcm) l
        rw [ccs] at this
        exact this hl)
      have dlen : (dueL cs w).length = n := by rw [dueL, List.length_map, List.length_range, hcl]
      have hpr : Ret f_price [prO z w (sortedN z.cps.toList w) F, .fz (.str (ofL cs))] (.fz (frD (priceF F w cs))) := by
        have := p_price ip w1 hF (by omega) hso
        rw [ccs] at this
        exact this
      refine w_seq (w_chk (fun τ => ∃ o10, τ = [some (scr ns), some h6, some (.fz (.int (0 + (i : Int)))), some (.fz (.str z)), some (.fz (.int w)), some (tabO (NamesOf z w) F), some (prO z w (sortedN z.cps.toList w) F), some (.fz (.str (ofL cs))), some (.fz (.ob .lst (txD (dueL cs w)))), o9, o10, o11, o12, none, none]) ?_ ?_)
      · walk_at "v"
        refine w_ret rfl rfl hpr rfl ?_
        walk_at "v"
        refine w_lcMq (X := List Nat) (xs := dueL cs w) (e := fun l => D.str (ofL l)) _ (fun l => frD (F (ofL l))) rfl rfl (by omega) (fun l hl => ?_) fun τ3 hτ => ?_
        · walk_at "v"
          refine w_B (bIx_tab (l := ofL l) rfl rfl (hin l hl)) ?_
          walk_at "v"
          all_goals exact ⟨rfl, rfl⟩
        · have hτ3 : ∃ o10, τ3 = [some (scr ns), some h6, some (.fz (.int (0 + (i : Int)))), some (.fz (.str z)), some (.fz (.int w)), some (tabO (NamesOf z w) F), some (prO z w (sortedN z.cps.toList w) F), some (.fz (.str (ofL cs))), some (.fz (.ob .lst (txD (dueL cs w)))), o9, o10, o11, o12, none, none] := by
            rcases hτ with rfl | rfl
            · exact ⟨_, rfl⟩
            · exact ⟨_, rfl⟩
          obtain ⟨o10', rfl⟩ := hτ3
          walk_at "v"
          rw [show ((dueL cs w).map fun l => frD (F (ofL l))) = ((dueL cs w).map fun d => F (ofL d)).map frD by rw [List.map_map]; rfl]
          refine w_ret rfl rfl (p_law_sum (due_frs hF _) (by rw [List.length_map]; omega) (by decide) (by rw [List.length_map]; omega)) rfl ?_
          walk_at "v"
          refine v_lf2 (ne_self (priceF F w cs)) ?_
          walk_at "v"
          refine w_ret rfl rfl (p_price (x := "") ip w1 hF (by decide) rfl) rfl ?_
          walk_at "v"
          refine v_lf2 (ne_self (0, 1)) ?_
          walk_at "v"
          exact ⟨_, rfl⟩
      · rintro _ ⟨o10', rfl⟩
        refine w_seq (w_chk (fun τ => τ = [some (scr ns), some h6, some (.fz (.int (0 + (i : Int)))), some (.fz (.str z)), some (.fz (.int w)), some (tabO (NamesOf z w) F), some (prO z w (sortedN z.cps.toList w) F), some (.fz (.str (ofL cs))), some (.fz (.ob .lst (txD (dueL cs w)))), o9, o10', o11, o12, none, none]) ?_ ?_)
        · walk_at "v"
          refine v_iteN (fun hne => ?_) fun _ => trivial
          have hcne : cs ≠ [] := fun e => hne (by rw [e]; rfl)
          walk_at "v"
          refine w_ret rfl rfl hpr rfl ?_
          walk_at "v"
          rw [cut_init, ccs]
          have cin : (ofL cs.dropLast).cps.toList = cs.dropLast := by simp [ofL]
          have hso2 : isStrOf (.str (ofL cs.dropLast)) z = true := by
            show (ofL cs.dropLast).cps.toList.all _ = true
            rw [cin, List.all_eq_true]
            exact fun c hc => decide_eq_true (hcm c ((List.dropLast_sublist cs).mem hc))
          have hpr2 : Ret f_price [prO z w (sortedN z.cps.toList w) F, .fz (.str (ofL cs.dropLast))] (.fz (frD (priceF F w cs.dropLast))) := by
            have := p_price ip w1 hF (by rw [ofL_len, List.length_dropLast]; omega) hso2
            rw [cin] at this
            exact this
          refine w_ret rfl rfl hpr2 rfl ?_
          walk_at "v"
          have hdi := due_init w hcne
          refine w_B (d := frD (F (ofL (stAt cs w (cs.length - 1))))) (bIx_tab (l := ofL (stAt cs w (cs.length - 1))) rfl (bIx_F (x := .ob .lst (txD (dueL cs w))) (k := .int (-1)) rfl rfl (ixF_L (by rw [hdi, txD_app]; exact atI_last _ _))) (hin _ (by rw [hdi]; simp))) ?_
          walk_at "v"
          have hfr := due_frs hF (dueL cs.dropLast w)
          have hdl : (dueL cs.dropLast w).length = n - 1 := by rw [dueL, List.length_map, List.length_range, List.length_dropLast, hcl]
          obtain ⟨q1, q2, q3⟩ := sumQ_sm hfr _ (Nat.le_refl _)
          rw [List.take_length] at q1 q2 q3
          rw [List.length_map, hdl] at q2 q3
          have f2 : Frs 1401 [priceF F w cs.dropLast, F (ofL (stAt cs w (cs.length - 1)))] := ⟨fun f hf => by
            simp only [List.mem_cons, List.not_mem_nil, or_false] at hf
            rcases hf with rfl | rfl
            · exact q1
            · exact Int.lt_of_lt_of_le (by decide) (hF _).1.1, fun f hf => by
            simp only [List.mem_cons, List.not_mem_nil, or_false] at hf
            rcases hf with rfl | rfl
            · exact sm_mono q2 (by omega)
            · exact sm_mono (hF _).2.1 (by decide), fun f hf => by
            simp only [List.mem_cons, List.not_mem_nil, or_false] at hf
            rcases hf with rfl | rfl
            · exact sm_mono q3 (by omega)
            · exact sm_mono (hF _).2.2 (by decide)⟩
          refine w_ret rfl rfl (p_law_sum f2 (by show (1401 + 1) * 2 + 1 ≤ 4000; decide) (by decide) (by show 2 ≤ sizeLine; decide)) rfl ?_
          walk_at "v"
          have hsum : sumQ [priceF F w cs.dropLast, F (ofL (stAt cs w (cs.length - 1)))] = priceF F w cs := by
            unfold priceF
            rw [sum_two hfr.pos, hdi, List.map_append]
            rfl
          rw [hsum]
          refine v_lf2 (ne_self (priceF F w cs)) ?_
          walk_at "v"
          all_goals exact ⟨rfl, rfl⟩
        · rintro _ rfl
          walk_at "v"
          refine w_run rfl rfl (p_law_fraction hh6) ?_
          rintro _ _ ⟨f, h7, rfl, rfl, hh7, hf, f6, f7⟩
          refine ⟨rfl, ?_⟩
          have hm7 := hh7.mu
          obtain ⟨nl, nb⟩ := names_len rg w1 w3
          walk_at "v"
          refine v_lf1 (listF_tab (by omega)) ?_
          walk_at "v"
          refine w_loopX (X := Str) (xs := NamesOf z w) (e := D.str) (fun j τ => ∃ G o10, τ = [some (scr ns), some h7, some (.fz (.int (0 + (i : Int)))), some (.fz (.str z)), some (.fz (.int w)), some (tabO (NamesOf z w) G), some (prO z w (sortedN z.cps.toList w) F), some (.fz (.str (ofL cs))), some (.fz (.ob .lst (txD (dueL cs w)))), some (.fz (frD f)), o10, o11, o12, none, none] ∧ FOk G ∧ ∀ l ∈ (NamesOf z w).take j, G l = f) ⟨F, _, rfl, hF, fun _ h => nomatch h⟩ ?_ ?_
          · rintro j l τ hl ⟨G, o10, rfl, hG, hGf⟩
            have hlm := List.mem_of_getElem? hl
            walk_at "v"
            refine v_put1 rfl (set_old hlm (by omega)) ?_
            walk_at "v"
            refine ⟨fun x => if x = l then f else G x, _, rfl, hG.put ⟨hf, f6, f7⟩ l, fun x hx => ?_⟩
            by_cases e : x = l
            · exact if_pos e
            · refine (if_neg e).trans (hGf x ?_)
              rw [List.take_add_one, hl] at hx
              rcases List.mem_append.mp hx with q | q
              · exact q
              · simp at q
                exact absurd q e
          · rintro τ ⟨G, o10'', rfl, hG, hGf⟩
            rw [List.take_length] at hGf
            have hmt2 := tab_mu (NamesOf z w) G
            refine w_seq (w_chk (fun τ => τ = [some (scr ns), some h7, some (.fz (.int (0 + (i : Int)))), some (.fz (.str z)), some (.fz (.int w)), some (tabO (NamesOf z w) G), some (prO z w (sortedN z.cps.toList w) F), some (.fz (.str (ofL cs))), some (.fz (.ob .lst (txD (dueL cs w)))), some (.fz (frD f)), o10'', o11, o12, none, none]) ?_ ?_)
            · have hpr3 : Ret f_price [.fz (prD z w (sortedN z.cps.toList w) G), .fz (.str (ofL cs))] (.fz (frD (priceF G w cs))) := by
                have := p_price (s := .fz (prD z w (sortedN z.cps.toList w) G)) (.inr rfl) w1 hG (by omega) hso
                rw [ccs] at this
                exact this
              walk_at "v"
              refine w_makeC rfl rfl (RunF.mono (p_Prices_init hz w1 w3 hG) ?_)
              rintro _ _ ⟨rfl, rfl⟩
              refine ⟨_, _, rfl, rfl, .inl ⟨rfl, ?_⟩⟩
              rw [pr_toD]
              walk_at "v"
              refine w_ret rfl rfl hpr3 rfl ?_
              unfold frD
              walk_at "v"
              refine w_ret rfl rfl (p_law_made (t := f.1 * ((ofL cs).length : Int)) (b := f.2) (Int.lt_of_lt_of_le (by decide) hf.1) (sm_mono f7 (by decide))) rfl ?_
              walk_at "v"
              have e3 := price_same (w := w) (l := cs) hf fun d hd => hGf _ (hin d hd)
              rw [hcl, ← clen] at e3
              refine v_lf2 (s := .fz (.bl false)) (by
                have := ne_self (priceF G w cs)
                rw [e3] at this ⊢
                exact this) ?_
              walk_at "v"
              all_goals exact ⟨rfl, rfl⟩
            · rintro _ rfl
              walk_at "v"
              rw [abcde_is]
              refine w_lcV (fun j acc τ => ∃ ds : List Nat, acc = ds.map (fun c => D.str ⟨#[c]⟩) ∧ τ = [some (scr ns), some h7, some (.fz (.int (0 + (i : Int)))), some (.fz (.str z)), some (.fz (.int w)), some (tabO (NamesOf z w) G), some (prO z w (sortedN z.cps.toList w) F), some (.fz (.str (ofL cs))), some (.fz (.ob .lst (txD (dueL cs w)))), some (.fz (frD f)), o10'', o11, o12, none, none] ∧ (∀ c ∈ ds, c ∉ z.cps.toList) ∧ ∀ c ∈ ([97, 98, 99, 100, 101] : List Nat).take j, c ∉ z.cps.toList → c ∈ ds) (by show 0 + 5 ≤ _; omega) ⟨[], rfl, rfl, (fun _ h => nomatch h), (fun _ h => nomatch h)⟩ ?_ ?_
              · rintro j d acc τ hd ⟨ds, rfl, rfl, d1, d2⟩
                rw [List.getElem?_map] at hd
                obtain ⟨c, hc, rfl⟩ := Option.map_eq_some_iff.mp hd
                walk_at "v"
                refine v_iteN (fun q => ?_) fun q => ?_
                · walk_at "v"
                  refine ⟨ds ++ [c], by simp, fun x hx => ?_, fun x hx hxz => ?_⟩
                  · rcases List.mem_append.mp hx with r | r
                    · exact d1 x r
                    · simp at r; subst r; exact q
                  · rw [List.take_add_one, hc] at hx
                    rcases List.mem_append.mp hx with r | r
                    · exact List.mem_append_left _ (d2 x r hxz)
                    · exact List.mem_append_right _ (by simpa using r)
                · walk_at "v"
                  refine ⟨ds, rfl, d1, fun x hx hxz => ?_⟩
                  rw [List.take_add_one, hc] at hx
                  rcases List.mem_append.mp hx with r | r
                  · exact d2 x r hxz
                  · simp at r; subst r; exact absurd q hxz
              · rintro out τ2 ⟨ds, rfl, rfl, d1, d2⟩
                obtain ⟨c', hc', hcz'⟩ := far_some z4
                have hdn := d2 c' (by rw [List.length_map, List.take_length]; exact hc') hcz'
                obtain ⟨c0, r0, rfl⟩ : ∃ c0 r0, ds = c0 :: r0 := by
                  cases ds with
                  | nil => cases hdn
                  | cons a b => exact ⟨a, b, rfl⟩
                have hc0 := d1 c0 List.mem_cons_self
                obtain ⟨z0, zr, hzc⟩ : ∃ z0 zr, z.cps.toList = z0 :: zr := by
                  cases hq : z.cps.toList with
                  | nil => rw [hq] at zl; simp at zl; omega
                  | cons a b => exact ⟨a, b, rfl⟩
                walk_at "v"
                refine v_lf2 (s := .fz (.str ⟨#[c0]⟩)) (ixF_L (atI_pos (n := 0) rfl)) ?_
                walk_at "v"
                rw [cut_to _ _ (by decide), ccs]
                refine v_addS (by rw [ofL_len, List.length_take]; show min _ _ + 1 ≤ _; omega) ?_
                walk_at "v"
                have hat : L2.atI z.cps.toList 0 = some z0 := by rw [hzc]; exact atI_pos (n := 0) rfl
                refine w_B (d := .str ⟨#[z0]⟩) (bIx_S (z := z) (i := 0) rfl rfl (by omega) hat) ?_
                walk_at "v"
                refine v_lf1 (s := .fz (.str (Txt.upper ⟨#[z0]⟩))) (show (if (⟨#[z0]⟩ : Str).length ≤ 5592405 then some (SV.fz (.str (Txt.upper ⟨#[z0]⟩))) else none) = _ from if_pos (by show 1 ≤ 5592405; decide)) ?_
                walk_at "v"
                refine v_lf1 (s := .mu .lst ((VS.signs z).map .fz)) (show (if z.length ≤ sizeLine then some (SV.mu .lst ((VS.signs z).map .fz)) else none) = _ from if_pos (by omega)) ?_
                walk_at "v"
                refine w_B (d := .str ⟨#[z0]⟩) (bIx_S (z := z) (i := 0) rfl rfl (by omega) hat) ?_
                walk_at "v"
                refine w_B (d := .str ⟨#[z0]⟩) (bIx_S (z := z) (i := 0) rfl rfl (by omega) hat) ?_
                walk_at "v"
                refine v_addS (by show 1 + 1 ≤ _; omega) ?_
                walk_at "v"
                refine w_run rfl rfl (p_law_odd hh7) ?_
                rintro _ _ ⟨dd, h8, rfl, rfl, hh8, hodd⟩
                refine ⟨rfl, ?_⟩
                have hm8 := hh8.mu
                have hz0 : 97 ≤ z0 ∧ z0 < 123 := by
                  have h1 := (rows_parts hz).1
                  rw [← ofL_cps z] at h1
                  exact abcL_mem.mp ((isStrOf_L _).mp h1 z0 (by rw [hzc]; exact List.mem_cons_self))
                have hall : ∀ d ∈ [D.str (ofL (List.take (Int.toNat 100) cs) ++ ⟨#[c0]⟩), .str ⟨#[c0]⟩, .str (Txt.upper ⟨#[z0]⟩), .ob .lst (VS.signs z), .tup [.str ⟨#[z0]⟩], .non, .int 5, .bl true, .str ("^" ++ ⟨#[z0]⟩), dd], OddZ z d := by
                  intro d hd
                  simp only [List.mem_cons, List.not_mem_nil, or_false] at hd
                  rcases hd with rfl | rfl | rfl | rfl | rfl | rfl | rfl | rfl | rfl | rfl
                  · exact oddz_str c0 (by rw [show (⟨#[c0]⟩ : Str) = ofL [c0] from rfl, ofL_app]; simp [ofL]) hc0
                  · exact oddz_str c0 (by simp) hc0
                  · exact (odd_upper hz0).z hz
                  · exact (odd_of (by intro e; cases e) (by intro s e; cases e)).z hz
                  · exact (odd_of (by intro e; cases e) (by intro s e; cases e)).z hz
                  · exact (odd_of (by intro e; cases e) (by intro s e; cases e)).z hz
                  · exact (odd_of (by intro e; cases e) (by intro s e; cases e)).z hz
                  · exact (odd_of (by intro e; cases e) (by intro s e; cases e)).z hz
                  · exact (odd_str 94 (by rw [caret_is, show (⟨#[z0]⟩ : Str) = ofL [z0] from rfl, ofL_app]; simp [ofL]) (by decide)).z hz
                  · exact hodd.z hz
                walk_at "v"
                refine w_loop (fun j τ => ∃ o12', τ = [some (scr ns), some h8, some (.fz (.int (0 + (i : Int)))), some (.fz (.str z)), some (.fz (.int w)), some (tabO (NamesOf z w) G), some (prO z w (sortedN z.cps.toList w) F), some (.fz (.str (ofL (List.take (Int.toNat 100) cs)))), some (.fz (.ob .lst (txD (dueL cs w)))), some (.fz (frD f)), o10'', some (.fz (.str ⟨#[c0]⟩)), o12', none, none]) ⟨_, rfl⟩ ?_ ?_
                · rintro j d τ hd ⟨o12', rfl⟩
                  have hoz : OddZ z d := hall d (List.mem_of_getElem? hd)
                  walk_at "v"
                  refine w_ret rfl rfl (p_law_refused ip hmp hoz.1 hoz.2) rfl ?_
                  walk_at "v"
                  exact ⟨_, rfl⟩
                · rintro τ ⟨o12', rfl⟩
                  exact ⟨h8, _, _, _, _, _, _, _, _, _, _, _, rfl, hh8⟩
  · rintro τ ⟨hd, o2, o3, o4, o5, o6, o7, o8, o9, o10, o11, o12, rfl, hh⟩
    walk_at "v"
    all_goals rfl

end Lw
namespace Lw
open PySem PySem.Spec PyProof.Rows L2 VS
theorem all_mk {l : PySem.W.OpenLaw} {w : World} {K : PySem.W.Frag} {h : Heap} {mg : Str → Option Value} {fa : Addr} (X : K.In h) (G : h.Ns mainGlobals mg) (hfa : mg "law" = some (.ref fa))
    {o_Prices : Addr}
    {f0 : Addr} {od0 an0 : Option Addr} {sl0 : Array (Option Value)} {oc0 kV0 dc0 pm0 cd0 ct0 : Value}
    {f1 : Addr} {od1 an1 : Option Addr} {sl1 : Array (Option Value)} {oc1 kV1 dc1 pm1 cd1 ct1 : Value}
    {f2 : Addr} {od2 an2 : Option Addr} {sl2 : Array (Option Value)} {oc2 kV2 dc2 pm2 cd2 ct2 : Value}
    {f3 : Addr} {od3 an3 : Option Addr} {sl3 : Array (Option Value)} {oc3 kV3 dc3 pm3 cd3 ct3 : Value}
    {f4 : Addr} {od4 an4 : Option Addr} {sl4 : Array (Option Value)} {oc4 kV4 dc4 pm4 cd4 ct4 : Value}
    {f5 : Addr} {od5 an5 : Option Addr} {sl5 : Array (Option Value)} {oc5 kV5 dc5 pm5 cd5 ct5 : Value}
    {f6 : Addr} {od6 an6 : Option Addr} {sl6 : Array (Option Value)} {oc6 kV6 dc6 pm6 cd6 ct6 : Value}
    {f7 : Addr} {od7 an7 : Option Addr} {sl7 : Array (Option Value)} {oc7 kV7 dc7 pm7 cd7 ct7 : Value}
    {f8 : Addr} {od8 an8 : Option Addr} {sl8 : Array (Option Value)} {oc8 kV8 dc8 pm8 cd8 ct8 : Value}
    {f9 : Addr} {od9 an9 : Option Addr} {sl9 : Array (Option Value)} {oc9 kV9 dc9 pm9 cd9 ct9 : Value}
    {f10 : Addr} {od10 an10 : Option Addr} {sl10 : Array (Option Value)} {oc10 kV10 dc10 pm10 cd10 ct10 : Value}
    {f11 : Addr} {od11 an11 : Option Addr} {sl11 : Array (Option Value)} {oc11 kV11 dc11 pm11 cd11 ct11 : Value}
    {f12 : Addr} {od12 an12 : Option Addr} {sl12 : Array (Option Value)} {oc12 kV12 dc12 pm12 cd12 ct12 : Value}
    {f13 : Addr} {od13 an13 : Option Addr} {sl13 : Array (Option Value)} {oc13 kV13 dc13 pm13 cd13 ct13 : Value}
    {f14 : Addr} {od14 an14 : Option Addr} {sl14 : Array (Option Value)} {oc14 kV14 dc14 pm14 cd14 ct14 : Value}
    {f15 : Addr} {od15 an15 : Option Addr} {sl15 : Array (Option Value)} {oc15 kV15 dc15 pm15 cd15 ct15 : Value}
    {f16 : Addr} {od16 an16 : Option Addr} {sl16 : Array (Option Value)} {oc16 kV16 dc16 pm16 cd16 ct16 : Value}
    {f17 : Addr} {od17 an17 : Option Addr} {sl17 : Array (Option Value)} {oc17 kV17 dc17 pm17 cd17 ct17 : Value}
    {f18 : Addr} {od18 an18 : Option Addr} {sl18 : Array (Option Value)} {oc18 kV18 dc18 pm18 cd18 ct18 : Value}
    {f19 : Addr} {od19 an19 : Option Addr} {sl19 : Array (Option Value)} {oc19 kV19 dc19 pm19 cd19 ct19 : Value}
    {f20 : Addr} {od20 an20 : Option Addr} {sl20 : Array (Option Value)} {oc20 kV20 dc20 pm20 cd20 ct20 : Value}
    {f21 : Addr} {od21 an21 : Option Addr} {sl21 : Array (Option Value)} {oc21 kV21 dc21 pm21 cd21 ct21 : Value}
    {f22 : Addr} {od22 an22 : Option Addr} {sl22 : Array (Option Value)} {oc22 kV22 dc22 pm22 cd22 ct22 : Value}
    {f23 : Addr} {od23 an23 : Option Addr} {sl23 : Array (Option Value)} {oc23 kV23 dc23 pm23 cd23 ct23 : Value}
    {f24 : Addr} {od24 an24 : Option Addr} {sl24 : Array (Option Value)} {oc24 kV24 dc24 pm24 cd24 ct24 : Value}
    {f25 : Addr} {od25 an25 : Option Addr} {sl25 : Array (Option Value)} {oc25 kV25 dc25 pm25 cd25 ct25 : Value}
    {f26 : Addr} {od26 an26 : Option Addr} {sl26 : Array (Option Value)} {oc26 kV26 dc26 pm26 cd26 ct26 : Value}
    {f27 : Addr} {od27 an27 : Option Addr} {sl27 : Array (Option Value)} {oc27 kV27 dc27 pm27 cd27 ct27 : Value}
    {f28 : Addr} {od28 an28 : Option Addr} {sl28 : Array (Option Value)} {oc28 kV28 dc28 pm28 cd28 ct28 : Value}
    {f29 : Addr} {od29 an29 : Option Addr} {sl29 : Array (Option Value)} {oc29 kV29 dc29 pm29 cd29 ct29 : Value}
    {f30 : Addr} {od30 an30 : Option Addr} {sl30 : Array (Option Value)} {oc30 kV30 dc30 pm30 cd30 ct30 : Value}
    {f31 : Addr} {od31 an31 : Option Addr} {sl31 : Array (Option Value)} {oc31 kV31 dc31 pm31 cd31 ct31 : Value}
    {f32 : Addr} {od32 an32 : Option Addr} {sl32 : Array (Option Value)} {oc32 kV32 dc32 pm32 cd32 ct32 : Value}
    {f500 : Addr} {od500 an500 : Option Addr} {sl500 : Array (Option Value)} {oc500 kV500 dc500 pm500 cd500 ct500 : Value}
    {g_NOUGHT : Addr} {god_NOUGHT : Option Addr} {gn_NOUGHT : Nat} {gsl_NOUGHT : Array (Option Value)} {gt0_NOUGHT gt1_NOUGHT : Tok}
    {t_MOST_ROWS : Tok}
    {t_MOST_WIDTH : Tok}
    {t_SMALL : Tok}
    {C_StretchError : Addr}
    {C_NoCode : Addr}
    (oa_Prices : PySem.W.nsIn K mainGlobals "Prices" = some (some (.ref o_Prices)))
    (a0 : PySem.W.nsIn K mainGlobals "common_divisor" = some (some (.ref f0)))
    (l0 : K.lookup f0 = some ⟨oc0, od0, .func (PySem.W.fnOf "common_divisor" "common_divisor" (defArgs s_common_divisor) (defBody s_common_divisor) (defScope s_common_divisor) .none kV0 dc0 pm0 an0 cd0 ct0), sl0⟩)
    (c0 : PySem.W.codeIn K cd0 "common_divisor" = true)
    (k0 : PySem.W.keepIn K (.ref f0) = true)
    (a1 : PySem.W.nsIn K mainGlobals "made" = some (some (.ref f1)))
    (l1 : K.lookup f1 = some ⟨oc1, od1, .func (PySem.W.fnOf "made" "made" (defArgs s_made) (defBody s_made) (defScope s_made) .none kV1 dc1 pm1 an1 cd1 ct1), sl1⟩)
    (c1 : PySem.W.codeIn K cd1 "made" = true)
    (k1 : PySem.W.keepIn K (.ref f1) = true)
    (a2 : PySem.W.nsIn K mainGlobals "plus" = some (some (.ref f2)))
    (l2 : K.lookup f2 = some ⟨oc2, od2, .func (PySem.W.fnOf "plus" "plus" (defArgs s_plus) (defBody s_plus) (defScope s_plus) .none kV2 dc2 pm2 an2 cd2 ct2), sl2⟩)
    (c2 : PySem.W.codeIn K cd2 "plus" = true)
    (k2 : PySem.W.keepIn K (.ref f2) = true)
    (a3 : PySem.W.nsIn K mainGlobals "sum_of" = some (some (.ref f3)))
    (l3 : K.lookup f3 = some ⟨oc3, od3, .func (PySem.W.fnOf "sum_of" "sum_of" (defArgs s_sum_of) (defBody s_sum_of) (defScope s_sum_of) .none kV3 dc3 pm3 an3 cd3 ct3), sl3⟩)
    (c3 : PySem.W.codeIn K cd3 "sum_of" = true)
    (k3 : PySem.W.keepIn K (.ref f3) = true)
    (a4 : PySem.W.nsIn K mainGlobals "is_integer" = some (some (.ref f4)))
    (l4 : K.lookup f4 = some ⟨oc4, od4, .func (PySem.W.fnOf "is_integer" "is_integer" (defArgs s_is_integer) (defBody s_is_integer) (defScope s_is_integer) .none kV4 dc4 pm4 an4 cd4 ct4), sl4⟩)
    (c4 : PySem.W.codeIn K cd4 "is_integer" = true)
    (k4 : PySem.W.keepIn K (.ref f4) = true)
    (a5 : PySem.W.nsIn K mainGlobals "is_within" = some (some (.ref f5)))
    (l5 : K.lookup f5 = some ⟨oc5, od5, .func (PySem.W.fnOf "is_within" "is_within" (defArgs s_is_within) (defBody s_is_within) (defScope s_is_within) .none kV5 dc5 pm5 an5 cd5 ct5), sl5⟩)
    (c5 : PySem.W.codeIn K cd5 "is_within" = true)
    (k5 : PySem.W.keepIn K (.ref f5) = true)
    (a6 : PySem.W.nsIn K mainGlobals "is_pair" = some (some (.ref f6)))
    (l6 : K.lookup f6 = some ⟨oc6, od6, .func (PySem.W.fnOf "is_pair" "is_pair" (defArgs s_is_pair) (defBody s_is_pair) (defScope s_is_pair) .none kV6 dc6 pm6 an6 cd6 ct6), sl6⟩)
    (c6 : PySem.W.codeIn K cd6 "is_pair" = true)
    (k6 : PySem.W.keepIn K (.ref f6) = true)
    (a7 : PySem.W.nsIn K mainGlobals "is_string_of" = some (some (.ref f7)))
    (l7 : K.lookup f7 = some ⟨oc7, od7, .func (PySem.W.fnOf "is_string_of" "is_string_of" (defArgs s_is_string_of) (defBody s_is_string_of) (defScope s_is_string_of) .none kV7 dc7 pm7 an7 cd7 ct7), sl7⟩)
    (c7 : PySem.W.codeIn K cd7 "is_string_of" = true)
    (k7 : PySem.W.keepIn K (.ref f7) = true)
    (a8 : PySem.W.nsIn K mainGlobals "is_word" = some (some (.ref f8)))
    (l8 : K.lookup f8 = some ⟨oc8, od8, .func (PySem.W.fnOf "is_word" "is_word" (defArgs s_is_word) (defBody s_is_word) (defScope s_is_word) .none kV8 dc8 pm8 an8 cd8 ct8), sl8⟩)
    (c8 : PySem.W.codeIn K cd8 "is_word" = true)
    (k8 : PySem.W.keepIn K (.ref f8) = true)
    (a9 : PySem.W.nsIn K mainGlobals "is_ascending" = some (some (.ref f9)))
    (l9 : K.lookup f9 = some ⟨oc9, od9, .func (PySem.W.fnOf "is_ascending" "is_ascending" (defArgs s_is_ascending) (defBody s_is_ascending) (defScope s_is_ascending) .none kV9 dc9 pm9 an9 cd9 ct9), sl9⟩)
    (c9 : PySem.W.codeIn K cd9 "is_ascending" = true)
    (k9 : PySem.W.keepIn K (.ref f9) = true)
    (a10 : PySem.W.nsIn K mainGlobals "is_rows" = some (some (.ref f10)))
    (l10 : K.lookup f10 = some ⟨oc10, od10, .func (PySem.W.fnOf "is_rows" "is_rows" (defArgs s_is_rows) (defBody s_is_rows) (defScope s_is_rows) .none kV10 dc10 pm10 an10 cd10 ct10), sl10⟩)
    (c10 : PySem.W.codeIn K cd10 "is_rows" = true)
    (k10 : PySem.W.keepIn K (.ref f10) = true)
    (a11 : PySem.W.nsIn K mainGlobals "is_code" = some (some (.ref f11)))
    (l11 : K.lookup f11 = some ⟨oc11, od11, .func (PySem.W.fnOf "is_code" "is_code" (defArgs s_is_code) (defBody s_is_code) (defScope s_is_code) .none kV11 dc11 pm11 an11 cd11 ct11), sl11⟩)
    (c11 : PySem.W.codeIn K cd11 "is_code" = true)
    (k11 : PySem.W.keepIn K (.ref f11) = true)
    (a12 : PySem.W.nsIn K mainGlobals "is_width" = some (some (.ref f12)))
    (l12 : K.lookup f12 = some ⟨oc12, od12, .func (PySem.W.fnOf "is_width" "is_width" (defArgs s_is_width) (defBody s_is_width) (defScope s_is_width) .none kV12 dc12 pm12 an12 cd12 ct12), sl12⟩)
    (c12 : PySem.W.codeIn K cd12 "is_width" = true)
    (k12 : PySem.W.keepIn K (.ref f12) = true)
    (a13 : PySem.W.nsIn K mainGlobals "is_fraction" = some (some (.ref f13)))
    (l13 : K.lookup f13 = some ⟨oc13, od13, .func (PySem.W.fnOf "is_fraction" "is_fraction" (defArgs s_is_fraction) (defBody s_is_fraction) (defScope s_is_fraction) .none kV13 dc13 pm13 an13 cd13 ct13), sl13⟩)
    (c13 : PySem.W.codeIn K cd13 "is_fraction" = true)
    (k13 : PySem.W.keepIn K (.ref f13) = true)
    (a14 : PySem.W.nsIn K mainGlobals "stretches_of" = some (some (.ref f14)))
    (l14 : K.lookup f14 = some ⟨oc14, od14, .func (PySem.W.fnOf "stretches_of" "stretches_of" (defArgs s_stretches_of) (defBody s_stretches_of) (defScope s_stretches_of) .none kV14 dc14 pm14 an14 cd14 ct14), sl14⟩)
    (c14 : PySem.W.codeIn K cd14 "stretches_of" = true)
    (k14 : PySem.W.keepIn K (.ref f14) = true)
    (a15 : PySem.W.nsIn K mainGlobals "codes_of_length" = some (some (.ref f15)))
    (l15 : K.lookup f15 = some ⟨oc15, od15, .func (PySem.W.fnOf "codes_of_length" "codes_of_length" (defArgs s_codes_of_length) (defBody s_codes_of_length) (defScope s_codes_of_length) .none kV15 dc15 pm15 an15 cd15 ct15), sl15⟩)
    (c15 : PySem.W.codeIn K cd15 "codes_of_length" = true)
    (k15 : PySem.W.keepIn K (.ref f15) = true)
    (a16 : PySem.W.nsIn K mainGlobals "stretch_names" = some (some (.ref f16)))
    (l16 : K.lookup f16 = some ⟨oc16, od16, .func (PySem.W.fnOf "stretch_names" "stretch_names" (defArgs s_stretch_names) (defBody s_stretch_names) (defScope s_stretch_names) .none kV16 dc16 pm16 an16 cd16 ct16), sl16⟩)
    (c16 : PySem.W.codeIn K cd16 "stretch_names" = true)
    (k16 : PySem.W.keepIn K (.ref f16) = true)
    (a17 : PySem.W.nsIn K mainGlobals "is_table" = some (some (.ref f17)))
    (l17 : K.lookup f17 = some ⟨oc17, od17, .func (PySem.W.fnOf "is_table" "is_table" (defArgs s_is_table) (defBody s_is_table) (defScope s_is_table) .none kV17 dc17 pm17 an17 cd17 ct17), sl17⟩)
    (c17 : PySem.W.codeIn K cd17 "is_table" = true)
    (k17 : PySem.W.keepIn K (.ref f17) = true)
    (a18 : PySem.W.nsIn K mainGlobals "price_of" = some (some (.ref f18)))
    (l18 : K.lookup f18 = some ⟨oc18, od18, .func (PySem.W.fnOf "price_of" "price_of" (defArgs s_price_of) (defBody s_price_of) (defScope s_price_of) .none kV18 dc18 pm18 an18 cd18 ct18), sl18⟩)
    (c18 : PySem.W.codeIn K cd18 "price_of" = true)
    (k18 : PySem.W.keepIn K (.ref f18) = true)
    (a19 : PySem.W.nsIn K mainGlobals "price" = some (some (.ref f19)))
    (l19 : K.lookup f19 = some ⟨oc19, od19, .func (PySem.W.fnOf "price" "price" (defArgs s_price) (defBody s_price) (defScope s_price) .none kV19 dc19 pm19 an19 cd19 ct19), sl19⟩)
    (c19 : PySem.W.codeIn K cd19 "price" = true)
    (k19 : PySem.W.keepIn K (.ref f19) = true)
    (a20 : PySem.W.nsIn K mainGlobals "_law_hand" = some (some (.ref f20)))
    (l20 : K.lookup f20 = some ⟨oc20, od20, .func (PySem.W.fnOf "_law_hand" "_law_hand" (defArgs s_law_hand) (defBody s_law_hand) (defScope s_law_hand) .none kV20 dc20 pm20 an20 cd20 ct20), sl20⟩)
    (c20 : PySem.W.codeIn K cd20 "_law_hand" = true)
    (k20 : PySem.W.keepIn K (.ref f20) = true)
    (a21 : PySem.W.nsIn K mainGlobals "_law_draw" = some (some (.ref f21)))
    (l21 : K.lookup f21 = some ⟨oc21, od21, .func (PySem.W.fnOf "_law_draw" "_law_draw" (defArgs s_law_draw) (defBody s_law_draw) (defScope s_law_draw) .none kV21 dc21 pm21 an21 cd21 ct21), sl21⟩)
    (c21 : PySem.W.codeIn K cd21 "_law_draw" = true)
    (k21 : PySem.W.keepIn K (.ref f21) = true)
    (a22 : PySem.W.nsIn K mainGlobals "_law_rows" = some (some (.ref f22)))
    (l22 : K.lookup f22 = some ⟨oc22, od22, .func (PySem.W.fnOf "_law_rows" "_law_rows" (defArgs s_law_rows) (defBody s_law_rows) (defScope s_law_rows) .none kV22 dc22 pm22 an22 cd22 ct22), sl22⟩)
    (c22 : PySem.W.codeIn K cd22 "_law_rows" = true)
    (k22 : PySem.W.keepIn K (.ref f22) = true)
    (a23 : PySem.W.nsIn K mainGlobals "_law_odd" = some (some (.ref f23)))
    (l23 : K.lookup f23 = some ⟨oc23, od23, .func (PySem.W.fnOf "_law_odd" "_law_odd" (defArgs s_law_odd) (defBody s_law_odd) (defScope s_law_odd) .none kV23 dc23 pm23 an23 cd23 ct23), sl23⟩)
    (c23 : PySem.W.codeIn K cd23 "_law_odd" = true)
    (k23 : PySem.W.keepIn K (.ref f23) = true)
    (a24 : PySem.W.nsIn K mainGlobals "_law_made" = some (some (.ref f24)))
    (l24 : K.lookup f24 = some ⟨oc24, od24, .func (PySem.W.fnOf "_law_made" "_law_made" (defArgs s_law_made) (defBody s_law_made) (defScope s_law_made) .none kV24 dc24 pm24 an24 cd24 ct24), sl24⟩)
    (c24 : PySem.W.codeIn K cd24 "_law_made" = true)
    (k24 : PySem.W.keepIn K (.ref f24) = true)
    (a25 : PySem.W.nsIn K mainGlobals "_law_sum" = some (some (.ref f25)))
    (l25 : K.lookup f25 = some ⟨oc25, od25, .func (PySem.W.fnOf "_law_sum" "_law_sum" (defArgs s_law_sum) (defBody s_law_sum) (defScope s_law_sum) .none kV25 dc25 pm25 an25 cd25 ct25), sl25⟩)
    (c25 : PySem.W.codeIn K cd25 "_law_sum" = true)
    (k25 : PySem.W.keepIn K (.ref f25) = true)
    (a26 : PySem.W.nsIn K mainGlobals "_law_common" = some (some (.ref f26)))
    (l26 : K.lookup f26 = some ⟨oc26, od26, .func (PySem.W.fnOf "_law_common" "_law_common" (defArgs s_law_common) (defBody s_law_common) (defScope s_law_common) .none kV26 dc26 pm26 an26 cd26 ct26), sl26⟩)
    (c26 : PySem.W.codeIn K cd26 "_law_common" = true)
    (k26 : PySem.W.keepIn K (.ref f26) = true)
    (a27 : PySem.W.nsIn K mainGlobals "_law_fraction" = some (some (.ref f27)))
    (l27 : K.lookup f27 = some ⟨oc27, od27, .func (PySem.W.fnOf "_law_fraction" "_law_fraction" (defArgs s_law_fraction) (defBody s_law_fraction) (defScope s_law_fraction) .none kV27 dc27 pm27 an27 cd27 ct27), sl27⟩)
    (c27 : PySem.W.codeIn K cd27 "_law_fraction" = true)
    (k27 : PySem.W.keepIn K (.ref f27) = true)
    (a28 : PySem.W.nsIn K mainGlobals "_law_names" = some (some (.ref f28)))
    (l28 : K.lookup f28 = some ⟨oc28, od28, .func (PySem.W.fnOf "_law_names" "_law_names" (defArgs s_law_names) (defBody s_law_names) (defScope s_law_names) .none kV28 dc28 pm28 an28 cd28 ct28), sl28⟩)
    (c28 : PySem.W.codeIn K cd28 "_law_names" = true)
    (k28 : PySem.W.keepIn K (.ref f28) = true)
    (a29 : PySem.W.nsIn K mainGlobals "_law_table" = some (some (.ref f29)))
    (l29 : K.lookup f29 = some ⟨oc29, od29, .func (PySem.W.fnOf "_law_table" "_law_table" (defArgs s_law_table) (defBody s_law_table) (defScope s_law_table) .none kV29 dc29 pm29 an29 cd29 ct29), sl29⟩)
    (c29 : PySem.W.codeIn K cd29 "_law_table" = true)
    (k29 : PySem.W.keepIn K (.ref f29) = true)
    (a30 : PySem.W.nsIn K mainGlobals "_law_cut" = some (some (.ref f30)))
    (l30 : K.lookup f30 = some ⟨oc30, od30, .func (PySem.W.fnOf "_law_cut" "_law_cut" (defArgs s_law_cut) (defBody s_law_cut) (defScope s_law_cut) .none kV30 dc30 pm30 an30 cd30 ct30), sl30⟩)
    (c30 : PySem.W.codeIn K cd30 "_law_cut" = true)
    (k30 : PySem.W.keepIn K (.ref f30) = true)
    (a31 : PySem.W.nsIn K mainGlobals "_law_refused" = some (some (.ref f31)))
    (l31 : K.lookup f31 = some ⟨oc31, od31, .func (PySem.W.fnOf "_law_refused" "_law_refused" (defArgs s_law_refused) (defBody s_law_refused) (defScope s_law_refused) .none kV31 dc31 pm31 an31 cd31 ct31), sl31⟩)
    (c31 : PySem.W.codeIn K cd31 "_law_refused" = true)
    (k31 : PySem.W.keepIn K (.ref f31) = true)
    (a32 : PySem.W.nsIn K mainGlobals "law" = some (some (.ref f32)))
    (l32 : K.lookup f32 = some ⟨oc32, od32, .func (PySem.W.fnOf "law" "law" (defArgs s_law) (defBody s_law) (defScope s_law) .none kV32 dc32 pm32 an32 cd32 ct32), sl32⟩)
    (c32 : PySem.W.codeIn K cd32 "law" = true)
    (k32 : PySem.W.keepIn K (.ref f32) = true)
    (a500 : PySem.W.findIn K (.ref o_Prices) "__init__" = some (some (.ref f500)))
    (l500 : K.lookup f500 = some ⟨oc500, od500, .func (PySem.W.fnOf "__init__" "Prices.__init__" (defArgs s_Prices_init) (defBody s_Prices_init) (defScope s_Prices_init) .none kV500 dc500 pm500 an500 cd500 ct500), sl500⟩)
    (c500 : PySem.W.codeIn K cd500 "Prices.__init__" = true)
    (k500 : PySem.W.keepIn K (.ref f500) = true)
    (i500 : PySem.W.isFn K (.ref f500) = true)
    (pg_Prices : PySem.W.plainGet K o_Prices Str.empty = true)
    (hd_Prices : PySem.W.hasDictIn K o_Prices = true)
    (po_Prices : PySem.W.plainOver K o_Prices = true)
    (sa_Prices : PySem.W.findIn K (.ref o_Prices) "__setattr__" = some (some (.builtin "object.__setattr__")))
    (mk_Prices : PySem.W.makesIn K o_Prices = true)
    (kc_Prices : PySem.W.keepIn K (.ref o_Prices) = true)
    (n_Prices_kept_table : PySem.W.findIn K (.ref o_Prices) "kept_table" = some none)
    (n_Prices_rows : PySem.W.findIn K (.ref o_Prices) "rows" = some none)
    (n_Prices_width : PySem.W.findIn K (.ref o_Prices) "width" = some none)
    (z_ValueError : PySem.W.nsIn K mainGlobals "ValueError" = some none)
    (z_abs : PySem.W.nsIn K mainGlobals "abs" = some none)
    (z_all : PySem.W.nsIn K mainGlobals "all" = some none)
    (z_bool : PySem.W.nsIn K mainGlobals "bool" = some none)
    (z_dict : PySem.W.nsIn K mainGlobals "dict" = some none)
    (z_int : PySem.W.nsIn K mainGlobals "int" = some none)
    (z_isinstance : PySem.W.nsIn K mainGlobals "isinstance" = some none)
    (z_len : PySem.W.nsIn K mainGlobals "len" = some none)
    (z_list : PySem.W.nsIn K mainGlobals "list" = some none)
    (z_range : PySem.W.nsIn K mainGlobals "range" = some none)
    (z_sorted : PySem.W.nsIn K mainGlobals "sorted" = some none)
    (z_str : PySem.W.nsIn K mainGlobals "str" = some none)
    (z_sum : PySem.W.nsIn K mainGlobals "sum" = some none)
    (z_tuple : PySem.W.nsIn K mainGlobals "tuple" = some none)
    (ga_NOUGHT : PySem.W.nsIn K mainGlobals "NOUGHT" = some (some (.ref g_NOUGHT)))
    (gl_NOUGHT : K.lookup g_NOUGHT = some ⟨.type "tuple", god_NOUGHT, .seq #[.int 0 gt0_NOUGHT, .int 1 gt1_NOUGHT] gn_NOUGHT, gsl_NOUGHT⟩)
    (g_MOST_ROWS : PySem.W.nsIn K mainGlobals "MOST_ROWS" = some (some (.int 4 t_MOST_ROWS)))
    (g_MOST_WIDTH : PySem.W.nsIn K mainGlobals "MOST_WIDTH" = some (some (.int 3 t_MOST_WIDTH)))
    (g_SMALL : PySem.W.nsIn K mainGlobals "SMALL" = some (some (.str "abcdefghijklmnopqrstuvwxyz" t_SMALL)))
    (xa_StretchError : PySem.W.nsIn K mainGlobals "StretchError" = some (some (.ref C_StretchError)))
    (xx_StretchError : PySem.W.excIn K C_StretchError [.type "ValueError", .type "Exception", .type "BaseException", .type "object"] "ValueError.__new__" = true)
    (xk_StretchError : PySem.W.keepIn K (.ref C_StretchError) = true)
    (xs_StretchError : PySem.W.subIn K (.ref C_StretchError) (.type "BaseException") = some true)
    (xt_StretchError : PySem.W.typeIn K (.ref C_StretchError) = some (.type "type"))
    (xa_NoCode : PySem.W.nsIn K mainGlobals "NoCode" = some (some (.ref C_NoCode)))
    (xx_NoCode : PySem.W.excIn K C_NoCode [.type "ValueError", .type "Exception", .type "BaseException", .type "object"] "ValueError.__new__" = true)
    (xk_NoCode : PySem.W.keepIn K (.ref C_NoCode) = true)
    (xs_NoCode : PySem.W.subIn K (.ref C_NoCode) (.type "BaseException") = some true)
    (xt_NoCode : PySem.W.typeIn K (.ref C_NoCode) = some (.type "type"))
    (yhg_NoCode : PySem.W.findIn K (.ref C_NoCode) "__getattribute__" = some (some (.builtin "BaseException.__getattribute__")))
    (yhk_NoCode : PySem.W.findIn K (.ref C_NoCode) "__getattr__" = some none)
    (yhd_NoCode : PySem.W.hasDictIn K C_NoCode = true)
    (yha_NoCode : PySem.W.findIn K (.ref C_NoCode) "__class__" = some (some (.builtin "object.__class__")))
    (yhm_NoCode : PySem.W.mroIn K C_NoCode (.type "object") = some true)
    (ki_NoCode_StretchError : PySem.W.kitOne K (.ref C_NoCode) (.ref C_StretchError) = some true)
    (ki_NoCode_ValueError : PySem.W.kitOne K (.ref C_NoCode) (.type "ValueError") = some true)
    (yhn : PySem.W.specialIn K (.builtin "object.__class__") "__get__" = some (some (.builtin "getset_descriptor.__get__")))
    (yht : PySem.W.takesIn K (.builtin "object.__class__") = some true)
    (xi_NoCode : PySem.W.isClsIn K C_NoCode = true)
    (xi_StretchError : PySem.W.isClsIn K C_StretchError = true)
    (xe_NoCode_NoCode : PySem.W.subIn K (.ref C_NoCode) (.ref C_NoCode) = some true)
    (xe_NoCode_StretchError : PySem.W.subIn K (.ref C_NoCode) (.ref C_StretchError) = some true)
    : ∃ fd : FuncData, (∀ (s : Shared) (v : Value), BindsTo s fd ⟨[v], []⟩ [("_law_script", v)]) ∧ ∀ base : Heap, K.In base → base.Ns mainGlobals mg → FnOk l.prog w K mg base (L2.CX l.prog w) 8 fa fd ["_law_script"] (spL K) := by
  have e := hfa.symm.trans (PySem.W.mg_of X G a32)
  cases e
  let T : Txt K mg := {
    f_common_divisor := ⟨_, _, fun_mk (st := s_common_divisor) l0 c0 k0, PySem.W.mg_of X G a0, (fun_mk (st := s_common_divisor) l0 c0 k0).binds (ps := ["one", "other"]) fun _ _ _ _ _ _ us hl => match us, hl with | [_, _], _ => rfl⟩
    f_made := ⟨_, _, fun_mk (st := s_made) l1 c1 k1, PySem.W.mg_of X G a1, (fun_mk (st := s_made) l1 c1 k1).binds (ps := ["top", "bottom"]) fun _ _ _ _ _ _ us hl => match us, hl with | [_, _], _ => rfl⟩
    f_plus := ⟨_, _, fun_mk (st := s_plus) l2 c2 k2, PySem.W.mg_of X G a2, (fun_mk (st := s_plus) l2 c2 k2).binds (ps := ["one", "other"]) fun _ _ _ _ _ _ us hl => match us, hl with | [_, _], _ => rfl⟩
    f_sum_of := ⟨_, _, fun_mk (st := s_sum_of) l3 c3 k3, PySem.W.mg_of X G a3, (fun_mk (st := s_sum_of) l3 c3 k3).binds (ps := ["fractions"]) fun _ _ _ _ _ _ us hl => match us, hl with | [_], _ => rfl⟩
    f_is_integer := ⟨_, _, fun_mk (st := s_is_integer) l4 c4 k4, PySem.W.mg_of X G a4, (fun_mk (st := s_is_integer) l4 c4 k4).binds (ps := ["thing"]) fun _ _ _ _ _ _ us hl => match us, hl with | [_], _ => rfl⟩
    f_is_within := ⟨_, _, fun_mk (st := s_is_within) l5 c5 k5, PySem.W.mg_of X G a5, (fun_mk (st := s_is_within) l5 c5 k5).binds (ps := ["thing", "least", "most"]) fun _ _ _ _ _ _ us hl => match us, hl with | [_, _, _], _ => rfl⟩
    f_is_pair := ⟨_, _, fun_mk (st := s_is_pair) l6 c6 k6, PySem.W.mg_of X G a6, (fun_mk (st := s_is_pair) l6 c6 k6).binds (ps := ["thing"]) fun _ _ _ _ _ _ us hl => match us, hl with | [_], _ => rfl⟩
    f_is_string_of := ⟨_, _, fun_mk (st := s_is_string_of) l7 c7 k7, PySem.W.mg_of X G a7, (fun_mk (st := s_is_string_of) l7 c7 k7).binds (ps := ["thing", "signs"]) fun _ _ _ _ _ _ us hl => match us, hl with | [_, _], _ => rfl⟩
    f_is_word := ⟨_, _, fun_mk (st := s_is_word) l8 c8 k8, PySem.W.mg_of X G a8, (fun_mk (st := s_is_word) l8 c8 k8).binds (ps := ["thing"]) fun _ _ _ _ _ _ us hl => match us, hl with | [_], _ => rfl⟩
    f_is_ascending := ⟨_, _, fun_mk (st := s_is_ascending) l9 c9 k9, PySem.W.mg_of X G a9, (fun_mk (st := s_is_ascending) l9 c9 k9).binds (ps := ["word"]) fun _ _ _ _ _ _ us hl => match us, hl with | [_], _ => rfl⟩
    f_is_rows := ⟨_, _, fun_mk (st := s_is_rows) l10 c10 k10, PySem.W.mg_of X G a10, (fun_mk (st := s_is_rows) l10 c10 k10).binds (ps := ["thing"]) fun _ _ _ _ _ _ us hl => match us, hl with | [_], _ => rfl⟩
    f_is_code := ⟨_, _, fun_mk (st := s_is_code) l11 c11 k11, PySem.W.mg_of X G a11, (fun_mk (st := s_is_code) l11 c11 k11).binds (ps := ["rows", "thing"]) fun _ _ _ _ _ _ us hl => match us, hl with | [_, _], _ => rfl⟩
    f_is_width := ⟨_, _, fun_mk (st := s_is_width) l12 c12 k12, PySem.W.mg_of X G a12, (fun_mk (st := s_is_width) l12 c12 k12).binds (ps := ["thing"]) fun _ _ _ _ _ _ us hl => match us, hl with | [_], _ => rfl⟩
    f_is_fraction := ⟨_, _, fun_mk (st := s_is_fraction) l13 c13 k13, PySem.W.mg_of X G a13, (fun_mk (st := s_is_fraction) l13 c13 k13).binds (ps := ["thing"]) fun _ _ _ _ _ _ us hl => match us, hl with | [_], _ => rfl⟩
    f_stretches_of := ⟨_, _, fun_mk (st := s_stretches_of) l14 c14 k14, PySem.W.mg_of X G a14, (fun_mk (st := s_stretches_of) l14 c14 k14).binds (ps := ["code", "width"]) fun _ _ _ _ _ _ us hl => match us, hl with | [_, _], _ => rfl⟩
    f_codes_of_length := ⟨_, _, fun_mk (st := s_codes_of_length) l15 c15 k15, PySem.W.mg_of X G a15, (fun_mk (st := s_codes_of_length) l15 c15 k15).binds (ps := ["rows", "length"]) fun _ _ _ _ _ _ us hl => match us, hl with | [_, _], _ => rfl⟩
    f_stretch_names := ⟨_, _, fun_mk (st := s_stretch_names) l16 c16 k16, PySem.W.mg_of X G a16, (fun_mk (st := s_stretch_names) l16 c16 k16).binds (ps := ["rows", "width"]) fun _ _ _ _ _ _ us hl => match us, hl with | [_, _], _ => rfl⟩
    f_is_table := ⟨_, _, fun_mk (st := s_is_table) l17 c17 k17, PySem.W.mg_of X G a17, (fun_mk (st := s_is_table) l17 c17 k17).binds (ps := ["thing", "names"]) fun _ _ _ _ _ _ us hl => match us, hl with | [_, _], _ => rfl⟩
    f_price_of := ⟨_, _, fun_mk (st := s_price_of) l18 c18 k18, PySem.W.mg_of X G a18, (fun_mk (st := s_price_of) l18 c18 k18).binds (ps := ["prices", "code"]) fun _ _ _ _ _ _ us hl => match us, hl with | [_, _], _ => rfl⟩
    f_price := ⟨_, _, fun_mk (st := s_price) l19 c19 k19, PySem.W.mg_of X G a19, (fun_mk (st := s_price) l19 c19 k19).binds (ps := ["prices", "code"]) fun _ _ _ _ _ _ us hl => match us, hl with | [_, _], _ => rfl⟩
    f_law_hand := ⟨_, _, fun_mk (st := s_law_hand) l20 c20 k20, PySem.W.mg_of X G a20, (fun_mk (st := s_law_hand) l20 c20 k20).binds (ps := ["_law_script"]) fun _ _ _ _ _ _ us hl => match us, hl with | [_], _ => rfl⟩
    f_law_draw := ⟨_, _, fun_mk (st := s_law_draw) l21 c21 k21, PySem.W.mg_of X G a21, (fun_mk (st := s_law_draw) l21 c21 k21).binds (ps := ["_law_hand_here", "_law_many"]) fun _ _ _ _ _ _ us hl => match us, hl with | [_, _], _ => rfl⟩
    f_law_rows := ⟨_, _, fun_mk (st := s_law_rows) l22 c22 k22, PySem.W.mg_of X G a22, (fun_mk (st := s_law_rows) l22 c22 k22).binds (ps := ["_law_hand_here", "_law_most"]) fun _ _ _ _ _ _ us hl => match us, hl with | [_, _], _ => rfl⟩
    f_law_odd := ⟨_, _, fun_mk (st := s_law_odd) l23 c23 k23, PySem.W.mg_of X G a23, (fun_mk (st := s_law_odd) l23 c23 k23).binds (ps := ["_law_hand_here"]) fun _ _ _ _ _ _ us hl => match us, hl with | [_], _ => rfl⟩
    f_law_made := ⟨_, _, fun_mk (st := s_law_made) l24 c24 k24, PySem.W.mg_of X G a24, (fun_mk (st := s_law_made) l24 c24 k24).binds (ps := ["_law_top", "_law_bottom"]) fun _ _ _ _ _ _ us hl => match us, hl with | [_, _], _ => rfl⟩
    f_law_sum := ⟨_, _, fun_mk (st := s_law_sum) l25 c25 k25, PySem.W.mg_of X G a25, (fun_mk (st := s_law_sum) l25 c25 k25).binds (ps := ["_law_fractions"]) fun _ _ _ _ _ _ us hl => match us, hl with | [_], _ => rfl⟩
    f_law_common := ⟨_, _, fun_mk (st := s_law_common) l26 c26 k26, PySem.W.mg_of X G a26, (fun_mk (st := s_law_common) l26 c26 k26).binds (ps := ["_law_one", "_law_other"]) fun _ _ _ _ _ _ us hl => match us, hl with | [_, _], _ => rfl⟩
    f_law_fraction := ⟨_, _, fun_mk (st := s_law_fraction) l27 c27 k27, PySem.W.mg_of X G a27, (fun_mk (st := s_law_fraction) l27 c27 k27).binds (ps := ["_law_hand_here"]) fun _ _ _ _ _ _ us hl => match us, hl with | [_], _ => rfl⟩
    f_law_names := ⟨_, _, fun_mk (st := s_law_names) l28 c28 k28, PySem.W.mg_of X G a28, (fun_mk (st := s_law_names) l28 c28 k28).binds (ps := ["_law_rows_here", "_law_width"]) fun _ _ _ _ _ _ us hl => match us, hl with | [_, _], _ => rfl⟩
    f_law_table := ⟨_, _, fun_mk (st := s_law_table) l29 c29 k29, PySem.W.mg_of X G a29, (fun_mk (st := s_law_table) l29 c29 k29).binds (ps := ["_law_hand_here", "_law_rows_here", "_law_width"]) fun _ _ _ _ _ _ us hl => match us, hl with | [_, _, _], _ => rfl⟩
    f_law_cut := ⟨_, _, fun_mk (st := s_law_cut) l30 c30 k30, PySem.W.mg_of X G a30, (fun_mk (st := s_law_cut) l30 c30 k30).binds (ps := ["_law_code", "_law_width"]) fun _ _ _ _ _ _ us hl => match us, hl with | [_, _], _ => rfl⟩
    f_law_refused := ⟨_, _, fun_mk (st := s_law_refused) l31 c31 k31, PySem.W.mg_of X G a31, (fun_mk (st := s_law_refused) l31 c31 k31).binds (ps := ["_law_prices", "_law_thing"]) fun _ _ _ _ _ _ us hl => match us, hl with | [_, _], _ => rfl⟩
    f_law := ⟨_, _, fun_mk (st := s_law) l32 c32 k32, PySem.W.mg_of X G a32, (fun_mk (st := s_law) l32 c32 k32).binds (ps := ["_law_script"]) fun _ _ _ _ _ _ us hl => match us, hl with | [_], _ => rfl⟩
    f_Prices_init := ⟨_, _, fun_mk (st := s_Prices_init) l500 c500 k500, (fun_mk (st := s_Prices_init) l500 c500 k500).binds (ps := ["self", "rows", "width", "table"]) fun _ _ _ _ _ _ us hl => match us, hl with | [_, _, _, _], _ => rfl⟩
    m_Prices := ⟨mk_Prices, a500, i500, kc_Prices⟩
    o_Prices := o_Prices
    k_Prices := PySem.W.mg_of X G oa_Prices
    cl_Prices := ⟨pg_Prices, hd_Prices, po_Prices, sa_Prices⟩
    n_Prices_kept_table := n_Prices_kept_table
    n_Prices_rows := n_Prices_rows
    n_Prices_width := n_Prices_width
    b_ValueError := PySem.W.mg_none_of X G z_ValueError
    b_abs := PySem.W.mg_none_of X G z_abs
    b_all := PySem.W.mg_none_of X G z_all
    b_bool := PySem.W.mg_none_of X G z_bool
    b_dict := PySem.W.mg_none_of X G z_dict
    b_int := PySem.W.mg_none_of X G z_int
    b_isinstance := PySem.W.mg_none_of X G z_isinstance
    b_len := PySem.W.mg_none_of X G z_len
    b_list := PySem.W.mg_none_of X G z_list
    b_range := PySem.W.mg_none_of X G z_range
    b_sorted := PySem.W.mg_none_of X G z_sorted
    b_str := PySem.W.mg_none_of X G z_str
    b_sum := PySem.W.mg_none_of X G z_sum
    b_tuple := PySem.W.mg_none_of X G z_tuple
    g_NOUGHT := g_NOUGHT
    c_NOUGHT := PySem.W.mg_of X G ga_NOUGHT
    q_NOUGHT := fun H => .inr ⟨_, _, _, gl_NOUGHT, rfl, rfl, by show 2 ≤ sizeLine; decide, .cons ⟨_, rfl⟩ (.cons ⟨_, rfl⟩ (.nil))⟩
    t_MOST_ROWS := t_MOST_ROWS
    c_MOST_ROWS := PySem.W.mg_of X G g_MOST_ROWS
    t_MOST_WIDTH := t_MOST_WIDTH
    c_MOST_WIDTH := PySem.W.mg_of X G g_MOST_WIDTH
    t_SMALL := t_SMALL
    c_SMALL := PySem.W.mg_of X G g_SMALL
    x_StretchError := ⟨C_StretchError, PySem.W.mg_of X G xa_StretchError, xx_StretchError, xk_StretchError, xs_StretchError, xt_StretchError⟩
    x_NoCode := ⟨C_NoCode, PySem.W.mg_of X G xa_NoCode, xx_NoCode, xk_NoCode, xs_NoCode, xt_NoCode⟩
    ki_NoCode_StretchError := ki_NoCode_StretchError
    ki_NoCode_ValueError := ki_NoCode_ValueError
    ec_NoCode := ⟨yhg_NoCode, yhk_NoCode, xs_NoCode, yhd_NoCode, yha_NoCode, yhn, yht, yhm_NoCode⟩
    e_NoCode_NoCode := exm_of xs_NoCode xi_NoCode xt_NoCode xe_NoCode_NoCode
    e_NoCode_StretchError := exm_of xs_StretchError xi_StretchError xt_StretchError xe_NoCode_StretchError
  }
  exact ⟨T.f_law.fd, fun s v => .of_eq rfl, fun base _ _ => (ok_law T).imp fun vs H Q E h => spL_of law_pure h⟩
theorem walk {l : PySem.W.OpenLaw} {q : Program} {loose : List Str} {XP : (Str → Option Value) → Heap → Prop} {YP : World → Heap → Prop} {d : DefRec} {K : Params → PySem.W.Frag} (hn : l.most = some 63) (hdf : d.params.defaults = [])
    (hY : ∀ (w : World) (h : Heap), YP w h → (K w.params).In h)
    (F : ∀ (w : World) (mg : Str → Option Value) (fa : Addr) (h : Heap), (K w.params).In h → h.Ns mainGlobals mg → mg d.name = some (.ref fa) →
      ∃ fd : FuncData, (∀ (s : Shared) (u : Value), BindsTo s fd ⟨[u], []⟩ [("_law_script", u)]) ∧ ∀ base : Heap, (K w.params).In base → base.Ns mainGlobals mg → FnOk l.prog w (K w.params) mg base (L2.CX l.prog w) 8 fa fd ["_law_script"] (spL (K w.params))) :
    PySem.W.WalkO q loose XP YP l.row.toRowW d [] (fun f vs => PySem.call f vs) :=
  L2.walk_of (n := 63) (k := 8) (x := "_law_script") (CX := fun w => L2.CX l.prog w) (sp := fun w => spL (K w.params)) hn (by decide) hdf ⟨rfl, by decide, by decide⟩ hY F (fun _ H a ns hl hO hS => ⟨a, ns, rfl, hl, hO, hS, fun _ => rfl⟩) fun _ _ _ _ _ z => law_cx z
end Lw
open PySem PySem.W PyProof.Rows
set_option maxRecDepth 100000 in
set_option maxHeartbeats 0 in
theorem PySem.Challenge.cw_stretchprices_k14_whole_prices_of_codes_holds : PySem.Challenge.rw_stretchprices_k14_whole_prices_of_codes.Holds := by
  w_on; o_law; k_head; (case hw => w_witness2)
  k_fill
  refine Lw.walk (l := PySem.Challenge.rw_stretchprices_k14_whole_prices_of_codes) rfl rfl (fun w h Y => PySem.W.kIn_of Y) ?F
  case F =>
    intro w mg fa h KX G hmg
    refine' Lw.all_mk KX G hmg ?oa_Prices ?a0 ?l0 ?c0 ?k0 ?a1 ?l1 ?c1 ?k1 ?a2 ?l2 ?c2 ?k2 ?a3 ?l3 ?c3 ?k3 ?a4 ?l4 ?c4 ?k4 ?a5 ?l5 ?c5 ?k5 ?a6 ?l6 ?c6 ?k6 ?a7 ?l7 ?c7 ?k7 ?a8 ?l8 ?c8 ?k8 ?a9 ?l9 ?c9 ?k9 ?a10 ?l10 ?c10 ?k10 ?a11 ?l11 ?c11 ?k11 ?a12 ?l12 ?c12 ?k12 ?a13 ?l13 ?c13 ?k13 ?a14 ?l14 ?c14 ?k14 ?a15 ?l15 ?c15 ?k15 ?a16 ?l16 ?c16 ?k16 ?a17 ?l17 ?c17 ?k17 ?a18 ?l18 ?c18 ?k18 ?a19 ?l19 ?c19 ?k19 ?a20 ?l20 ?c20 ?k20 ?a21 ?l21 ?c21 ?k21 ?a22 ?l22 ?c22 ?k22 ?a23 ?l23 ?c23 ?k23 ?a24 ?l24 ?c24 ?k24 ?a25 ?l25 ?c25 ?k25 ?a26 ?l26 ?c26 ?k26 ?a27 ?l27 ?c27 ?k27 ?a28 ?l28 ?c28 ?k28 ?a29 ?l29 ?c29 ?k29 ?a30 ?l30 ?c30 ?k30 ?a31 ?l31 ?c31 ?k31 ?a32 ?l32 ?c32 ?k32 ?a500 ?l500 ?c500 ?k500 ?i500 ?pg_Prices ?hd_Prices ?po_Prices ?sa_Prices ?mk_Prices ?kc_Prices ?n_Prices_kept_table ?n_Prices_rows ?n_Prices_width ?z_ValueError ?z_abs ?z_all ?z_bool ?z_dict ?z_int ?z_isinstance ?z_len ?z_list ?z_range ?z_sorted ?z_str ?z_sum ?z_tuple ?ga_NOUGHT ?gl_NOUGHT ?g_MOST_ROWS ?g_MOST_WIDTH ?g_SMALL ?xa_StretchError ?xx_StretchError ?xk_StretchError ?xs_StretchError ?xt_StretchError ?xa_NoCode ?xx_NoCode ?xk_NoCode ?xs_NoCode ?xt_NoCode ?yhg_NoCode ?yhk_NoCode ?yhd_NoCode ?yha_NoCode ?yhm_NoCode ?ki_NoCode_StretchError ?ki_NoCode_ValueError ?yhn ?yht ?xi_NoCode ?xi_StretchError ?xe_NoCode_NoCode ?xe_NoCode_StretchError
    (case oa_Prices => first | k_is | rfl)
    (case a0 => first | k_is | rfl)
    (case l0 => first | k_is | rfl)
    (case c0 => first | k_is | rfl)
    (case k0 => first | k_is | rfl)
    (case a1 => first | k_is | rfl)
    (case l1 => first | k_is | rfl)
    (case c1 => first | k_is | rfl)
    (case k1 => first | k_is | rfl)
    (case a2 => first | k_is | rfl)
    (case l2 => first | k_is | rfl)
    (case c2 => first | k_is | rfl)
    (case k2 => first | k_is | rfl)
    (case a3 => first | k_is | rfl)
    (case l3 => first | k_is | rfl)
    (case c3 => first | k_is | rfl)
    (case k3 => first | k_is | rfl)
    (case a4 => first | k_is | rfl)
    (case l4 => first | k_is | rfl)
    (case c4 => first | k_is | rfl)
    (case k4 => first | k_is | rfl)
    (case a5 => first | k_is | rfl)
    (case l5 => first | k_is | rfl)
    (case c5 => first | k_is | rfl)
    (case k5 => first | k_is | rfl)
    (case a6 => first | k_is | rfl)
    (case l6 => first | k_is | rfl)
    (case c6 => first | k_is | rfl)
    (case k6 => first | k_is | rfl)
    (case a7 => first | k_is | rfl)
    (case l7 => first | k_is | rfl)
    (case c7 => first | k_is | rfl)
    (case k7 => first | k_is | rfl)
    (case a8 => first | k_is | rfl)
    (case l8 => first | k_is | rfl)
    (case c8 => first | k_is | rfl)
    (case k8 => first | k_is | rfl)
    (case a9 => first | k_is | rfl)
    (case l9 => first | k_is | rfl)
    (case c9 => first | k_is | rfl)
    (case k9 => first | k_is | rfl)
    (case a10 => first | k_is | rfl)
    (case l10 => first | k_is | rfl)
    (case c10 => first | k_is | rfl)
    (case k10 => first | k_is | rfl)
    (case a11 => first | k_is | rfl)
    (case l11 => first | k_is | rfl)
    (case c11 => first | k_is | rfl)
    (case k11 => first | k_is | rfl)
    (case a12 => first | k_is | rfl)
    (case l12 => first | k_is | rfl)
    (case c12 => first | k_is | rfl)
    (case k12 => first | k_is | rfl)
    (case a13 => first | k_is | rfl)
    (case l13 => first | k_is | rfl)
    (case c13 => first | k_is | rfl)
    (case k13 => first | k_is | rfl)
    (case a14 => first | k_is | rfl)
    (case l14 => first | k_is | rfl)
    (case c14 => first | k_is | rfl)
    (case k14 => first | k_is | rfl)
    (case a15 => first | k_is | rfl)
    (case l15 => first | k_is | rfl)
    (case c15 => first | k_is | rfl)
    (case k15 => first | k_is | rfl)
    (case a16 => first | k_is | rfl)
    (case l16 => first | k_is | rfl)
    (case c16 => first | k_is | rfl)
    (case k16 => first | k_is | rfl)
    (case a17 => first | k_is | rfl)
    (case l17 => first | k_is | rfl)
    (case c17 => first | k_is | rfl)
    (case k17 => first | k_is | rfl)
    (case a18 => first | k_is | rfl)
    (case l18 => first | k_is | rfl)
    (case c18 => first | k_is | rfl)
    (case k18 => first | k_is | rfl)
    (case a19 => first | k_is | rfl)
    (case l19 => first | k_is | rfl)
    (case c19 => first | k_is | rfl)
    (case k19 => first | k_is | rfl)
    (case a20 => first | k_is | rfl)
    (case l20 => first | k_is | rfl)
    (case c20 => first | k_is | rfl)
    (case k20 => first | k_is | rfl)
    (case a21 => first | k_is | rfl)
    (case l21 => first | k_is | rfl)
    (case c21 => first | k_is | rfl)
    (case k21 => first | k_is | rfl)
    (case a22 => first | k_is | rfl)
    (case l22 => first | k_is | rfl)
    (case c22 => first | k_is | rfl)
    (case k22 => first | k_is | rfl)
    (case a23 => first | k_is | rfl)
    (case l23 => first | k_is | rfl)
    (case c23 => first | k_is | rfl)
    (case k23 => first | k_is | rfl)
    (case a24 => first | k_is | rfl)
    (case l24 => first | k_is | rfl)
    (case c24 => first | k_is | rfl)
    (case k24 => first | k_is | rfl)
    (case a25 => first | k_is | rfl)
    (case l25 => first | k_is | rfl)
    (case c25 => first | k_is | rfl)
    (case k25 => first | k_is | rfl)
    (case a26 => first | k_is | rfl)
    (case l26 => first | k_is | rfl)
    (case c26 => first | k_is | rfl)
    (case k26 => first | k_is | rfl)
    (case a27 => first | k_is | rfl)
    (case l27 => first | k_is | rfl)
    (case c27 => first | k_is | rfl)
    (case k27 => first | k_is | rfl)
    (case a28 => first | k_is | rfl)
    (case l28 => first | k_is | rfl)
    (case c28 => first | k_is | rfl)
    (case k28 => first | k_is | rfl)
    (case a29 => first | k_is | rfl)
    (case l29 => first | k_is | rfl)
    (case c29 => first | k_is | rfl)
    (case k29 => first | k_is | rfl)
    (case a30 => first | k_is | rfl)
    (case l30 => first | k_is | rfl)
    (case c30 => first | k_is | rfl)
    (case k30 => first | k_is | rfl)
    (case a31 => first | k_is | rfl)
    (case l31 => first | k_is | rfl)
    (case c31 => first | k_is | rfl)
    (case k31 => first | k_is | rfl)
    (case a32 => first | k_is | rfl)
    (case l32 => first | k_is | rfl)
    (case c32 => first | k_is | rfl)
    (case k32 => first | k_is | rfl)
    (case a500 => first | k_is | rfl)
    (case l500 => first | k_is | rfl)
    (case c500 => first | k_is | rfl)
    (case k500 => first | k_is | rfl)
    (case i500 => first | k_is | rfl)
    (case pg_Prices => first | k_is | rfl)
    (case hd_Prices => first | k_is | rfl)
    (case po_Prices => first | k_is | rfl)
    (case sa_Prices => first | k_is | rfl)
    (case mk_Prices => first | k_is | rfl)
    (case kc_Prices => first | k_is | rfl)
    (case n_Prices_kept_table => first | k_is | rfl)
    (case n_Prices_rows => first | k_is | rfl)
    (case n_Prices_width => first | k_is | rfl)
    (case z_ValueError => first | k_is | rfl)
    (case z_abs => first | k_is | rfl)
    (case z_all => first | k_is | rfl)
    (case z_bool => first | k_is | rfl)
    (case z_dict => first | k_is | rfl)
    (case z_int => first | k_is | rfl)
    (case z_isinstance => first | k_is | rfl)
    (case z_len => first | k_is | rfl)
    (case z_list => first | k_is | rfl)
    (case z_range => first | k_is | rfl)
    (case z_sorted => first | k_is | rfl)
    (case z_str => first | k_is | rfl)
    (case z_sum => first | k_is | rfl)
    (case z_tuple => first | k_is | rfl)
    (case ga_NOUGHT => first | k_is | rfl)
    (case gl_NOUGHT => first | k_is | rfl)
    (case g_MOST_ROWS => first | k_is | rfl)
    (case g_MOST_WIDTH => first | k_is | rfl)
    (case g_SMALL => first | k_is | rfl)
    (case xa_StretchError => first | k_is | rfl)
    (case xx_StretchError => k_exc)
    (case xk_StretchError => first | k_is | rfl)
    (case xs_StretchError => first | k_is | rfl)
    (case xt_StretchError => first | k_is | rfl)
    (case xa_NoCode => first | k_is | rfl)
    (case xx_NoCode => k_exc)
    (case xk_NoCode => first | k_is | rfl)
    (case xs_NoCode => first | k_is | rfl)
    (case xt_NoCode => first | k_is | rfl)
    (case yhg_NoCode => first | k_is | rfl)
    (case yhk_NoCode => first | k_is | rfl)
    (case yhd_NoCode => first | k_is | rfl)
    (case yha_NoCode => first | k_is | rfl)
    (case yhm_NoCode => first | k_is | rfl)
    (case ki_NoCode_StretchError => first | k_is | rfl)
    (case ki_NoCode_ValueError => first | k_is | rfl)
    (case yhn => first | k_is | rfl)
    (case yht => first | k_is | rfl)
    (case xi_NoCode => first | k_is | rfl)
    (case xi_StretchError => first | k_is | rfl)
    (case xe_NoCode_NoCode => first | k_is | rfl)
    (case xe_NoCode_StretchError => first | k_is | rfl)
#print axioms PySem.Challenge.cw_stretchprices_k14_whole_prices_of_codes_holds
