import PyProof.Rows.All
import Wide.All
import OpenK.AllK
import Wide.FinOn
import HandS.ForMost
import HandS.ForExc
import HandS.Wide
import HandS.TryMany
import HandS.IsInst
import HandS.TupAny
import HandS.Walk
import HandS.Conv
import HandS.Small
import HandS.CallSlots
import HandS.FStr
import HandS.Zip
import KE.GoesEnum
import KE.KStrOpen
import PyProof.Rows.SortShellAny
import KE.GoesZip
import HandS.Exc
import PySem.Challenge.RW_stretchprices_k02_whole_runs_by_own_step
set_option Elab.async false
set_option linter.all false
set_option maxRecDepth 100000
set_option maxHeartbeats 4000000


/-! ## G1: operators that look at their values, data, heaps that grow -/
namespace L2
open PySem PySem.Spec PyProof.Rows
section
variable {X : Cx}
theorem PSet.or {t t' : TSet} (h : PSet X t) (h' : PSet X t') : PSet X (fun o i v H Q => t o i v H Q ∨ t' o i v H Q) := by
  intro pins s σ H o i v ov iv u Q I r1 r2 r3 q
  rcases q with q | q
  · exact h pins s σ H o i v ov iv u Q I r1 r2 r3 q
  · exact h' pins s σ H o i v ov iv u Q I r1 r2 r3 q
theorem PIp.or {op : Operator} {t t' : TIp} (h : PIp X op t) (h' : PIp X op t') : PIp X op (fun x y H Q => t x y H Q ∨ t' x y H Q) := by
  intro pins s σ H x y v u Q I r1 r2 q
  rcases q with q | q
  · exact h pins s σ H x y v u Q I r1 r2 q
  · exact h' pins s σ H x y v u Q I r1 r2 q

/-! ### subscripts -/
def rIxD : R2 := fun x y H Q => ∃ a w, x = .ref a ∧ DGet H a y (some w) ∧ Q w H
theorem ix_dict (hu : X.A.units + 1 < cLine) : IxR X rIxD := by
  intro value slice pins s σ H x y v u Q I rx ry h hs
  obtain ⟨a, w, rfl, g, q⟩ := h
  cases rx
  exact tail_any (dict_typeIs I g) PySem.F.slot_dict_getitem.lookup (d_getItem hu I g ry fun w' s' I' rw' => ⟨w, H, I', rw', q⟩) hs
def rIxU (K : PySem.W.Frag) : R2 := fun x y H Q => rIx K x y H Q ∨ rIxD x y H Q
theorem ix_U {K : PySem.W.Frag} (hu : X.A.units + 1 < cLine) (hK : X.K = K := by rfl) : IxR X (rIxU K) := hK ▸ ix_seq.or (ix_dict hu)
def rSetU : TSet := fun o i v H Q => rSetL o i v H Q ∨ rSetD o i v H Q
theorem set_U (hu : X.A.units + 1 < cLine) : PSet X rSetU := set_list.or (set_dict hu)
def rSlU (K : PySem.W.Frag) : V → Option Int → Option Int → Hp → VK → Prop := fun x lo hi H Q => rSlL K x lo hi H Q ∨ (rSlA K x lo hi H Q ∨ rSlS x lo hi H Q)
theorem sl_U {K : PySem.W.Frag} (hK : X.K = K := by rfl) : SlR X (rSlU K) := hK ▸ sl_list.or (sl_tupA.or sl_str)

/-- a display, indexed: opened as one -/
def tOpP (r : R2) (ta tb : TE) : TE := tOp r ta tb
theorem pe_P {e : Expr} {r : R2} {ta tb : TE} (h : PE X e (tOp r ta tb)) : PE X e (tOpP r ta tb) := h
/-- the class C, or one above -/
theorem exm_of {K : PySem.W.Frag} {C D : Addr} {b : Bool} (h1 : PySem.W.subIn K (.ref D) (.type "BaseException") = some true) (h2 : PySem.W.isClsIn K D = true) (h3 : PySem.W.typeIn K (.ref D) = some (.type "type")) (h4 : PySem.W.subIn K (.ref C) (.ref D) = some b) :
    PySem.W.exmOne K (.ref C) (.ref D) = some b := by
  have e1 : (PySem.W.subIn K (.ref D) (.type "BaseException") == some true) = true := by rw [h1] <;> rfl
  have e2 : ((PySem.W.clsIn K D).isSome && PySem.W.typeIn K (.ref D) == some (.type "type")) = true := by
    have h2' : (PySem.W.clsIn K D).isSome = true := h2
    rw [h2', h3] <;> rfl
  show (if (PySem.W.subIn K (.ref D) (.type "BaseException") == some true) = true then (if ((PySem.W.clsIn K D).isSome && PySem.W.typeIn K (.ref D) == some (.type "type")) = true then PySem.W.subIn K (.ref C) (.ref D) else none) else none) = some b
  rw [if_pos e1, if_pos e2]
  exact h4
/-! ### operators -/
def rAddS : R2 := fun x y H Q => ∃ i j, x = .str i ∧ y = .str j ∧ i.length + j.length ≤ sizeLine ∧ Q (.str (i ++ j)) H
def rAddU (K : PySem.W.Frag) : R2 := fun x y H Q => rI0 (fun i j => .int (i + j)) x y H Q ∨ (rAddS x y H Q ∨ (rCat x y H Q ∨ rCatA K x y H Q))
theorem op_addU {K : PySem.W.Frag} (hK : X.K = K := by rfl) : OpR X (binaryOp .Add) (rAddU K) := hK ▸ op_add.or (OpR.or (r := rAddS) op_add_str (op_cat.or op_catA))
def rMulU : R2 := fun x y H Q => rI CMul (fun i j => .int (i * j)) x y H Q ∨ (rI CMulW (fun i j => .int (i * j)) x y H Q ∨ rRep x y H Q)
theorem op_mulU : OpR X (binaryOp .Mult) rMulU := op_mul.or (op_mulW.or op_rep)
def rModU : R2 := fun x y H Q => rI (fun _ j => 0 < j) (fun i j => .int (i % j)) x y H Q ∨ rI (fun _ j => j ≠ 0) (fun i j => .int (i.fmod j)) x y H Q
theorem op_modU : OpR X (binaryOp .Mod) rModU := op_mod.or op_modN
def rFdivU : R2 := fun x y H Q => rI CDiv (fun i j => .int (i / j)) x y H Q ∨ (rI CDivN (fun i j => .int (i.fdiv j)) x y H Q ∨ rI CDivW (fun i j => .int (i / j)) x y H Q)
theorem op_fdivU : OpR X (binaryOp .FloorDiv) rFdivU := op_fdiv.or (op_fdivN.or op_fdivW)
def rEqU (K : PySem.W.Frag) : R2 := fun x y H Q => rEq x y H Q ∨ rEqD K x y H Q
def rNeU (K : PySem.W.Frag) : R2 := fun x y H Q => rNe x y H Q ∨ rNeD K x y H Q
theorem op_eqU {K : PySem.W.Frag} (_ : X.A.units + 1 < cLine) (hu : X.A.units + 64 < cLine) (hK : X.K = K := by rfl) : OpR X (compareOp .Eq) (rEqU K) := hK ▸ op_eq.or (op_eqD hu)
theorem op_neU {K : PySem.W.Frag} (_ : X.A.units + 1 < cLine) (hu : X.A.units + 64 < cLine) (hK : X.K = K := by rfl) : OpR X (compareOp .NotEq) (rNeU K) := hK ▸ op_ne.or (op_neD hu)
def rCmpS (f : Str → Str → Bool) : R2 := fun x y H Q => ∃ i j, x = .str i ∧ y = .str j ∧ Q (.bl (f i j)) H
def rLtU : R2 := fun x y H Q => rI0 (fun i j => .bl (decide (i < j))) x y H Q ∨ rCmpS (fun i j => decide (i.cps.toList < j.cps.toList)) x y H Q
def rLeU : R2 := fun x y H Q => rI0 (fun i j => .bl (decide (i ≤ j))) x y H Q ∨ rCmpS (fun i j => !decide (j.cps.toList < i.cps.toList)) x y H Q
def rGtU : R2 := fun x y H Q => rI0 (fun i j => .bl (decide (j < i))) x y H Q ∨ rCmpS (fun i j => decide (j.cps.toList < i.cps.toList)) x y H Q
def rGeU : R2 := fun x y H Q => rI0 (fun i j => .bl (decide (j ≤ i))) x y H Q ∨ rCmpS (fun i j => !decide (i.cps.toList < j.cps.toList)) x y H Q
theorem op_ltU : OpR X (compareOp .Lt) rLtU := op_lt.or op_lt_str
theorem op_leU : OpR X (compareOp .LtE) rLeU := op_le.or op_le_str
theorem op_gtU : OpR X (compareOp .Gt) rGtU := op_gt.or op_gt_str
theorem op_geU : OpR X (compareOp .GtE) rGeU := op_ge.or op_ge_str
def rDIn (neg : Bool) : R2 := fun y x H Q => ∃ a o, x = .ref a ∧ DGet H a y o ∧ Q (.bl (if neg then !o.isSome else o.isSome)) H
theorem op_inDict (hu : X.A.units + 1 < cLine) : OpR X (compareOp .In) (rDIn false) := by
  intro pins s σ H x y v u Q I rx ry h
  obtain ⟨a, o, rfl, g, q⟩ := h
  cases ry
  exact d_in hu I g rx fun s' I' => ⟨.bl o.isSome, H, I', rfl, q⟩
theorem op_notInDict (hu : X.A.units + 1 < cLine) : OpR X (compareOp .NotIn) (rDIn true) := by
  intro pins s σ H x y v u Q I rx ry h
  obtain ⟨a, o, rfl, g, q⟩ := h
  cases ry
  exact d_notIn hu I g rx fun s' I' => ⟨.bl (!o.isSome), H, I', rfl, q⟩
def rSignIn (neg : Bool) : R2 := fun x y H Q => ∃ (c : Nat) (z : Str), x = .str ⟨#[c]⟩ ∧ y = .str z ∧ Q (.bl (if neg then !decide (c ∈ z.cps.toList) else decide (c ∈ z.cps.toList))) H
theorem op_inSign : OpR X (compareOp .In) (rSignIn false) := op_in_sign
theorem op_notInSign : OpR X (compareOp .NotIn) (rSignIn true) := op_notIn_sign
def rInU (K : PySem.W.Frag) (neg : Bool) : R2 := fun x y H Q => rSignIn neg x y H Q ∨ (rIn K neg x y H Q ∨ rDIn neg x y H Q)
theorem op_inU {K : PySem.W.Frag} (hu : X.A.units + 1 < cLine) (_ : X.A.units + 64 < cLine) (hK : X.K = K := by rfl) : OpR X (compareOp .In) (rInU K false) := hK ▸ op_inSign.or (op_in_seq.or (op_inDict hu))
theorem op_notInU {K : PySem.W.Frag} (hu : X.A.units + 1 < cLine) (_ : X.A.units + 64 < cLine) (hK : X.K = K := by rfl) : OpR X (compareOp .NotIn) (rInU K true) := hK ▸ op_notInSign.or (op_notIn_seq.or (op_notInDict hu))
def ipAddU : R2 := fun x y H Q => ipI (fun i j => i + j) x y H Q ∨ rAddS x y H Q
theorem ip_addU : PIp X .Add ipAddU := ip_add.or fun pins s σ H x y v u Q I rx ry h => iop_add_str pins s σ H x y v u Q I rx ry h
theorem ip_subU : PIp X .Sub (ipI fun i j => i - j) := ip_sub

/-! ### fields, pairs -/
theorem pe_fldU {K : PySem.W.Frag} {e : Expr} {f : Str} {pos : Pos} {ta : TE} (he : PE X e ta) (hb : attributeBase e f X.env (eval e X.env) = eval e X.env) (hK : X.K = K := by rfl) : PE X (.Attribute e f pos) (tFld K ta f) := hK ▸ pe_fld he hb
theorem ps_fldU {K : PySem.W.Frag} {o value : Expr} {f : Str} {pos pos' : Pos} {ta tv : TE} (ha : PE X o ta) (hv : PE X value tv) (hs : swapsWith value (some (.Attribute o f pos')) pos.line X.env = pure false) (hK : X.K = K := by rfl) : PS X (.Assign [.Attribute o f pos'] value pos) (sFld K ta tv f) := hK ▸ ps_fld ha hv hs
theorem pg_tupU {K : PySem.W.Frag} {es : List Expr} {k : Nat} {pos : Pos} {t : TGs} {n : Nat} (hc : X.calm = true) (h : PGs X es t) (hn : (assignEach es X.env).length = n := by rfl) (hst : (assignEach es X.env).findIdx? (·.1) = none := by rfl) (hK : X.K = K := by rfl) : PG X (.Tuple es k pos) (gTup K n t) := hK ▸ pg_tup hc h hn hst
/-! ### calls of built-ins -/
def rLenU (K : PySem.W.Frag) : List V → Hp → VK → Prop := fun xs H Q => (∃ x n, xs = [x] ∧ LenV K x H n ∧ Q (.int n) H) ∨ ∃ a kvs, xs = [V.ref a] ∧ H a = some (.dK kvs) ∧ Q (.int kvs.length) H
theorem call_lenU {K : PySem.W.Frag} (hK : X.K = K := by rfl) : CallR X (.builtin "len") (rLenU K) := hK ▸ call_len.or call_lenD
def rIsiU (K : PySem.W.Frag) : List V → Hp → VK → Prop := fun xs H Q => rIsi K xs H Q ∨ rIsiT K xs H Q
theorem call_isiU {K : PySem.W.Frag} (hK : X.K = K := by rfl) : CallR X (.builtin "isinstance") (rIsiU K) := hK ▸ call_isi.or call_isiT
def rIntU : List V → Hp → VK → Prop := fun xs H Q => (∃ i, xs = [.int i] ∧ Q (.int i) H) ∨ ∃ k, xs = [.bl k] ∧ Q (.int (if k then 1 else 0)) H
theorem call_intU : CallR X (.type "int") rIntU := call_int1
def rBoolU : List V → Hp → VK → Prop := fun xs H Q => (∃ i, xs = [.int i] ∧ Q (.bl (i != 0)) H) ∨ ∃ k, xs = [.bl k] ∧ Q (.bl k) H
theorem call_boolU : CallR X (.type "bool") rBoolU := call_bool1
def rStrU : List V → Hp → VK → Prop := fun xs H Q => ∃ i, xs = [.int i] ∧ i.natAbs.log2 < 1920 ∧ Q (.str (toString i)) H
theorem call_strU : CallR X (.type "str") rStrU := call_str_int
def rTupleU (K : PySem.W.Frag) : List V → Hp → VK → Prop := fun xs H Q => ∃ p ys, xs = [.ref p] ∧ ((SqL K H p ys ∧ ∀ l, H l = none → Q (.ref l) (upd H l (.tup ys))) ∨ (SqT K H p ys ∧ Q (.ref p) H))
theorem call_tupleU {K : PySem.W.Frag} (hK : X.K = K := by rfl) : CallR X (.type "tuple") (rTupleU K) := hK ▸ call_tuple_of
def rAbsU : List V → Hp → VK → Prop := fun xs H Q => ∃ i, xs = [.int i] ∧ Q (.int (if i < 0 then -i else i)) H
theorem call_absU : CallR X (.builtin "abs") rAbsU := call_abs
def rUpperU : V → List V → Hp → VK → Prop := fun x xs H Q => ∃ a, x = .str a ∧ xs = [] ∧ a.length ≤ 5592405 ∧ Q (.str (Txt.upper a)) H
theorem mt_upperU : MtR X "str.upper" rUpperU := mt_upper
def rStartU : V → List V → Hp → VK → Prop := fun x xs H Q => ∃ a b, x = .str a ∧ xs = [.str b] ∧ Q (.bl (Txt.startswith a b)) H
theorem mt_startswithU : MtR X "str.startswith" rStartU := mt_startswith
def rFindU : V → List V → Hp → VK → Prop := fun x xs H Q => ∃ a b, x = .str a ∧ xs = [.str b] ∧ Q (.int (Txt.find a b)) H
theorem mt_findU : MtR X "str.find" rFindU := mt_find
def rCountU : V → List V → Hp → VK → Prop := fun x xs H Q => ∃ a b, x = .str a ∧ xs = [.str b] ∧ Q (.int (Txt.count a b)) H
theorem mt_countU : MtR X "str.count" rCountU := mt_count
def rJoinU (K : PySem.W.Frag) : V → List V → Hp → VK → Prop := fun x xs H Q => ∃ a p, ∃ ys : List Str, x = .str a ∧ xs = [.ref p] ∧ (SqL K H p (ys.map V.str) ∨ SqT K H p (ys.map V.str)) ∧
  (ys.map (·.length)).sum + ys.length * a.length ≤ 16777216 ∧ Q (.str (Txt.join a ys)) H
theorem pe_joinU {K : PySem.W.Frag} {o e : Expr} {to te : TE} {apos pos : Pos} (ho : PE X o to) (he : PE X e te) (hK : X.K = K := by rfl) (hs : starEach [e] X.env = [(false, eval e X.env)] := by rfl) (hbase : attributeBase o "join" X.env (eval o X.env) = eval o X.env := by rfl) (hline : (apos.endLine == pos.line) = true := by rfl) :
    PE X (.Call (.Attribute o "join" apos) [e] [] pos) (tM1 (rJoinU K) to te) := hK ▸ pe_join ho he hs hbase hline
theorem pe_bmU {K : PySem.W.Frag} {T : String} {name : Str} {id : String} {r : V → List V → Hp → VK → Prop} {o e : Expr} {es : List Expr} {to : TE} {t : TA} {apos cpos : Pos} (pa : PlainAttrs T) (slot : Slot T name id) (hty : typeOf (.builtin id) = pure (.type "method_descriptor")) (hm : MtR X id r) (ho : PE X o to) (ha : PA X (e :: es) t) (hK : X.K = K := by rfl)
    (hbase : attributeBase o name X.env (eval o X.env) = eval o X.env := by rfl)
    (hfew : ((backTo cpos (starEach (e :: es) X.env)).all (fun x => !x.1) && (backToKw cpos (keywordEach [] X.env)).all (fun x => x.1.isSome)
      && decide ((e :: es).length + ([] : List Keyword).length + (if ([] : List Keyword).isEmpty then 0 else 1) < 30)) = true := by rfl)
    (hline : (apos.endLine == cpos.line) = true := by rfl) (hs : starEach (e :: es) X.env = (false, eval e X.env) :: starEach es X.env := by rfl) (hplain : (backTo cpos (starEach es X.env)).any (·.1) = false := by rfl) :
    PE X (.Call (.Attribute o name apos) (e :: es) [] cpos) (tBM K T r to t) := hK ▸ pe_bm pa slot hty hm ho ha hbase hfew hline hs hplain
theorem pe_bm0U {K : PySem.W.Frag} {T : String} {name : Str} {id : String} {r : V → List V → Hp → VK → Prop} {o : Expr} {to : TE} {apos cpos : Pos} (pa : PlainAttrs T) (slot : Slot T name id) (hty : typeOf (.builtin id) = pure (.type "method_descriptor")) (hm : MtR X id r) (ho : PE X o to) (hK : X.K = K := by rfl)
    (hbase : attributeBase o name X.env (eval o X.env) = eval o X.env := by rfl) (hline : (apos.endLine == cpos.line) = true := by rfl) : PE X (.Call (.Attribute o name apos) [] [] cpos) (tBM0 K T r to) := hK ▸ pe_bm0 pa slot hty hm ho hbase hline
def rListU (K : PySem.W.Frag) : List V → Hp → VK → Prop := fun xs H Q => (∃ p ys, xs = [.ref p] ∧ (SqL K H p ys ∨ SqT K H p ys) ∧ ∀ l, H l = none → Q (.ref l) (upd H l (.lst ys))) ∨ rListD xs H Q
theorem call_listU {K : PySem.W.Frag} (hK : X.K = K := by rfl) (hc : X.calm = true := by rfl) : CallR X (.type "list") (rListU K) := hK ▸ call_list_of.or (call_list_dK hc)
/-- sorted of texts, of any number -/
def rSortedSA (K : PySem.W.Frag) : List V → Hp → VK → Prop := fun vs H Q => ∃ (a : Addr) (xs : List Str), vs = [V.ref a] ∧ SqL K H a (xs.map V.str) ∧
  ∀ (p : Addr) (ys : List Str), H p = none → ys.Perm xs → PyProof.Rows.sortedS ys = true → Q (.ref p) (upd H p (.lst (ys.map V.str)))
theorem cr_sortedSA : CallR X (.builtin "sorted") (rSortedSA X.K) := by
  intro pins s σ H vs us Q I r h
  obtain ⟨a, xs, rfl, hs, q⟩ := h
  obtain ⟨its, rv, hl, hz⟩ := I.list hs
  rw [Vals.ref1 r]
  refine PyProof.Rows.sorted_strsAny hl.isList rv.strs (by rw [← rv.length]; exact hz) fun out ys h1 h2 h3 => ?_
  obtain ⟨ep, he'⟩ := PyProof.Rows.sortedAll_at s.heap its out
  have hlen : (ys.map V.str).length ≤ sizeLine := by
    rw [List.length_map, h2.length_eq]
    rw [List.length_map] at hz
    exact hz
  exact ⟨.ref _, upd H (s.heap.objs.size + 1) (.lst (ys.map V.str)), I.laid (t' := s.toks) (fun _ _ => PyProof.Rows.sortedAll_old) (Nat.le_succ _) ⟨hlen, out.toList, ep, vals_of_strs h1, he'⟩, rfl, q _ ys (I.hok.fresh (Nat.le_succ _)) h2 h3⟩
def rSortedU (K : PySem.W.Frag) : List V → Hp → VK → Prop := fun vs H Q => rSortedSA K vs H Q
theorem cr_sortedU {K : PySem.W.Frag} (hK : X.K = K := by rfl) : CallR X (.builtin "sorted") (rSortedU K) := hK ▸ cr_sortedSA
theorem cr_allU {K : PySem.W.Frag} (hK : X.K = K := by rfl) (hc : X.calm = true := by rfl) : CallR X (.builtin "all") (rAll K) := hK ▸ cr_all hc
theorem cr_anyU {K : PySem.W.Frag} (hK : X.K = K := by rfl) (hc : X.calm = true := by rfl) : CallR X (.builtin "any") (rAny K) := hK ▸ cr_any hc
theorem cr_sumU {K : PySem.W.Frag} (hK : X.K = K := by rfl) (hc : X.calm = true := by rfl) : CallR X (.builtin "sum") (rSum K) := hK ▸ cr_sum hc

/-! ### what is walked: a list, a tuple, a text -/
def iU (K : PySem.W.Frag) (te : TE) : TI := fun σ H R => te σ H fun v H1 => (∃ a, v = .ref a ∧ (∃ xs, SqL K H1 a xs) ∧ R (Itl K a) H1) ∨ ((∃ a, v = .ref a ∧ (∃ xs, SqT K H1 a xs) ∧ R (Itt K a) H1) ∨ ∃ x, v = .str x ∧ R (Its x) H1)
theorem pi_U {K : PySem.W.Frag} {tg l : Expr} {tl : TE} (hl : PE X l tl) (hK : X.K = K := by rfl) : PI X tg l (iU K tl) := by
  subst hK
  refine ⟨fun pins s σ H R I h => ?_⟩
  refine thn (hl.run pins s σ H _ I h) fun v s1 ⟨x, H1, I1, r1, q1⟩ => ?_
  rcases q1 with ⟨a, e, ⟨xs, hq⟩, q⟩ | ⟨a, e, ⟨xs, hq⟩, q⟩ | ⟨z, e, q⟩
  · subst e
    cases r1
    obtain ⟨its, rv, p, hz⟩ := I1.list hq
    refine wpAny_pyIter_list p.isList ?_
    refine ⟨s1.heap.objs.size, [s1.heap.objs.size], _, _, H1, rfl, I1.kept (t' := s1.toks) fun b o e => Heap.get?_push_of_some _ e, turn_list a _, ⟨_, Heap.get?_push_size _ rfl, rfl, rfl⟩, fun b hb => ?_, q⟩
    have e : b = s1.heap.objs.size := by simpa using hb
    subst e
    exact I1.fpOk (Nat.le_refl _) (I1.hok.fresh (Nat.le_refl _))
  · subst e
    cases r1
    obtain ⟨its, rv, p, hz⟩ := I1.tuple hq
    refine wpAny_pyIter_tuple (show s1.heap.IsTuple a its.toArray from p) ?_
    refine ⟨s1.heap.objs.size, [s1.heap.objs.size], _, _, H1, rfl, I1.kept (t' := s1.toks) fun b o e => Heap.get?_push_of_some _ e, turn_tuple a _, ⟨_, Heap.get?_push_size _ rfl, rfl, rfl⟩, fun b hb => ?_, q⟩
    have e : b = s1.heap.objs.size := by simpa using hb
    subst e
    exact I1.fpOk (Nat.le_refl _) (I1.hok.fresh (Nat.le_refl _))
  · subst e
    obtain ⟨t, rfl⟩ := r1
    cases ha : z.cps.all (· < 128)
    · exact wpAny_pyIter_wide ha (pi_one (tk := s1.toks) I1 _ (turn_str _ z t "str_iterator" (.inr rfl)) ⟨_, Heap.get?_push_size _ rfl, rfl, rfl⟩ q)
    · exact wpAny_pyIter_ascii ha (pi_one (tk := s1.toks) I1 _ (turn_str _ z t "str_ascii_iterator" (.inl rfl)) ⟨_, Heap.get?_push_size _ rfl, rfl, rfl⟩ q)
/-- an own exception's class, of those below ValueError, without own __init__ -/
structure ExcAt (K : PySem.W.Frag) (mg : Str → Option Value) (x : Str) where
  C : Addr
  gC : mg x = some (.ref C)
  ex : PySem.W.excIn K C [.type "ValueError", .type "Exception", .type "BaseException", .type "object"] "ValueError.__new__" = true
  kC : PySem.W.keepIn K (.ref C) = true
  sb : PySem.W.subIn K (.ref C) (.type "BaseException") = some true
  ty : PySem.W.typeIn K (.ref C) = some (.type "type")
/-- X() -/
theorem pmk_own0 {x : Str} {p pos : Pos} (T : ExcAt X.K X.mg x) (hg : Gl X x) (hdb : (x == ("__debug__" : Str)) = false := by decide) : PMk X (.Call (.Name x p) [] [] pos) (fun _ H Q => Q (.ref T.C) none H) := by
  intro pins s σ H Q I h
  refine wpAny_Call_Name_kw (ld_glob I hg T.gC ?_ hdb)
  refine PySem.W.callWith_K0 I.kIn T.kC ?_
  show wpAny _ _ (call (.ref T.C) []) _ _ _
  obtain ⟨bm, N, nm, qn, bs, hdct, sn, sub, ab, col, dd, k0, k1, k2, k3, k5, mN, hC, hN, hni, T'⟩ := exc_obj I.kIn T.ex
  refine wpAny_call_exc_subT PySem.F.excBase_ValueError T' hC hN hni (fun h' e hm => ?_) (Nat.zero_le _)
  exact mk_of I hm (raises_own T.sb T.ty) h (I.hok.gone hm.new)
/-- a def of the text, where the top has left it -/
structure DefAt (K : PySem.W.Frag) (mg : Str → Option Value) (x qual : Str) (st : Stmt) (ps : List Str) where
  f : Addr
  fd : FuncData
  F : Fun K x qual st f fd
  mg : mg x = some (.ref f)
  bd : Binds K fd ps []
/-- a method, where its class has left it -/
structure MDefAt (K : PySem.W.Frag) (x qual : Str) (st : Stmt) (ps : List Str) where
  f : Addr
  fd : FuncData
  F : Fun K x qual st f fd
  bd : Binds K fd ps []
theorem DefAt.kp {K : PySem.W.Frag} {mg : Str → Option Value} {x qual : Str} {st : Stmt} {ps : List Str} (D : DefAt K mg x qual st ps) : PySem.W.keepIn K (.ref D.f) = true := D.F.kp
end
end L2

/-! ## GZ: enumerate and zip of lists, tuples, texts in any mix -/
namespace PySem
open Sem (wp)
theorem meets_enumerate_newB1 {v : Value} {o : Obj} {H : Heap → Prop} (B : Begins v o H) :
    Meets (Builtin.«enumerate.__new__» ⟨[.type "enumerate", v], []⟩) (fun _ R s => H s.heap ∧
      R (.ok (.ret (.ref (s.heap.push o).objs.size))) { s with heap := (s.heap.push o).push { cls := .type "enumerate", data := .fields #[.none, .bool false, .ref s.heap.objs.size, rawInt 0, .none, .none] } }) :=
  .of_wp fun prog w A R s h => by
    obtain ⟨hp, g, d, tk, os⟩ := s; obtain ⟨h1, h⟩ := h
    have hsub := sub_enumerate
    have q1 : ∀ {A' : Around} {E : Value → Shared → Prop} {Q : Value → Shared → Prop}, Q (.ref hp.objs.size) ⟨hp.push o, g, d, tk, os⟩ → wpAny (model prog w) A' (pyIter v) Q E ⟨hp, g, d, tk, os⟩ :=
      fun q => B.iter prog w _ _ ⟨hp, g, d, tk, os⟩ _ h1 q
    wp_walk using q1
    refine wpAny_stack_any fun st => wpAny_pure ?_
    split
    · rename_i c _ _ _ _ _
      cases (c == Value.type "enumerate")
      · wp_walk using q1
        exact ⟨_, rfl, h⟩
      · wp_walk using q1
        exact ⟨_, rfl, h⟩
    · wp_walk using q1
      exact ⟨_, rfl, h⟩
section
variable {prog : Program} {w : World} {A : Around} {E : Value → Shared → Prop} {s : Shared}
/-- enumerate(v): its two new cells -/
theorem enum_begins1 {v : Value} {o : Obj} {H : Heap → Prop} {Q : Value → Shared → Prop} (B : Begins v o H) (h1 : H s.heap)
    (h : ∀ h', IsEnum h' (s.heap.objs.size + 1) s.heap.objs.size 0 .none → h'.get? s.heap.objs.size = some o → h'.objs.size = s.heap.objs.size + 2 →
      (∀ b o, s.heap.get? b = some o → h'.get? b = some o) → Q (.ref (s.heap.objs.size + 1)) { s with heap := h' }) :
    wpAny (model prog w) A (call (.type "enumerate") [v]) Q E s := by
  refine callType_new F.called_enumerate (by decide) (F.typeCall_enumerate_1 _) (F.newCall_enumerate_1 _) (fun obj => F.args_object_init_2 obj _) F.entry_enumerate_new
    (meets_enumerate_newB1 B) ⟨h1, ?_⟩
  have hz : (s.heap.push o).objs.size = s.heap.objs.size + 1 := Heap.size_push ..
  show _ ∧ _
  rw [hz]
  have he : IsEnum ((s.heap.push o).push { cls := .type "enumerate", data := .fields #[.none, .bool false, .ref s.heap.objs.size, rawInt 0, .none, .none] }) (s.heap.objs.size + 1) s.heap.objs.size 0 .none := by
    have := Heap.get?_push_size (s.heap.push o) (o := { cls := .type "enumerate", data := .fields #[.none, .bool false, .ref s.heap.objs.size, rawInt 0, .none, .none] }) rfl
    rw [hz] at this; exact this
  refine ⟨⟨_, he, rfl⟩, h _ he (Heap.get?_push_of_some _ (Heap.get?_push_size _ B.free)) (by rw [Heap.size_push, hz]) fun b o x => Heap.get?_push_of_some _ (Heap.get?_push_of_some _ x)⟩
end
end PySem

namespace L2
open PySem PySem.Spec PyProof.Rows
/-- a list, a tuple, a text -/
inductive Sk where
  | l
  | t
  | s
/-- x holds xs, one after the other -/
def SrcAt (k : Sk) (K : PySem.W.Frag) (H : Hp) (x : V) (xs : List V) : Prop := match k with
  | .l => ∃ a, x = .ref a ∧ SqL K H a xs
  | .t => ∃ a, x = .ref a ∧ SqT K H a xs
  | .s => ∃ z : Str, x = .str z ∧ xs = z.cps.toList.map fun c => V.str ⟨#[c]⟩
/-- the iterator at it over u, i gone -/
def IterAt (k : Sk) (u : Value) (it : Addr) (i : Nat) (h : Heap) : Prop := match k with
  | .l => ∃ a, u = .ref a ∧ a ≠ it ∧ h.IsListIter it a i
  | .t => ∃ a, u = .ref a ∧ a ≠ it ∧ h.IsTupleIter it a i
  | .s => ∃ z t, u = .str z t ∧ h.IsStrIter it (strIterType z) z t i
section
variable {X : Cx} {pins : List (Addr × Obj)} {σ : St} {H : Hp} {s : Shared} {k : Sk} {x : V} {xs ys : List V} {u : Value} {it : Addr} {i : Nat} {h h' : Heap} {A : Around}
theorem Vals.get' : ∀ {xs : List V} {us : List Value} {i : Nat} {u : Value}, Vals xs us → us[i]? = some u → ∃ x, xs[i]? = some x ∧ RelV x u
  | _, _, _, _, .nil, e => by simp at e
  | _, _, 0, _, .cons r _, e => by simp at e; subst e; exact ⟨_, rfl, r⟩
  | _, _, i + 1, u, .cons _ t, e => by
    obtain ⟨x, h1, h2⟩ := Vals.get' (i := i) (u := u) t (by simpa using e)
    exact ⟨x, by simpa using h1, h2⟩
theorem SrcAt.inj (I : Inv X pins σ H s) (h1 : SrcAt k X.K H x xs) (h2 : SrcAt k X.K H x ys) : xs = ys := by
  cases k with
  | l =>
    obtain ⟨a, e, q⟩ := h1
    obtain ⟨b, e', q'⟩ := h2
    have : a = b := V.ref.inj (e.symm.trans e')
    subst this
    exact I.list_inj q q'
  | t =>
    obtain ⟨a, e, q⟩ := h1
    obtain ⟨b, e', q'⟩ := h2
    have : a = b := V.ref.inj (e.symm.trans e')
    subst this
    exact I.tuple_inj q q'
  | s =>
    obtain ⟨a, e, q⟩ := h1
    obtain ⟨b, e', q'⟩ := h2
    have : a = b := V.str.inj (e.symm.trans e')
    subst this
    rw [q, q']
theorem IterAt.live (st : IterAt k u it i h) : ∃ o, h.get? it = some o ∧ ∀ v, o.data ≠ .cell v := by
  cases k with
  | l => obtain ⟨a, _, _, o, ho, _, d⟩ := st; exact ⟨o, ho, fun v q => by rw [d] at q; cases q⟩
  | t => obtain ⟨a, _, _, o, ho, _, d⟩ := st; exact ⟨o, ho, fun v q => by rw [d] at q; cases q⟩
  | s => obtain ⟨a, _, _, o, ho, _, d⟩ := st; exact ⟨o, ho, fun v q => by rw [d] at q; cases q⟩
theorem IterAt.at (st : IterAt k u it i h) (q : ∀ o, h.get? it = some o → h'.get? it = some o) : IterAt k u it i h' := by
  cases k with
  | l => obtain ⟨a, e, n, o, ho, r⟩ := st; exact ⟨a, e, n, o, q o ho, r⟩
  | t => obtain ⟨a, e, n, o, ho, r⟩ := st; exact ⟨a, e, n, o, q o ho, r⟩
  | s => obtain ⟨a, t, e, o, ho, r⟩ := st; exact ⟨a, t, e, o, q o ho, r⟩
theorem src_draw (I : Inv X pins σ H s) (hs : SrcAt k X.K H x xs) (r : RelV x u) (st : IterAt k u it i s.heap) (hh : A.handled = none) :
    ∃ (fp : List Addr) (P : Nat → Value → Prop) (St : Nat → Heap → Prop), Draws X.prog X.w A it fp xs.length P St ∧ St i s.heap ∧ (∀ j v, P j v → ∃ y, xs[j]? = some y ∧ RelV y v) ∧ (∀ h j, St j h → IterAt k u it j h) ∧ it ∈ fp ∧ ∀ b ∈ fp, b = it ∨ u = .ref b := by
  cases k with
  | l =>
    obtain ⟨a, rfl, hq⟩ := hs
    obtain ⟨b, e, n, hit⟩ := st
    cases (show u = Value.ref a from r)
    cases e
    obtain ⟨its, rv, p, hz⟩ := I.list hq
    have hl : its.toArray.size = xs.length := by rw [List.size_toArray, ← rv.length]
    refine ⟨_, _, _, hl ▸ Draws.list hh it a n its.toArray, ⟨hit, p.isList⟩, fun j v hp => ?_, fun h j q => ⟨a, rfl, n, q.1⟩, by simp, fun c hc => ?_⟩
    · have hp' : its[j]? = some v := by simpa using hp
      obtain ⟨y, hy, ry⟩ := Vals.get' rv hp'
      exact ⟨y, hy, ry⟩
    · have : c = it ∨ c = a := by simpa using hc
      exact this.imp id fun e => by rw [e]
  | t =>
    obtain ⟨a, rfl, hq⟩ := hs
    obtain ⟨b, e, n, hit⟩ := st
    cases (show u = Value.ref a from r)
    cases e
    obtain ⟨its, rv, p, hz⟩ := I.tuple hq
    have hl : its.toArray.size = xs.length := by rw [List.size_toArray, ← rv.length]
    refine ⟨_, _, _, hl ▸ Draws.tuple hh it a n its.toArray, ⟨hit, p⟩, fun j v hp => ?_, fun h j q => ⟨a, rfl, n, q.1⟩, by simp, fun c hc => ?_⟩
    · have hp' : its[j]? = some v := by simpa using hp
      obtain ⟨y, hy, ry⟩ := Vals.get' rv hp'
      exact ⟨y, hy, ry⟩
    · have : c = it ∨ c = a := by simpa using hc
      exact this.imp id fun e => by rw [e]
  | s =>
    obtain ⟨z, rfl, rfl⟩ := hs
    obtain ⟨z', t, e, hit⟩ := st
    obtain ⟨t', e'⟩ := (show ∃ t, u = Value.str z t from r)
    rw [e] at e'
    cases e'
    have hl : z.cps.size = (z.cps.toList.map fun c => V.str ⟨#[c]⟩).length := by simp
    refine ⟨_, _, _, hl ▸ Draws.text hh it z t, hit, fun j v hp => ?_, fun h j q => ⟨z, t, e, q⟩, by simp, fun c hc => .inl (by simpa using hc)⟩
    obtain ⟨c, t2, hc, ev⟩ := hp
    have hc' : z.cps.toList[j]? = some c := by simpa using hc
    exact ⟨.str ⟨#[c]⟩, by rw [List.getElem?_map, hc']; rfl, t2, ev⟩
end

theorem nq {a b : Nat} (h : a < b ∨ b < a) : a ≠ b := by omega
/-! ### enumerate -/
def ItE (k : Sk) (K : PySem.W.Frag) (x : V) : It :=
  ⟨fun i H => ∃ (xs : List V) (y : V), SrcAt k K H x xs ∧ xs[i]? = some y, fun i H v H' => ∃ T y, v = .ref T ∧ H T = none ∧ H' = upd H T (.tup [.int (i : Nat), y]) ∧ ∀ xs, SrcAt k K H x xs → xs[i]? = some y, fun i H => ∃ xs : List V, SrcAt k K H x xs ∧ xs.length = i⟩
theorem turn_enumU {P : Program} {w : World} {K : PySem.W.Frag} {elts : List Expr} {kk : Nat} {tpos : Pos} {k : Sk} {x : V} {u : Value} {e it : Addr} (r : RelV x u) (ne : e ≠ it) (nu : u ≠ .ref e) :
    Turn P w K (.Tuple elts kk tpos) (ItE k K x) [e, it] e (fun i h => (∃ old, IsEnum h e it ((i : Nat) : Int) old) ∧ IterAt k u it i h) where
  mem := by simp
  obj := fun i h st b hb => by
    obtain ⟨⟨old, he⟩, hi⟩ := st
    have e' : b = e ∨ b = it := by simpa using hb
    rcases e' with z | z
    · rw [z]; exact ⟨_, he, fun v q => nomatch q⟩
    · rw [z]; exact hi.live
  keep := fun i h h' st kp => let ⟨⟨old, he⟩, hi⟩ := st; ⟨⟨old, kp e (by simp) _ he⟩, hi.at fun o q => kp it (by simp) o q⟩
  item := by
    intro X hP hw hK hc i pins s σ H E I hf st hg
    subst hP hw hK
    obtain ⟨⟨old, he⟩, hit⟩ := st
    obtain ⟨xs, y, hq, hy⟩ := hg
    obtain ⟨fp, Pd, Sd, D, d0, dv, di, dm, df⟩ := src_draw (A := X.A.in1) I hq r hit (I.ok.hd hc)
    have hlt : i < xs.length := (List.getElem?_eq_some_iff.mp hy).1
    have hel : e < s.heap.objs.size := Heap.lt_size he
    have hil : it < s.heap.objs.size := by obtain ⟨_, q, _⟩ := hit.live; exact Heap.lt_size q
    refine wpAny_pyNext_enum_itemD D he d0 hlt ne (fun q => (df e q).elim ne fun q => nu q) fun v h' tk hv ho hd' hT hsz hk => ?_
    obtain ⟨y', hy', ry⟩ := dv i v hv
    obtain rfl : y = y' := Option.some.inj (hy.symm.trans hy')
    refine ⟨_, rfl, wpAny_letOwnedTupleGo_enum (s := { s with heap := h', toks := tk + 1 }) ho fun h'' he' sb => ?_⟩
    have hT2 : h''.get? s.heap.objs.size = some { cls := .type "tuple", data := .seq #[.int i tk, v] } := (sb.2 _ (Nat.ne_of_gt hel)).trans hT
    have new : ObjOk X.prog X.w (upd H s.heap.objs.size (.tup [.int (i : Nat), y])) h'' s.heap.objs.size (.tup [.int (i : Nat), y]) :=
      ⟨by show 2 ≤ sizeLine; decide, [.int i tk, v], .cons ⟨_, rfl⟩ (.cons ry .nil), ⟨_, hT2, rfl, _, rfl⟩⟩
    have I1 : Inv X pins σ (upd H s.heap.objs.size (.tup [.int (i : Nat), y])) { s with heap := h'', toks := tk + 1 } :=
      I.turnedNew (ch := [e, it]) (fun b ob hb q => (sb.2 b (fun z => hb (by simp [z]))).trans (hk b ob (fun z => hb (by simp [z])) (fun z => hb (by simp [z])) q)) hf (Nat.le_refl _) new
    refine ⟨.ref s.heap.objs.size, _, I1, rfl, ⟨_, y, rfl, I.hok.fresh (Nat.le_refl _), rfl, fun ys hys => by rw [SrcAt.inj I hys hq]; exact hy⟩, ⟨⟨v, ?_⟩, (di _ _ hd').at fun o q => (sb.2 it (Ne.symm ne)).trans q⟩, fun b hb => ?_⟩
    · have e1 : ((i + 1 : Nat) : Int) = (i : Int) + 1 := by omega
      rw [e1]; exact he'
    · have hb' : b < s.heap.objs.size := by
        have e' : b = e ∨ b = it := by simpa using hb
        rcases e' with z | z
        · rw [z]; exact hel
        · rw [z]; exact hil
      rw [upd_ne (Nat.ne_of_lt hb')]
      exact (hf b hb).1
  done := by
    intro X hP hw hK hc i pins s σ H E I hf st hg
    subst hP hw hK
    obtain ⟨⟨old, he⟩, hit⟩ := st
    obtain ⟨xs, hq, rfl⟩ := hg
    obtain ⟨fp, Pd, Sd, D, d0, dv, di, dm, df⟩ := src_draw (A := X.A.in1) I hq r hit (I.ok.hd hc)
    obtain ⟨f0, f1, f2, f3, f4, f5⟩ := hf it (by simp)
    exact wpAny_pyNext_enum_endD D he d0 fun h' eb => ⟨rfl, I.turned (t' := s.toks) (fun b o hb q => eb b o hb q) f0 f1 f3 f4 f5⟩
  self := fun A i s Q E st h => let ⟨⟨_, he⟩, _⟩ := st; wpAny_pyIter_enum he h
def iEnumU (K : PySem.W.Frag) (ta : TA) : TI := fun σ H R => ta σ H fun vs H1 => ∃ x k xs, vs = [x] ∧ SrcAt k K H1 x xs ∧ R (ItE k K x) H1
/-- what iter(v) makes -/
theorem src_begins {X : Cx} {pins : List (Addr × Obj)} {σ : St} {H : Hp} {s : Shared} {k : Sk} {x : V} {xs : List V} {u : Value} (I : Inv X pins σ H s) (hs : SrcAt k X.K H x xs) (r : RelV x u) :
    ∃ (o : Obj) (Hb : Heap → Prop), Begins u o Hb ∧ Hb s.heap ∧ (∀ h it, (∀ b, u = .ref b → b ≠ it) → h.get? it = some o → IterAt k u it 0 h) ∧ ∀ b : Nat, u = .ref b → b < s.heap.objs.size := by
  cases k with
  | l =>
    obtain ⟨a, rfl, hq⟩ := hs
    cases (show u = Value.ref a from r)
    obtain ⟨its, rv, p, hz⟩ := I.list hq
    exact ⟨_, _, begins_list a its.toArray, p.isList, fun h it n e => ⟨a, rfl, n a rfl, _, e, rfl, rfl⟩, fun b e => by cases e; exact p.lt⟩
  | t =>
    obtain ⟨a, rfl, hq⟩ := hs
    cases (show u = Value.ref a from r)
    obtain ⟨its, rv, p, hz⟩ := I.tuple hq
    exact ⟨_, _, begins_tuple a its.toArray, p, fun h it n e => ⟨a, rfl, n a rfl, _, e, rfl, rfl⟩, fun b e => by
      cases e
      obtain ⟨o, ho, _⟩ := id p
      exact Heap.lt_size ho⟩
  | s =>
    obtain ⟨z, rfl, rfl⟩ := hs
    obtain ⟨t, rfl⟩ := (show ∃ t, u = Value.str z t from r)
    exact ⟨_, _, begins_text z t, trivial, fun h it n e => ⟨z, t, rfl, _, e, rfl, rfl⟩, fun b e => nomatch e⟩
theorem pi_enumU {K : PySem.W.Frag} {X : Cx} {e : Expr} {ta : TA} {p pos tpos : Pos} {elts : List Expr} {kk : Nat} (hg : Gl X "enumerate") (hm : X.mg "enumerate" = none) (ha : PA X [e] ta) (hK : X.K = K := by rfl) (hs : starEach [e] X.env = [(false, eval e X.env)] := by rfl) :
    PI X (.Tuple elts kk tpos) (.Call (.Name "enumerate" p) [e] [] pos) (iEnumU K ta) := by
  subst hK
  refine ⟨fun pins s σ H R I h => ?_⟩
  refine Call_ (ld_blt I hg hm boot_enumerate (PyProof.Rows.callWith_type1 (thn (ha.run pos pins s σ H _ I h) fun us s1 ⟨vs, H1, I1, r1, q1⟩ => ?_) hs rfl))
  obtain ⟨x, k, xs, ex, hq, q⟩ := q1
  subst ex
  cases r1 with
  | @cons _ u _ _ r rr =>
    cases rr
    obtain ⟨o, Hb, B, hb, mk, lt⟩ := src_begins I1 hq r
    refine enum_begins1 B hb fun h' he hit hsz hk => wpAny_pyIter_enum he ?_
    have I2 : Inv X pins σ H1 { s1 with heap := h' } := I1.kept (t' := s1.toks) hk
    refine ⟨s1.heap.objs.size + 1, [s1.heap.objs.size + 1, s1.heap.objs.size], _, _, H1, rfl, I2, turn_enumU (k := k) r (Nat.succ_ne_self _) (fun q => absurd (lt _ q) (Nat.not_lt.mpr (Nat.le_succ _))), ⟨⟨.none, he⟩, mk _ _ (fun b e => nq (.inl (Nat.lt_of_lt_of_le (lt b e) (by omega)))) hit⟩, fun b hb => ?_, q⟩
    have e' : b = s1.heap.objs.size + 1 ∨ b = s1.heap.objs.size := by simpa using hb
    have hle : s1.heap.objs.size ≤ b := by
      rcases e' with z | z
      · rw [z]; exact Nat.le_add_right _ _
      · rw [z]; exact Nat.le_refl _
    exact I1.fpOk hle (I1.hok.fresh hle)

/-! ### zip of two -/
def ItZ (k1 k2 : Sk) (K : PySem.W.Frag) (x1 x2 : V) : It :=
  ⟨fun i H => ∃ (xs ys : List V) (y z : V), SrcAt k1 K H x1 xs ∧ SrcAt k2 K H x2 ys ∧ xs[i]? = some y ∧ ys[i]? = some z,
    fun i H v H' => ∃ T y z, v = .ref T ∧ H T = none ∧ H' = upd H T (.tup [y, z]) ∧ (∀ xs, SrcAt k1 K H x1 xs → xs[i]? = some y) ∧ ∀ ys, SrcAt k2 K H x2 ys → ys[i]? = some z,
    fun i H => ∃ xs ys : List V, SrcAt k1 K H x1 xs ∧ SrcAt k2 K H x2 ys ∧ i ≤ xs.length ∧ i ≤ ys.length ∧ (i = xs.length ∨ i = ys.length)⟩
structure Apart (z TI TO i1 i2 : Addr) (u1 u2 : Value) : Prop where
  TIz : TI ≠ z
  TOz : TO ≠ z
  TITO : TI ≠ TO
  TIi1 : TI ≠ i1
  TIi2 : TI ≠ i2
  zi1 : z ≠ i1
  zi2 : z ≠ i2
  Ti1 : TO ≠ i1
  Ti2 : TO ≠ i2
  i12 : i1 ≠ i2
  u1 : ∀ b, u1 = .ref b → b ≠ z ∧ b ≠ TI ∧ b ≠ TO ∧ b ≠ i1 ∧ b ≠ i2
  u2 : ∀ b, u2 = .ref b → b ≠ z ∧ b ≠ TI ∧ b ≠ TO ∧ b ≠ i1 ∧ b ≠ i2
theorem Apart.sep {z TI TO i1 i2 : Addr} {u1 u2 : Value} (D : Apart z TI TO i1 i2 u1 u2) {fp1 fp2 : List Addr} (m1 : i1 ∈ fp1) (m2 : i2 ∈ fp2) (f1 : ∀ b ∈ fp1, b = i1 ∨ u1 = .ref b) (f2 : ∀ b ∈ fp2, b = i2 ∨ u2 = .ref b) : ZipSep2 z TI TO i1 i2 fp1 fp2 :=
  ⟨D.TIz, D.TOz, D.TITO, D.TIi1, m1, fun q => (f1 _ q).elim D.zi1 fun e => (D.u1 _ e).1 rfl, fun q => (f1 _ q).elim D.Ti1 fun e => (D.u1 _ e).2.2.1 rfl,
    D.TIi2, m2, fun q => (f2 _ q).elim D.zi2 fun e => (D.u2 _ e).1 rfl, fun q => (f2 _ q).elim D.Ti2 fun e => (D.u2 _ e).2.2.1 rfl,
    fun q => (f2 _ q).elim D.i12 fun e => (D.u2 _ e).2.2.2.1 rfl, fun q => (f1 _ q).elim D.i12.symm fun e => (D.u1 _ e).2.2.2.2 rfl⟩
theorem turn_zipU {P : Program} {w : World} {K : PySem.W.Frag} {elts : List Expr} {kk : Nat} {tpos : Pos} {k1 k2 : Sk} {x1 x2 : V} {u1 u2 : Value} {z TI TO i1 i2 : Addr} (r1 : RelV x1 u1) (r2 : RelV x2 u2) (D : Apart z TI TO i1 i2 u1 u2) :
    Turn P w K (.Tuple elts kk tpos) (ItZ k1 k2 K x1 x2) [z, TI, TO, i1, i2] z (fun i h => IsZip h z TI TO .none ∧ IsTupOf2 h TI (.ref i1) (.ref i2) ∧ (∃ x y, IsTupOf2 h TO x y) ∧ IterAt k1 u1 i1 i h ∧ IterAt k2 u2 i2 i h) where
  mem := by simp
  obj := fun i h st c hc => by
    obtain ⟨hz, hTI, ⟨x, y, hTO⟩, h1, h2⟩ := st
    have e' : c = z ∨ c = TI ∨ c = TO ∨ c = i1 ∨ c = i2 := by simpa using hc
    rcases e' with q | q | q | q | q
    · rw [q]; exact ⟨_, hz, fun v q => nomatch q⟩
    · rw [q]; exact ⟨_, hTI, fun v q => nomatch q⟩
    · rw [q]; exact ⟨_, hTO, fun v q => nomatch q⟩
    · rw [q]; exact h1.live
    · rw [q]; exact h2.live
  keep := fun i h h' st k => by
    obtain ⟨hz, hTI, ⟨x, y, hTO⟩, h1, h2⟩ := st
    exact ⟨k z (by simp) _ hz, k TI (by simp) _ hTI, ⟨x, y, k TO (by simp) _ hTO⟩, h1.at fun o q => k i1 (by simp) o q, h2.at fun o q => k i2 (by simp) o q⟩
  item := by
    intro X hP hw hK hc i pins s σ H E I hf st hg
    subst hP hw hK
    obtain ⟨hz, hTI, ⟨x0, y0, hTO⟩, h1, h2⟩ := st
    obtain ⟨xs, ys, y, zz, hq1, hq2, hy, hzz⟩ := hg
    obtain ⟨fp1, P1, S1, D1, d1, dv1, di1, dm1, df1⟩ := src_draw (A := X.A.in1) I hq1 r1 h1 (I.ok.hd hc)
    obtain ⟨fp2, P2, S2, D2, d2, dv2, di2, dm2, df2⟩ := src_draw (A := X.A.in1) I hq2 r2 h2 (I.ok.hd hc)
    have hzl : z < s.heap.objs.size := Heap.lt_size hz
    refine wpAny_pyNext_zipD2_item (D.sep dm1 dm2 df1 df2) D1 D2 hz hTI hTO d1 d2 (List.getElem?_eq_some_iff.mp hy).1 (List.getElem?_eq_some_iff.mp hzz).1 fun v1 v2 h' tk hv1 hv2 z' TO' d1' d2' hT hsz hk => ?_
    obtain ⟨y', hy', ry⟩ := dv1 i v1 hv1
    obtain rfl : y = y' := Option.some.inj (hy.symm.trans hy')
    obtain ⟨z2, hz2, rz⟩ := dv2 i v2 hv2
    obtain rfl : zz = z2 := Option.some.inj (hzz.symm.trans hz2)
    refine ⟨_, rfl, wpAny_letOwnedTupleGo_zip (s := { s with heap := h', toks := tk }) z' fun h'' z'' sb => ?_⟩
    have hT2 : h''.get? s.heap.objs.size = some { cls := .type "tuple", data := .seq #[v1, v2] } := (sb.2 _ (Nat.ne_of_gt hzl)).trans hT
    have new : ObjOk X.prog X.w (upd H s.heap.objs.size (.tup [y, zz])) h'' s.heap.objs.size (.tup [y, zz]) :=
      ⟨by show 2 ≤ sizeLine; decide, [v1, v2], .cons ry (.cons rz .nil), ⟨_, hT2, rfl, _, rfl⟩⟩
    have I1 : Inv X pins σ (upd H s.heap.objs.size (.tup [y, zz])) { s with heap := h'', toks := tk } :=
      I.turnedNew (ch := [z, TI, TO, i1, i2]) (fun c o hb q => (sb.2 c (fun q' => hb (by simp [q']))).trans (hk c o (fun q' => hb (by simp [q'])) (fun q' => hb (by simp [q'])) (fun q' => hb (by simp [q'])) (fun q' => hb (by simp [q'])) q)) hf (Nat.le_refl _) new
    refine ⟨.ref s.heap.objs.size, _, I1, rfl, ⟨_, y, zz, rfl, I.hok.fresh (Nat.le_refl _), rfl, fun l hl => by rw [SrcAt.inj I hl hq1]; exact hy, fun l hl => by rw [SrcAt.inj I hl hq2]; exact hzz⟩, ⟨z'', ?_, ⟨v1, v2, ?_⟩, ?_, ?_⟩, fun c hcm => ?_⟩
    · exact (sb.2 _ D.TIz).trans (hk _ _ D.TIz D.TITO D.TIi1 D.TIi2 hTI)
    · exact (sb.2 _ D.TOz).trans TO'
    · exact (di1 _ _ d1').at fun o q => (sb.2 _ D.zi1.symm).trans q
    · exact (di2 _ _ d2').at fun o q => (sb.2 _ D.zi2.symm).trans q
    · have hlt : c < s.heap.objs.size := by
        have e' : c = z ∨ c = TI ∨ c = TO ∨ c = i1 ∨ c = i2 := by simpa using hcm
        rcases e' with q | q | q | q | q
        · rw [q]; exact hzl
        · rw [q]; exact Heap.lt_size hTI
        · rw [q]; exact Heap.lt_size hTO
        · rw [q]; obtain ⟨_, e1, _⟩ := h1.live; exact Heap.lt_size e1
        · rw [q]; obtain ⟨_, e2, _⟩ := h2.live; exact Heap.lt_size e2
      rw [upd_ne (Nat.ne_of_lt hlt)]
      exact (hf c hcm).1
  done := by
    intro X hP hw hK hc i pins s σ H E I hf st hg
    subst hP hw hK
    obtain ⟨hz, hTI, ⟨x0, y0, hTO⟩, h1, h2⟩ := st
    obtain ⟨xs, ys, hq1, hq2, l1, l2, hend⟩ := hg
    obtain ⟨fp1, P1, S1, D1, d1, dv1, di1, dm1, df1⟩ := src_draw (A := X.A.in1) I hq1 r1 h1 (I.ok.hd hc)
    obtain ⟨fp2, P2, S2, D2, d2, dv2, di2, dm2, df2⟩ := src_draw (A := X.A.in1) I hq2 r2 h2 (I.ok.hd hc)
    exact wpAny_pyNext_zipD2_end (D.sep dm1 dm2 df1 df2) D1 D2 hz hTI hTO d1 d2 l1 l2 hend fun h' tk hk => ⟨rfl, I.turnedL (ch := [z, TI, TO, i1, i2]) (fun c o hb q =>
      hk c o (fun q' => hb (by simp [q'])) (fun q' => hb (by simp [q'])) (fun q' => hb (by simp [q'])) (fun q' => hb (by simp [q'])) q) hf⟩
  self := fun A i s Q E st h => wpAny_pyIter_zip st.1 h
def iZipU (K : PySem.W.Frag) (ta : TA) : TI := fun σ H R => ta σ H fun vs H1 => ∃ x y k1 k2 xs ys, vs = [x, y] ∧ SrcAt k1 K H1 x xs ∧ SrcAt k2 K H1 y ys ∧ R (ItZ k1 k2 K x y) H1
theorem pi_zipU {K : PySem.W.Frag} {X : Cx} {e e2 : Expr} {ta : TA} {p pos tpos : Pos} {elts : List Expr} {kk : Nat} (hg : Gl X "zip") (hm : X.mg "zip" = none) (ha : PA X [e, e2] ta) (hK : X.K = K := by rfl)
    (hs : starEach [e, e2] X.env = (false, eval e X.env) :: starEach [e2] X.env := by rfl) (hpl : (backTo pos (starEach [e2] X.env)).any (·.1) = false := by rfl) :
    PI X (.Tuple elts kk tpos) (.Call (.Name "zip" p) [e, e2] [] pos) (iZipU K ta) := by
  subst hK
  refine ⟨fun pins s σ H R I h => ?_⟩
  refine Call_ (ld_blt I hg hm PyProof.Rows.boot_zip (PyProof.Rows.callWith_type1 (thn (ha.run pos pins s σ H _ I h) fun us s1 ⟨vs, H1, I1, r1, q1⟩ => ?_) hs hpl))
  obtain ⟨x, y, k1, k2, xs, ys, ex, hq1, hq2, q⟩ := q1
  subst ex
  cases r1 with
  | @cons _ u _ _ r rr =>
    cases rr with
    | @cons _ u' _ _ r' rr =>
      cases rr
      obtain ⟨o1, Hb1, B1, hb1, mk1, lt1⟩ := src_begins I1 hq1 r
      obtain ⟨o2, Hb2, B2, hb2, mk2, lt2⟩ := src_begins I1 hq2 r'
      have fresh5 : ∀ c, c ∈ [s1.heap.objs.size + 4, s1.heap.objs.size + 2, s1.heap.objs.size + 3, s1.heap.objs.size, s1.heap.objs.size + 1] → FpOk X pins H1 c := fun c hcm => by
        have e' : c = s1.heap.objs.size + 4 ∨ c = s1.heap.objs.size + 2 ∨ c = s1.heap.objs.size + 3 ∨ c = s1.heap.objs.size ∨ c = s1.heap.objs.size + 1 := by simpa using hcm
        have hle : s1.heap.objs.size ≤ c := by omega
        exact I1.fpOk hle (I1.hok.fresh hle)
      refine zip_begins2 B1 B2 hb1 hb2 fun h' hz hTI hTO h1 h2 hsz hk => wpAny_pyIter_zip hz ?_
      have I2 : Inv X pins σ H1 { s1 with heap := h' } := I1.kept (t' := s1.toks) hk
      refine ⟨s1.heap.objs.size + 4, [s1.heap.objs.size + 4, s1.heap.objs.size + 2, s1.heap.objs.size + 3, s1.heap.objs.size, s1.heap.objs.size + 1], _, _, H1, rfl, I2, turn_zipU (k1 := k1) (k2 := k2) r r' ?_, ⟨hz, hTI, ⟨_, _, hTO⟩, mk1 _ _ (fun b e => nq (.inl (Nat.lt_of_lt_of_le (lt1 b e) (by omega)))) h1, mk2 _ _ (fun b e => nq (.inl (Nat.lt_of_lt_of_le (lt2 b e) (by omega)))) h2⟩, fresh5, q⟩
      exact ⟨nq (by omega), nq (by omega), nq (by omega), nq (by omega), nq (by omega), nq (by omega), nq (by omega), nq (by omega), nq (by omega), nq (by omega), fun b e => ⟨nq (.inl (Nat.lt_of_lt_of_le (lt1 b e) (by omega))), nq (.inl (Nat.lt_of_lt_of_le (lt1 b e) (by omega))), nq (.inl (Nat.lt_of_lt_of_le (lt1 b e) (by omega))), nq (.inl (Nat.lt_of_lt_of_le (lt1 b e) (by omega))), nq (.inl (Nat.lt_of_lt_of_le (lt1 b e) (by omega)))⟩, fun b e => ⟨nq (.inl (Nat.lt_of_lt_of_le (lt2 b e) (by omega))), nq (.inl (Nat.lt_of_lt_of_le (lt2 b e) (by omega))), nq (.inl (Nat.lt_of_lt_of_le (lt2 b e) (by omega))), nq (.inl (Nat.lt_of_lt_of_le (lt2 b e) (by omega))), nq (.inl (Nat.lt_of_lt_of_le (lt2 b e) (by omega)))⟩⟩
/-! ### their walks -/
section
variable {K : PySem.W.Frag} {k k1 k2 : Sk} {x x1 x2 : V} {xs ys : List V}
theorem walk_enumU : Walk (ItE k K x) xs.length (fun H => SrcAt k K H x xs) (fun i H v H' => ∃ T y, v = .ref T ∧ H T = none ∧ H' = upd H T (.tup [.int (i : Nat), y]) ∧ xs[i]? = some y) :=
  ⟨fun i _ hi q => ⟨xs, xs[i], q, by simp [hi]⟩, fun _ q => ⟨xs, q, rfl⟩, fun _ _ _ _ _ q ⟨T, y, e, n, u, f⟩ => ⟨T, y, e, n, u, f xs q⟩⟩
theorem walk_zipU : Walk (ItZ k1 k2 K x1 x2) (min xs.length ys.length) (fun H => SrcAt k1 K H x1 xs ∧ SrcAt k2 K H x2 ys) (fun i H v H' => ∃ T y z, v = .ref T ∧ H T = none ∧ H' = upd H T (.tup [y, z]) ∧ xs[i]? = some y ∧ ys[i]? = some z) :=
  ⟨fun i _ hi q => ⟨xs, ys, xs[i]'(by omega), ys[i]'(by omega), q.1, q.2, by rw [List.getElem?_eq_getElem], by rw [List.getElem?_eq_getElem]⟩, fun _ q => ⟨xs, ys, q.1, q.2, by omega, by omega, by omega⟩, fun _ _ _ _ _ q ⟨T, y, z, e, n, u, f, f2⟩ => ⟨T, y, z, e, n, u, f xs q.1, f2 ys q.2⟩⟩
end
end L2

/-! ## G2: data, heaps that grow, steps -/
namespace L2
open PySem PySem.Spec PyProof.Rows

/-! ### heaps -/
def kindO : HO → Nat
  | .lst _ => 0
  | .tup _ => 1
  | .dK _ => 2
  | .dT _ => 3
  | .set _ _ => 4
  | .ins _ _ _ => 5
  | .own _ => 6
  | .xd _ => 7
  | .met _ _ => 8
  | .rng _ _ => 9
  | .frz _ _ => 10
  | .tbl _ => 11
  | .ext _ => 12
/-- H has become H'; at most the objects of S have changed, each of its kind -/
structure Ev (S : List Addr) (H H' : Hp) : Prop where
  keep : ∀ b o, H b = some o → b ∉ S → H' b = some o
  tups : ∀ b xs, H b = some (.tup xs) → H' b = some (.tup xs)
  frzs : ∀ b o u, H b = some (.frz o u) → H' b = some (.frz o u)
  kind : ∀ b o, H b = some o → ∃ o', H' b = some o' ∧ kindO o' = kindO o
section
variable {S S' : List Addr} {H H1 H2 : Hp} {p b : Addr} {o o' : HO}
theorem Ev.refl : Ev S H H := ⟨fun _ _ h _ => h, fun _ _ h => h, fun _ _ _ h => h, fun _ o h => ⟨o, h, rfl⟩⟩
theorem Ev.trans (a : Ev S H H1) (b : Ev S H1 H2) : Ev S H H2 :=
  ⟨fun c o h n => b.keep c o (a.keep c o h n) n, fun c xs h => b.tups c xs (a.tups c xs h), fun c o u h => b.frzs c o u (a.frzs c o u h), fun c o h => by
    obtain ⟨o1, h1, e1⟩ := a.kind c o h
    obtain ⟨o2, h2, e2⟩ := b.kind c o1 h1
    exact ⟨o2, h2, e2.trans e1⟩⟩
theorem Ev.mono (a : Ev S H H1) (h : ∀ x ∈ S, x ∈ S') : Ev S' H H1 := ⟨fun c o e n => a.keep c o e fun m => n (h c m), a.tups, a.frzs, a.kind⟩
theorem Ev.nil (a : Ev [] H H1) : Ev S H H1 := a.mono fun _ h => nomatch h
theorem Ev.new (h : H p = none) : Ev S H (upd H p o) :=
  ⟨fun c o e _ => by rw [upd_ne (ne_of_none e h)]; exact e, fun c xs e => by rw [upd_ne (ne_of_none e h)]; exact e, fun c _ _ e => by rw [upd_ne (ne_of_none e h)]; exact e, fun c o e => ⟨o, by rw [upd_ne (ne_of_none e h)]; exact e, rfl⟩⟩
theorem Ev.put (h : H p = some o) (k : kindO o' = kindO o) (n1 : kindO o ≠ 1) (n2 : kindO o ≠ 10) : Ev [p] H (upd H p o') where
  keep := fun c u e n => by rw [upd_ne (by simpa using n)]; exact e
  tups := fun c xs e => by
    have : c ≠ p := by
      rintro rfl
      rw [h] at e; cases e; exact n1 rfl
    rw [upd_ne this]; exact e
  frzs := fun c w u e => by
    have : c ≠ p := by
      rintro rfl
      rw [h] at e; cases e; exact n2 rfl
    rw [upd_ne this]; exact e
  kind := fun c u e => by
    by_cases q : c = p
    · subst q
      rw [h] at e; cases e
      exact ⟨_, upd_same, k⟩
    · exact ⟨u, by rw [upd_ne q]; exact e, rfl⟩
/-- what was not there at the beginning may change -/
theorem Ev.fresh (a : Ev S H H1) (n : H p = none) (b : Ev (p :: S) H1 H2) : Ev S H H2 :=
  ⟨fun c o e m => b.keep c o (a.keep c o e m) (by
    intro q
    rcases List.mem_cons.mp q with q | q
    · subst q; rw [n] at e; cases e
    · exact m q), fun c xs e => b.tups c xs (a.tups c xs e), fun c o u e => b.frzs c o u (a.frzs c o u e), fun c o h => by
    obtain ⟨o1, h1, e1⟩ := a.kind c o h
    obtain ⟨o2, h2, e2⟩ := b.kind c o1 h1
    exact ⟨o2, h2, e2.trans e1⟩⟩
theorem Ev.none (a : Ev S H H1) (h : H1 b = none) : H b = none := by
  cases q : H b with
  | none => rfl
  | some o =>
    obtain ⟨_, e, _⟩ := a.kind b o q
    rw [h] at e; cases e
theorem Ev.sqT {K : PySem.W.Frag} {a : Addr} {xs : List V} (e : Ev S H H1) (h : SqT K H a xs) : SqT K H1 a xs := by
  rcases h with (h | ⟨o, h⟩) | h
  · exact .inl (.inl (e.tups _ _ h))
  · exact .inl (.inr ⟨o, e.frzs _ _ _ h⟩)
  · exact .inr h
theorem Ev.sqL {K : PySem.W.Frag} {a : Addr} {xs : List V} (e : Ev S H H1) (h : SqL K H a xs) (n : a ∉ S) : SqL K H1 a xs := by
  rcases h with (h | ⟨o, h⟩) | h
  · exact .inl (.inl (e.keep _ _ h n))
  · exact .inl (.inr ⟨o, e.frzs _ _ _ h⟩)
  · exact .inr h
/-- a locked list -/
theorem Ev.sqLf {K : PySem.W.Frag} {a : Addr} {o : Obj} {xs : List V} (e : Ev S H H1) (h : H a = some (.frz o (.lst xs))) : SqL K H1 a xs := .inl (.inr ⟨o, e.frzs _ _ _ h⟩)
end

/-! ### data without lists and dicts; these are leaves -/
inductive Da where
  | non | bl (b : Bool) | int (i : Int) | str (s : Str) | tup (l : List Da) | lst | dct
def IsDct (H : Hp) (a : Addr) : Prop := ∃ o, H a = some o ∧ (kindO o = 2 ∨ kindO o = 3)
mutual
inductive Th (K : PySem.W.Frag) (H : Hp) : V → Da → Prop
  | non : Th K H .non .non
  | bl (b : Bool) : Th K H (.bl b) (.bl b)
  | int (i : Int) : Th K H (.int i) (.int i)
  | str (x : Str) : Th K H (.str x) (.str x)
  | tup {a : Addr} {xs : List V} {ds : List Da} : SqT K H a xs → ThAll K H xs ds → Th K H (.ref a) (.tup ds)
  | lst {a : Addr} {o : HO} : H a = some o → kindO o = 0 → Th K H (.ref a) .lst
  | dct {a : Addr} {o : HO} : H a = some o → (kindO o = 2 ∨ kindO o = 3) → Th K H (.ref a) .dct
inductive ThAll (K : PySem.W.Frag) (H : Hp) : List V → List Da → Prop
  | nil : ThAll K H [] []
  | cons {v : V} {vs : List V} {d : Da} {ds : List Da} : Th K H v d → ThAll K H vs ds → ThAll K H (v :: vs) (d :: ds)
end
section
variable {K : PySem.W.Frag} {S : List Addr} {H H1 : Hp} {v : V} {vs : List V} {d : Da} {ds : List Da}
mutual
theorem Th.ev (e : Ev S H H1) : ∀ (d : Da) (v : V), Th K H v d → Th K H1 v d
  | .non, _, h => by cases h; exact .non
  | .bl b, _, h => by cases h; exact .bl b
  | .int i, _, h => by cases h; exact .int i
  | .str x, _, h => by cases h; exact .str x
  | .tup ds, _, h => by
    cases h with
    | tup q r => exact .tup (e.sqT q) (ThAll.ev e ds _ r)
  | .lst, _, h => by
    cases h with
    | lst q r =>
      obtain ⟨o', q', k⟩ := e.kind _ _ q
      exact .lst q' (k.trans r)
  | .dct, _, h => by
    cases h with
    | dct q r =>
      obtain ⟨o', q', k⟩ := e.kind _ _ q
      exact .dct q' (by rw [k]; exact r)
theorem ThAll.ev (e : Ev S H H1) : ∀ (ds : List Da) (vs : List V), ThAll K H vs ds → ThAll K H1 vs ds
  | [], _, h => by cases h; exact .nil
  | d :: ds, _, h => by
    cases h with
    | cons p q => exact .cons (Th.ev e d _ p) (ThAll.ev e ds _ q)
end
theorem Ev.th (e : Ev S H H1) (h : Th K H v d) : Th K H1 v d := Th.ev e d v h
theorem Ev.thAll (e : Ev S H H1) (h : ThAll K H vs ds) : ThAll K H1 vs ds := ThAll.ev e ds vs h
theorem ThAll.length : ∀ {vs : List V} {ds : List Da}, ThAll K H vs ds → vs.length = ds.length
  | _, _, .nil => rfl
  | _, _, .cons _ q => congrArg (· + 1) q.length
theorem ThAll.get : ∀ {vs : List V} {ds : List Da} {i : Nat} {d : Da}, ThAll K H vs ds → ds[i]? = some d → ∃ v, vs[i]? = some v ∧ Th K H v d
  | _, _, i, d, .nil, e => by simp at e
  | _, _, 0, d, .cons p q, e => by simp at e; subst e; exact ⟨_, rfl, p⟩
  | _, _, i + 1, d, .cons p q, e => by
    obtain ⟨v, h1, h2⟩ := ThAll.get (i := i) q (by simpa using e)
    exact ⟨v, by simpa using h1, h2⟩
theorem ThAll.getV : ∀ {vs : List V} {ds : List Da} {i : Nat} {v : V}, ThAll K H vs ds → vs[i]? = some v → ∃ d, ds[i]? = some d ∧ Th K H v d
  | _, _, i, d, .nil, e => by simp at e
  | _, _, 0, d, .cons p q, e => by simp at e; subst e; exact ⟨_, rfl, p⟩
  | _, _, i + 1, d, .cons p q, e => by
    obtain ⟨v, h1, h2⟩ := ThAll.getV (i := i) q (by simpa using e)
    exact ⟨v, by simpa using h1, h2⟩
theorem ThAll.app : ∀ {vs ws : List V} {ds es : List Da}, ThAll K H vs ds → ThAll K H ws es → ThAll K H (vs ++ ws) (ds ++ es)
  | _, _, _, _, .nil, q => q
  | _, _, _, _, .cons p r, q => .cons p (r.app q)
theorem ThAll.ints : ∀ l : List Int, ThAll K H (l.map V.int) (l.map Da.int)
  | [] => .nil
  | i :: l => .cons (.int i) (ThAll.ints l)
theorem ThAll.strs : ∀ l : List Str, ThAll K H (l.map V.str) (l.map Da.str)
  | [] => .nil
  | i :: l => .cons (.str i) (ThAll.strs l)
/-- the type of a thing -/
def tyD : Da → String
  | .non => "NoneType"
  | .bl _ => "bool"
  | .int _ => "int"
  | .str _ => "str"
  | .tup _ => "tuple"
  | .lst => "list"
  | .dct => "dict"
theorem SqT.ty {a : Addr} {xs : List V} (h : SqT K H a xs) : TyX K H (.ref a) (.type "tuple") := by
  rcases h with (h | ⟨o, h⟩) | ⟨o, its, n, h, c, _⟩
  · exact .base (.tup h)
  · exact .fTuple h
  · exact .kTuple h c
theorem Th.ty (h : Th K H v d) : TyX K H v (.type (tyD d)) := by
  cases h with
  | non => exact .base .non
  | bl b => exact .base (.bl b)
  | int i => exact .base (.int i)
  | str x => exact .base (.str x)
  | tup q r => exact q.ty
  | @lst a o q r =>
    cases o <;> simp [kindO] at r
    exact .base (.lst q)
  | @dct a o q r =>
    cases o <;> simp [kindO] at r
    · exact .base (.dK q)
    · exact .base (.dT q)
end

/-! ### steps -/
section
variable {K : PySem.W.Frag} {σ : St} {H : Hp} {Q : VK} {ta tb tc te : TE} {t : TA} {r r' : R2} {n : St → Hp → Prop} {rt : VK} {bk ct : St → Hp → Prop} {i j : Int} {x y v : V} {s z : Str} {b : Bool} {D : Ends} {t1 t2 : TS} {c c2 : TT} {QB : Bool → Hp → Prop} {QA : List V → Hp → Prop} {g : TG}
theorem y_var {i : Nat} (h : σ[i]? = some (some v)) (q : Q v H) : tVar i σ H Q := ⟨v, h, q⟩
theorem y_c (q : Q v H) : tC v σ H Q := q
theorem y_op (q : ta σ H fun x H1 => tb σ H1 fun y H2 => r x y H2 Q) : tOp r ta tb σ H Q := q
theorem y_un {ru : V → Hp → VK → Prop} (q : ta σ H fun x H1 => ru x H1 Q) : tUn ru ta σ H Q := q
theorem y_neg (q : Q (.int (-i)) H) : rU (fun i => .int (-i)) (.int i) H Q := ⟨i, rfl, q⟩
theorem y_nil (q : QA [] H) : tNil σ H QA := q
theorem y_cons (q : ta σ H fun x H1 => t σ H1 fun xs H2 => QA (x :: xs) H2) : tCons ta t σ H QA := q
theorem y_cb {rr : List V → Hp → VK → Prop} (q : t σ H fun vs H1 => rr vs H1 Q) : tCB rr t σ H Q := q
theorem y_seq (q : t1 ⟨fun σ H => t2 ⟨n, rt, bk, ct⟩ σ H, rt, bk, ct⟩ σ H) : tSeq t1 t2 ⟨n, rt, bk, ct⟩ σ H := q
theorem y_seqM (mid : St → Hp → Prop) (h2 : ∀ σ H, mid σ H → t2 ⟨n, rt, bk, ct⟩ σ H) (h1 : ∀ N : St → Hp → Prop, (∀ σ H, mid σ H → N σ H) → t1 ⟨N, rt, bk, ct⟩ σ H) : tSeq t1 t2 ⟨n, rt, bk, ct⟩ σ H := h1 _ h2
theorem y_next (q : n σ H) : tNext ⟨n, rt, bk, ct⟩ σ H := q
theorem y_set {i : Nat} (q : te σ H fun x H1 => n (σ.set i (some x)) H1) : tAsg te (gName i) ⟨n, rt, bk, ct⟩ σ H := q
theorem y_asg (q : te σ H fun x H1 => g x σ H1 n) : tAsg te g ⟨n, rt, bk, ct⟩ σ H := q
theorem y_gname {i : Nat} {QG : St → Hp → Prop} (q : QG (σ.set i (some x)) H) : gName i x σ H QG := q
theorem y_gsub {to ti : TE} {ts : TSet} {QG : St → Hp → Prop} (q : to σ H fun o H1 => ti σ H1 fun i H2 => ts o i v H2 fun H3 => QG σ H3) : gSub to ti ts v σ H QG := q
theorem y_gtup {m : Nat} {tg : TGs} {QG : St → Hp → Prop} {a : Addr} {xs : List V} (h : SqT K H a xs) (l : xs.length = m) (q : tg xs σ H QG) : gTup K m tg (.ref a) σ H QG := ⟨a, xs, rfl, h, l, q⟩
theorem y_gcons {tg : TG} {u : TGs} {QG : St → Hp → Prop} {vs : List V} (q : tg v σ H fun σ' H' => u vs σ' H' QG) : gCons tg u (v :: vs) σ H QG := ⟨v, vs, rfl, q⟩
theorem y_gnil {QG : St → Hp → Prop} (q : QG σ H) : gNil [] σ H QG := ⟨rfl, q⟩
theorem y_drop (q : te σ H fun _ H1 => n σ H1) : tDrop te ⟨n, rt, bk, ct⟩ σ H := q
theorem y_ret (q : te σ H rt) : tRet te ⟨n, rt, bk, ct⟩ σ H := q
theorem y_retN (q : rt .non H) : tRetN ⟨n, rt, bk, ct⟩ σ H := q
theorem y_brk (q : bk σ H) : tBreak ⟨n, rt, bk, ct⟩ σ H := q
theorem y_cont (q : ct σ H) : tCont ⟨n, rt, bk, ct⟩ σ H := q
theorem y_if (q : c σ H fun b H1 => if b = true then t1 D σ H1 else t2 D σ H1) : tIfS c t1 t2 D σ H := q
theorem y_ifE (q : c σ H fun b H1 => if b = true then ta σ H1 Q else tb σ H1 Q) : tIf c ta tb σ H Q := q
theorem y_test (q : ta σ H fun x H1 => ∃ k, x = .bl k ∧ QB k H1) : tTest ta σ H QB := q
theorem y_tB (q : ta σ H fun x H1 => ∃ k, x = .bl k ∧ QB k H1) : tB ta σ H QB := q
theorem y_isbl (q : QB b H) : ∃ k, V.bl b = .bl k ∧ QB k H := ⟨b, rfl, q⟩
theorem y_not (q : c σ H fun k H1 => QB (!k) H1) : tNot c σ H QB := q
theorem y_notV (q : ta σ H fun x H1 => ∃ k, x = .bl k ∧ Q (.bl (!k)) H1) : tNotV ta σ H Q := q
theorem y_and (q : c σ H fun k H1 => if k = true then c2 σ H1 QB else QB false H1) : tAnd c c2 σ H QB := q
theorem y_or (q : c σ H fun k H1 => if k = true then QB true H1 else c2 σ H1 QB) : tOr c c2 σ H QB := q
theorem y_andV (q : ta σ H fun x H1 => ∃ k, x = .bl k ∧ if k = true then tb σ H1 Q else Q (.bl false) H1) : tAndV ta tb σ H Q := q
theorem y_orV (q : ta σ H fun x H1 => ∃ k, x = .bl k ∧ if k = true then Q (.bl true) H1 else tb σ H1 Q) : tOrV ta tb σ H Q := q
theorem y_isblP {P : Bool → Prop} (q : P b) : ∃ k, V.bl b = .bl k ∧ P k := ⟨b, rfl, q⟩
theorem y_chain (q : ta σ H fun x H1 => tb σ H1 fun y H2 => r x y H2 fun z H3 => ∃ k, z = .bl k ∧ if k = true then tc σ H3 fun u H4 => r' y u H4 Q else Q (.bl false) H3) : tChain r r' ta tb tc σ H Q := q
theorem y_iteT {A B : Prop} (h : b = true) (q : A) : if b = true then A else B := by rw [if_pos h]; exact q
theorem y_iteF {A B : Prop} (h : b = false) (q : B) : if b = true then A else B := by rw [if_neg (by rw [h]; decide)]; exact q
theorem y_ite {A B : Prop} (p : b = true → A) (q : b = false → B) : if b = true then A else B := by
  cases b with
  | true => rw [if_pos rfl]; exact p rfl
  | false => rw [if_neg (by decide)]; exact q rfl
/-! operators by their values -/
theorem y_addI (q : Q (.int (i + j)) H) : rAddU K (.int i) (.int j) H Q := .inl ⟨i, j, rfl, rfl, q⟩
theorem y_addS (h : s.length + z.length ≤ sizeLine) (q : Q (.str (s ++ z)) H) : rAddU K (.str s) (.str z) H Q := .inr (.inl ⟨s, z, rfl, rfl, h, q⟩)
theorem y_subI (q : Q (.int (i - j)) H) : rI0 (fun i j => .int (i - j)) (.int i) (.int j) H Q := ⟨i, j, rfl, rfl, q⟩
theorem y_mulI (h : CMul i j) (q : Q (.int (i * j)) H) : rMulU (.int i) (.int j) H Q := .inl ⟨i, j, rfl, rfl, h, q⟩
theorem y_modI (h : 0 < j) (q : Q (.int (i % j)) H) : rModU (.int i) (.int j) H Q := .inl ⟨i, j, rfl, rfl, h, q⟩
theorem y_fdivI (h : CDiv i j) (q : Q (.int (i / j)) H) : rFdivU (.int i) (.int j) H Q := .inl ⟨i, j, rfl, rfl, h, q⟩
theorem y_powI (h : CPow i j) (q : Q (.int (i ^ j.toNat)) H) : rI CPow (fun i j => .int (i ^ j.toNat)) (.int i) (.int j) H Q := ⟨i, j, rfl, rfl, h, q⟩
theorem y_ltI (q : Q (.bl (decide (i < j))) H) : rLtU (.int i) (.int j) H Q := .inl ⟨i, j, rfl, rfl, q⟩
theorem y_leI (q : Q (.bl (decide (i ≤ j))) H) : rLeU (.int i) (.int j) H Q := .inl ⟨i, j, rfl, rfl, q⟩
theorem y_gtI (q : Q (.bl (decide (j < i))) H) : rGtU (.int i) (.int j) H Q := .inl ⟨i, j, rfl, rfl, q⟩
theorem y_geI (q : Q (.bl (decide (j ≤ i))) H) : rGeU (.int i) (.int j) H Q := .inl ⟨i, j, rfl, rfl, q⟩
theorem y_ltS (q : Q (.bl (decide (s.cps.toList < z.cps.toList))) H) : rLtU (.str s) (.str z) H Q := .inr ⟨s, z, rfl, rfl, q⟩
theorem y_geS (q : Q (.bl (!decide (s.cps.toList < z.cps.toList))) H) : rGeU (.str s) (.str z) H Q := .inr ⟨s, z, rfl, rfl, q⟩
theorem y_eqI (q : Q (.bl (decide (i = j))) H) : rEqU K (.int i) (.int j) H Q := .inl ⟨rfl, by
  have e : decide (V.int i = V.int j) = decide (i = j) := by simp
  rw [e]; exact q⟩
theorem y_neI (q : Q (.bl (!decide (i = j))) H) : rNeU K (.int i) (.int j) H Q := .inl ⟨rfl, by
  have e : decide (V.int i = V.int j) = decide (i = j) := by simp
  rw [e]; exact q⟩
theorem y_eqS (q : Q (.bl (decide (s = z))) H) : rEqU K (.str s) (.str z) H Q := .inl ⟨rfl, by
  have e : decide (V.str s = V.str z) = decide (s = z) := by simp
  rw [e]; exact q⟩
theorem y_neS (q : Q (.bl (!decide (s = z))) H) : rNeU K (.str s) (.str z) H Q := .inl ⟨rfl, by
  have e : decide (V.str s = V.str z) = decide (s = z) := by simp
  rw [e]; exact q⟩
theorem y_inS {c : Nat} (q : Q (.bl (decide (c ∈ z.cps.toList))) H) : rInU K false (.str ⟨#[c]⟩) (.str z) H Q := .inl ⟨c, z, rfl, rfl, q⟩
theorem y_notInS {c : Nat} (q : Q (.bl (!decide (c ∈ z.cps.toList))) H) : rInU K true (.str ⟨#[c]⟩) (.str z) H Q := .inl ⟨c, z, rfl, rfl, q⟩
/-! built-ins -/
theorem y_lenS (h : s.length ≤ sizeLine) (q : Q (.int s.length) H) : rLenU K [.str s] H Q := .inl ⟨_, _, rfl, ⟨h, rfl⟩, q⟩
theorem y_lenL {a : Addr} {xs : List V} (h : SqL K H a xs) (q : Q (.int xs.length) H) : rLenU K [.ref a] H Q := .inl ⟨_, _, rfl, .inl ⟨xs, h, rfl⟩, q⟩
theorem y_lenT {a : Addr} {xs : List V} (h : SqT K H a xs) (q : Q (.int xs.length) H) : rLenU K [.ref a] H Q := .inl ⟨_, _, rfl, .inr ⟨xs, h, rfl⟩, q⟩
theorem y_intI (q : Q (.int i) H) : rIntU [.int i] H Q := .inl ⟨i, rfl, q⟩
theorem y_abs (q : Q (.int (if i < 0 then -i else i)) H) : rAbsU [.int i] H Q := ⟨i, rfl, q⟩
theorem y_isi {d : Da} {T : String} {k : Bool} (h : Th K H v d) (e : kitB (tyD d) T = some k) (q : Q (.bl k) H) : rIsiU K [v, .ty T] H Q := .inl ⟨v, .ty T, _, _, k, rfl, .ty T, h.ty, kit_ty e, q⟩
/-! subscripts -/
theorem y_ixL {a : Addr} {xs : List V} (h : SqL K H a xs) (e : atI xs i = some v) (q : Q v H) : rIxU K (.ref a) (.int i) H Q := .inl (.inl ⟨a, xs, i, v, rfl, rfl, h, e, q⟩)
theorem y_ixT {a : Addr} {xs : List V} (h : SqT K H a xs) (e : atI xs i = some v) (q : Q v H) : rIxU K (.ref a) (.int i) H Q := .inl (.inr (.inl ⟨a, xs, i, v, rfl, rfl, h, e, q⟩))
theorem y_ixS {c : Nat} (h : s.length ≤ sizeLine) (e : atI s.cps.toList i = some c) (q : Q (.str ⟨#[c]⟩) H) : rIxU K (.str s) (.int i) H Q := .inl (.inr (.inr ⟨s, i, c, rfl, rfl, h, e, q⟩))
theorem y_setL {a : Addr} {xs : List V} {k : Nat} {QG : Hp → Prop} (h : H a = some (.lst xs)) (e : ixN xs.length i = some k) (q : QG (upd H a (.lst (xs.set k v)))) : rSetU (.ref a) (.int i) v H QG := .inl ⟨a, xs, i, k, rfl, rfl, h, e, q⟩
/-! made things: the heap behind is told by what is known of it -/
theorem y_tup {xs : List V} (l : xs.length ≤ sizeLine) (q : ∀ p H', H p = none → H' p = some (.tup xs) → Ev [] H H' → Q (.ref p) H') : xs.length ≤ sizeLine ∧ ∀ p, H p = none → Q (.ref p) (upd H p (.tup xs)) := ⟨l, fun p h => q p _ h upd_same (Ev.new h)⟩
theorem y_new {o : HO} {P : V → Hp → Prop} (q : ∀ p H', H p = none → H' p = some o → Ev [] H H' → P (.ref p) H') : ∀ p, H p = none → P (.ref p) (upd H p o) := fun p h => q p _ h upd_same (Ev.new h)
end
end L2

/-! ## G3: loops and comprehensions, what a value is -/
namespace L2
open PySem PySem.Spec PyProof.Rows
def dInt : Da → Bool
  | .int _ => true
  | .bl _ => true
  | _ => false
def dBl : Da → Bool
  | .bl _ => true
  | _ => false
def dStr : Da → Bool
  | .str _ => true
  | _ => false
def dTup : Da → Bool
  | .tup _ => true
  | _ => false
def dLst : Da → Bool
  | .lst => true
  | _ => false
def dDct : Da → Bool
  | .dct => true
  | _ => false
theorem kit_int : ∀ d : Da, kitB (tyD d) "int" = some (dInt d)
  | .non => (by decide +kernel : kitB "NoneType" "int" = some false)
  | .bl b => (by decide +kernel : kitB "bool" "int" = some true)
  | .int i => (by decide +kernel : kitB "int" "int" = some true)
  | .str x => (by decide +kernel : kitB "str" "int" = some false)
  | .tup l => (by decide +kernel : kitB "tuple" "int" = some false)
  | .lst => (by decide +kernel : kitB "list" "int" = some false)
  | .dct => (by decide +kernel : kitB "dict" "int" = some false)
theorem kit_bl : ∀ d : Da, kitB (tyD d) "bool" = some (dBl d)
  | .non => (by decide +kernel : kitB "NoneType" "bool" = some false)
  | .bl b => (by decide +kernel : kitB "bool" "bool" = some true)
  | .int i => (by decide +kernel : kitB "int" "bool" = some false)
  | .str x => (by decide +kernel : kitB "str" "bool" = some false)
  | .tup l => (by decide +kernel : kitB "tuple" "bool" = some false)
  | .lst => (by decide +kernel : kitB "list" "bool" = some false)
  | .dct => (by decide +kernel : kitB "dict" "bool" = some false)
theorem kit_str : ∀ d : Da, kitB (tyD d) "str" = some (dStr d)
  | .non => (by decide +kernel : kitB "NoneType" "str" = some false)
  | .bl b => (by decide +kernel : kitB "bool" "str" = some false)
  | .int i => (by decide +kernel : kitB "int" "str" = some false)
  | .str x => (by decide +kernel : kitB "str" "str" = some true)
  | .tup l => (by decide +kernel : kitB "tuple" "str" = some false)
  | .lst => (by decide +kernel : kitB "list" "str" = some false)
  | .dct => (by decide +kernel : kitB "dict" "str" = some false)
theorem kit_tup : ∀ d : Da, kitB (tyD d) "tuple" = some (dTup d)
  | .non => (by decide +kernel : kitB "NoneType" "tuple" = some false)
  | .bl b => (by decide +kernel : kitB "bool" "tuple" = some false)
  | .int i => (by decide +kernel : kitB "int" "tuple" = some false)
  | .str x => (by decide +kernel : kitB "str" "tuple" = some false)
  | .tup l => (by decide +kernel : kitB "tuple" "tuple" = some true)
  | .lst => (by decide +kernel : kitB "list" "tuple" = some false)
  | .dct => (by decide +kernel : kitB "dict" "tuple" = some false)
theorem kit_lst : ∀ d : Da, kitB (tyD d) "list" = some (dLst d)
  | .non => (by decide +kernel : kitB "NoneType" "list" = some false)
  | .bl b => (by decide +kernel : kitB "bool" "list" = some false)
  | .int i => (by decide +kernel : kitB "int" "list" = some false)
  | .str x => (by decide +kernel : kitB "str" "list" = some false)
  | .tup l => (by decide +kernel : kitB "tuple" "list" = some false)
  | .lst => (by decide +kernel : kitB "list" "list" = some true)
  | .dct => (by decide +kernel : kitB "dict" "list" = some false)
theorem kit_dct : ∀ d : Da, kitB (tyD d) "dict" = some (dDct d)
  | .non => (by decide +kernel : kitB "NoneType" "dict" = some false)
  | .bl b => (by decide +kernel : kitB "bool" "dict" = some false)
  | .int i => (by decide +kernel : kitB "int" "dict" = some false)
  | .str x => (by decide +kernel : kitB "str" "dict" = some false)
  | .tup l => (by decide +kernel : kitB "tuple" "dict" = some false)
  | .lst => (by decide +kernel : kitB "list" "dict" = some false)
  | .dct => (by decide +kernel : kitB "dict" "dict" = some true)
section
variable {K : PySem.W.Frag} {H : Hp} {Q : VK} {v : V} {d : Da}
theorem y_isiI (h : Th K H v d) (q : Q (.bl (dInt d)) H) : rIsiU K [v, .ty "int"] H Q := y_isi h (kit_int d) q
theorem y_isiB (h : Th K H v d) (q : Q (.bl (dBl d)) H) : rIsiU K [v, .ty "bool"] H Q := y_isi h (kit_bl d) q
theorem y_isiS (h : Th K H v d) (q : Q (.bl (dStr d)) H) : rIsiU K [v, .ty "str"] H Q := y_isi h (kit_str d) q
theorem y_isiT (h : Th K H v d) (q : Q (.bl (dTup d)) H) : rIsiU K [v, .ty "tuple"] H Q := y_isi h (kit_tup d) q
theorem y_isiL (h : Th K H v d) (q : Q (.bl (dLst d)) H) : rIsiU K [v, .ty "list"] H Q := y_isi h (kit_lst d) q
theorem y_isiD (h : Th K H v d) (q : Q (.bl (dDct d)) H) : rIsiU K [v, .ty "dict"] H Q := y_isi h (kit_dct d) q
end
section
variable {K : PySem.W.Frag} {σ : St} {H H1 : Hp} {Q : VK} {te t1 t2 : TE} {n : St → Hp → Prop} {rt : VK} {bk ct : St → Hp → Prop} {g : TG} {tb : TS} {a : Addr} {xs : List V}
/-- the loop, its source's value known -/
def ForU (K : PySem.W.Frag) (g : TG) (tb : TS) (D : Ends) (σ : St) (v : V) (H1 : Hp) : Prop := tFor (iU K (tC v)) g tb D σ H1
theorem y_for (q : te σ H fun v H1 => ForU K g tb ⟨n, rt, bk, ct⟩ σ v H1) : tFor (iU K te) g tb ⟨n, rt, bk, ct⟩ σ H := q
def ForR (g : TG) (tb : TS) (D : Ends) (σ : St) (v : V) (H1 : Hp) : Prop := tFor (iRng1 (tCons (tC v) tNil)) g tb D σ H1
theorem y_forr (q : te σ H fun v H1 => ForR g tb ⟨n, rt, bk, ct⟩ σ v H1) : tFor (iRng1 (tCons te tNil)) g tb ⟨n, rt, bk, ct⟩ σ H := q
def ForR2 (g : TG) (tb : TS) (D : Ends) (σ : St) (v u : V) (H1 : Hp) : Prop := tFor (iRng2 (tCons (tC v) (tCons (tC u) tNil))) g tb D σ H1
theorem y_forr2 (q : t1 σ H fun v H1 => t2 σ H1 fun u H2 => ForR2 g tb ⟨n, rt, bk, ct⟩ σ v u H2) : tFor (iRng2 (tCons t1 (tCons t2 tNil))) g tb ⟨n, rt, bk, ct⟩ σ H := q
theorem y_forS {s : Str} (Pv : Nat → St → Hp → Prop) (h0 : Pv 0 σ H)
    (hs : ∀ (i : Nat) (c : Nat) (σ : St) (H : Hp), s.cps[i]? = some c → Pv i σ H → g (.str ⟨#[c]⟩) σ H fun σ2 H2 => tb ⟨Pv (i + 1), rt, n, Pv (i + 1)⟩ σ2 H2) (hd : ∀ σ H, Pv s.cps.size σ H → n σ H) : ForU K g tb ⟨n, rt, bk, ct⟩ σ (.str s) H := by
  refine .inr (.inr ⟨s, rfl, ?_⟩)
  refine for_it walk_str Pv h0 (fun _ _ _ _ _ => trivial) (fun i x σ H H' hi p y => ?_) hd
  obtain ⟨rfl, c, hc, rfl⟩ := y
  exact hs i c σ _ hc p
theorem y_forL (xs : List V) (hx : SqL K H a xs) (Pv : Nat → St → Hp → Prop) (h0 : Pv 0 σ H) (hl : ∀ i σ H, i ≤ xs.length → Pv i σ H → SqL K H a xs)
    (hs : ∀ (i : Nat) (x : V) (σ : St) (H : Hp), xs[i]? = some x → Pv i σ H → g x σ H fun σ2 H2 => tb ⟨Pv (i + 1), rt, n, Pv (i + 1)⟩ σ2 H2) (hd : ∀ σ H, Pv xs.length σ H → n σ H) : ForU K g tb ⟨n, rt, bk, ct⟩ σ (.ref a) H := by
  refine .inl ⟨a, rfl, ⟨xs, hx⟩, ?_⟩
  exact for_list Pv h0 hl hs hd
theorem y_forT (xs : List V) (hx : SqT K H a xs) (Pv : Nat → St → Hp → Prop) (h0 : Pv 0 σ H) (hl : ∀ i σ H, i ≤ xs.length → Pv i σ H → SqT K H a xs)
    (hs : ∀ (i : Nat) (x : V) (σ : St) (H : Hp), xs[i]? = some x → Pv i σ H → g x σ H fun σ2 H2 => tb ⟨Pv (i + 1), rt, n, Pv (i + 1)⟩ σ2 H2) (hd : ∀ σ H, Pv xs.length σ H → n σ H) : ForU K g tb ⟨n, rt, bk, ct⟩ σ (.ref a) H := by
  refine .inr (.inl ⟨a, rfl, ⟨xs, hx⟩, ?_⟩)
  exact for_tup Pv h0 hl hs hd
theorem y_forR {m : Int} (hm : -(2 ^ 62) ≤ m ∧ m < 2 ^ 62) (Pv : Nat → St → Hp → Prop) (h0 : Pv 0 σ H)
    (hs : ∀ (i : Nat) (σ : St) (H : Hp), (i : Int) < m → Pv i σ H → g (.int i) σ H fun σ2 H2 => tb ⟨Pv (i + 1), rt, n, Pv (i + 1)⟩ σ2 H2) (hd : ∀ σ H, Pv m.toNat σ H → n σ H) : ForR g tb ⟨n, rt, bk, ct⟩ σ (.int m) H := by
  refine ⟨m, rfl, hm.1, hm.2, ?_⟩
  refine for_range Pv h0 (fun i σ H hi p => ?_) hd
  have e : (0 : Int) + (i : Int) = i := Int.zero_add _
  rw [e]
  exact hs i σ H (by omega) p
theorem y_forR2 {lo hi : Int} (hm : -(2 ^ 62) ≤ lo ∧ lo < 2 ^ 62 ∧ -(2 ^ 62) ≤ hi ∧ hi < 2 ^ 62) (Pv : Nat → St → Hp → Prop) (h0 : Pv 0 σ H)
    (hs : ∀ (i : Nat) (σ : St) (H : Hp), lo + (i : Int) < hi → Pv i σ H → g (.int (lo + i)) σ H fun σ2 H2 => tb ⟨Pv (i + 1), rt, n, Pv (i + 1)⟩ σ2 H2) (hd : ∀ σ H, Pv (hi - lo).toNat σ H → n σ H) : ForR2 g tb ⟨n, rt, bk, ct⟩ σ (.int lo) (.int hi) H := by
  refine ⟨lo, hi, rfl, hm, ?_⟩
  exact for_range Pv h0 (fun i σ H hi p => hs i σ H (by omega) p) hd
end

/-! ### comprehensions -/
section
variable {K : PySem.W.Frag} {σ : St} {H H1 : Hp} {Q : VK} {te t0 t1 t2 : TE} {g : TG} {a : Addr} {xs : List V} {vs : List Nat} {J : It} {n : Nat} {G : Hp → Prop} {Y : Nat → Hp → V → Hp → Prop}
theorem lc_go (w : Walk J n G Y) (S : List Addr) (hS : ∀ s ∈ S, H1 s ≠ none) (Iv : Nat → List V → Hp → Prop) (hz : n ≤ sizeLine)
    (h0 : ∀ Hc, Ev [] H1 Hc → Iv 0 [] Hc) (hG : ∀ i acc Hc, i ≤ n → Ev S H1 Hc → Iv i acc Hc → G Hc)
    (hs : ∀ (i : Nat) (x : V) (acc : List V) (D : Addr) (Hc H' : Hp) (Qt : VK), i < n → H1 D = none → Ev S H1 Hc → acc.length = i → Iv i acc Hc → Y i Hc x H' →
      (∀ y H4, Ev S Hc H4 → (∀ H5, Ev [D] H4 H5 → Iv (i + 1) (acc ++ [y]) H5) → Qt y H4) → g x (wipe σ vs) H' fun σ2 H2 => wipe σ2 vs = wipe σ vs ∧ te σ2 H2 Qt)
    (hd : ∀ (D : Addr) (Hn : Hp) (acc : List V), H1 D = none → Ev S H1 Hn → Hn D = some (.lst acc) → acc.length = n → Iv n acc Hn → Q (.ref D) Hn) :
    ∀ D, H1 D = none → ∃ W : Nat → Nat → Hp → Prop, (∃ m, W 0 m (upd H1 D (.lst []))) ∧ ∀ i m H, W i m H →
      (J.stop i H ∧ Q (.ref D) H) ∨ (J.go i H ∧ ∃ Nx : Hp → Prop, (∀ H', Nx H' → ∃ m', m' < m ∧ W (i + 1) m' H') ∧ ∀ x H', J.yld i H x H' → g x (wipe σ vs) H' fun σ2 H2 => wipe σ2 vs = wipe σ vs ∧ tYes σ2 H2 fun b H3 =>
        if b = true then te σ2 H3 fun y H4 => ∃ acc, H4 D = some (.lst acc) ∧ acc.length < sizeLine ∧ Nx (upd H4 D (.lst (acc ++ [y]))) else Nx H3) := by
  intro D hD
  have nD : D ∉ S := fun m => hS D m hD
  refine lc_it (tt := tYes) (Qd := fun H => Q (.ref D) H) w (fun i Hc => Ev S H1 Hc ∧ ∃ acc, Hc D = some (.lst acc) ∧ acc.length = i ∧ Iv i acc Hc) ⟨(Ev.new hD), [], upd_same, rfl, h0 _ (Ev.new hD)⟩ (fun i Hc hi ⟨e, acc, _, _, iv⟩ => hG i acc Hc hi e iv) (fun i x Hc H' hi p y => ?_) (fun Hn p => ?_)
  · obtain ⟨e, acc, hDc, hl, iv⟩ := p
    refine hs i x acc D Hc H' (fun y H4 => ∃ acc, H4 D = some (.lst acc) ∧ acc.length < sizeLine ∧ _) hi hD e hl iv y fun y H4 e4 k => ?_
    have hD4 := e4.keep D _ hDc nD
    have e5 : Ev [D] H4 (upd H4 D (.lst (acc ++ [y]))) := Ev.put hD4 rfl (by simp [kindO]) (by simp [kindO])
    refine ⟨acc, hD4, by omega, ?_, acc ++ [y], upd_same, by simp [hl], k _ e5⟩
    exact (e.trans e4).fresh hD (e5.mono fun x hx => by simp at hx; subst hx; exact List.mem_cons_self)
  · obtain ⟨e, acc, hDc, hl, iv⟩ := p
    exact hd D Hn acc hD e hDc hl iv
/-- the comprehension, its source's value known -/
def LcU (K : PySem.W.Frag) (g : TG) (te : TE) (vs : List Nat) (σ : St) (v : V) (H1 : Hp) (Q : VK) : Prop := tLc (iU K (tC v)) g tYes te vs σ H1 Q
theorem y_lc (q : t0 σ H fun v H1 => LcU K g te vs σ v H1 Q) : tLc (iU K t0) g tYes te vs σ H Q := q
def LcR (g : TG) (te : TE) (vs : List Nat) (σ : St) (v : V) (H1 : Hp) (Q : VK) : Prop := tLc (iRng1 (tCons (tC v) tNil)) g tYes te vs σ H1 Q
theorem y_lcr (q : t0 σ H fun v H1 => LcR g te vs σ v H1 Q) : tLc (iRng1 (tCons t0 tNil)) g tYes te vs σ H Q := q
theorem y_lcL (xs : List V) (hx : SqL K H1 a xs) (S : List Addr) (hS : ∀ s ∈ S, H1 s ≠ none) (na : ∀ Hc, Ev S H1 Hc → SqL K Hc a xs) (Iv : Nat → List V → Hp → Prop) (hz : xs.length ≤ sizeLine)
    (h0 : ∀ Hc, Ev [] H1 Hc → Iv 0 [] Hc)
    (hs : ∀ (i : Nat) (x : V) (acc : List V) (D : Addr) (Hc : Hp) (Qt : VK), xs[i]? = some x → H1 D = none → Ev S H1 Hc → acc.length = i → Iv i acc Hc →
      (∀ y H4, Ev S Hc H4 → (∀ H5, Ev [D] H4 H5 → Iv (i + 1) (acc ++ [y]) H5) → Qt y H4) → g x (wipe σ vs) Hc fun σ2 H2 => wipe σ2 vs = wipe σ vs ∧ te σ2 H2 Qt)
    (hd : ∀ (D : Addr) (Hn : Hp) (acc : List V), H1 D = none → Ev S H1 Hn → Hn D = some (.lst acc) → acc.length = xs.length → Iv xs.length acc Hn → Q (.ref D) Hn) : LcU K g te vs σ (.ref a) H1 Q := by
  refine .inl ⟨a, rfl, ⟨xs, hx⟩, ?_⟩
  refine lc_go walk_list S hS Iv hz h0 (fun i acc Hc hi e iv => na Hc e) (fun i x acc D Hc H' Qt hi hD e hl iv y k => ?_) hd
  obtain ⟨rfl, ex⟩ := y
  exact hs i x acc D _ Qt ex hD e hl iv k
theorem y_lcT (xs : List V) (hx : SqT K H1 a xs) (S : List Addr) (hS : ∀ s ∈ S, H1 s ≠ none) (Iv : Nat → List V → Hp → Prop) (hz : xs.length ≤ sizeLine)
    (h0 : ∀ Hc, Ev [] H1 Hc → Iv 0 [] Hc)
    (hs : ∀ (i : Nat) (x : V) (acc : List V) (D : Addr) (Hc : Hp) (Qt : VK), xs[i]? = some x → H1 D = none → Ev S H1 Hc → acc.length = i → Iv i acc Hc →
      (∀ y H4, Ev S Hc H4 → (∀ H5, Ev [D] H4 H5 → Iv (i + 1) (acc ++ [y]) H5) → Qt y H4) → g x (wipe σ vs) Hc fun σ2 H2 => wipe σ2 vs = wipe σ vs ∧ te σ2 H2 Qt)
    (hd : ∀ (D : Addr) (Hn : Hp) (acc : List V), H1 D = none → Ev S H1 Hn → Hn D = some (.lst acc) → acc.length = xs.length → Iv xs.length acc Hn → Q (.ref D) Hn) : LcU K g te vs σ (.ref a) H1 Q := by
  refine .inr (.inl ⟨a, rfl, ⟨xs, hx⟩, ?_⟩)
  refine lc_go walk_tup S hS Iv hz h0 (fun i acc Hc hi e iv => e.sqT hx) (fun i x acc D Hc H' Qt hi hD e hl iv y k => ?_) hd
  obtain ⟨rfl, ex⟩ := y
  exact hs i x acc D _ Qt ex hD e hl iv k
theorem y_lcS {s : Str} (S : List Addr) (hS : ∀ s ∈ S, H1 s ≠ none) (Iv : Nat → List V → Hp → Prop) (hz : s.cps.size ≤ sizeLine)
    (h0 : ∀ Hc, Ev [] H1 Hc → Iv 0 [] Hc)
    (hs : ∀ (i : Nat) (c : Nat) (acc : List V) (D : Addr) (Hc : Hp) (Qt : VK), s.cps[i]? = some c → H1 D = none → Ev S H1 Hc → acc.length = i → Iv i acc Hc →
      (∀ y H4, Ev S Hc H4 → (∀ H5, Ev [D] H4 H5 → Iv (i + 1) (acc ++ [y]) H5) → Qt y H4) → g (.str ⟨#[c]⟩) (wipe σ vs) Hc fun σ2 H2 => wipe σ2 vs = wipe σ vs ∧ te σ2 H2 Qt)
    (hd : ∀ (D : Addr) (Hn : Hp) (acc : List V), H1 D = none → Ev S H1 Hn → Hn D = some (.lst acc) → acc.length = s.cps.size → Iv s.cps.size acc Hn → Q (.ref D) Hn) : LcU K g te vs σ (.str s) H1 Q := by
  refine .inr (.inr ⟨s, rfl, ?_⟩)
  refine lc_go walk_str S hS Iv hz h0 (fun _ _ _ _ _ _ => trivial) (fun i x acc D Hc H' Qt hi hD e hl iv y k => ?_) hd
  obtain ⟨rfl, c, ec, rfl⟩ := y
  exact hs i c acc D _ Qt ec hD e hl iv k
theorem y_lcR {m : Int} (hm : 0 ≤ m ∧ m ≤ 10000) (S : List Addr) (hS : ∀ s ∈ S, H1 s ≠ none) (Iv : Nat → List V → Hp → Prop)
    (h0 : ∀ Hc, Ev [] H1 Hc → Iv 0 [] Hc)
    (hs : ∀ (i : Nat) (acc : List V) (D : Addr) (Hc : Hp) (Qt : VK), (i : Int) < m → H1 D = none → Ev S H1 Hc → acc.length = i → Iv i acc Hc →
      (∀ y H4, Ev S Hc H4 → (∀ H5, Ev [D] H4 H5 → Iv (i + 1) (acc ++ [y]) H5) → Qt y H4) → g (.int i) (wipe σ vs) Hc fun σ2 H2 => wipe σ2 vs = wipe σ vs ∧ te σ2 H2 Qt)
    (hd : ∀ (D : Addr) (Hn : Hp) (acc : List V), H1 D = none → Ev S H1 Hn → Hn D = some (.lst acc) → (acc.length : Int) = m → Iv m.toNat acc Hn → Q (.ref D) Hn) : LcR g te vs σ (.int m) H1 Q := by
  refine ⟨m, rfl, by omega, by omega, ?_⟩
  refine lc_go walk_range S hS Iv (by rw [sizeLine_eq]; omega) h0 (fun _ _ _ _ _ _ => trivial) (fun i x acc D Hc H' Qt hi hD e hl iv y k => ?_) (fun D Hn acc h1 h2 h3 h4 h5 => hd D Hn acc h1 h2 h3 (by omega) h5)
  obtain ⟨rfl, rfl⟩ := y
  have e0 : (0 : Int) + (i : Int) = i := Int.zero_add _
  show g (.int ((0 : Int) + (i : Int))) (wipe σ vs) _ _
  rw [e0]
  exact hs i acc D _ Qt (by omega) hD e hl iv k
end
/-! ### comprehensions, their places given -/
section
variable {X : Cx}
theorem pe_lcU {elt tg iter : Expr} {ifs : List Expr} {scope : Scope} {own : List (Str × Nat)} {vs : List Nat} {pos : Pos} {wi : TI} {g : TG} {tt : TT} {te : TE} (hv : own.map (·.2) = vs) (hc : X.calm = true) (hN : X.N.Nodup) (hi : PI X tg iter wi) (ok : BlkOk X.N X.env.scope scope own)
    (hg : ∀ (s : Shared) (H : Hp) (C : Addr) (cl : List (Str × Addr)) (fp : List Addr), PG (X.blk s H scope (compEnvC scope cl C X.env) fp) tg g) (ht : ∀ (s : Shared) (H : Hp) (C : Addr) (cl : List (Str × Addr)) (fp : List Addr), PTs (X.blk s H scope (compEnvC scope cl C X.env) fp) ifs tt)
    (he : ∀ (s : Shared) (H : Hp) (C : Addr) (cl : List (Str × Addr)) (fp : List Addr), PE (X.blk s H scope (compEnvC scope cl C X.env) fp) elt te) (hs : ∀ x, foldedSetIterable iter X.env x = pure x := by intro _; rfl) :
    PE X (.ListComp elt [⟨tg, iter, ifs, 0⟩] scope pos) (tLc wi g tt te vs) := hv ▸ pe_lc hc hN hi ok hg ht he hs
theorem ps_setLcU {i : Nat} {y : Str} {py : Pos} {elt tg iter : Expr} {ifs : List Expr} {scope : Scope} {own : List (Str × Nat)} {vs : List Nat} {pos spos : Pos} {wi : TI} {g : TG} {tt : TT} {te : TE} (hv : own.map (·.2) = vs) (hc : X.calm = true) (hN : X.N.Nodup) (hy : X.N[i]? = some y) (hyl : X.env.scope.names.lookup y = some .local)
    (hsw : swapsWith (.ListComp elt [⟨tg, iter, ifs, 0⟩] scope pos) (some (.Name y py)) spos.line X.env = pure true) (hi : PI X tg iter wi) (ok : BlkOk X.N X.env.scope scope own)
    (hg : ∀ (s : Shared) (H : Hp) (C : Addr) (cl : List (Str × Addr)) (fp : List Addr), PG (X.blk s H scope (compEnvC scope cl C X.env) fp) tg g) (ht : ∀ (s : Shared) (H : Hp) (C : Addr) (cl : List (Str × Addr)) (fp : List Addr), PTs (X.blk s H scope (compEnvC scope cl C X.env) fp) ifs tt)
    (he : ∀ (s : Shared) (H : Hp) (C : Addr) (cl : List (Str × Addr)) (fp : List Addr), PE (X.blk s H scope (compEnvC scope cl C X.env) fp) elt te) (hs : ∀ x, foldedSetIterable iter X.env x = pure x := by intro _; rfl) :
    PS X (.Assign [.Name y py] (.ListComp elt [⟨tg, iter, ifs, 0⟩] scope pos) spos) (tAsg (tLc wi g tt te vs) (gName i)) := hv ▸ ps_setLc hc hN hy hyl hsw hi ok hg ht he hs
theorem ps_setLc2U {i : Nat} {y : Str} {py : Pos} {elt tg iter tg1 iter1 : Expr} {ifs ifs1 : List Expr} {scope : Scope} {own : List (Str × Nat)} {vs vs1 : List Nat} {pos spos : Pos} {wi wi1 : TI} {g g1 : TG} {tt tt1 : TT} {te : TE} (hv0 : own.map (·.2) = vs) (hc : X.calm = true) (hN : X.N.Nodup) (hy : X.N[i]? = some y) (hyl : X.env.scope.names.lookup y = some .local)
    (hsw : swapsWith (.ListComp elt [⟨tg, iter, ifs, 0⟩, ⟨tg1, iter1, ifs1, 0⟩] scope pos) (some (.Name y py)) spos.line X.env = pure true) (hi : PI X tg iter wi) (ok : BlkOk X.N X.env.scope scope own) (hv : ∀ i ∈ vs1, i ∈ own.map (·.2))
    (hg : ∀ (s : Shared) (H : Hp) (C : Addr) (cl : List (Str × Addr)) (fp : List Addr), PG (X.blk s H scope (compEnvC scope cl C X.env) fp) tg g) (ht : ∀ (s : Shared) (H : Hp) (C : Addr) (cl : List (Str × Addr)) (fp : List Addr), PTs (X.blk s H scope (compEnvC scope cl C X.env) fp) ifs tt)
    (hi1 : ∀ (s : Shared) (H : Hp) (C : Addr) (cl : List (Str × Addr)) (fp : List Addr), PI (X.blk s H scope (compEnvC scope cl C X.env) fp) tg1 iter1 wi1)
    (hg1 : ∀ (s : Shared) (H : Hp) (C : Addr) (cl : List (Str × Addr)) (fp : List Addr), PG (X.blk s H scope (compEnvC scope cl C X.env) fp) tg1 g1) (ht1 : ∀ (s : Shared) (H : Hp) (C : Addr) (cl : List (Str × Addr)) (fp : List Addr), PTs (X.blk s H scope (compEnvC scope cl C X.env) fp) ifs1 tt1)
    (he : ∀ (s : Shared) (H : Hp) (C : Addr) (cl : List (Str × Addr)) (fp : List Addr), PE (X.blk s H scope (compEnvC scope cl C X.env) fp) elt te) (hs : ∀ x, foldedSetIterable iter X.env x = pure x := by intro _; rfl) (hs1 : ∀ env x, foldedSetIterable iter1 env x = pure x := by intro _ _; rfl) :
    PS X (.Assign [.Name y py] (.ListComp elt [⟨tg, iter, ifs, 0⟩, ⟨tg1, iter1, ifs1, 0⟩] scope pos) spos) (tAsg (tLc2 wi g tt wi1 g1 tt1 te vs vs1) (gName i)) := hv0 ▸ ps_setLc2 hc hN hy hyl hsw hi ok hv hg ht hi1 hg1 ht1 he hs hs1
theorem pe_lc2U {elt tg iter tg1 iter1 : Expr} {ifs ifs1 : List Expr} {scope : Scope} {own : List (Str × Nat)} {vs vs1 : List Nat} {pos : Pos} {wi wi1 : TI} {g g1 : TG} {tt tt1 : TT} {te : TE} (hv0 : own.map (·.2) = vs) (hc : X.calm = true) (hN : X.N.Nodup) (hi : PI X tg iter wi) (ok : BlkOk X.N X.env.scope scope own) (hv : ∀ i ∈ vs1, i ∈ own.map (·.2))
    (hg : ∀ (s : Shared) (H : Hp) (C : Addr) (cl : List (Str × Addr)) (fp : List Addr), PG (X.blk s H scope (compEnvC scope cl C X.env) fp) tg g) (ht : ∀ (s : Shared) (H : Hp) (C : Addr) (cl : List (Str × Addr)) (fp : List Addr), PTs (X.blk s H scope (compEnvC scope cl C X.env) fp) ifs tt)
    (hi1 : ∀ (s : Shared) (H : Hp) (C : Addr) (cl : List (Str × Addr)) (fp : List Addr), PI (X.blk s H scope (compEnvC scope cl C X.env) fp) tg1 iter1 wi1)
    (hg1 : ∀ (s : Shared) (H : Hp) (C : Addr) (cl : List (Str × Addr)) (fp : List Addr), PG (X.blk s H scope (compEnvC scope cl C X.env) fp) tg1 g1) (ht1 : ∀ (s : Shared) (H : Hp) (C : Addr) (cl : List (Str × Addr)) (fp : List Addr), PTs (X.blk s H scope (compEnvC scope cl C X.env) fp) ifs1 tt1)
    (he : ∀ (s : Shared) (H : Hp) (C : Addr) (cl : List (Str × Addr)) (fp : List Addr), PE (X.blk s H scope (compEnvC scope cl C X.env) fp) elt te) (hs : ∀ x, foldedSetIterable iter X.env x = pure x := by intro _; rfl) (hs1 : ∀ env x, foldedSetIterable iter1 env x = pure x := by intro _ _; rfl) :
    PE X (.ListComp elt [⟨tg, iter, ifs, 0⟩, ⟨tg1, iter1, ifs1, 0⟩] scope pos) (tLc2 wi g tt wi1 g1 tt1 te vs vs1) := hv0 ▸ pe_lc2 hc hN hi ok hv hg ht hi1 hg1 ht1 he hs hs1
end
/-! ### [.. for x in a list for c in a text] -/
section
variable {K : PySem.W.Frag} {σ : St} {H H1 : Hp} {Q : VK} {te t0 t1 : TE} {g g1 : TG} {a : Addr} {vs vs1 : List Nat}
def LcU2 (K : PySem.W.Frag) (g : TG) (t1 : TE) (g1 : TG) (te : TE) (vs vs1 : List Nat) (σ : St) (v : V) (H1 : Hp) (Q : VK) : Prop := tLc2 (iU K (tC v)) g tYes (iU K t1) g1 tYes te vs vs1 σ H1 Q
theorem y_lc2 (q : t0 σ H fun v H1 => LcU2 K g t1 g1 te vs vs1 σ v H1 Q) : tLc2 (iU K t0) g tYes (iU K t1) g1 tYes te vs vs1 σ H Q := q
theorem y_yesT {A B : Hp → Prop} (q : A H) : tYes σ H fun b H3 => if b = true then A H3 else B H3 := by
  show (if true = true then A H else B H)
  rw [if_pos rfl]
  exact q
theorem y_lc2LS (xs : List V) (z : Str) (f : V → Nat → V) (σx : V → St) (σy : V → Nat → St) (hx : H1 a = some (.lst xs)) (hz : xs.length * z.cps.toList.length ≤ sizeLine)
    (hw : ∀ x, wipe (σx x) vs = wipe σ vs) (hw1 : ∀ x c, wipe (σy x c) vs1 = wipe (σx x) vs1)
    (hg : ∀ x Hc (QG : St → Hp → Prop), QG (σx x) Hc → g x (wipe σ vs) Hc QG) (ht1 : ∀ x Hc (Q' : VK), Q' (.str z) Hc → t1 (σx x) Hc Q')
    (hg1 : ∀ x c Hc (QG : St → Hp → Prop), QG (σy x c) Hc → g1 (.str ⟨#[c]⟩) (wipe (σx x) vs1) Hc QG)
    (hte : ∀ x c Hc (Q' : VK), x ∈ xs → c ∈ z.cps.toList → Q' (f x c) Hc → te (σy x c) Hc Q')
    (hd : ∀ D, H1 D = none → Q (.ref D) (upd H1 D (.lst (xs.flatMap fun x => z.cps.toList.map (f x))))) : LcU2 K g t1 g1 te vs vs1 σ (.ref a) H1 Q := by
  refine .inl ⟨a, rfl, ⟨_, SqL.of hx⟩, ?_⟩
  intro D hD
  have nD : a ≠ D := ne_of_none hx hD
  have len : ∀ l : List V, (l.flatMap fun x => z.cps.toList.map (f x)).length = l.length * z.cps.toList.length := by
    intro l
    induction l with
    | nil => simp
    | cons x r ih => rw [List.flatMap_cons, List.length_append, ih, List.length_map, List.length_cons, Nat.succ_mul, Nat.add_comm]
  have stp : ∀ i x, xs[i]? = some x → (xs.take (i + 1)).flatMap (fun x => z.cps.toList.map (f x)) = (xs.take i).flatMap (fun x => z.cps.toList.map (f x)) ++ z.cps.toList.map (f x) := by
    intro i x h
    rw [List.take_add_one, h, List.flatMap_append]
    simp
  refine ⟨fun i m H => m = xs.length - i ∧ i ≤ xs.length ∧ H = upd H1 D (.lst ((xs.take i).flatMap fun x => z.cps.toList.map (f x))), ⟨xs.length, by simp, Nat.zero_le _, by simp⟩, ?_⟩
  rintro i m H ⟨rfl, hi, rfl⟩
  have hL : ∀ l, SqL K (upd H1 D (.lst l)) a xs := fun l => SqL.of (by rw [upd_ne nD]; exact hx)
  by_cases hlt : i < xs.length
  · refine .inr ⟨walk_list.goes i _ hlt (hL _), fun H => H = upd H1 D (.lst ((xs.take (i + 1)).flatMap fun x => z.cps.toList.map (f x))), fun H' p' => ⟨xs.length - (i + 1), by omega, rfl, hlt, p'⟩, fun x H' y => ?_⟩
    obtain ⟨e1, ex⟩ := walk_list.yields i _ x H' hlt (hL _) y
    subst e1
    refine hg x _ _ ⟨hw x, ?_⟩
    refine y_yesT ?_
    refine ht1 x _ _ ?_
    refine .inr (.inr ⟨z, rfl, ?_⟩)
    refine ⟨fun j k H => k = z.cps.toList.length - j ∧ j ≤ z.cps.toList.length ∧ H = upd H1 D (.lst ((xs.take i).flatMap (fun x => z.cps.toList.map (f x)) ++ (z.cps.toList.take j).map (f x))), ⟨z.cps.toList.length, by simp, Nat.zero_le _, by simp⟩, ?_⟩
    rintro j k H ⟨rfl, hj, rfl⟩
    by_cases jl : j < z.cps.toList.length
    · refine .inr ⟨walk_str.goes j _ (by simpa using jl) trivial, fun H => H = upd H1 D (.lst ((xs.take i).flatMap (fun x => z.cps.toList.map (f x)) ++ (z.cps.toList.take (j + 1)).map (f x))), fun H' p' => ⟨z.cps.toList.length - (j + 1), by omega, rfl, jl, p'⟩, fun y H' yy => ?_⟩
      obtain ⟨e1, c, hc, rfl⟩ := walk_str.yields j _ y H' (by simpa using jl) trivial yy
      subst e1
      have hc' : z.cps.toList[j]? = some c := by simpa using hc
      refine hg1 x c _ _ ⟨hw1 x c, ?_⟩
      refine y_yesT ?_
      refine hte x c _ _ (List.mem_of_getElem? ex) (List.mem_of_getElem? hc') ?_
      refine ⟨_, upd_same, ?_, ?_⟩
      · have h1 : (i + 1) * z.cps.toList.length ≤ xs.length * z.cps.toList.length := Nat.mul_le_mul_right _ hlt
        rw [Nat.succ_mul] at h1
        rw [List.length_append, len, List.length_map, List.length_take, List.length_take, Nat.min_eq_left hi]
        omega
      · rw [upd_upd, List.take_add_one, hc', List.map_append, List.append_assoc]
        rfl
    · have e : j = z.cps.toList.length := by omega
      subst e
      refine .inl ⟨walk_str.stops _ trivial, ?_⟩
      rw [stp i x ex, List.take_of_length_le (Nat.le_refl _)]
  · have e : i = xs.length := by omega
    subst e
    refine .inl ⟨walk_list.stops _ (hL _), ?_⟩
    rw [List.take_of_length_le (Nat.le_refl _)]
    exact hd D hD
end
/-! ### except clauses -/
section
variable {K : PySem.W.Frag} {σ : St} {H : Hp} {Wout : WX} {D : Ends} {c cls : Value} {d : Option Addr} {ts : Addr → Value → Option Addr → TS} {r : List (Value × (Addr → Value → Option Addr → TS))}
theorem y_we {W : WX} (q : W cls d σ H) : WE W σ cls d H := q
theorem y_hdT (h : PySem.W.exmOne K cls c = some true) (q : ∀ a, H a = none → ts a cls d D σ H) : wMany K Wout D ((c, ts) :: r) cls d σ H := ⟨true, h, fun _ => q, fun e => nomatch e⟩
theorem y_hdF (h : PySem.W.exmOne K cls c = some false) (q : wMany K Wout D r cls d σ H) : wMany K Wout D ((c, ts) :: r) cls d σ H := ⟨false, h, fun e => (nomatch e), fun _ => q⟩
theorem y_hdN (q : Wout cls d σ H) : wMany K Wout D [] cls d σ H := q
end
/-! ### data compared -/
section
variable {K : PySem.W.Frag} {σ : St} {H H1 : Hp} {Q : VK} {x y : V} {d e : PyData} {a : Addr} {S : List Addr}
theorem y_neD (hd : Dp K H x d) (he : Dp K H y e) (sd : SeqAt.shaped d = true) (se : SeqAt.shaped e = true) (q : Q (.bl (!PyData.eqv d e)) H) : rNeU K x y H Q := .inr ⟨d, e, hd, he, sd, se, q⟩
theorem y_eqD (hd : Dp K H x d) (he : Dp K H y e) (sd : SeqAt.shaped d = true) (se : SeqAt.shaped e = true) (q : Q (.bl (PyData.eqv d e)) H) : rEqU K x y H Q := .inr ⟨d, e, hd, he, sd, se, q⟩
theorem y_neSame (hd : Dp K H x d) (he : Dp K H y d) (sd : SeqAt.shaped d = true) (q : Q (.bl false) H) : rNeU K x y H Q := y_neD hd he sd sd (by
  rw [SeqAt.eqv_refl d (SeqAt.canLay_of_shaped sd)]
  exact q)
theorem y_eqSame (hd : Dp K H x d) (he : Dp K H y d) (sd : SeqAt.shaped d = true) (q : Q (.bl true) H) : rEqU K x y H Q := y_eqD hd he sd sd (by
  rw [SeqAt.eqv_refl d (SeqAt.canLay_of_shaped sd)]
  exact q)
def dStrs (ys : List Str) : PyData := .list (ys.map PyData.str)
theorem dpAll_strs : ∀ ys : List Str, DpAll K H (ys.map V.str) (ys.map PyData.str)
  | [] => .nil
  | x :: r => .cons (.str x) (dpAll_strs r)
theorem dp_strs {ys : List Str} (h : SqL K H a (ys.map V.str)) : Dp K H (.ref a) (dStrs ys) := .lst h (dpAll_strs ys)
end
/-! ### sorted texts -/
theorem ltCps_dec (a b : List Nat) : ltCps a b = decide (a < b) := PyProof.Rows.ltCps_eq a b
theorem rising_pw : ∀ (l : List Str) (p : Str), PyProof.Rows.risingS p l = true → (p :: l).Pairwise fun a b : Str => a.cps.toList ≤ b.cps.toList
  | [], p, _ => by simp
  | x :: r, p, h => by
    have h' : (!ltCps x.cps.toList p.cps.toList && PyProof.Rows.risingS x r) = true := h
    simp only [Bool.and_eq_true, Bool.not_eq_true'] at h'
    have q := rising_pw r x h'.2
    have px : p.cps.toList ≤ x.cps.toList := by
      have := h'.1
      rw [ltCps_dec] at this
      exact of_decide_eq_false this
    refine List.pairwise_cons.mpr ⟨fun y hy => ?_, q⟩
    rcases List.mem_cons.mp hy with e | e
    · subst e; exact px
    · exact List.le_trans px ((List.pairwise_cons.mp q).1 y e)
theorem sorted_pw {l : List Str} (h : PyProof.Rows.sortedS l = true) : l.Pairwise fun a b : Str => a.cps.toList ≤ b.cps.toList := by
  cases l with
  | nil => exact .nil
  | cons x r => exact rising_pw r x h
theorem sorted_one {l m : List Str} (hl : PyProof.Rows.sortedS l = true) (hm : PyProof.Rows.sortedS m = true) (h : l.Perm m) : l = m :=
  List.Perm.eq_of_pairwise (fun a b _ _ h1 h2 => by
    have := List.le_antisymm h1 h2
    cases a; cases b
    congr 1
    exact Array.toList_inj.mp this) (sorted_pw hl) (sorted_pw hm) h
/-! ### texts in lists as data -/
theorem canLay_strs : ∀ {ys : List Str}, (∀ y ∈ ys, PyData.strOk y = true) → PyData.canLayAll0 (ys.map PyData.str) = true
  | [], _ => rfl
  | y :: r, h => by
    show (PyData.canLay0 (.str y) && PyData.canLayAll0 (r.map PyData.str)) = true
    rw [canLay_strs fun z hz => h z (List.mem_cons_of_mem _ hz)]
    show (PyData.strOk y && true) = true
    rw [h y List.mem_cons_self]
    rfl
theorem depth_strs : ∀ ys : List Str, PyData.depthAll (ys.map PyData.str) = 0
  | [] => rfl
  | y :: r => by
    show max 0 (PyData.depthAll (r.map PyData.str)) = 0
    rw [depth_strs r]
    rfl
theorem shaped_strs {ys : List Str} (h : ∀ y ∈ ys, PyData.strOk y = true) : SeqAt.shaped (dStrs ys) = true := by
  show (PyData.canLayAll0 (ys.map PyData.str) && decide (PyData.depthAll (ys.map PyData.str) + 1 ≤ 64)) = true
  rw [canLay_strs h, depth_strs]
  rfl
theorem shaped_two {ys zs : List Str} (h : ∀ y ∈ ys, PyData.strOk y = true) (h2 : ∀ y ∈ zs, PyData.strOk y = true) : SeqAt.shaped (.list [dStrs ys, dStrs zs]) = true := by
  show ((PyData.canLayAll0 (ys.map PyData.str) && (PyData.canLayAll0 (zs.map PyData.str) && true)) && decide (max (PyData.depthAll (ys.map PyData.str) + 1) (max (PyData.depthAll (zs.map PyData.str) + 1) 0) + 1 ≤ 64)) = true
  rw [canLay_strs h, canLay_strs h2, depth_strs, depth_strs]
  rfl
/-! ### objects -/
section
variable {K : PySem.W.Frag} {σ : St} {H : Hp} {Q : VK} {ta tv te : TE} {t : TA} {C dx a : Addr} {fs : List (Str × V)} {f : Str} {v : V} {n : St → Hp → Prop} {rt : VK} {bk ct : St → Hp → Prop}
def FldAt (K : PySem.W.Frag) (x : V) (f : Str) (H1 : Hp) (Q : VK) : Prop := ∃ a C dx fs v, x = .ref a ∧ H1 a = some (.ins C dx fs) ∧ Cls K C ∧ NoAttr K C f ∧ fs.lookup f = some v ∧ Q v H1
theorem y_fld (q : ta σ H fun x H1 => FldAt K x f H1 Q) : tFld K ta f σ H Q := q
theorem y_fldAt (h : H a = some (.ins C dx fs)) (c : Cls K C) (m : NoAttr K C f) (l : fs.lookup f = some v) (q : Q v H) : FldAt K (.ref a) f H Q := ⟨a, C, dx, fs, v, rfl, h, c, m, l, q⟩
def FldPut (K : PySem.W.Frag) (x : V) (f : Str) (y : V) (H2 : Hp) (QG : Hp → Prop) : Prop := ∃ a C dx fs, x = .ref a ∧ H2 a = some (.ins C dx fs) ∧ Cls K C ∧ NoAttr K C f ∧ fs.length < 1000 ∧ QG (upd H2 a (.ins C dx (putF f y fs)))
theorem y_sfld (q : tv σ H fun y H1 => ta σ H1 fun x H2 => FldPut K x f y H2 fun H3 => n σ H3) : sFld K ta tv f ⟨n, rt, bk, ct⟩ σ H := q
theorem y_fldPut {QG : Hp → Prop} (h : H a = some (.ins C dx fs)) (c : Cls K C) (m : NoAttr K C f) (l : fs.length < 1000) (q : ∀ H', H' a = some (.ins C dx (putF f v fs)) → Ev [a] H H' → QG H') : FldPut K (.ref a) f v H QG :=
  ⟨a, C, dx, fs, rfl, h, c, m, l, q _ upd_same (Ev.put h rfl (by simp [kindO]) (by simp [kindO]))⟩
def MethAt (C : Addr) (m : Str) (x : V) (H1 : Hp) (P : Prop) : Prop := ∃ a dx fs, x = .ref a ∧ H1 a = some (.ins C dx fs) ∧ fs.lookup m = none ∧ P
theorem y_meth {m : Str} {sp : Sp} {dvs : List V} {E : XK} (q : ta σ H fun x H1 => MethAt C m x H1 (t σ H1 fun vs H2 => sp (x :: (vs ++ dvs)) H2 Q E)) : tMeth C m sp dvs E ta t σ H Q := q
theorem y_methAt {m : Str} {P : Prop} (h : H a = some (.ins C dx fs)) (l : fs.lookup m = none) (q : P) : MethAt C m (.ref a) H P := ⟨a, dx, fs, rfl, h, l, q⟩
def MakeAt (C : Addr) (sp : Sp) (E : XK) (vs : List V) (H1 : Hp) (Q : VK) : Prop := ∀ x dx, H1 x = none → H1 dx = none → dx ≠ x → sp (.ref x :: vs) (upd (upd H1 dx (.own x)) x (.ins C dx [])) (fun v H2 => v = .non ∧ Q (.ref x) H2) E
theorem y_mk {sp : Sp} {dvs : List V} {E : XK} (q : t σ H fun vs H1 => MakeAt C sp E (vs ++ dvs) H1 Q) : tMake C sp dvs E t σ H Q := q
theorem y_makeAt {sp : Sp} {E : XK} {vs : List V} (q : ∀ x dx H2, H x = none → H2 x = some (.ins C dx []) → Ev [] H H2 → sp (.ref x :: vs) H2 (fun v H3 => v = .non ∧ Q (.ref x) H3) E) : MakeAt C sp E vs H Q := fun x dx nx nd ne =>
  q x dx _ nx upd_same ((Ev.new nd).trans (Ev.new (by rw [upd_ne ne.symm]; exact nx)))
end
/-! ### dicts with tuples as keys -/
section
variable {K : PySem.W.Frag} {σ : St} {H : Hp} {Q : VK} {a b : Addr} {v : V} {kvs : List (List Key × V)} {k : List Key}
theorem y_newDT (q : ∀ p H', H p = none → H' p = some (.dT []) → Ev [] H H' → Q (.ref p) H') : tDNewT σ H Q := fun p hp => q p _ hp upd_same (Ev.new hp)
theorem y_setDT {QG : Hp → Prop} (h : H a = some (.dT kvs)) (hb : H b = some (.tup (k.map kV))) (l : kvs.length < sizeLine) (q : ∀ H', H' a = some (.dT (putK kvs k v)) → Ev [a] H H' → QG H') : rSetU (.ref a) (.ref b) v H QG :=
  .inr ⟨a, _, rfl, .inr ⟨kvs, k, b, h, rfl, hb, l, rfl⟩, q _ upd_same (Ev.put h rfl (by simp [kindO]) (by simp [kindO]))⟩
theorem y_getDT (h : H a = some (.dT kvs)) (hb : H b = some (.tup (k.map kV))) (e : valV kvs k = some v) (q : Q v H) : rIxU K (.ref a) (.ref b) H Q := .inr ⟨a, v, rfl, by rw [← e]; exact DGet.t h hb, q⟩
end
/-! ### loops over enumerate and zip -/
section
variable {K : PySem.W.Frag} {g : TG} {tb : TS} {n : St → Hp → Prop} {rt : VK} {bk ct : St → Hp → Prop} {σ : St} {H H0 : Hp} {t0 t1 : TE} {k k1 k2 : Sk} {x x1 x2 : V}
def ForE (K : PySem.W.Frag) (g : TG) (tb : TS) (D : Ends) (σ : St) (v : V) (H : Hp) : Prop := tFor (iEnumU K (tCons (tC v) tNil)) g tb D σ H
theorem y_fore (q : t0 σ H fun v H1 => ForE K g tb ⟨n, rt, bk, ct⟩ σ v H1) : tFor (iEnumU K (tCons t0 tNil)) g tb ⟨n, rt, bk, ct⟩ σ H := q
def ForZ (K : PySem.W.Frag) (g : TG) (tb : TS) (D : Ends) (σ : St) (v w : V) (H : Hp) : Prop := tFor (iZipU K (tCons (tC v) (tCons (tC w) tNil))) g tb D σ H
theorem y_forz (q : t0 σ H fun v H1 => t1 σ H1 fun w H2 => ForZ K g tb ⟨n, rt, bk, ct⟩ σ v w H2) : tFor (iZipU K (tCons t0 (tCons t1 tNil))) g tb ⟨n, rt, bk, ct⟩ σ H := q
theorem y_forEn (xs : List V) (hx : SrcAt k K H x xs) (Pv : Nat → St → Hp → Prop) (h0 : Pv 0 σ H) (hl : ∀ i σ H, i ≤ xs.length → Pv i σ H → SrcAt k K H x xs)
    (hs : ∀ (i : Nat) (y : V) (T : Addr) (σ : St) (H0 H : Hp), xs[i]? = some y → Pv i σ H0 → H0 T = none → H T = some (.tup [.int (i : Nat), y]) → Ev [] H0 H → g (.ref T) σ H fun σ2 H2 => tb ⟨Pv (i + 1), rt, n, Pv (i + 1)⟩ σ2 H2) (hd : ∀ σ H, Pv xs.length σ H → n σ H) : ForE K g tb ⟨n, rt, bk, ct⟩ σ x H := by
  refine ⟨x, k, xs, rfl, hx, ?_⟩
  refine for_it walk_enumU Pv h0 hl (fun i v σ H H' hi p y => ?_) hd
  obtain ⟨T, y, rfl, nT, rfl, hy⟩ := y
  exact hs i y T σ H _ hy p nT upd_same (Ev.new nT)
theorem y_forZn (xs ys : List V) (hx : SrcAt k1 K H x1 xs) (hy : SrcAt k2 K H x2 ys) (Pv : Nat → St → Hp → Prop) (h0 : Pv 0 σ H) (hl : ∀ i σ H, i ≤ min xs.length ys.length → Pv i σ H → SrcAt k1 K H x1 xs ∧ SrcAt k2 K H x2 ys)
    (hs : ∀ (i : Nat) (y z : V) (T : Addr) (σ : St) (H0 H : Hp), xs[i]? = some y → ys[i]? = some z → Pv i σ H0 → H0 T = none → H T = some (.tup [y, z]) → Ev [] H0 H → g (.ref T) σ H fun σ2 H2 => tb ⟨Pv (i + 1), rt, n, Pv (i + 1)⟩ σ2 H2) (hd : ∀ σ H, Pv (min xs.length ys.length) σ H → n σ H) : ForZ K g tb ⟨n, rt, bk, ct⟩ σ x1 x2 H := by
  refine ⟨x1, x2, k1, k2, xs, ys, rfl, hx, hy, ?_⟩
  refine for_it walk_zipU Pv h0 hl (fun i v σ H H' hi p y => ?_) hd
  obtain ⟨T, y, z, rfl, nT, rfl, hy, hz⟩ := y
  exact hs i y z T σ H _ hy hz p nT upd_same (Ev.new nT)
theorem srcT {a : Addr} {xs : List V} (h : SqT K H a xs) : SrcAt .t K H (.ref a) xs := ⟨a, rfl, h⟩
theorem srcL {a : Addr} {xs : List V} (h : SqL K H a xs) : SrcAt .l K H (.ref a) xs := ⟨a, rfl, h⟩
theorem srcS {z : Str} : SrcAt .s K H (.str z) (z.cps.toList.map fun c => V.str ⟨#[c]⟩) := ⟨z, rfl, rfl⟩
end
/-! ### slices, texts -/
section
variable {K : PySem.W.Frag} {σ : St} {H : Hp} {Q : VK} {te to : TE} {tl th : TO} {r : V → Option Int → Option Int → Hp → VK → Prop} {lo hi : Option Int} {a : Addr} {xs : List V} {z : Str} {v : V}
theorem y_sl (q : te σ H fun x H1 => tl σ H1 fun l H2 => th σ H2 fun u H3 => r x l u H3 Q) : tSl r te tl th σ H Q := q
theorem y_nopart {QO : Option Int → Hp → Prop} (q : QO none H) : tNoPart σ H QO := q
theorem y_part {QO : Option Int → Hp → Prop} (q : te σ H fun x H1 => ∃ i, x = .int i ∧ QO (some i) H1) : tPart te σ H QO := q
theorem y_isint {i : Int} {P : Int → Prop} (q : P i) : ∃ j, V.int i = .int j ∧ P j := ⟨i, rfl, q⟩
theorem y_slL (xs : List V) (h : SqL K H a xs) (q : ∀ p H', H p = none → H' p = some (.lst (cutV xs lo hi)) → Ev [] H H' → Q (.ref p) H') : rSlU K (.ref a) lo hi H Q := .inl ⟨a, xs, rfl, h, fun p hp => q p _ hp upd_same (Ev.new hp)⟩
theorem y_slS (h : z.length ≤ sizeLine) (q : Q (.str (cutS z lo hi)) H) : rSlU K (.str z) lo hi H Q := .inr (.inr ⟨z, rfl, h, q⟩)
theorem y_slT (xs : List V) (h : SqT K H a xs) (q : ∀ p H', SqT K H' p (cutV xs lo hi) → Ev [] H H' → Q (.ref p) H') : rSlU K (.ref a) lo hi H Q := by
  refine .inr (.inl ⟨a, xs, rfl, h, fun e => q a H ?_ Ev.refl, fun _ p hp => q p _ (SqT.of upd_same) (Ev.new hp)⟩)
  have : cutV xs lo hi = xs := by unfold cutV; rw [e.1, e.2]; simp
  rw [this]; exact h
theorem y_m1 {r : V → List V → Hp → VK → Prop} (q : to σ H fun x H1 => (∃ a, x = .str a) ∧ te σ H1 fun y H2 => r x [y] H2 Q) : tM1 r to te σ H Q := q
theorem y_m0 {r : V → List V → Hp → VK → Prop} (q : to σ H fun x H1 => (∃ a, x = .str a) ∧ r x [] H1 Q) : tM0 r to σ H Q := q
theorem y_isstr {P : Prop} (q : P) : (∃ a, V.str z = .str a) ∧ P := ⟨⟨z, rfl⟩, q⟩
theorem y_bm {T : String} {r : V → List V → Hp → VK → Prop} {t : TA} (q : to σ H fun x H1 => tyV K T x H1 ∧ t σ H1 fun xs H2 => r x xs H2 Q) : tBM K T r to t σ H Q := q
theorem y_bm0 {T : String} {r : V → List V → Hp → VK → Prop} (q : to σ H fun x H1 => tyV K T x H1 ∧ r x [] H1 Q) : tBM0 K T r to σ H Q := q
theorem y_tyL {P : Prop} {xs : List V} (h : SqL K H a xs) (q : P) : tyV K "list" (.ref a) H ∧ P := ⟨.inl ⟨rfl, xs, h⟩, q⟩
theorem y_tyS {P : Prop} (q : P) : tyV K "str" (.str z) H ∧ P := ⟨rfl, q⟩
theorem y_append (xs : List V) (h : H a = some (.lst xs)) (l : xs.length < sizeLine) (q : ∀ H', H' a = some (.lst (xs ++ [v])) → Ev [a] H H' → Q .non H') : rAppend (.ref a) [v] H Q := ⟨a, xs, v, rfl, rfl, h, l, q _ upd_same (Ev.put h rfl (by simp [kindO]) (by simp [kindO]))⟩
theorem y_extend {b : Addr} (xs ys : List V) (h : H a = some (.lst xs)) (h2 : H b = some (.lst ys)) (l : xs.length + ys.length ≤ sizeLine) (q : ∀ H', H' a = some (.lst (xs ++ ys)) → Ev [a] H H' → Q .non H') : rExtend (.ref a) [.ref b] H Q := ⟨a, b, xs, ys, rfl, rfl, h, h2, l, q _ upd_same (Ev.put h rfl (by simp [kindO]) (by simp [kindO]))⟩
theorem y_clear (xs : List V) (h : H a = some (.lst xs)) (q : ∀ H', H' a = some (.lst []) → Ev [a] H H' → Q .non H') : rClear (.ref a) [] H Q := ⟨a, xs, rfl, rfl, h, q _ upd_same (Ev.put h rfl (by simp [kindO]) (by simp [kindO]))⟩
theorem y_tupd {t : TA} (q : t σ H fun xs H1 => xs.length ≤ sizeLine ∧ ∀ p H', H1 p = none → H' p = some (.tup xs) → Ev [] H1 H' → Q (.ref p) H') (mono : ∀ H (A B : List V → Hp → Prop), (∀ xs H1, A xs H1 → B xs H1) → t σ H A → t σ H B) : tTup t σ H Q := mono H _ _ (fun xs H1 ⟨l, k⟩ => ⟨l, fun p hp => k p _ hp upd_same (Ev.new hp)⟩) q
def NewT (xs : List V) (H : Hp) (Q : VK) : Prop := xs.length ≤ sizeLine ∧ ∀ p, H p = none → Q (.ref p) (upd H p (.tup xs))
def NewL (xs : List V) (H : Hp) (Q : VK) : Prop := xs.length ≤ sizeLine ∧ ∀ p, H p = none → Q (.ref p) (upd H p (.lst xs))
theorem y_setD {kvs : List (Key × V)} {k : Str} {QG : Hp → Prop} (h : H a = some (.dK kvs)) (l : kvs.length < sizeLine) (q : ∀ H', H' a = some (.dK (putK kvs (.inr k) v)) → Ev [a] H H' → QG H') : rSetU (.ref a) (.str k) v H QG :=
  .inr ⟨a, _, rfl, .inl ⟨kvs, .inr k, h, rfl, l, rfl⟩, q _ upd_same (Ev.put h rfl (by simp [kindO]) (by simp [kindO]))⟩
theorem y_listD {kvs : List (Key × V)} (h : H a = some (.dK kvs)) (q : ∀ p H', H p = none → H' p = some (.lst (kvs.map fun kv => kV kv.1)) → Ev [] H H' → Q (.ref p) H') : rListU K [.ref a] H Q := .inr ⟨a, kvs, rfl, h, fun p hp => q p _ hp upd_same (Ev.new hp)⟩
theorem y_listL (xs : List V) (h : SqL K H a xs ∨ SqT K H a xs) (q : ∀ p H', H p = none → H' p = some (.lst xs) → Ev [] H H' → Q (.ref p) H') : rListU K [.ref a] H Q := .inl ⟨a, xs, rfl, h, fun p hp => q p _ hp upd_same (Ev.new hp)⟩
def NewD (H : Hp) (Q : VK) : Prop := ∀ p, H p = none → Q (.ref p) (upd H p (.dK []))
theorem y_newD (q : ∀ p H', H p = none → H' p = some (.dK []) → Ev [] H H' → Q (.ref p) H') : tDNewK σ H Q := fun p hp => q p _ hp upd_same (Ev.new hp)
theorem y_tTup {t : TA} (q : t σ H fun xs H1 => NewT xs H1 Q) : tTup t σ H Q := q
theorem y_tLst {t : TA} (q : t σ H fun xs H1 => NewL xs H1 Q) : tLst t σ H Q := q
theorem y_newT {xs : List V} (l : xs.length ≤ sizeLine) (q : ∀ p H', H p = none → H' p = some (.tup xs) → Ev [] H H' → Q (.ref p) H') : NewT xs H Q := ⟨l, fun p h => q p _ h upd_same (Ev.new h)⟩
theorem y_newL {xs : List V} (l : xs.length ≤ sizeLine) (q : ∀ p H', H p = none → H' p = some (.lst xs) → Ev [] H H' → Q (.ref p) H') : NewL xs H Q := ⟨l, fun p h => q p _ h upd_same (Ev.new h)⟩
theorem y_newL0 (q : ∀ p H', H p = none → H' p = some (.lst []) → Ev [] H H' → Q (.ref p) H') : NewL [] H Q := ⟨Nat.zero_le _, fun p h => q p _ h upd_same (Ev.new h)⟩
theorem y_catL {b : Addr} (xs ys : List V) (h : H a = some (.lst xs)) (h2 : H b = some (.lst ys)) (l : xs.length + ys.length ≤ sizeLine) (q : ∀ p H', H p = none → H' p = some (.lst (xs ++ ys)) → Ev [] H H' → Q (.ref p) H') : rAddU K (.ref a) (.ref b) H Q := .inr (.inr (.inl ⟨a, b, xs, ys, rfl, rfl, h, h2, l, fun p hp => q p _ hp upd_same (Ev.new hp)⟩))
theorem y_catT {b : Addr} (xs ys : List V) (h : SqT K H a xs) (h2 : SqT K H b ys) (l : xs.length + ys.length ≤ sizeLine) (q : ∀ p H', SqT K H' p (xs ++ ys) → Ev [] H H' → Q (.ref p) H') : rAddU K (.ref a) (.ref b) H Q :=
  .inr (.inr (.inr ⟨a, b, xs, ys, rfl, rfl, h, h2, l, fun e => q b H (by subst e; exact h2) Ev.refl, fun _ e => q a H (by subst e; rw [List.append_nil]; exact h) Ev.refl, fun _ _ p hp => q p _ (SqT.of upd_same) (Ev.new hp)⟩))
theorem y_sorted {xs : List Str} (h : SqL K H a (xs.map V.str)) (q : ∀ p H' ys, H p = none → H' p = some (.lst (ys.map V.str)) → Ev [] H H' → ys.Perm xs → PyProof.Rows.sortedS ys = true → Q (.ref p) H') : rSortedU K [.ref a] H Q := ⟨a, xs, rfl, h, fun p ys hp pm so => q p _ ys hp upd_same (Ev.new hp) pm so⟩
theorem y_join {a : Str} {p : Addr} (ys : List Str) (h : SqL K H p (ys.map V.str) ∨ SqT K H p (ys.map V.str)) (l : (ys.map (·.length)).sum + ys.length * a.length ≤ 16777216) (q : Q (.str (Txt.join a ys)) H) : rJoinU K (.str a) [.ref p] H Q := ⟨a, p, ys, rfl, rfl, h, l, q⟩
end
end L2

/-! ## G4: slots by their places (printed by a program) -/
namespace L2
open PySem PySem.Spec PyProof.Rows
section
variable {H : Hp} {Q Qt : VK} {te : TE} {n : St → Hp → Prop} {rt : VK} {bk ct : St → Hp → Prop} {x v : V} {QG : St → Hp → Prop} {t : List (Option V)} {a0 a1 a2 a3 a4 a5 a6 a7 a8 a9 a10 a11 a12 a13 a14 a15 a16 a17 a18 a19 a20 a21 a22 a23 a24 a25 a26 a27 a28 a29 a30 : Option V}
theorem y_var0 (q : Q v H) : tVar 0 (some v :: t) H Q := ⟨v, rfl, q⟩
theorem y_set0 (q : te (a0 :: t) H fun x H1 => n (some x :: t) H1) : tAsg te (gName 0) ⟨n, rt, bk, ct⟩ (a0 :: t) H := q
theorem y_gname0 (q : QG (some x :: t) H) : gName 0 x (a0 :: t) H QG := q
theorem y_wname0 (q : te (some x :: t) H Qt) : gName 0 x (wipe (a0 :: t) [0]) H fun σ2 H2 => wipe σ2 [0] = wipe (a0 :: t) [0] ∧ te σ2 H2 Qt := ⟨rfl, q⟩
theorem y_var1 (q : Q v H) : tVar 1 (a0 :: some v :: t) H Q := ⟨v, rfl, q⟩
theorem y_set1 (q : te (a0 :: a1 :: t) H fun x H1 => n (a0 :: some x :: t) H1) : tAsg te (gName 1) ⟨n, rt, bk, ct⟩ (a0 :: a1 :: t) H := q
theorem y_gname1 (q : QG (a0 :: some x :: t) H) : gName 1 x (a0 :: a1 :: t) H QG := q
theorem y_wname1 (q : te (a0 :: some x :: t) H Qt) : gName 1 x (wipe (a0 :: a1 :: t) [1]) H fun σ2 H2 => wipe σ2 [1] = wipe (a0 :: a1 :: t) [1] ∧ te σ2 H2 Qt := ⟨rfl, q⟩
theorem y_var2 (q : Q v H) : tVar 2 (a0 :: a1 :: some v :: t) H Q := ⟨v, rfl, q⟩
theorem y_set2 (q : te (a0 :: a1 :: a2 :: t) H fun x H1 => n (a0 :: a1 :: some x :: t) H1) : tAsg te (gName 2) ⟨n, rt, bk, ct⟩ (a0 :: a1 :: a2 :: t) H := q
theorem y_gname2 (q : QG (a0 :: a1 :: some x :: t) H) : gName 2 x (a0 :: a1 :: a2 :: t) H QG := q
theorem y_wname2 (q : te (a0 :: a1 :: some x :: t) H Qt) : gName 2 x (wipe (a0 :: a1 :: a2 :: t) [2]) H fun σ2 H2 => wipe σ2 [2] = wipe (a0 :: a1 :: a2 :: t) [2] ∧ te σ2 H2 Qt := ⟨rfl, q⟩
theorem y_var3 (q : Q v H) : tVar 3 (a0 :: a1 :: a2 :: some v :: t) H Q := ⟨v, rfl, q⟩
theorem y_set3 (q : te (a0 :: a1 :: a2 :: a3 :: t) H fun x H1 => n (a0 :: a1 :: a2 :: some x :: t) H1) : tAsg te (gName 3) ⟨n, rt, bk, ct⟩ (a0 :: a1 :: a2 :: a3 :: t) H := q
theorem y_gname3 (q : QG (a0 :: a1 :: a2 :: some x :: t) H) : gName 3 x (a0 :: a1 :: a2 :: a3 :: t) H QG := q
theorem y_wname3 (q : te (a0 :: a1 :: a2 :: some x :: t) H Qt) : gName 3 x (wipe (a0 :: a1 :: a2 :: a3 :: t) [3]) H fun σ2 H2 => wipe σ2 [3] = wipe (a0 :: a1 :: a2 :: a3 :: t) [3] ∧ te σ2 H2 Qt := ⟨rfl, q⟩
theorem y_var4 (q : Q v H) : tVar 4 (a0 :: a1 :: a2 :: a3 :: some v :: t) H Q := ⟨v, rfl, q⟩
theorem y_set4 (q : te (a0 :: a1 :: a2 :: a3 :: a4 :: t) H fun x H1 => n (a0 :: a1 :: a2 :: a3 :: some x :: t) H1) : tAsg te (gName 4) ⟨n, rt, bk, ct⟩ (a0 :: a1 :: a2 :: a3 :: a4 :: t) H := q
theorem y_gname4 (q : QG (a0 :: a1 :: a2 :: a3 :: some x :: t) H) : gName 4 x (a0 :: a1 :: a2 :: a3 :: a4 :: t) H QG := q
theorem y_wname4 (q : te (a0 :: a1 :: a2 :: a3 :: some x :: t) H Qt) : gName 4 x (wipe (a0 :: a1 :: a2 :: a3 :: a4 :: t) [4]) H fun σ2 H2 => wipe σ2 [4] = wipe (a0 :: a1 :: a2 :: a3 :: a4 :: t) [4] ∧ te σ2 H2 Qt := ⟨rfl, q⟩
theorem y_var5 (q : Q v H) : tVar 5 (a0 :: a1 :: a2 :: a3 :: a4 :: some v :: t) H Q := ⟨v, rfl, q⟩
theorem y_set5 (q : te (a0 :: a1 :: a2 :: a3 :: a4 :: a5 :: t) H fun x H1 => n (a0 :: a1 :: a2 :: a3 :: a4 :: some x :: t) H1) : tAsg te (gName 5) ⟨n, rt, bk, ct⟩ (a0 :: a1 :: a2 :: a3 :: a4 :: a5 :: t) H := q
theorem y_gname5 (q : QG (a0 :: a1 :: a2 :: a3 :: a4 :: some x :: t) H) : gName 5 x (a0 :: a1 :: a2 :: a3 :: a4 :: a5 :: t) H QG := q
theorem y_wname5 (q : te (a0 :: a1 :: a2 :: a3 :: a4 :: some x :: t) H Qt) : gName 5 x (wipe (a0 :: a1 :: a2 :: a3 :: a4 :: a5 :: t) [5]) H fun σ2 H2 => wipe σ2 [5] = wipe (a0 :: a1 :: a2 :: a3 :: a4 :: a5 :: t) [5] ∧ te σ2 H2 Qt := ⟨rfl, q⟩
theorem y_var6 (q : Q v H) : tVar 6 (a0 :: a1 :: a2 :: a3 :: a4 :: a5 :: some v :: t) H Q := ⟨v, rfl, q⟩
theorem y_set6 (q : te (a0 :: a1 :: a2 :: a3 :: a4 :: a5 :: a6 :: t) H fun x H1 => n (a0 :: a1 :: a2 :: a3 :: a4 :: a5 :: some x :: t) H1) : tAsg te (gName 6) ⟨n, rt, bk, ct⟩ (a0 :: a1 :: a2 :: a3 :: a4 :: a5 :: a6 :: t) H := q
theorem y_gname6 (q : QG (a0 :: a1 :: a2 :: a3 :: a4 :: a5 :: some x :: t) H) : gName 6 x (a0 :: a1 :: a2 :: a3 :: a4 :: a5 :: a6 :: t) H QG := q
theorem y_wname6 (q : te (a0 :: a1 :: a2 :: a3 :: a4 :: a5 :: some x :: t) H Qt) : gName 6 x (wipe (a0 :: a1 :: a2 :: a3 :: a4 :: a5 :: a6 :: t) [6]) H fun σ2 H2 => wipe σ2 [6] = wipe (a0 :: a1 :: a2 :: a3 :: a4 :: a5 :: a6 :: t) [6] ∧ te σ2 H2 Qt := ⟨rfl, q⟩
theorem y_var7 (q : Q v H) : tVar 7 (a0 :: a1 :: a2 :: a3 :: a4 :: a5 :: a6 :: some v :: t) H Q := ⟨v, rfl, q⟩
theorem y_set7 (q : te (a0 :: a1 :: a2 :: a3 :: a4 :: a5 :: a6 :: a7 :: t) H fun x H1 => n (a0 :: a1 :: a2 :: a3 :: a4 :: a5 :: a6 :: some x :: t) H1) : tAsg te (gName 7) ⟨n, rt, bk, ct⟩ (a0 :: a1 :: a2 :: a3 :: a4 :: a5 :: a6 :: a7 :: t) H := q
theorem y_gname7 (q : QG (a0 :: a1 :: a2 :: a3 :: a4 :: a5 :: a6 :: some x :: t) H) : gName 7 x (a0 :: a1 :: a2 :: a3 :: a4 :: a5 :: a6 :: a7 :: t) H QG := q
theorem y_wname7 (q : te (a0 :: a1 :: a2 :: a3 :: a4 :: a5 :: a6 :: some x :: t) H Qt) : gName 7 x (wipe (a0 :: a1 :: a2 :: a3 :: a4 :: a5 :: a6 :: a7 :: t) [7]) H fun σ2 H2 => wipe σ2 [7] = wipe (a0 :: a1 :: a2 :: a3 :: a4 :: a5 :: a6 :: a7 :: t) [7] ∧ te σ2 H2 Qt := ⟨rfl, q⟩
theorem y_var8 (q : Q v H) : tVar 8 (a0 :: a1 :: a2 :: a3 :: a4 :: a5 :: a6 :: a7 :: some v :: t) H Q := ⟨v, rfl, q⟩
theorem y_set8 (q : te (a0 :: a1 :: a2 :: a3 :: a4 :: a5 :: a6 :: a7 :: a8 :: t) H fun x H1 => n (a0 :: a1 :: a2 :: a3 :: a4 :: a5 :: a6 :: a7 :: some x :: t) H1) : tAsg te (gName 8) ⟨n, rt, bk, ct⟩ (a0 :: a1 :: a2 :: a3 :: a4 :: a5 :: a6 :: a7 :: a8 :: t) H := q
theorem y_gname8 (q : QG (a0 :: a1 :: a2 :: a3 :: a4 :: a5 :: a6 :: a7 :: some x :: t) H) : gName 8 x (a0 :: a1 :: a2 :: a3 :: a4 :: a5 :: a6 :: a7 :: a8 :: t) H QG := q
theorem y_wname8 (q : te (a0 :: a1 :: a2 :: a3 :: a4 :: a5 :: a6 :: a7 :: some x :: t) H Qt) : gName 8 x (wipe (a0 :: a1 :: a2 :: a3 :: a4 :: a5 :: a6 :: a7 :: a8 :: t) [8]) H fun σ2 H2 => wipe σ2 [8] = wipe (a0 :: a1 :: a2 :: a3 :: a4 :: a5 :: a6 :: a7 :: a8 :: t) [8] ∧ te σ2 H2 Qt := ⟨rfl, q⟩
theorem y_var9 (q : Q v H) : tVar 9 (a0 :: a1 :: a2 :: a3 :: a4 :: a5 :: a6 :: a7 :: a8 :: some v :: t) H Q := ⟨v, rfl, q⟩
theorem y_set9 (q : te (a0 :: a1 :: a2 :: a3 :: a4 :: a5 :: a6 :: a7 :: a8 :: a9 :: t) H fun x H1 => n (a0 :: a1 :: a2 :: a3 :: a4 :: a5 :: a6 :: a7 :: a8 :: some x :: t) H1) : tAsg te (gName 9) ⟨n, rt, bk, ct⟩ (a0 :: a1 :: a2 :: a3 :: a4 :: a5 :: a6 :: a7 :: a8 :: a9 :: t) H := q
theorem y_gname9 (q : QG (a0 :: a1 :: a2 :: a3 :: a4 :: a5 :: a6 :: a7 :: a8 :: some x :: t) H) : gName 9 x (a0 :: a1 :: a2 :: a3 :: a4 :: a5 :: a6 :: a7 :: a8 :: a9 :: t) H QG := q
theorem y_wname9 (q : te (a0 :: a1 :: a2 :: a3 :: a4 :: a5 :: a6 :: a7 :: a8 :: some x :: t) H Qt) : gName 9 x (wipe (a0 :: a1 :: a2 :: a3 :: a4 :: a5 :: a6 :: a7 :: a8 :: a9 :: t) [9]) H fun σ2 H2 => wipe σ2 [9] = wipe (a0 :: a1 :: a2 :: a3 :: a4 :: a5 :: a6 :: a7 :: a8 :: a9 :: t) [9] ∧ te σ2 H2 Qt := ⟨rfl, q⟩
theorem y_var10 (q : Q v H) : tVar 10 (a0 :: a1 :: a2 :: a3 :: a4 :: a5 :: a6 :: a7 :: a8 :: a9 :: some v :: t) H Q := ⟨v, rfl, q⟩
theorem y_set10 (q : te (a0 :: a1 :: a2 :: a3 :: a4 :: a5 :: a6 :: a7 :: a8 :: a9 :: a10 :: t) H fun x H1 => n (a0 :: a1 :: a2 :: a3 :: a4 :: a5 :: a6 :: a7 :: a8 :: a9 :: some x :: t) H1) : tAsg te (gName 10) ⟨n, rt, bk, ct⟩ (a0 :: a1 :: a2 :: a3 :: a4 :: a5 :: a6 :: a7 :: a8 :: a9 :: a10 :: t) H := q
theorem y_gname10 (q : QG (a0 :: a1 :: a2 :: a3 :: a4 :: a5 :: a6 :: a7 :: a8 :: a9 :: some x :: t) H) : gName 10 x (a0 :: a1 :: a2 :: a3 :: a4 :: a5 :: a6 :: a7 :: a8 :: a9 :: a10 :: t) H QG := q
theorem y_wname10 (q : te (a0 :: a1 :: a2 :: a3 :: a4 :: a5 :: a6 :: a7 :: a8 :: a9 :: some x :: t) H Qt) : gName 10 x (wipe (a0 :: a1 :: a2 :: a3 :: a4 :: a5 :: a6 :: a7 :: a8 :: a9 :: a10 :: t) [10]) H fun σ2 H2 => wipe σ2 [10] = wipe (a0 :: a1 :: a2 :: a3 :: a4 :: a5 :: a6 :: a7 :: a8 :: a9 :: a10 :: t) [10] ∧ te σ2 H2 Qt := ⟨rfl, q⟩
theorem y_var11 (q : Q v H) : tVar 11 (a0 :: a1 :: a2 :: a3 :: a4 :: a5 :: a6 :: a7 :: a8 :: a9 :: a10 :: some v :: t) H Q := ⟨v, rfl, q⟩
theorem y_set11 (q : te (a0 :: a1 :: a2 :: a3 :: a4 :: a5 :: a6 :: a7 :: a8 :: a9 :: a10 :: a11 :: t) H fun x H1 => n (a0 :: a1 :: a2 :: a3 :: a4 :: a5 :: a6 :: a7 :: a8 :: a9 :: a10 :: some x :: t) H1) : tAsg te (gName 11) ⟨n, rt, bk, ct⟩ (a0 :: a1 :: a2 :: a3 :: a4 :: a5 :: a6 :: a7 :: a8 :: a9 :: a10 :: a11 :: t) H := q
theorem y_gname11 (q : QG (a0 :: a1 :: a2 :: a3 :: a4 :: a5 :: a6 :: a7 :: a8 :: a9 :: a10 :: some x :: t) H) : gName 11 x (a0 :: a1 :: a2 :: a3 :: a4 :: a5 :: a6 :: a7 :: a8 :: a9 :: a10 :: a11 :: t) H QG := q
theorem y_wname11 (q : te (a0 :: a1 :: a2 :: a3 :: a4 :: a5 :: a6 :: a7 :: a8 :: a9 :: a10 :: some x :: t) H Qt) : gName 11 x (wipe (a0 :: a1 :: a2 :: a3 :: a4 :: a5 :: a6 :: a7 :: a8 :: a9 :: a10 :: a11 :: t) [11]) H fun σ2 H2 => wipe σ2 [11] = wipe (a0 :: a1 :: a2 :: a3 :: a4 :: a5 :: a6 :: a7 :: a8 :: a9 :: a10 :: a11 :: t) [11] ∧ te σ2 H2 Qt := ⟨rfl, q⟩
theorem y_var12 (q : Q v H) : tVar 12 (a0 :: a1 :: a2 :: a3 :: a4 :: a5 :: a6 :: a7 :: a8 :: a9 :: a10 :: a11 :: some v :: t) H Q := ⟨v, rfl, q⟩
theorem y_set12 (q : te (a0 :: a1 :: a2 :: a3 :: a4 :: a5 :: a6 :: a7 :: a8 :: a9 :: a10 :: a11 :: a12 :: t) H fun x H1 => n (a0 :: a1 :: a2 :: a3 :: a4 :: a5 :: a6 :: a7 :: a8 :: a9 :: a10 :: a11 :: some x :: t) H1) : tAsg te (gName 12) ⟨n, rt, bk, ct⟩ (a0 :: a1 :: a2 :: a3 :: a4 :: a5 :: a6 :: a7 :: a8 :: a9 :: a10 :: a11 :: a12 :: t) H := q
theorem y_gname12 (q : QG (a0 :: a1 :: a2 :: a3 :: a4 :: a5 :: a6 :: a7 :: a8 :: a9 :: a10 :: a11 :: some x :: t) H) : gName 12 x (a0 :: a1 :: a2 :: a3 :: a4 :: a5 :: a6 :: a7 :: a8 :: a9 :: a10 :: a11 :: a12 :: t) H QG := q
theorem y_wname12 (q : te (a0 :: a1 :: a2 :: a3 :: a4 :: a5 :: a6 :: a7 :: a8 :: a9 :: a10 :: a11 :: some x :: t) H Qt) : gName 12 x (wipe (a0 :: a1 :: a2 :: a3 :: a4 :: a5 :: a6 :: a7 :: a8 :: a9 :: a10 :: a11 :: a12 :: t) [12]) H fun σ2 H2 => wipe σ2 [12] = wipe (a0 :: a1 :: a2 :: a3 :: a4 :: a5 :: a6 :: a7 :: a8 :: a9 :: a10 :: a11 :: a12 :: t) [12] ∧ te σ2 H2 Qt := ⟨rfl, q⟩
theorem y_var13 (q : Q v H) : tVar 13 (a0 :: a1 :: a2 :: a3 :: a4 :: a5 :: a6 :: a7 :: a8 :: a9 :: a10 :: a11 :: a12 :: some v :: t) H Q := ⟨v, rfl, q⟩
theorem y_set13 (q : te (a0 :: a1 :: a2 :: a3 :: a4 :: a5 :: a6 :: a7 :: a8 :: a9 :: a10 :: a11 :: a12 :: a13 :: t) H fun x H1 => n (a0 :: a1 :: a2 :: a3 :: a4 :: a5 :: a6 :: a7 :: a8 :: a9 :: a10 :: a11 :: a12 :: some x :: t) H1) : tAsg te (gName 13) ⟨n, rt, bk, ct⟩ (a0 :: a1 :: a2 :: a3 :: a4 :: a5 :: a6 :: a7 :: a8 :: a9 :: a10 :: a11 :: a12 :: a13 :: t) H := q
theorem y_gname13 (q : QG (a0 :: a1 :: a2 :: a3 :: a4 :: a5 :: a6 :: a7 :: a8 :: a9 :: a10 :: a11 :: a12 :: some x :: t) H) : gName 13 x (a0 :: a1 :: a2 :: a3 :: a4 :: a5 :: a6 :: a7 :: a8 :: a9 :: a10 :: a11 :: a12 :: a13 :: t) H QG := q
theorem y_wname13 (q : te (a0 :: a1 :: a2 :: a3 :: a4 :: a5 :: a6 :: a7 :: a8 :: a9 :: a10 :: a11 :: a12 :: some x :: t) H Qt) : gName 13 x (wipe (a0 :: a1 :: a2 :: a3 :: a4 :: a5 :: a6 :: a7 :: a8 :: a9 :: a10 :: a11 :: a12 :: a13 :: t) [13]) H fun σ2 H2 => wipe σ2 [13] = wipe (a0 :: a1 :: a2 :: a3 :: a4 :: a5 :: a6 :: a7 :: a8 :: a9 :: a10 :: a11 :: a12 :: a13 :: t) [13] ∧ te σ2 H2 Qt := ⟨rfl, q⟩
theorem y_var14 (q : Q v H) : tVar 14 (a0 :: a1 :: a2 :: a3 :: a4 :: a5 :: a6 :: a7 :: a8 :: a9 :: a10 :: a11 :: a12 :: a13 :: some v :: t) H Q := ⟨v, rfl, q⟩
theorem y_set14 (q : te (a0 :: a1 :: a2 :: a3 :: a4 :: a5 :: a6 :: a7 :: a8 :: a9 :: a10 :: a11 :: a12 :: a13 :: a14 :: t) H fun x H1 => n (a0 :: a1 :: a2 :: a3 :: a4 :: a5 :: a6 :: a7 :: a8 :: a9 :: a10 :: a11 :: a12 :: a13 :: some x :: t) H1) : tAsg te (gName 14) ⟨n, rt, bk, ct⟩ (a0 :: a1 :: a2 :: a3 :: a4 :: a5 :: a6 :: a7 :: a8 :: a9 :: a10 :: a11 :: a12 :: a13 :: a14 :: t) H := q
theorem y_gname14 (q : QG (a0 :: a1 :: a2 :: a3 :: a4 :: a5 :: a6 :: a7 :: a8 :: a9 :: a10 :: a11 :: a12 :: a13 :: some x :: t) H) : gName 14 x (a0 :: a1 :: a2 :: a3 :: a4 :: a5 :: a6 :: a7 :: a8 :: a9 :: a10 :: a11 :: a12 :: a13 :: a14 :: t) H QG := q
theorem y_wname14 (q : te (a0 :: a1 :: a2 :: a3 :: a4 :: a5 :: a6 :: a7 :: a8 :: a9 :: a10 :: a11 :: a12 :: a13 :: some x :: t) H Qt) : gName 14 x (wipe (a0 :: a1 :: a2 :: a3 :: a4 :: a5 :: a6 :: a7 :: a8 :: a9 :: a10 :: a11 :: a12 :: a13 :: a14 :: t) [14]) H fun σ2 H2 => wipe σ2 [14] = wipe (a0 :: a1 :: a2 :: a3 :: a4 :: a5 :: a6 :: a7 :: a8 :: a9 :: a10 :: a11 :: a12 :: a13 :: a14 :: t) [14] ∧ te σ2 H2 Qt := ⟨rfl, q⟩
theorem y_var15 (q : Q v H) : tVar 15 (a0 :: a1 :: a2 :: a3 :: a4 :: a5 :: a6 :: a7 :: a8 :: a9 :: a10 :: a11 :: a12 :: a13 :: a14 :: some v :: t) H Q := ⟨v, rfl, q⟩
theorem y_set15 (q : te (a0 :: a1 :: a2 :: a3 :: a4 :: a5 :: a6 :: a7 :: a8 :: a9 :: a10 :: a11 :: a12 :: a13 :: a14 :: a15 :: t) H fun x H1 => n (a0 :: a1 :: a2 :: a3 :: a4 :: a5 :: a6 :: a7 :: a8 :: a9 :: a10 :: a11 :: a12 :: a13 :: a14 :: some x :: t) H1) : tAsg te (gName 15) ⟨n, rt, bk, ct⟩ (a0 :: a1 :: a2 :: a3 :: a4 :: a5 :: a6 :: a7 :: a8 :: a9 :: a10 :: a11 :: a12 :: a13 :: a14 :: a15 :: t) H := q
theorem y_gname15 (q : QG (a0 :: a1 :: a2 :: a3 :: a4 :: a5 :: a6 :: a7 :: a8 :: a9 :: a10 :: a11 :: a12 :: a13 :: a14 :: some x :: t) H) : gName 15 x (a0 :: a1 :: a2 :: a3 :: a4 :: a5 :: a6 :: a7 :: a8 :: a9 :: a10 :: a11 :: a12 :: a13 :: a14 :: a15 :: t) H QG := q
theorem y_wname15 (q : te (a0 :: a1 :: a2 :: a3 :: a4 :: a5 :: a6 :: a7 :: a8 :: a9 :: a10 :: a11 :: a12 :: a13 :: a14 :: some x :: t) H Qt) : gName 15 x (wipe (a0 :: a1 :: a2 :: a3 :: a4 :: a5 :: a6 :: a7 :: a8 :: a9 :: a10 :: a11 :: a12 :: a13 :: a14 :: a15 :: t) [15]) H fun σ2 H2 => wipe σ2 [15] = wipe (a0 :: a1 :: a2 :: a3 :: a4 :: a5 :: a6 :: a7 :: a8 :: a9 :: a10 :: a11 :: a12 :: a13 :: a14 :: a15 :: t) [15] ∧ te σ2 H2 Qt := ⟨rfl, q⟩
theorem y_var16 (q : Q v H) : tVar 16 (a0 :: a1 :: a2 :: a3 :: a4 :: a5 :: a6 :: a7 :: a8 :: a9 :: a10 :: a11 :: a12 :: a13 :: a14 :: a15 :: some v :: t) H Q := ⟨v, rfl, q⟩
theorem y_set16 (q : te (a0 :: a1 :: a2 :: a3 :: a4 :: a5 :: a6 :: a7 :: a8 :: a9 :: a10 :: a11 :: a12 :: a13 :: a14 :: a15 :: a16 :: t) H fun x H1 => n (a0 :: a1 :: a2 :: a3 :: a4 :: a5 :: a6 :: a7 :: a8 :: a9 :: a10 :: a11 :: a12 :: a13 :: a14 :: a15 :: some x :: t) H1) : tAsg te (gName 16) ⟨n, rt, bk, ct⟩ (a0 :: a1 :: a2 :: a3 :: a4 :: a5 :: a6 :: a7 :: a8 :: a9 :: a10 :: a11 :: a12 :: a13 :: a14 :: a15 :: a16 :: t) H := q
theorem y_gname16 (q : QG (a0 :: a1 :: a2 :: a3 :: a4 :: a5 :: a6 :: a7 :: a8 :: a9 :: a10 :: a11 :: a12 :: a13 :: a14 :: a15 :: some x :: t) H) : gName 16 x (a0 :: a1 :: a2 :: a3 :: a4 :: a5 :: a6 :: a7 :: a8 :: a9 :: a10 :: a11 :: a12 :: a13 :: a14 :: a15 :: a16 :: t) H QG := q
theorem y_wname16 (q : te (a0 :: a1 :: a2 :: a3 :: a4 :: a5 :: a6 :: a7 :: a8 :: a9 :: a10 :: a11 :: a12 :: a13 :: a14 :: a15 :: some x :: t) H Qt) : gName 16 x (wipe (a0 :: a1 :: a2 :: a3 :: a4 :: a5 :: a6 :: a7 :: a8 :: a9 :: a10 :: a11 :: a12 :: a13 :: a14 :: a15 :: a16 :: t) [16]) H fun σ2 H2 => wipe σ2 [16] = wipe (a0 :: a1 :: a2 :: a3 :: a4 :: a5 :: a6 :: a7 :: a8 :: a9 :: a10 :: a11 :: a12 :: a13 :: a14 :: a15 :: a16 :: t) [16] ∧ te σ2 H2 Qt := ⟨rfl, q⟩
theorem y_var17 (q : Q v H) : tVar 17 (a0 :: a1 :: a2 :: a3 :: a4 :: a5 :: a6 :: a7 :: a8 :: a9 :: a10 :: a11 :: a12 :: a13 :: a14 :: a15 :: a16 :: some v :: t) H Q := ⟨v, rfl, q⟩
theorem y_set17 (q : te (a0 :: a1 :: a2 :: a3 :: a4 :: a5 :: a6 :: a7 :: a8 :: a9 :: a10 :: a11 :: a12 :: a13 :: a14 :: a15 :: a16 :: a17 :: t) H fun x H1 => n (a0 :: a1 :: a2 :: a3 :: a4 :: a5 :: a6 :: a7 :: a8 :: a9 :: a10 :: a11 :: a12 :: a13 :: a14 :: a15 :: a16 :: some x :: t) H1) : tAsg te (gName 17) ⟨n, rt, bk, ct⟩ (a0 :: a1 :: a2 :: a3 :: a4 :: a5 :: a6 :: a7 :: a8 :: a9 :: a10 :: a11 :: a12 :: a13 :: a14 :: a15 :: a16 :: a17 :: t) H := q
theorem y_gname17 (q : QG (a0 :: a1 :: a2 :: a3 :: a4 :: a5 :: a6 :: a7 :: a8 :: a9 :: a10 :: a11 :: a12 :: a13 :: a14 :: a15 :: a16 :: some x :: t) H) : gName 17 x (a0 :: a1 :: a2 :: a3 :: a4 :: a5 :: a6 :: a7 :: a8 :: a9 :: a10 :: a11 :: a12 :: a13 :: a14 :: a15 :: a16 :: a17 :: t) H QG := q
theorem y_wname17 (q : te (a0 :: a1 :: a2 :: a3 :: a4 :: a5 :: a6 :: a7 :: a8 :: a9 :: a10 :: a11 :: a12 :: a13 :: a14 :: a15 :: a16 :: some x :: t) H Qt) : gName 17 x (wipe (a0 :: a1 :: a2 :: a3 :: a4 :: a5 :: a6 :: a7 :: a8 :: a9 :: a10 :: a11 :: a12 :: a13 :: a14 :: a15 :: a16 :: a17 :: t) [17]) H fun σ2 H2 => wipe σ2 [17] = wipe (a0 :: a1 :: a2 :: a3 :: a4 :: a5 :: a6 :: a7 :: a8 :: a9 :: a10 :: a11 :: a12 :: a13 :: a14 :: a15 :: a16 :: a17 :: t) [17] ∧ te σ2 H2 Qt := ⟨rfl, q⟩
theorem y_var18 (q : Q v H) : tVar 18 (a0 :: a1 :: a2 :: a3 :: a4 :: a5 :: a6 :: a7 :: a8 :: a9 :: a10 :: a11 :: a12 :: a13 :: a14 :: a15 :: a16 :: a17 :: some v :: t) H Q := ⟨v, rfl, q⟩
theorem y_set18 (q : te (a0 :: a1 :: a2 :: a3 :: a4 :: a5 :: a6 :: a7 :: a8 :: a9 :: a10 :: a11 :: a12 :: a13 :: a14 :: a15 :: a16 :: a17 :: a18 :: t) H fun x H1 => n (a0 :: a1 :: a2 :: a3 :: a4 :: a5 :: a6 :: a7 :: a8 :: a9 :: a10 :: a11 :: a12 :: a13 :: a14 :: a15 :: a16 :: a17 :: some x :: t) H1) : tAsg te (gName 18) ⟨n, rt, bk, ct⟩ (a0 :: a1 :: a2 :: a3 :: a4 :: a5 :: a6 :: a7 :: a8 :: a9 :: a10 :: a11 :: a12 :: a13 :: a14 :: a15 :: a16 :: a17 :: a18 :: t) H := q
theorem y_gname18 (q : QG (a0 :: a1 :: a2 :: a3 :: a4 :: a5 :: a6 :: a7 :: a8 :: a9 :: a10 :: a11 :: a12 :: a13 :: a14 :: a15 :: a16 :: a17 :: some x :: t) H) : gName 18 x (a0 :: a1 :: a2 :: a3 :: a4 :: a5 :: a6 :: a7 :: a8 :: a9 :: a10 :: a11 :: a12 :: a13 :: a14 :: a15 :: a16 :: a17 :: a18 :: t) H QG := q
theorem y_wname18 (q : te (a0 :: a1 :: a2 :: a3 :: a4 :: a5 :: a6 :: a7 :: a8 :: a9 :: a10 :: a11 :: a12 :: a13 :: a14 :: a15 :: a16 :: a17 :: some x :: t) H Qt) : gName 18 x (wipe (a0 :: a1 :: a2 :: a3 :: a4 :: a5 :: a6 :: a7 :: a8 :: a9 :: a10 :: a11 :: a12 :: a13 :: a14 :: a15 :: a16 :: a17 :: a18 :: t) [18]) H fun σ2 H2 => wipe σ2 [18] = wipe (a0 :: a1 :: a2 :: a3 :: a4 :: a5 :: a6 :: a7 :: a8 :: a9 :: a10 :: a11 :: a12 :: a13 :: a14 :: a15 :: a16 :: a17 :: a18 :: t) [18] ∧ te σ2 H2 Qt := ⟨rfl, q⟩
theorem y_var19 (q : Q v H) : tVar 19 (a0 :: a1 :: a2 :: a3 :: a4 :: a5 :: a6 :: a7 :: a8 :: a9 :: a10 :: a11 :: a12 :: a13 :: a14 :: a15 :: a16 :: a17 :: a18 :: some v :: t) H Q := ⟨v, rfl, q⟩
theorem y_set19 (q : te (a0 :: a1 :: a2 :: a3 :: a4 :: a5 :: a6 :: a7 :: a8 :: a9 :: a10 :: a11 :: a12 :: a13 :: a14 :: a15 :: a16 :: a17 :: a18 :: a19 :: t) H fun x H1 => n (a0 :: a1 :: a2 :: a3 :: a4 :: a5 :: a6 :: a7 :: a8 :: a9 :: a10 :: a11 :: a12 :: a13 :: a14 :: a15 :: a16 :: a17 :: a18 :: some x :: t) H1) : tAsg te (gName 19) ⟨n, rt, bk, ct⟩ (a0 :: a1 :: a2 :: a3 :: a4 :: a5 :: a6 :: a7 :: a8 :: a9 :: a10 :: a11 :: a12 :: a13 :: a14 :: a15 :: a16 :: a17 :: a18 :: a19 :: t) H := q
theorem y_gname19 (q : QG (a0 :: a1 :: a2 :: a3 :: a4 :: a5 :: a6 :: a7 :: a8 :: a9 :: a10 :: a11 :: a12 :: a13 :: a14 :: a15 :: a16 :: a17 :: a18 :: some x :: t) H) : gName 19 x (a0 :: a1 :: a2 :: a3 :: a4 :: a5 :: a6 :: a7 :: a8 :: a9 :: a10 :: a11 :: a12 :: a13 :: a14 :: a15 :: a16 :: a17 :: a18 :: a19 :: t) H QG := q
theorem y_wname19 (q : te (a0 :: a1 :: a2 :: a3 :: a4 :: a5 :: a6 :: a7 :: a8 :: a9 :: a10 :: a11 :: a12 :: a13 :: a14 :: a15 :: a16 :: a17 :: a18 :: some x :: t) H Qt) : gName 19 x (wipe (a0 :: a1 :: a2 :: a3 :: a4 :: a5 :: a6 :: a7 :: a8 :: a9 :: a10 :: a11 :: a12 :: a13 :: a14 :: a15 :: a16 :: a17 :: a18 :: a19 :: t) [19]) H fun σ2 H2 => wipe σ2 [19] = wipe (a0 :: a1 :: a2 :: a3 :: a4 :: a5 :: a6 :: a7 :: a8 :: a9 :: a10 :: a11 :: a12 :: a13 :: a14 :: a15 :: a16 :: a17 :: a18 :: a19 :: t) [19] ∧ te σ2 H2 Qt := ⟨rfl, q⟩
theorem y_var20 (q : Q v H) : tVar 20 (a0 :: a1 :: a2 :: a3 :: a4 :: a5 :: a6 :: a7 :: a8 :: a9 :: a10 :: a11 :: a12 :: a13 :: a14 :: a15 :: a16 :: a17 :: a18 :: a19 :: some v :: t) H Q := ⟨v, rfl, q⟩
theorem y_set20 (q : te (a0 :: a1 :: a2 :: a3 :: a4 :: a5 :: a6 :: a7 :: a8 :: a9 :: a10 :: a11 :: a12 :: a13 :: a14 :: a15 :: a16 :: a17 :: a18 :: a19 :: a20 :: t) H fun x H1 => n (a0 :: a1 :: a2 :: a3 :: a4 :: a5 :: a6 :: a7 :: a8 :: a9 :: a10 :: a11 :: a12 :: a13 :: a14 :: a15 :: a16 :: a17 :: a18 :: a19 :: some x :: t) H1) : tAsg te (gName 20) ⟨n, rt, bk, ct⟩ (a0 :: a1 :: a2 :: a3 :: a4 :: a5 :: a6 :: a7 :: a8 :: a9 :: a10 :: a11 :: a12 :: a13 :: a14 :: a15 :: a16 :: a17 :: a18 :: a19 :: a20 :: t) H := q
theorem y_gname20 (q : QG (a0 :: a1 :: a2 :: a3 :: a4 :: a5 :: a6 :: a7 :: a8 :: a9 :: a10 :: a11 :: a12 :: a13 :: a14 :: a15 :: a16 :: a17 :: a18 :: a19 :: some x :: t) H) : gName 20 x (a0 :: a1 :: a2 :: a3 :: a4 :: a5 :: a6 :: a7 :: a8 :: a9 :: a10 :: a11 :: a12 :: a13 :: a14 :: a15 :: a16 :: a17 :: a18 :: a19 :: a20 :: t) H QG := q
theorem y_wname20 (q : te (a0 :: a1 :: a2 :: a3 :: a4 :: a5 :: a6 :: a7 :: a8 :: a9 :: a10 :: a11 :: a12 :: a13 :: a14 :: a15 :: a16 :: a17 :: a18 :: a19 :: some x :: t) H Qt) : gName 20 x (wipe (a0 :: a1 :: a2 :: a3 :: a4 :: a5 :: a6 :: a7 :: a8 :: a9 :: a10 :: a11 :: a12 :: a13 :: a14 :: a15 :: a16 :: a17 :: a18 :: a19 :: a20 :: t) [20]) H fun σ2 H2 => wipe σ2 [20] = wipe (a0 :: a1 :: a2 :: a3 :: a4 :: a5 :: a6 :: a7 :: a8 :: a9 :: a10 :: a11 :: a12 :: a13 :: a14 :: a15 :: a16 :: a17 :: a18 :: a19 :: a20 :: t) [20] ∧ te σ2 H2 Qt := ⟨rfl, q⟩
theorem y_var21 (q : Q v H) : tVar 21 (a0 :: a1 :: a2 :: a3 :: a4 :: a5 :: a6 :: a7 :: a8 :: a9 :: a10 :: a11 :: a12 :: a13 :: a14 :: a15 :: a16 :: a17 :: a18 :: a19 :: a20 :: some v :: t) H Q := ⟨v, rfl, q⟩
theorem y_set21 (q : te (a0 :: a1 :: a2 :: a3 :: a4 :: a5 :: a6 :: a7 :: a8 :: a9 :: a10 :: a11 :: a12 :: a13 :: a14 :: a15 :: a16 :: a17 :: a18 :: a19 :: a20 :: a21 :: t) H fun x H1 => n (a0 :: a1 :: a2 :: a3 :: a4 :: a5 :: a6 :: a7 :: a8 :: a9 :: a10 :: a11 :: a12 :: a13 :: a14 :: a15 :: a16 :: a17 :: a18 :: a19 :: a20 :: some x :: t) H1) : tAsg te (gName 21) ⟨n, rt, bk, ct⟩ (a0 :: a1 :: a2 :: a3 :: a4 :: a5 :: a6 :: a7 :: a8 :: a9 :: a10 :: a11 :: a12 :: a13 :: a14 :: a15 :: a16 :: a17 :: a18 :: a19 :: a20 :: a21 :: t) H := q
theorem y_gname21 (q : QG (a0 :: a1 :: a2 :: a3 :: a4 :: a5 :: a6 :: a7 :: a8 :: a9 :: a10 :: a11 :: a12 :: a13 :: a14 :: a15 :: a16 :: a17 :: a18 :: a19 :: a20 :: some x :: t) H) : gName 21 x (a0 :: a1 :: a2 :: a3 :: a4 :: a5 :: a6 :: a7 :: a8 :: a9 :: a10 :: a11 :: a12 :: a13 :: a14 :: a15 :: a16 :: a17 :: a18 :: a19 :: a20 :: a21 :: t) H QG := q
theorem y_wname21 (q : te (a0 :: a1 :: a2 :: a3 :: a4 :: a5 :: a6 :: a7 :: a8 :: a9 :: a10 :: a11 :: a12 :: a13 :: a14 :: a15 :: a16 :: a17 :: a18 :: a19 :: a20 :: some x :: t) H Qt) : gName 21 x (wipe (a0 :: a1 :: a2 :: a3 :: a4 :: a5 :: a6 :: a7 :: a8 :: a9 :: a10 :: a11 :: a12 :: a13 :: a14 :: a15 :: a16 :: a17 :: a18 :: a19 :: a20 :: a21 :: t) [21]) H fun σ2 H2 => wipe σ2 [21] = wipe (a0 :: a1 :: a2 :: a3 :: a4 :: a5 :: a6 :: a7 :: a8 :: a9 :: a10 :: a11 :: a12 :: a13 :: a14 :: a15 :: a16 :: a17 :: a18 :: a19 :: a20 :: a21 :: t) [21] ∧ te σ2 H2 Qt := ⟨rfl, q⟩
theorem y_var22 (q : Q v H) : tVar 22 (a0 :: a1 :: a2 :: a3 :: a4 :: a5 :: a6 :: a7 :: a8 :: a9 :: a10 :: a11 :: a12 :: a13 :: a14 :: a15 :: a16 :: a17 :: a18 :: a19 :: a20 :: a21 :: some v :: t) H Q := ⟨v, rfl, q⟩
theorem y_set22 (q : te (a0 :: a1 :: a2 :: a3 :: a4 :: a5 :: a6 :: a7 :: a8 :: a9 :: a10 :: a11 :: a12 :: a13 :: a14 :: a15 :: a16 :: a17 :: a18 :: a19 :: a20 :: a21 :: a22 :: t) H fun x H1 => n (a0 :: a1 :: a2 :: a3 :: a4 :: a5 :: a6 :: a7 :: a8 :: a9 :: a10 :: a11 :: a12 :: a13 :: a14 :: a15 :: a16 :: a17 :: a18 :: a19 :: a20 :: a21 :: some x :: t) H1) : tAsg te (gName 22) ⟨n, rt, bk, ct⟩ (a0 :: a1 :: a2 :: a3 :: a4 :: a5 :: a6 :: a7 :: a8 :: a9 :: a10 :: a11 :: a12 :: a13 :: a14 :: a15 :: a16 :: a17 :: a18 :: a19 :: a20 :: a21 :: a22 :: t) H := q
theorem y_gname22 (q : QG (a0 :: a1 :: a2 :: a3 :: a4 :: a5 :: a6 :: a7 :: a8 :: a9 :: a10 :: a11 :: a12 :: a13 :: a14 :: a15 :: a16 :: a17 :: a18 :: a19 :: a20 :: a21 :: some x :: t) H) : gName 22 x (a0 :: a1 :: a2 :: a3 :: a4 :: a5 :: a6 :: a7 :: a8 :: a9 :: a10 :: a11 :: a12 :: a13 :: a14 :: a15 :: a16 :: a17 :: a18 :: a19 :: a20 :: a21 :: a22 :: t) H QG := q
theorem y_wname22 (q : te (a0 :: a1 :: a2 :: a3 :: a4 :: a5 :: a6 :: a7 :: a8 :: a9 :: a10 :: a11 :: a12 :: a13 :: a14 :: a15 :: a16 :: a17 :: a18 :: a19 :: a20 :: a21 :: some x :: t) H Qt) : gName 22 x (wipe (a0 :: a1 :: a2 :: a3 :: a4 :: a5 :: a6 :: a7 :: a8 :: a9 :: a10 :: a11 :: a12 :: a13 :: a14 :: a15 :: a16 :: a17 :: a18 :: a19 :: a20 :: a21 :: a22 :: t) [22]) H fun σ2 H2 => wipe σ2 [22] = wipe (a0 :: a1 :: a2 :: a3 :: a4 :: a5 :: a6 :: a7 :: a8 :: a9 :: a10 :: a11 :: a12 :: a13 :: a14 :: a15 :: a16 :: a17 :: a18 :: a19 :: a20 :: a21 :: a22 :: t) [22] ∧ te σ2 H2 Qt := ⟨rfl, q⟩
theorem y_var23 (q : Q v H) : tVar 23 (a0 :: a1 :: a2 :: a3 :: a4 :: a5 :: a6 :: a7 :: a8 :: a9 :: a10 :: a11 :: a12 :: a13 :: a14 :: a15 :: a16 :: a17 :: a18 :: a19 :: a20 :: a21 :: a22 :: some v :: t) H Q := ⟨v, rfl, q⟩
theorem y_set23 (q : te (a0 :: a1 :: a2 :: a3 :: a4 :: a5 :: a6 :: a7 :: a8 :: a9 :: a10 :: a11 :: a12 :: a13 :: a14 :: a15 :: a16 :: a17 :: a18 :: a19 :: a20 :: a21 :: a22 :: a23 :: t) H fun x H1 => n (a0 :: a1 :: a2 :: a3 :: a4 :: a5 :: a6 :: a7 :: a8 :: a9 :: a10 :: a11 :: a12 :: a13 :: a14 :: a15 :: a16 :: a17 :: a18 :: a19 :: a20 :: a21 :: a22 :: some x :: t) H1) : tAsg te (gName 23) ⟨n, rt, bk, ct⟩ (a0 :: a1 :: a2 :: a3 :: a4 :: a5 :: a6 :: a7 :: a8 :: a9 :: a10 :: a11 :: a12 :: a13 :: a14 :: a15 :: a16 :: a17 :: a18 :: a19 :: a20 :: a21 :: a22 :: a23 :: t) H := q
theorem y_gname23 (q : QG (a0 :: a1 :: a2 :: a3 :: a4 :: a5 :: a6 :: a7 :: a8 :: a9 :: a10 :: a11 :: a12 :: a13 :: a14 :: a15 :: a16 :: a17 :: a18 :: a19 :: a20 :: a21 :: a22 :: some x :: t) H) : gName 23 x (a0 :: a1 :: a2 :: a3 :: a4 :: a5 :: a6 :: a7 :: a8 :: a9 :: a10 :: a11 :: a12 :: a13 :: a14 :: a15 :: a16 :: a17 :: a18 :: a19 :: a20 :: a21 :: a22 :: a23 :: t) H QG := q
theorem y_wname23 (q : te (a0 :: a1 :: a2 :: a3 :: a4 :: a5 :: a6 :: a7 :: a8 :: a9 :: a10 :: a11 :: a12 :: a13 :: a14 :: a15 :: a16 :: a17 :: a18 :: a19 :: a20 :: a21 :: a22 :: some x :: t) H Qt) : gName 23 x (wipe (a0 :: a1 :: a2 :: a3 :: a4 :: a5 :: a6 :: a7 :: a8 :: a9 :: a10 :: a11 :: a12 :: a13 :: a14 :: a15 :: a16 :: a17 :: a18 :: a19 :: a20 :: a21 :: a22 :: a23 :: t) [23]) H fun σ2 H2 => wipe σ2 [23] = wipe (a0 :: a1 :: a2 :: a3 :: a4 :: a5 :: a6 :: a7 :: a8 :: a9 :: a10 :: a11 :: a12 :: a13 :: a14 :: a15 :: a16 :: a17 :: a18 :: a19 :: a20 :: a21 :: a22 :: a23 :: t) [23] ∧ te σ2 H2 Qt := ⟨rfl, q⟩
theorem y_var24 (q : Q v H) : tVar 24 (a0 :: a1 :: a2 :: a3 :: a4 :: a5 :: a6 :: a7 :: a8 :: a9 :: a10 :: a11 :: a12 :: a13 :: a14 :: a15 :: a16 :: a17 :: a18 :: a19 :: a20 :: a21 :: a22 :: a23 :: some v :: t) H Q := ⟨v, rfl, q⟩
theorem y_set24 (q : te (a0 :: a1 :: a2 :: a3 :: a4 :: a5 :: a6 :: a7 :: a8 :: a9 :: a10 :: a11 :: a12 :: a13 :: a14 :: a15 :: a16 :: a17 :: a18 :: a19 :: a20 :: a21 :: a22 :: a23 :: a24 :: t) H fun x H1 => n (a0 :: a1 :: a2 :: a3 :: a4 :: a5 :: a6 :: a7 :: a8 :: a9 :: a10 :: a11 :: a12 :: a13 :: a14 :: a15 :: a16 :: a17 :: a18 :: a19 :: a20 :: a21 :: a22 :: a23 :: some x :: t) H1) : tAsg te (gName 24) ⟨n, rt, bk, ct⟩ (a0 :: a1 :: a2 :: a3 :: a4 :: a5 :: a6 :: a7 :: a8 :: a9 :: a10 :: a11 :: a12 :: a13 :: a14 :: a15 :: a16 :: a17 :: a18 :: a19 :: a20 :: a21 :: a22 :: a23 :: a24 :: t) H := q
theorem y_gname24 (q : QG (a0 :: a1 :: a2 :: a3 :: a4 :: a5 :: a6 :: a7 :: a8 :: a9 :: a10 :: a11 :: a12 :: a13 :: a14 :: a15 :: a16 :: a17 :: a18 :: a19 :: a20 :: a21 :: a22 :: a23 :: some x :: t) H) : gName 24 x (a0 :: a1 :: a2 :: a3 :: a4 :: a5 :: a6 :: a7 :: a8 :: a9 :: a10 :: a11 :: a12 :: a13 :: a14 :: a15 :: a16 :: a17 :: a18 :: a19 :: a20 :: a21 :: a22 :: a23 :: a24 :: t) H QG := q
theorem y_wname24 (q : te (a0 :: a1 :: a2 :: a3 :: a4 :: a5 :: a6 :: a7 :: a8 :: a9 :: a10 :: a11 :: a12 :: a13 :: a14 :: a15 :: a16 :: a17 :: a18 :: a19 :: a20 :: a21 :: a22 :: a23 :: some x :: t) H Qt) : gName 24 x (wipe (a0 :: a1 :: a2 :: a3 :: a4 :: a5 :: a6 :: a7 :: a8 :: a9 :: a10 :: a11 :: a12 :: a13 :: a14 :: a15 :: a16 :: a17 :: a18 :: a19 :: a20 :: a21 :: a22 :: a23 :: a24 :: t) [24]) H fun σ2 H2 => wipe σ2 [24] = wipe (a0 :: a1 :: a2 :: a3 :: a4 :: a5 :: a6 :: a7 :: a8 :: a9 :: a10 :: a11 :: a12 :: a13 :: a14 :: a15 :: a16 :: a17 :: a18 :: a19 :: a20 :: a21 :: a22 :: a23 :: a24 :: t) [24] ∧ te σ2 H2 Qt := ⟨rfl, q⟩
theorem y_var25 (q : Q v H) : tVar 25 (a0 :: a1 :: a2 :: a3 :: a4 :: a5 :: a6 :: a7 :: a8 :: a9 :: a10 :: a11 :: a12 :: a13 :: a14 :: a15 :: a16 :: a17 :: a18 :: a19 :: a20 :: a21 :: a22 :: a23 :: a24 :: some v :: t) H Q := ⟨v, rfl, q⟩
theorem y_set25 (q : te (a0 :: a1 :: a2 :: a3 :: a4 :: a5 :: a6 :: a7 :: a8 :: a9 :: a10 :: a11 :: a12 :: a13 :: a14 :: a15 :: a16 :: a17 :: a18 :: a19 :: a20 :: a21 :: a22 :: a23 :: a24 :: a25 :: t) H fun x H1 => n (a0 :: a1 :: a2 :: a3 :: a4 :: a5 :: a6 :: a7 :: a8 :: a9 :: a10 :: a11 :: a12 :: a13 :: a14 :: a15 :: a16 :: a17 :: a18 :: a19 :: a20 :: a21 :: a22 :: a23 :: a24 :: some x :: t) H1) : tAsg te (gName 25) ⟨n, rt, bk, ct⟩ (a0 :: a1 :: a2 :: a3 :: a4 :: a5 :: a6 :: a7 :: a8 :: a9 :: a10 :: a11 :: a12 :: a13 :: a14 :: a15 :: a16 :: a17 :: a18 :: a19 :: a20 :: a21 :: a22 :: a23 :: a24 :: a25 :: t) H := q
theorem y_gname25 (q : QG (a0 :: a1 :: a2 :: a3 :: a4 :: a5 :: a6 :: a7 :: a8 :: a9 :: a10 :: a11 :: a12 :: a13 :: a14 :: a15 :: a16 :: a17 :: a18 :: a19 :: a20 :: a21 :: a22 :: a23 :: a24 :: some x :: t) H) : gName 25 x (a0 :: a1 :: a2 :: a3 :: a4 :: a5 :: a6 :: a7 :: a8 :: a9 :: a10 :: a11 :: a12 :: a13 :: a14 :: a15 :: a16 :: a17 :: a18 :: a19 :: a20 :: a21 :: a22 :: a23 :: a24 :: a25 :: t) H QG := q
theorem y_wname25 (q : te (a0 :: a1 :: a2 :: a3 :: a4 :: a5 :: a6 :: a7 :: a8 :: a9 :: a10 :: a11 :: a12 :: a13 :: a14 :: a15 :: a16 :: a17 :: a18 :: a19 :: a20 :: a21 :: a22 :: a23 :: a24 :: some x :: t) H Qt) : gName 25 x (wipe (a0 :: a1 :: a2 :: a3 :: a4 :: a5 :: a6 :: a7 :: a8 :: a9 :: a10 :: a11 :: a12 :: a13 :: a14 :: a15 :: a16 :: a17 :: a18 :: a19 :: a20 :: a21 :: a22 :: a23 :: a24 :: a25 :: t) [25]) H fun σ2 H2 => wipe σ2 [25] = wipe (a0 :: a1 :: a2 :: a3 :: a4 :: a5 :: a6 :: a7 :: a8 :: a9 :: a10 :: a11 :: a12 :: a13 :: a14 :: a15 :: a16 :: a17 :: a18 :: a19 :: a20 :: a21 :: a22 :: a23 :: a24 :: a25 :: t) [25] ∧ te σ2 H2 Qt := ⟨rfl, q⟩
theorem y_var26 (q : Q v H) : tVar 26 (a0 :: a1 :: a2 :: a3 :: a4 :: a5 :: a6 :: a7 :: a8 :: a9 :: a10 :: a11 :: a12 :: a13 :: a14 :: a15 :: a16 :: a17 :: a18 :: a19 :: a20 :: a21 :: a22 :: a23 :: a24 :: a25 :: some v :: t) H Q := ⟨v, rfl, q⟩
theorem y_set26 (q : te (a0 :: a1 :: a2 :: a3 :: a4 :: a5 :: a6 :: a7 :: a8 :: a9 :: a10 :: a11 :: a12 :: a13 :: a14 :: a15 :: a16 :: a17 :: a18 :: a19 :: a20 :: a21 :: a22 :: a23 :: a24 :: a25 :: a26 :: t) H fun x H1 => n (a0 :: a1 :: a2 :: a3 :: a4 :: a5 :: a6 :: a7 :: a8 :: a9 :: a10 :: a11 :: a12 :: a13 :: a14 :: a15 :: a16 :: a17 :: a18 :: a19 :: a20 :: a21 :: a22 :: a23 :: a24 :: a25 :: some x :: t) H1) : tAsg te (gName 26) ⟨n, rt, bk, ct⟩ (a0 :: a1 :: a2 :: a3 :: a4 :: a5 :: a6 :: a7 :: a8 :: a9 :: a10 :: a11 :: a12 :: a13 :: a14 :: a15 :: a16 :: a17 :: a18 :: a19 :: a20 :: a21 :: a22 :: a23 :: a24 :: a25 :: a26 :: t) H := q
theorem y_gname26 (q : QG (a0 :: a1 :: a2 :: a3 :: a4 :: a5 :: a6 :: a7 :: a8 :: a9 :: a10 :: a11 :: a12 :: a13 :: a14 :: a15 :: a16 :: a17 :: a18 :: a19 :: a20 :: a21 :: a22 :: a23 :: a24 :: a25 :: some x :: t) H) : gName 26 x (a0 :: a1 :: a2 :: a3 :: a4 :: a5 :: a6 :: a7 :: a8 :: a9 :: a10 :: a11 :: a12 :: a13 :: a14 :: a15 :: a16 :: a17 :: a18 :: a19 :: a20 :: a21 :: a22 :: a23 :: a24 :: a25 :: a26 :: t) H QG := q
theorem y_wname26 (q : te (a0 :: a1 :: a2 :: a3 :: a4 :: a5 :: a6 :: a7 :: a8 :: a9 :: a10 :: a11 :: a12 :: a13 :: a14 :: a15 :: a16 :: a17 :: a18 :: a19 :: a20 :: a21 :: a22 :: a23 :: a24 :: a25 :: some x :: t) H Qt) : gName 26 x (wipe (a0 :: a1 :: a2 :: a3 :: a4 :: a5 :: a6 :: a7 :: a8 :: a9 :: a10 :: a11 :: a12 :: a13 :: a14 :: a15 :: a16 :: a17 :: a18 :: a19 :: a20 :: a21 :: a22 :: a23 :: a24 :: a25 :: a26 :: t) [26]) H fun σ2 H2 => wipe σ2 [26] = wipe (a0 :: a1 :: a2 :: a3 :: a4 :: a5 :: a6 :: a7 :: a8 :: a9 :: a10 :: a11 :: a12 :: a13 :: a14 :: a15 :: a16 :: a17 :: a18 :: a19 :: a20 :: a21 :: a22 :: a23 :: a24 :: a25 :: a26 :: t) [26] ∧ te σ2 H2 Qt := ⟨rfl, q⟩
theorem y_var27 (q : Q v H) : tVar 27 (a0 :: a1 :: a2 :: a3 :: a4 :: a5 :: a6 :: a7 :: a8 :: a9 :: a10 :: a11 :: a12 :: a13 :: a14 :: a15 :: a16 :: a17 :: a18 :: a19 :: a20 :: a21 :: a22 :: a23 :: a24 :: a25 :: a26 :: some v :: t) H Q := ⟨v, rfl, q⟩
theorem y_set27 (q : te (a0 :: a1 :: a2 :: a3 :: a4 :: a5 :: a6 :: a7 :: a8 :: a9 :: a10 :: a11 :: a12 :: a13 :: a14 :: a15 :: a16 :: a17 :: a18 :: a19 :: a20 :: a21 :: a22 :: a23 :: a24 :: a25 :: a26 :: a27 :: t) H fun x H1 => n (a0 :: a1 :: a2 :: a3 :: a4 :: a5 :: a6 :: a7 :: a8 :: a9 :: a10 :: a11 :: a12 :: a13 :: a14 :: a15 :: a16 :: a17 :: a18 :: a19 :: a20 :: a21 :: a22 :: a23 :: a24 :: a25 :: a26 :: some x :: t) H1) : tAsg te (gName 27) ⟨n, rt, bk, ct⟩ (a0 :: a1 :: a2 :: a3 :: a4 :: a5 :: a6 :: a7 :: a8 :: a9 :: a10 :: a11 :: a12 :: a13 :: a14 :: a15 :: a16 :: a17 :: a18 :: a19 :: a20 :: a21 :: a22 :: a23 :: a24 :: a25 :: a26 :: a27 :: t) H := q
theorem y_gname27 (q : QG (a0 :: a1 :: a2 :: a3 :: a4 :: a5 :: a6 :: a7 :: a8 :: a9 :: a10 :: a11 :: a12 :: a13 :: a14 :: a15 :: a16 :: a17 :: a18 :: a19 :: a20 :: a21 :: a22 :: a23 :: a24 :: a25 :: a26 :: some x :: t) H) : gName 27 x (a0 :: a1 :: a2 :: a3 :: a4 :: a5 :: a6 :: a7 :: a8 :: a9 :: a10 :: a11 :: a12 :: a13 :: a14 :: a15 :: a16 :: a17 :: a18 :: a19 :: a20 :: a21 :: a22 :: a23 :: a24 :: a25 :: a26 :: a27 :: t) H QG := q
theorem y_wname27 (q : te (a0 :: a1 :: a2 :: a3 :: a4 :: a5 :: a6 :: a7 :: a8 :: a9 :: a10 :: a11 :: a12 :: a13 :: a14 :: a15 :: a16 :: a17 :: a18 :: a19 :: a20 :: a21 :: a22 :: a23 :: a24 :: a25 :: a26 :: some x :: t) H Qt) : gName 27 x (wipe (a0 :: a1 :: a2 :: a3 :: a4 :: a5 :: a6 :: a7 :: a8 :: a9 :: a10 :: a11 :: a12 :: a13 :: a14 :: a15 :: a16 :: a17 :: a18 :: a19 :: a20 :: a21 :: a22 :: a23 :: a24 :: a25 :: a26 :: a27 :: t) [27]) H fun σ2 H2 => wipe σ2 [27] = wipe (a0 :: a1 :: a2 :: a3 :: a4 :: a5 :: a6 :: a7 :: a8 :: a9 :: a10 :: a11 :: a12 :: a13 :: a14 :: a15 :: a16 :: a17 :: a18 :: a19 :: a20 :: a21 :: a22 :: a23 :: a24 :: a25 :: a26 :: a27 :: t) [27] ∧ te σ2 H2 Qt := ⟨rfl, q⟩
theorem y_var28 (q : Q v H) : tVar 28 (a0 :: a1 :: a2 :: a3 :: a4 :: a5 :: a6 :: a7 :: a8 :: a9 :: a10 :: a11 :: a12 :: a13 :: a14 :: a15 :: a16 :: a17 :: a18 :: a19 :: a20 :: a21 :: a22 :: a23 :: a24 :: a25 :: a26 :: a27 :: some v :: t) H Q := ⟨v, rfl, q⟩
theorem y_set28 (q : te (a0 :: a1 :: a2 :: a3 :: a4 :: a5 :: a6 :: a7 :: a8 :: a9 :: a10 :: a11 :: a12 :: a13 :: a14 :: a15 :: a16 :: a17 :: a18 :: a19 :: a20 :: a21 :: a22 :: a23 :: a24 :: a25 :: a26 :: a27 :: a28 :: t) H fun x H1 => n (a0 :: a1 :: a2 :: a3 :: a4 :: a5 :: a6 :: a7 :: a8 :: a9 :: a10 :: a11 :: a12 :: a13 :: a14 :: a15 :: a16 :: a17 :: a18 :: a19 :: a20 :: a21 :: a22 :: a23 :: a24 :: a25 :: a26 :: a27 :: some x :: t) H1) : tAsg te (gName 28) ⟨n, rt, bk, ct⟩ (a0 :: a1 :: a2 :: a3 :: a4 :: a5 :: a6 :: a7 :: a8 :: a9 :: a10 :: a11 :: a12 :: a13 :: a14 :: a15 :: a16 :: a17 :: a18 :: a19 :: a20 :: a21 :: a22 :: a23 :: a24 :: a25 :: a26 :: a27 :: a28 :: t) H := q
theorem y_gname28 (q : QG (a0 :: a1 :: a2 :: a3 :: a4 :: a5 :: a6 :: a7 :: a8 :: a9 :: a10 :: a11 :: a12 :: a13 :: a14 :: a15 :: a16 :: a17 :: a18 :: a19 :: a20 :: a21 :: a22 :: a23 :: a24 :: a25 :: a26 :: a27 :: some x :: t) H) : gName 28 x (a0 :: a1 :: a2 :: a3 :: a4 :: a5 :: a6 :: a7 :: a8 :: a9 :: a10 :: a11 :: a12 :: a13 :: a14 :: a15 :: a16 :: a17 :: a18 :: a19 :: a20 :: a21 :: a22 :: a23 :: a24 :: a25 :: a26 :: a27 :: a28 :: t) H QG := q
theorem y_wname28 (q : te (a0 :: a1 :: a2 :: a3 :: a4 :: a5 :: a6 :: a7 :: a8 :: a9 :: a10 :: a11 :: a12 :: a13 :: a14 :: a15 :: a16 :: a17 :: a18 :: a19 :: a20 :: a21 :: a22 :: a23 :: a24 :: a25 :: a26 :: a27 :: some x :: t) H Qt) : gName 28 x (wipe (a0 :: a1 :: a2 :: a3 :: a4 :: a5 :: a6 :: a7 :: a8 :: a9 :: a10 :: a11 :: a12 :: a13 :: a14 :: a15 :: a16 :: a17 :: a18 :: a19 :: a20 :: a21 :: a22 :: a23 :: a24 :: a25 :: a26 :: a27 :: a28 :: t) [28]) H fun σ2 H2 => wipe σ2 [28] = wipe (a0 :: a1 :: a2 :: a3 :: a4 :: a5 :: a6 :: a7 :: a8 :: a9 :: a10 :: a11 :: a12 :: a13 :: a14 :: a15 :: a16 :: a17 :: a18 :: a19 :: a20 :: a21 :: a22 :: a23 :: a24 :: a25 :: a26 :: a27 :: a28 :: t) [28] ∧ te σ2 H2 Qt := ⟨rfl, q⟩
theorem y_var29 (q : Q v H) : tVar 29 (a0 :: a1 :: a2 :: a3 :: a4 :: a5 :: a6 :: a7 :: a8 :: a9 :: a10 :: a11 :: a12 :: a13 :: a14 :: a15 :: a16 :: a17 :: a18 :: a19 :: a20 :: a21 :: a22 :: a23 :: a24 :: a25 :: a26 :: a27 :: a28 :: some v :: t) H Q := ⟨v, rfl, q⟩
theorem y_set29 (q : te (a0 :: a1 :: a2 :: a3 :: a4 :: a5 :: a6 :: a7 :: a8 :: a9 :: a10 :: a11 :: a12 :: a13 :: a14 :: a15 :: a16 :: a17 :: a18 :: a19 :: a20 :: a21 :: a22 :: a23 :: a24 :: a25 :: a26 :: a27 :: a28 :: a29 :: t) H fun x H1 => n (a0 :: a1 :: a2 :: a3 :: a4 :: a5 :: a6 :: a7 :: a8 :: a9 :: a10 :: a11 :: a12 :: a13 :: a14 :: a15 :: a16 :: a17 :: a18 :: a19 :: a20 :: a21 :: a22 :: a23 :: a24 :: a25 :: a26 :: a27 :: a28 :: some x :: t) H1) : tAsg te (gName 29) ⟨n, rt, bk, ct⟩ (a0 :: a1 :: a2 :: a3 :: a4 :: a5 :: a6 :: a7 :: a8 :: a9 :: a10 :: a11 :: a12 :: a13 :: a14 :: a15 :: a16 :: a17 :: a18 :: a19 :: a20 :: a21 :: a22 :: a23 :: a24 :: a25 :: a26 :: a27 :: a28 :: a29 :: t) H := q
theorem y_gname29 (q : QG (a0 :: a1 :: a2 :: a3 :: a4 :: a5 :: a6 :: a7 :: a8 :: a9 :: a10 :: a11 :: a12 :: a13 :: a14 :: a15 :: a16 :: a17 :: a18 :: a19 :: a20 :: a21 :: a22 :: a23 :: a24 :: a25 :: a26 :: a27 :: a28 :: some x :: t) H) : gName 29 x (a0 :: a1 :: a2 :: a3 :: a4 :: a5 :: a6 :: a7 :: a8 :: a9 :: a10 :: a11 :: a12 :: a13 :: a14 :: a15 :: a16 :: a17 :: a18 :: a19 :: a20 :: a21 :: a22 :: a23 :: a24 :: a25 :: a26 :: a27 :: a28 :: a29 :: t) H QG := q
theorem y_wname29 (q : te (a0 :: a1 :: a2 :: a3 :: a4 :: a5 :: a6 :: a7 :: a8 :: a9 :: a10 :: a11 :: a12 :: a13 :: a14 :: a15 :: a16 :: a17 :: a18 :: a19 :: a20 :: a21 :: a22 :: a23 :: a24 :: a25 :: a26 :: a27 :: a28 :: some x :: t) H Qt) : gName 29 x (wipe (a0 :: a1 :: a2 :: a3 :: a4 :: a5 :: a6 :: a7 :: a8 :: a9 :: a10 :: a11 :: a12 :: a13 :: a14 :: a15 :: a16 :: a17 :: a18 :: a19 :: a20 :: a21 :: a22 :: a23 :: a24 :: a25 :: a26 :: a27 :: a28 :: a29 :: t) [29]) H fun σ2 H2 => wipe σ2 [29] = wipe (a0 :: a1 :: a2 :: a3 :: a4 :: a5 :: a6 :: a7 :: a8 :: a9 :: a10 :: a11 :: a12 :: a13 :: a14 :: a15 :: a16 :: a17 :: a18 :: a19 :: a20 :: a21 :: a22 :: a23 :: a24 :: a25 :: a26 :: a27 :: a28 :: a29 :: t) [29] ∧ te σ2 H2 Qt := ⟨rfl, q⟩
theorem nox_K {X : Cx} : X.nox.K = X.K := rfl
theorem tr_K {X : Cx} {pn : List (Addr × Obj)} {xe : Value → Shared → Prop} : (X.tr pn xe).K = X.K := rfl
theorem cxOf_K {CX : CXT} {P : Program} {w : World} {K : PySem.W.Frag} {mg : Str → Option Value} {base : Heap} {N : List Str} {qual : Str} {scope : Scope} {f : Addr} {cd : Value} {A : Around} {outer : List Env} {s : Shared} {H : Hp} {E : XK} : (cxOf CX P w K mg base N qual scope f cd A outer s H E).K = K := rfl
theorem y_call {sp : Sp} {dvs : List V} {E : XK} {ta : TA} {σ : L2.St} (q : ta σ H fun vs H1 => sp (vs ++ dvs) H1 Q E) : tCall sp dvs E ta σ H Q := q
theorem y_callS {sp : Sp} {E : L2.St → XK} {ta : TA} {σ : L2.St} (q : ta σ H fun vs H1 => sp vs H1 Q (E σ)) : tCallS sp E ta σ H Q := q
theorem y_start {tt : TS} {D : Ends} {σ σ' : L2.St} (h : σ = σ') (q : tt D σ' H) : tt D σ H := h ▸ q
end
end L2

/-! ## G5: texts as lists of signs -/
namespace L2
open PySem PySem.Spec PyProof.Rows
/-- the text of a list of signs -/
def ofL (l : List Nat) : Str := ⟨l.toArray⟩
theorem ofL_cps (s : Str) : ofL s.cps.toList = s := by cases s; rfl
theorem ofL_app (a b : List Nat) : ofL a ++ ofL b = ofL (a ++ b) := by
  show Str.append (ofL a) (ofL b) = _
  simp [Str.append, ofL]
theorem ofL_len (a : List Nat) : (ofL a).length = a.length := by simp [Str.length, ofL]
theorem ofL_inj {a b : List Nat} (h : ofL a = ofL b) : a = b := by
  have : (ofL a).cps.toList = (ofL b).cps.toList := by rw [h]
  simpa [ofL] using this
theorem sIx_i (n d : Nat) (k : Int) (h : 0 ≤ k) : HT.sIx n d (some k) = min k.toNat n := by
  have e : k = (k.toNat : Int) := by omega
  have q := HT.sIx_nat n d k.toNat
  rw [← e] at q
  exact q
theorem cut_to (s : Str) (k : Int) (h : 0 ≤ k) : cutS s none (some k) = ofL (s.cps.toList.take k.toNat) := by
  unfold cutS
  rw [HT.sIx_none, sIx_i _ _ _ h]
  show ofL _ = _
  congr 1
  have : s.cps.toList.length = s.length := by simp [Str.length]
  rw [List.drop_zero, Nat.sub_zero, List.take_eq_take_iff]
  omega
theorem cut_of (s : Str) (j k : Int) (h : 0 ≤ j) (h2 : j ≤ k) : cutS s (some j) (some k) = ofL ((s.cps.toList.drop j.toNat).take (k.toNat - j.toNat)) := by
  unfold cutS
  rw [sIx_i _ _ _ h, sIx_i _ _ _ (by omega)]
  show ofL _ = _
  congr 1
  have : s.cps.toList.length = s.length := by simp [Str.length]
  by_cases c : j.toNat ≤ s.length
  · rw [Nat.min_eq_left c, List.take_eq_take_iff, List.length_drop]
    omega
  · rw [List.drop_eq_nil_of_le (by omega), List.drop_eq_nil_of_le (by omega)]
    simp
theorem cut_from (s : Str) (j : Int) (h : 0 ≤ j) : cutS s (some j) none = ofL (s.cps.toList.drop j.toNat) := by
  unfold cutS
  rw [sIx_i _ _ _ h, HT.sIx_none]
  show ofL _ = _
  congr 1
  have : s.cps.toList.length = s.length := by simp [Str.length]
  by_cases c : j.toNat ≤ s.length
  · rw [Nat.min_eq_left c, List.take_of_length_le]
    rw [List.length_drop]; omega
  · rw [List.drop_eq_nil_of_le (by omega), List.drop_eq_nil_of_le (by omega)]
    simp
def txts (ls : List (List Nat)) : List V := ls.map fun l => V.str (ofL l)
theorem txts_app (a b : List (List Nat)) : txts (a ++ b) = txts a ++ txts b := List.map_append
theorem txts_len (a : List (List Nat)) : (txts a).length = a.length := List.length_map ..
theorem txts_strs (a : List (List Nat)) : txts a = (a.map ofL).map V.str := by simp [txts]
theorem range_snoc {α : Type} (f : Nat → α) (i : Nat) : (List.range (i + 1)).map f = (List.range i).map f ++ [f i] := by simp [List.range_succ]
/-! ## augmented slots (printed by a program) -/
section
variable {H : Hp} {te : TE} {ti : TIp} {n : St → Hp → Prop} {rt : VK} {bk ct : St → Hp → Prop} {x : V} {t : List (Option V)} {a0 a1 a2 a3 a4 a5 a6 a7 a8 a9 a10 a11 a12 a13 a14 a15 a16 a17 a18 a19 a20 a21 a22 a23 a24 a25 a26 a27 a28 a29 : Option V}
theorem y_aug0 (q : te (some x :: t) H fun y H1 => ti x y H1 fun z H2 => n (some z :: t) H2) : tAug 0 te ti ⟨n, rt, bk, ct⟩ (some x :: t) H := ⟨x, rfl, q⟩
theorem y_aug1 (q : te (a0 :: some x :: t) H fun y H1 => ti x y H1 fun z H2 => n (a0 :: some z :: t) H2) : tAug 1 te ti ⟨n, rt, bk, ct⟩ (a0 :: some x :: t) H := ⟨x, rfl, q⟩
theorem y_aug2 (q : te (a0 :: a1 :: some x :: t) H fun y H1 => ti x y H1 fun z H2 => n (a0 :: a1 :: some z :: t) H2) : tAug 2 te ti ⟨n, rt, bk, ct⟩ (a0 :: a1 :: some x :: t) H := ⟨x, rfl, q⟩
theorem y_aug3 (q : te (a0 :: a1 :: a2 :: some x :: t) H fun y H1 => ti x y H1 fun z H2 => n (a0 :: a1 :: a2 :: some z :: t) H2) : tAug 3 te ti ⟨n, rt, bk, ct⟩ (a0 :: a1 :: a2 :: some x :: t) H := ⟨x, rfl, q⟩
theorem y_aug4 (q : te (a0 :: a1 :: a2 :: a3 :: some x :: t) H fun y H1 => ti x y H1 fun z H2 => n (a0 :: a1 :: a2 :: a3 :: some z :: t) H2) : tAug 4 te ti ⟨n, rt, bk, ct⟩ (a0 :: a1 :: a2 :: a3 :: some x :: t) H := ⟨x, rfl, q⟩
theorem y_aug5 (q : te (a0 :: a1 :: a2 :: a3 :: a4 :: some x :: t) H fun y H1 => ti x y H1 fun z H2 => n (a0 :: a1 :: a2 :: a3 :: a4 :: some z :: t) H2) : tAug 5 te ti ⟨n, rt, bk, ct⟩ (a0 :: a1 :: a2 :: a3 :: a4 :: some x :: t) H := ⟨x, rfl, q⟩
theorem y_aug6 (q : te (a0 :: a1 :: a2 :: a3 :: a4 :: a5 :: some x :: t) H fun y H1 => ti x y H1 fun z H2 => n (a0 :: a1 :: a2 :: a3 :: a4 :: a5 :: some z :: t) H2) : tAug 6 te ti ⟨n, rt, bk, ct⟩ (a0 :: a1 :: a2 :: a3 :: a4 :: a5 :: some x :: t) H := ⟨x, rfl, q⟩
theorem y_aug7 (q : te (a0 :: a1 :: a2 :: a3 :: a4 :: a5 :: a6 :: some x :: t) H fun y H1 => ti x y H1 fun z H2 => n (a0 :: a1 :: a2 :: a3 :: a4 :: a5 :: a6 :: some z :: t) H2) : tAug 7 te ti ⟨n, rt, bk, ct⟩ (a0 :: a1 :: a2 :: a3 :: a4 :: a5 :: a6 :: some x :: t) H := ⟨x, rfl, q⟩
theorem y_aug8 (q : te (a0 :: a1 :: a2 :: a3 :: a4 :: a5 :: a6 :: a7 :: some x :: t) H fun y H1 => ti x y H1 fun z H2 => n (a0 :: a1 :: a2 :: a3 :: a4 :: a5 :: a6 :: a7 :: some z :: t) H2) : tAug 8 te ti ⟨n, rt, bk, ct⟩ (a0 :: a1 :: a2 :: a3 :: a4 :: a5 :: a6 :: a7 :: some x :: t) H := ⟨x, rfl, q⟩
theorem y_aug9 (q : te (a0 :: a1 :: a2 :: a3 :: a4 :: a5 :: a6 :: a7 :: a8 :: some x :: t) H fun y H1 => ti x y H1 fun z H2 => n (a0 :: a1 :: a2 :: a3 :: a4 :: a5 :: a6 :: a7 :: a8 :: some z :: t) H2) : tAug 9 te ti ⟨n, rt, bk, ct⟩ (a0 :: a1 :: a2 :: a3 :: a4 :: a5 :: a6 :: a7 :: a8 :: some x :: t) H := ⟨x, rfl, q⟩
theorem y_aug10 (q : te (a0 :: a1 :: a2 :: a3 :: a4 :: a5 :: a6 :: a7 :: a8 :: a9 :: some x :: t) H fun y H1 => ti x y H1 fun z H2 => n (a0 :: a1 :: a2 :: a3 :: a4 :: a5 :: a6 :: a7 :: a8 :: a9 :: some z :: t) H2) : tAug 10 te ti ⟨n, rt, bk, ct⟩ (a0 :: a1 :: a2 :: a3 :: a4 :: a5 :: a6 :: a7 :: a8 :: a9 :: some x :: t) H := ⟨x, rfl, q⟩
theorem y_aug11 (q : te (a0 :: a1 :: a2 :: a3 :: a4 :: a5 :: a6 :: a7 :: a8 :: a9 :: a10 :: some x :: t) H fun y H1 => ti x y H1 fun z H2 => n (a0 :: a1 :: a2 :: a3 :: a4 :: a5 :: a6 :: a7 :: a8 :: a9 :: a10 :: some z :: t) H2) : tAug 11 te ti ⟨n, rt, bk, ct⟩ (a0 :: a1 :: a2 :: a3 :: a4 :: a5 :: a6 :: a7 :: a8 :: a9 :: a10 :: some x :: t) H := ⟨x, rfl, q⟩
theorem y_aug12 (q : te (a0 :: a1 :: a2 :: a3 :: a4 :: a5 :: a6 :: a7 :: a8 :: a9 :: a10 :: a11 :: some x :: t) H fun y H1 => ti x y H1 fun z H2 => n (a0 :: a1 :: a2 :: a3 :: a4 :: a5 :: a6 :: a7 :: a8 :: a9 :: a10 :: a11 :: some z :: t) H2) : tAug 12 te ti ⟨n, rt, bk, ct⟩ (a0 :: a1 :: a2 :: a3 :: a4 :: a5 :: a6 :: a7 :: a8 :: a9 :: a10 :: a11 :: some x :: t) H := ⟨x, rfl, q⟩
theorem y_aug13 (q : te (a0 :: a1 :: a2 :: a3 :: a4 :: a5 :: a6 :: a7 :: a8 :: a9 :: a10 :: a11 :: a12 :: some x :: t) H fun y H1 => ti x y H1 fun z H2 => n (a0 :: a1 :: a2 :: a3 :: a4 :: a5 :: a6 :: a7 :: a8 :: a9 :: a10 :: a11 :: a12 :: some z :: t) H2) : tAug 13 te ti ⟨n, rt, bk, ct⟩ (a0 :: a1 :: a2 :: a3 :: a4 :: a5 :: a6 :: a7 :: a8 :: a9 :: a10 :: a11 :: a12 :: some x :: t) H := ⟨x, rfl, q⟩
theorem y_aug14 (q : te (a0 :: a1 :: a2 :: a3 :: a4 :: a5 :: a6 :: a7 :: a8 :: a9 :: a10 :: a11 :: a12 :: a13 :: some x :: t) H fun y H1 => ti x y H1 fun z H2 => n (a0 :: a1 :: a2 :: a3 :: a4 :: a5 :: a6 :: a7 :: a8 :: a9 :: a10 :: a11 :: a12 :: a13 :: some z :: t) H2) : tAug 14 te ti ⟨n, rt, bk, ct⟩ (a0 :: a1 :: a2 :: a3 :: a4 :: a5 :: a6 :: a7 :: a8 :: a9 :: a10 :: a11 :: a12 :: a13 :: some x :: t) H := ⟨x, rfl, q⟩
theorem y_aug15 (q : te (a0 :: a1 :: a2 :: a3 :: a4 :: a5 :: a6 :: a7 :: a8 :: a9 :: a10 :: a11 :: a12 :: a13 :: a14 :: some x :: t) H fun y H1 => ti x y H1 fun z H2 => n (a0 :: a1 :: a2 :: a3 :: a4 :: a5 :: a6 :: a7 :: a8 :: a9 :: a10 :: a11 :: a12 :: a13 :: a14 :: some z :: t) H2) : tAug 15 te ti ⟨n, rt, bk, ct⟩ (a0 :: a1 :: a2 :: a3 :: a4 :: a5 :: a6 :: a7 :: a8 :: a9 :: a10 :: a11 :: a12 :: a13 :: a14 :: some x :: t) H := ⟨x, rfl, q⟩
theorem y_aug16 (q : te (a0 :: a1 :: a2 :: a3 :: a4 :: a5 :: a6 :: a7 :: a8 :: a9 :: a10 :: a11 :: a12 :: a13 :: a14 :: a15 :: some x :: t) H fun y H1 => ti x y H1 fun z H2 => n (a0 :: a1 :: a2 :: a3 :: a4 :: a5 :: a6 :: a7 :: a8 :: a9 :: a10 :: a11 :: a12 :: a13 :: a14 :: a15 :: some z :: t) H2) : tAug 16 te ti ⟨n, rt, bk, ct⟩ (a0 :: a1 :: a2 :: a3 :: a4 :: a5 :: a6 :: a7 :: a8 :: a9 :: a10 :: a11 :: a12 :: a13 :: a14 :: a15 :: some x :: t) H := ⟨x, rfl, q⟩
theorem y_aug17 (q : te (a0 :: a1 :: a2 :: a3 :: a4 :: a5 :: a6 :: a7 :: a8 :: a9 :: a10 :: a11 :: a12 :: a13 :: a14 :: a15 :: a16 :: some x :: t) H fun y H1 => ti x y H1 fun z H2 => n (a0 :: a1 :: a2 :: a3 :: a4 :: a5 :: a6 :: a7 :: a8 :: a9 :: a10 :: a11 :: a12 :: a13 :: a14 :: a15 :: a16 :: some z :: t) H2) : tAug 17 te ti ⟨n, rt, bk, ct⟩ (a0 :: a1 :: a2 :: a3 :: a4 :: a5 :: a6 :: a7 :: a8 :: a9 :: a10 :: a11 :: a12 :: a13 :: a14 :: a15 :: a16 :: some x :: t) H := ⟨x, rfl, q⟩
theorem y_aug18 (q : te (a0 :: a1 :: a2 :: a3 :: a4 :: a5 :: a6 :: a7 :: a8 :: a9 :: a10 :: a11 :: a12 :: a13 :: a14 :: a15 :: a16 :: a17 :: some x :: t) H fun y H1 => ti x y H1 fun z H2 => n (a0 :: a1 :: a2 :: a3 :: a4 :: a5 :: a6 :: a7 :: a8 :: a9 :: a10 :: a11 :: a12 :: a13 :: a14 :: a15 :: a16 :: a17 :: some z :: t) H2) : tAug 18 te ti ⟨n, rt, bk, ct⟩ (a0 :: a1 :: a2 :: a3 :: a4 :: a5 :: a6 :: a7 :: a8 :: a9 :: a10 :: a11 :: a12 :: a13 :: a14 :: a15 :: a16 :: a17 :: some x :: t) H := ⟨x, rfl, q⟩
theorem y_aug19 (q : te (a0 :: a1 :: a2 :: a3 :: a4 :: a5 :: a6 :: a7 :: a8 :: a9 :: a10 :: a11 :: a12 :: a13 :: a14 :: a15 :: a16 :: a17 :: a18 :: some x :: t) H fun y H1 => ti x y H1 fun z H2 => n (a0 :: a1 :: a2 :: a3 :: a4 :: a5 :: a6 :: a7 :: a8 :: a9 :: a10 :: a11 :: a12 :: a13 :: a14 :: a15 :: a16 :: a17 :: a18 :: some z :: t) H2) : tAug 19 te ti ⟨n, rt, bk, ct⟩ (a0 :: a1 :: a2 :: a3 :: a4 :: a5 :: a6 :: a7 :: a8 :: a9 :: a10 :: a11 :: a12 :: a13 :: a14 :: a15 :: a16 :: a17 :: a18 :: some x :: t) H := ⟨x, rfl, q⟩
theorem y_aug20 (q : te (a0 :: a1 :: a2 :: a3 :: a4 :: a5 :: a6 :: a7 :: a8 :: a9 :: a10 :: a11 :: a12 :: a13 :: a14 :: a15 :: a16 :: a17 :: a18 :: a19 :: some x :: t) H fun y H1 => ti x y H1 fun z H2 => n (a0 :: a1 :: a2 :: a3 :: a4 :: a5 :: a6 :: a7 :: a8 :: a9 :: a10 :: a11 :: a12 :: a13 :: a14 :: a15 :: a16 :: a17 :: a18 :: a19 :: some z :: t) H2) : tAug 20 te ti ⟨n, rt, bk, ct⟩ (a0 :: a1 :: a2 :: a3 :: a4 :: a5 :: a6 :: a7 :: a8 :: a9 :: a10 :: a11 :: a12 :: a13 :: a14 :: a15 :: a16 :: a17 :: a18 :: a19 :: some x :: t) H := ⟨x, rfl, q⟩
theorem y_aug21 (q : te (a0 :: a1 :: a2 :: a3 :: a4 :: a5 :: a6 :: a7 :: a8 :: a9 :: a10 :: a11 :: a12 :: a13 :: a14 :: a15 :: a16 :: a17 :: a18 :: a19 :: a20 :: some x :: t) H fun y H1 => ti x y H1 fun z H2 => n (a0 :: a1 :: a2 :: a3 :: a4 :: a5 :: a6 :: a7 :: a8 :: a9 :: a10 :: a11 :: a12 :: a13 :: a14 :: a15 :: a16 :: a17 :: a18 :: a19 :: a20 :: some z :: t) H2) : tAug 21 te ti ⟨n, rt, bk, ct⟩ (a0 :: a1 :: a2 :: a3 :: a4 :: a5 :: a6 :: a7 :: a8 :: a9 :: a10 :: a11 :: a12 :: a13 :: a14 :: a15 :: a16 :: a17 :: a18 :: a19 :: a20 :: some x :: t) H := ⟨x, rfl, q⟩
theorem y_aug22 (q : te (a0 :: a1 :: a2 :: a3 :: a4 :: a5 :: a6 :: a7 :: a8 :: a9 :: a10 :: a11 :: a12 :: a13 :: a14 :: a15 :: a16 :: a17 :: a18 :: a19 :: a20 :: a21 :: some x :: t) H fun y H1 => ti x y H1 fun z H2 => n (a0 :: a1 :: a2 :: a3 :: a4 :: a5 :: a6 :: a7 :: a8 :: a9 :: a10 :: a11 :: a12 :: a13 :: a14 :: a15 :: a16 :: a17 :: a18 :: a19 :: a20 :: a21 :: some z :: t) H2) : tAug 22 te ti ⟨n, rt, bk, ct⟩ (a0 :: a1 :: a2 :: a3 :: a4 :: a5 :: a6 :: a7 :: a8 :: a9 :: a10 :: a11 :: a12 :: a13 :: a14 :: a15 :: a16 :: a17 :: a18 :: a19 :: a20 :: a21 :: some x :: t) H := ⟨x, rfl, q⟩
theorem y_aug23 (q : te (a0 :: a1 :: a2 :: a3 :: a4 :: a5 :: a6 :: a7 :: a8 :: a9 :: a10 :: a11 :: a12 :: a13 :: a14 :: a15 :: a16 :: a17 :: a18 :: a19 :: a20 :: a21 :: a22 :: some x :: t) H fun y H1 => ti x y H1 fun z H2 => n (a0 :: a1 :: a2 :: a3 :: a4 :: a5 :: a6 :: a7 :: a8 :: a9 :: a10 :: a11 :: a12 :: a13 :: a14 :: a15 :: a16 :: a17 :: a18 :: a19 :: a20 :: a21 :: a22 :: some z :: t) H2) : tAug 23 te ti ⟨n, rt, bk, ct⟩ (a0 :: a1 :: a2 :: a3 :: a4 :: a5 :: a6 :: a7 :: a8 :: a9 :: a10 :: a11 :: a12 :: a13 :: a14 :: a15 :: a16 :: a17 :: a18 :: a19 :: a20 :: a21 :: a22 :: some x :: t) H := ⟨x, rfl, q⟩
theorem y_aug24 (q : te (a0 :: a1 :: a2 :: a3 :: a4 :: a5 :: a6 :: a7 :: a8 :: a9 :: a10 :: a11 :: a12 :: a13 :: a14 :: a15 :: a16 :: a17 :: a18 :: a19 :: a20 :: a21 :: a22 :: a23 :: some x :: t) H fun y H1 => ti x y H1 fun z H2 => n (a0 :: a1 :: a2 :: a3 :: a4 :: a5 :: a6 :: a7 :: a8 :: a9 :: a10 :: a11 :: a12 :: a13 :: a14 :: a15 :: a16 :: a17 :: a18 :: a19 :: a20 :: a21 :: a22 :: a23 :: some z :: t) H2) : tAug 24 te ti ⟨n, rt, bk, ct⟩ (a0 :: a1 :: a2 :: a3 :: a4 :: a5 :: a6 :: a7 :: a8 :: a9 :: a10 :: a11 :: a12 :: a13 :: a14 :: a15 :: a16 :: a17 :: a18 :: a19 :: a20 :: a21 :: a22 :: a23 :: some x :: t) H := ⟨x, rfl, q⟩
theorem y_aug25 (q : te (a0 :: a1 :: a2 :: a3 :: a4 :: a5 :: a6 :: a7 :: a8 :: a9 :: a10 :: a11 :: a12 :: a13 :: a14 :: a15 :: a16 :: a17 :: a18 :: a19 :: a20 :: a21 :: a22 :: a23 :: a24 :: some x :: t) H fun y H1 => ti x y H1 fun z H2 => n (a0 :: a1 :: a2 :: a3 :: a4 :: a5 :: a6 :: a7 :: a8 :: a9 :: a10 :: a11 :: a12 :: a13 :: a14 :: a15 :: a16 :: a17 :: a18 :: a19 :: a20 :: a21 :: a22 :: a23 :: a24 :: some z :: t) H2) : tAug 25 te ti ⟨n, rt, bk, ct⟩ (a0 :: a1 :: a2 :: a3 :: a4 :: a5 :: a6 :: a7 :: a8 :: a9 :: a10 :: a11 :: a12 :: a13 :: a14 :: a15 :: a16 :: a17 :: a18 :: a19 :: a20 :: a21 :: a22 :: a23 :: a24 :: some x :: t) H := ⟨x, rfl, q⟩
theorem y_aug26 (q : te (a0 :: a1 :: a2 :: a3 :: a4 :: a5 :: a6 :: a7 :: a8 :: a9 :: a10 :: a11 :: a12 :: a13 :: a14 :: a15 :: a16 :: a17 :: a18 :: a19 :: a20 :: a21 :: a22 :: a23 :: a24 :: a25 :: some x :: t) H fun y H1 => ti x y H1 fun z H2 => n (a0 :: a1 :: a2 :: a3 :: a4 :: a5 :: a6 :: a7 :: a8 :: a9 :: a10 :: a11 :: a12 :: a13 :: a14 :: a15 :: a16 :: a17 :: a18 :: a19 :: a20 :: a21 :: a22 :: a23 :: a24 :: a25 :: some z :: t) H2) : tAug 26 te ti ⟨n, rt, bk, ct⟩ (a0 :: a1 :: a2 :: a3 :: a4 :: a5 :: a6 :: a7 :: a8 :: a9 :: a10 :: a11 :: a12 :: a13 :: a14 :: a15 :: a16 :: a17 :: a18 :: a19 :: a20 :: a21 :: a22 :: a23 :: a24 :: a25 :: some x :: t) H := ⟨x, rfl, q⟩
theorem y_aug27 (q : te (a0 :: a1 :: a2 :: a3 :: a4 :: a5 :: a6 :: a7 :: a8 :: a9 :: a10 :: a11 :: a12 :: a13 :: a14 :: a15 :: a16 :: a17 :: a18 :: a19 :: a20 :: a21 :: a22 :: a23 :: a24 :: a25 :: a26 :: some x :: t) H fun y H1 => ti x y H1 fun z H2 => n (a0 :: a1 :: a2 :: a3 :: a4 :: a5 :: a6 :: a7 :: a8 :: a9 :: a10 :: a11 :: a12 :: a13 :: a14 :: a15 :: a16 :: a17 :: a18 :: a19 :: a20 :: a21 :: a22 :: a23 :: a24 :: a25 :: a26 :: some z :: t) H2) : tAug 27 te ti ⟨n, rt, bk, ct⟩ (a0 :: a1 :: a2 :: a3 :: a4 :: a5 :: a6 :: a7 :: a8 :: a9 :: a10 :: a11 :: a12 :: a13 :: a14 :: a15 :: a16 :: a17 :: a18 :: a19 :: a20 :: a21 :: a22 :: a23 :: a24 :: a25 :: a26 :: some x :: t) H := ⟨x, rfl, q⟩
theorem y_aug28 (q : te (a0 :: a1 :: a2 :: a3 :: a4 :: a5 :: a6 :: a7 :: a8 :: a9 :: a10 :: a11 :: a12 :: a13 :: a14 :: a15 :: a16 :: a17 :: a18 :: a19 :: a20 :: a21 :: a22 :: a23 :: a24 :: a25 :: a26 :: a27 :: some x :: t) H fun y H1 => ti x y H1 fun z H2 => n (a0 :: a1 :: a2 :: a3 :: a4 :: a5 :: a6 :: a7 :: a8 :: a9 :: a10 :: a11 :: a12 :: a13 :: a14 :: a15 :: a16 :: a17 :: a18 :: a19 :: a20 :: a21 :: a22 :: a23 :: a24 :: a25 :: a26 :: a27 :: some z :: t) H2) : tAug 28 te ti ⟨n, rt, bk, ct⟩ (a0 :: a1 :: a2 :: a3 :: a4 :: a5 :: a6 :: a7 :: a8 :: a9 :: a10 :: a11 :: a12 :: a13 :: a14 :: a15 :: a16 :: a17 :: a18 :: a19 :: a20 :: a21 :: a22 :: a23 :: a24 :: a25 :: a26 :: a27 :: some x :: t) H := ⟨x, rfl, q⟩
theorem y_aug29 (q : te (a0 :: a1 :: a2 :: a3 :: a4 :: a5 :: a6 :: a7 :: a8 :: a9 :: a10 :: a11 :: a12 :: a13 :: a14 :: a15 :: a16 :: a17 :: a18 :: a19 :: a20 :: a21 :: a22 :: a23 :: a24 :: a25 :: a26 :: a27 :: a28 :: some x :: t) H fun y H1 => ti x y H1 fun z H2 => n (a0 :: a1 :: a2 :: a3 :: a4 :: a5 :: a6 :: a7 :: a8 :: a9 :: a10 :: a11 :: a12 :: a13 :: a14 :: a15 :: a16 :: a17 :: a18 :: a19 :: a20 :: a21 :: a22 :: a23 :: a24 :: a25 :: a26 :: a27 :: a28 :: some z :: t) H2) : tAug 29 te ti ⟨n, rt, bk, ct⟩ (a0 :: a1 :: a2 :: a3 :: a4 :: a5 :: a6 :: a7 :: a8 :: a9 :: a10 :: a11 :: a12 :: a13 :: a14 :: a15 :: a16 :: a17 :: a18 :: a19 :: a20 :: a21 :: a22 :: a23 :: a24 :: a25 :: a26 :: a27 :: a28 :: some x :: t) H := ⟨x, rfl, q⟩
theorem y_ipI {Q : VK} {i j : Int} (q : Q (.int (i + j)) H) : ipAddU (.int i) (.int j) H Q := .inl ⟨i, j, rfl, rfl, q⟩
end
/-! ## data walked -/
section
variable {K : PySem.W.Frag} {σ : St} {H H1 : Hp} {Q : VK} {te : TE} {g : TG} {a : Addr} {xs : List V} {ds : List Da} {vs : List Nat}
theorem y_all {bs : List Bool} (h : SqL K H a (bs.map V.bl)) (q : Q (.bl (bs.all id)) H) : rAll K [.ref a] H Q := ⟨a, bs, rfl, h, q⟩
/-- [f(x) for x in a tuple of data], f a flag and nothing else -/
theorem y_lcFlag (f : Da → Bool) (hs : SqT K H1 a xs) (ht : ThAll K H1 xs ds) (hz : xs.length ≤ sizeLine)
    (he : ∀ (x : V) (d : Da) (Hc : Hp) (Qt : VK), d ∈ ds → Th K Hc x d → Ev [] H1 Hc → (∀ H4, Ev [] Hc H4 → Qt (.bl (f d)) H4) → g x (wipe σ vs) Hc fun σ2 H2 => wipe σ2 vs = wipe σ vs ∧ te σ2 H2 Qt)
    (hd : ∀ D Hn, H1 D = none → Hn D = some (.lst ((ds.map f).map V.bl)) → Ev [] H1 Hn → Q (.ref D) Hn) : LcU K g te vs σ (.ref a) H1 Q := by
  refine y_lcT xs hs [] (by simp) (fun i acc _ => acc = ((ds.take i).map f).map V.bl) hz (fun _ _ => rfl) (fun i x acc D Hc Qt hx hD e hl iv kq => ?_) (fun D Hn acc hD e hDn hl iv => ?_)
  · obtain ⟨d, hd', hx'⟩ := ht.getV hx
    refine he x d Hc Qt (List.mem_of_getElem? hd') (e.th hx') e fun H4 e4 => kq _ _ e4 fun H5 e5 => ?_
    rw [iv, List.take_add_one, hd']
    simp
  · subst iv
    rw [List.take_of_length_le (by rw [ht.length]; exact Nat.le_refl _)] at hDn
    exact hd D Hn hD hDn e
end
section
variable {K : PySem.W.Frag} {H : Hp} {Q : VK} {a : Addr} {xs : List V}
theorem y_tupleL (h : SqL K H a xs) (q : ∀ p H', H p = none → H' p = some (.tup xs) → Ev [] H H' → Q (.ref p) H') : rTupleU K [.ref a] H Q := ⟨a, xs, rfl, .inl ⟨h, fun p hp => q p _ hp upd_same (Ev.new hp)⟩⟩
theorem y_tupleT (h : SqT K H a xs) (q : Q (.ref a) H) : rTupleU K [.ref a] H Q := ⟨a, xs, rfl, .inr ⟨h, q⟩⟩
/-- where a sign stands in a text -/
theorem find_sign (z : Str) (c : Nat) : (Txt.find z (ofL [c]) = -1 ∧ c ∉ z.cps.toList) ∨ ∃ i : Nat, Txt.find z (ofL [c]) = (i : Int) ∧ z.cps.toList[i]? = some c := by
  have zl : z.cps.toList.length = z.length := by simp [Str.length]
  have sa : ∀ i, StrLaws.At z (ofL [c]) z.length i ↔ z.cps.toList[i]? = some c := fun i => by
    unfold StrLaws.At
    rw [ofL_len]
    constructor
    · rintro ⟨h1, h2⟩
      have e : z.cps.extract i (i + 1) = #[c] := eq_of_beq h2
      have e2 := congrArg Array.toList e
      rw [Array.toList_extract, List.extract_eq_drop_take] at e2
      have e3 := congrArg (fun l : List Nat => l[0]?) e2
      simpa [List.getElem?_take, List.getElem?_drop] using e3
    · intro h
      have hl := (List.getElem?_eq_some_iff.mp h).1
      refine ⟨by show i + 1 ≤ z.length; omega, ?_⟩
      show (z.cps.extract i (i + 1) == #[c]) = true
      refine beq_iff_eq.mpr (Array.toList_inj.mp ?_)
      rw [Array.toList_extract, List.extract_eq_drop_take, show i + 1 - i = 1 by omega]
      refine List.ext_getElem? fun k => ?_
      rw [List.getElem?_take, List.getElem?_drop]
      cases k with
      | zero => simpa using h
      | succ k => simp
  rcases PyProof.Rows.find_whole z (ofL [c]) with ⟨h, n⟩ | ⟨i, h, hi, _⟩
  · refine .inl ⟨h, fun q => ?_⟩
    obtain ⟨i, hi⟩ := List.mem_iff_getElem?.mp q
    exact n i ((sa i).mpr hi)
  · exact .inr ⟨i, h, (sa i).mp hi⟩
end
end L2

namespace Lw
open PySem PySem.Spec PyProof.Rows L2

def top (i : Nat) : Stmt := PySem.Challenge.pw_stretchprices_k02_whole_runs_by_own_step.main.body.getD i (.Pass ⟨0, 0, 0, 0⟩)
abbrev s_is_integer : Stmt := top 8
abbrev N_is_integer : List Str := ["thing"]
theorem sc_is_integer : FnScope N_is_integer ["thing"] (defScope s_is_integer) := ⟨rfl, rfl, rfl, by decide +kernel, rfl, by decide +kernel, by decide +kernel⟩
abbrev s_is_within : Stmt := top 9
abbrev N_is_within : List Str := ["thing", "least", "most"]
theorem sc_is_within : FnScope N_is_within ["thing", "least", "most"] (defScope s_is_within) := ⟨rfl, rfl, rfl, by decide +kernel, rfl, by decide +kernel, by decide +kernel⟩
abbrev s_is_pair : Stmt := top 10
abbrev N_is_pair : List Str := ["thing"]
theorem sc_is_pair : FnScope N_is_pair ["thing"] (defScope s_is_pair) := ⟨rfl, rfl, rfl, by decide +kernel, rfl, by decide +kernel, by decide +kernel⟩
abbrev s_is_string_of : Stmt := top 11
abbrev N_is_string_of : List Str := ["thing", "signs", "sign"]
theorem sc_is_string_of : FnScope N_is_string_of ["thing", "signs"] (defScope s_is_string_of) := ⟨rfl, rfl, rfl, by decide +kernel, rfl, by decide +kernel, by decide +kernel⟩
abbrev s_is_word : Stmt := top 12
abbrev N_is_word : List Str := ["thing"]
theorem sc_is_word : FnScope N_is_word ["thing"] (defScope s_is_word) := ⟨rfl, rfl, rfl, by decide +kernel, rfl, by decide +kernel, by decide +kernel⟩
abbrev s_is_ascending : Stmt := top 13
abbrev N_is_ascending : List Str := ["word", "at"]
theorem sc_is_ascending : FnScope N_is_ascending ["word"] (defScope s_is_ascending) := ⟨rfl, rfl, rfl, by decide +kernel, rfl, by decide +kernel, by decide +kernel⟩
abbrev s_is_rows : Stmt := top 14
abbrev N_is_rows : List Str := ["thing"]
theorem sc_is_rows : FnScope N_is_rows ["thing"] (defScope s_is_rows) := ⟨rfl, rfl, rfl, by decide +kernel, rfl, by decide +kernel, by decide +kernel⟩
abbrev s_is_code : Stmt := top 15
abbrev N_is_code : List Str := ["rows", "thing"]
theorem sc_is_code : FnScope N_is_code ["rows", "thing"] (defScope s_is_code) := ⟨rfl, rfl, rfl, by decide +kernel, rfl, by decide +kernel, by decide +kernel⟩
abbrev s_is_run : Stmt := top 16
abbrev N_is_run : List Str := ["rows", "answers", "thing", "answer"]
theorem sc_is_run : FnScope N_is_run ["rows", "answers", "thing"] (defScope s_is_run) := ⟨rfl, rfl, rfl, by decide +kernel, rfl, by decide +kernel, by decide +kernel⟩
abbrev s_check_run : Stmt := top 17
abbrev N_check_run : List Str := ["machine", "thing"]
theorem sc_check_run : FnScope N_check_run ["machine", "thing"] (defScope s_check_run) := ⟨rfl, rfl, rfl, by decide +kernel, rfl, by decide +kernel, by decide +kernel⟩
abbrev s_check_standing : Stmt := top 18
abbrev N_check_standing : List Str := ["machine", "thing"]
theorem sc_check_standing : FnScope N_check_standing ["machine", "thing"] (defScope s_check_standing) := ⟨rfl, rfl, rfl, by decide +kernel, rfl, by decide +kernel, by decide +kernel⟩
abbrev s_is_move : Stmt := top 23
abbrev N_is_move : List Str := ["thing", "size"]
theorem sc_is_move : FnScope N_is_move ["thing", "size"] (defScope s_is_move) := ⟨rfl, rfl, rfl, by decide +kernel, rfl, by decide +kernel, by decide +kernel⟩
abbrev s_are_moves : Stmt := top 24
abbrev N_are_moves : List Str := ["thing", "rows", "answers", "standing", "moves", "move"]
theorem sc_are_moves : FnScope N_are_moves ["thing", "rows", "answers"] (defScope s_are_moves) := ⟨rfl, rfl, rfl, by decide +kernel, rfl, by decide +kernel, by decide +kernel⟩
abbrev s_Machine_init : Stmt := inClass (top 25) 0
abbrev N_Machine_init : List Str := ["self", "rows", "answers", "moves"]
theorem sc_Machine_init : FnScope N_Machine_init ["self", "rows", "answers", "moves"] (defScope s_Machine_init) := ⟨rfl, rfl, rfl, by decide +kernel, rfl, by decide +kernel, by decide +kernel⟩
abbrev s_Machine_keep : Stmt := inClass (top 25) 1
abbrev N_Machine_keep : List Str := ["self", "rows", "answers", "moves", "standing", "lines", "row", "line", "answer", "move"]
theorem sc_Machine_keep : FnScope N_Machine_keep ["self", "rows", "answers", "moves"] (defScope s_Machine_keep) := ⟨rfl, rfl, rfl, by decide +kernel, rfl, by decide +kernel, by decide +kernel⟩
abbrev s_led : Stmt := top 26
abbrev N_led : List Str := ["machine", "standing", "run", "total", "row", "answer", "taken"]
theorem sc_led : FnScope N_led ["machine", "standing", "run"] (defScope s_led) := ⟨rfl, rfl, rfl, by decide +kernel, rfl, by decide +kernel, by decide +kernel⟩
abbrev s_ticks : Stmt := top 27
abbrev N_ticks : List Str := ["machine", "run"]
theorem sc_ticks : FnScope N_ticks ["machine", "run"] (defScope s_ticks) := ⟨rfl, rfl, rfl, by decide +kernel, rfl, by decide +kernel, by decide +kernel⟩
abbrev s_standing : Stmt := top 28
abbrev N_standing : List Str := ["machine", "run"]
theorem sc_standing : FnScope N_standing ["machine", "run"] (defScope s_standing) := ⟨rfl, rfl, rfl, by decide +kernel, rfl, by decide +kernel, by decide +kernel⟩
abbrev s_ticks_from : Stmt := top 29
abbrev N_ticks_from : List Str := ["machine", "first", "run"]
theorem sc_ticks_from : FnScope N_ticks_from ["machine", "first", "run"] (defScope s_ticks_from) := ⟨rfl, rfl, rfl, by decide +kernel, rfl, by decide +kernel, by decide +kernel⟩
abbrev s_standing_from : Stmt := top 30
abbrev N_standing_from : List Str := ["machine", "first", "run"]
theorem sc_standing_from : FnScope N_standing_from ["machine", "first", "run"] (defScope s_standing_from) := ⟨rfl, rfl, rfl, by decide +kernel, rfl, by decide +kernel, by decide +kernel⟩
abbrev s_law_hand : Stmt := top 32
abbrev N_law_hand : List Str := ["_law_script", "_law_cells", "_law_cell"]
theorem sc_law_hand : FnScope N_law_hand ["_law_script"] (defScope s_law_hand) := ⟨rfl, rfl, rfl, by decide +kernel, rfl, by decide +kernel, by decide +kernel⟩
abbrev s_law_draw : Stmt := top 33
abbrev N_law_draw : List Str := ["_law_hand_here", "_law_many", "_law_cell", "_law_digit", "_law_number"]
theorem sc_law_draw : FnScope N_law_draw ["_law_hand_here", "_law_many"] (defScope s_law_draw) := ⟨rfl, rfl, rfl, by decide +kernel, rfl, by decide +kernel, by decide +kernel⟩
abbrev s_law_rows : Stmt := top 34
abbrev N_law_rows : List Str := ["_law_hand_here", "_law_most", "_law_many", "_law_found", "_law_rest", "_law_turn", "_law_at"]
theorem sc_law_rows : FnScope N_law_rows ["_law_hand_here", "_law_most"] (defScope s_law_rows) := ⟨rfl, rfl, rfl, by decide +kernel, rfl, by decide +kernel, by decide +kernel⟩
abbrev s_law_line : Stmt := top 35
abbrev N_law_line : List Str := ["_law_hand_here", "_law_answers", "_law_size", "_law_top", "_law_answer"]
theorem sc_law_line : FnScope N_law_line ["_law_hand_here", "_law_answers", "_law_size", "_law_top"] (defScope s_law_line) := ⟨rfl, rfl, rfl, by decide +kernel, rfl, by decide +kernel, by decide +kernel⟩
abbrev s_law_world : Stmt := top 36
abbrev N_law_world : List Str := ["_law_hand_here", "_law_most", "_law_size", "_law_rows_here", "_law_answers", "_law_many", "_law_top", "_law_moves", "_law_at", "_law_row"]
theorem sc_law_world : FnScope N_law_world ["_law_hand_here", "_law_most", "_law_size"] (defScope s_law_world) := ⟨rfl, rfl, rfl, by decide +kernel, rfl, by decide +kernel, by decide +kernel⟩
abbrev s_law_run : Stmt := top 37
abbrev N_law_run : List Str := ["_law_hand_here", "_law_rows_here", "_law_answers", "_law_many", "_law_code", "_law_turn", "_law_row"]
theorem sc_law_run : FnScope N_law_run ["_law_hand_here", "_law_rows_here", "_law_answers", "_law_many"] (defScope s_law_run) := ⟨rfl, rfl, rfl, by decide +kernel, rfl, by decide +kernel, by decide +kernel⟩
abbrev s_law_led : Stmt := top 38
abbrev N_law_led : List Str := ["_law_world_here", "_law_at", "_law_run_here", "_law_total", "_law_row", "_law_answer", "_law_taken"]
theorem sc_law_led : FnScope N_law_led ["_law_world_here", "_law_at", "_law_run_here"] (defScope s_law_led) := ⟨rfl, rfl, rfl, by decide +kernel, rfl, by decide +kernel, by decide +kernel⟩
abbrev s_law : Stmt := top 39
abbrev N_law : List Str := ["_law_script", "_law_hand_here", "_law_turn", "_law_world_here", "_law_machine", "_law_first", "_law_second", "_law_both", "_law_at", "_law_told", "_law_middle"]
theorem sc_law : FnScope N_law ["_law_script"] (defScope s_law) := ⟨rfl, rfl, rfl, by decide +kernel, rfl, by decide +kernel, by decide +kernel⟩

/-- what the top has written -/
structure Txt (K : PySem.W.Frag) (mg : Str → Option Value) where
  f_is_integer : DefAt K mg "is_integer" "is_integer" s_is_integer ["thing"]
  f_is_within : DefAt K mg "is_within" "is_within" s_is_within ["thing", "least", "most"]
  f_is_pair : DefAt K mg "is_pair" "is_pair" s_is_pair ["thing"]
  f_is_string_of : DefAt K mg "is_string_of" "is_string_of" s_is_string_of ["thing", "signs"]
  f_is_word : DefAt K mg "is_word" "is_word" s_is_word ["thing"]
  f_is_ascending : DefAt K mg "is_ascending" "is_ascending" s_is_ascending ["word"]
  f_is_rows : DefAt K mg "is_rows" "is_rows" s_is_rows ["thing"]
  f_is_code : DefAt K mg "is_code" "is_code" s_is_code ["rows", "thing"]
  f_is_run : DefAt K mg "is_run" "is_run" s_is_run ["rows", "answers", "thing"]
  f_check_run : DefAt K mg "check_run" "check_run" s_check_run ["machine", "thing"]
  f_check_standing : DefAt K mg "check_standing" "check_standing" s_check_standing ["machine", "thing"]
  f_is_move : DefAt K mg "is_move" "is_move" s_is_move ["thing", "size"]
  f_are_moves : DefAt K mg "are_moves" "are_moves" s_are_moves ["thing", "rows", "answers"]
  f_led : DefAt K mg "led" "led" s_led ["machine", "standing", "run"]
  f_ticks : DefAt K mg "ticks" "ticks" s_ticks ["machine", "run"]
  f_standing : DefAt K mg "standing" "standing" s_standing ["machine", "run"]
  f_ticks_from : DefAt K mg "ticks_from" "ticks_from" s_ticks_from ["machine", "first", "run"]
  f_standing_from : DefAt K mg "standing_from" "standing_from" s_standing_from ["machine", "first", "run"]
  f_law_hand : DefAt K mg "_law_hand" "_law_hand" s_law_hand ["_law_script"]
  f_law_draw : DefAt K mg "_law_draw" "_law_draw" s_law_draw ["_law_hand_here", "_law_many"]
  f_law_rows : DefAt K mg "_law_rows" "_law_rows" s_law_rows ["_law_hand_here", "_law_most"]
  f_law_line : DefAt K mg "_law_line" "_law_line" s_law_line ["_law_hand_here", "_law_answers", "_law_size", "_law_top"]
  f_law_world : DefAt K mg "_law_world" "_law_world" s_law_world ["_law_hand_here", "_law_most", "_law_size"]
  f_law_run : DefAt K mg "_law_run" "_law_run" s_law_run ["_law_hand_here", "_law_rows_here", "_law_answers", "_law_many"]
  f_law_led : DefAt K mg "_law_led" "_law_led" s_law_led ["_law_world_here", "_law_at", "_law_run_here"]
  f_law : DefAt K mg "law" "law" s_law ["_law_script"]
  b_abs : mg "abs" = none
  b_all : mg "all" = none
  b_bool : mg "bool" = none
  b_enumerate : mg "enumerate" = none
  b_int : mg "int" = none
  b_isinstance : mg "isinstance" = none
  b_len : mg "len" = none
  b_range : mg "range" = none
  b_str : mg "str" = none
  b_tuple : mg "tuple" = none
  b_zip : mg "zip" = none
  t_MOST_ANSWERS : Tok
  c_MOST_ANSWERS : mg "MOST_ANSWERS" = some (.int 3 t_MOST_ANSWERS)
  t_MOST_ROWS : Tok
  c_MOST_ROWS : mg "MOST_ROWS" = some (.int 4 t_MOST_ROWS)
  t_MOST_STANDINGS : Tok
  c_MOST_STANDINGS : mg "MOST_STANDINGS" = some (.int 12 t_MOST_STANDINGS)
  t_MOST_TICKS : Tok
  c_MOST_TICKS : mg "MOST_TICKS" = some (.int 99 t_MOST_TICKS)
  t_SMALL : Tok
  c_SMALL : mg "SMALL" = some (.str "abcdefghijklmnopqrstuvwxyz" t_SMALL)
  f_Machine_init : MDefAt K "__init__" "Machine.__init__" s_Machine_init ["self", "rows", "answers", "moves"]
  f_Machine_keep : MDefAt K "keep" "Machine.keep" s_Machine_keep ["self", "rows", "answers", "moves"]
  o_Machine : Addr
  k_Machine : mg "Machine" = some (.ref o_Machine)
  cl_Machine : Cls K o_Machine
  m_Machine : Mk K o_Machine f_Machine_init.f
  mt_Machine_keep : Meth K o_Machine "keep" f_Machine_keep.f
  n_Machine_answers : NoAttr K o_Machine "answers"
  n_Machine_kept_steps : NoAttr K o_Machine "kept_steps"
  n_Machine_kept_webs : NoAttr K o_Machine "kept_webs"
  n_Machine_moves : NoAttr K o_Machine "moves"
  n_Machine_rows : NoAttr K o_Machine "rows"
  n_Machine_size : NoAttr K o_Machine "size"
  x_NoStanding : ExcAt K mg "NoStanding"
  x_NoRun : ExcAt K mg "NoRun"

-- one step of a reading
local macro_rules | `(tactic| walk_at "y1") => `(tactic| (first
  | ((with_reducible refine y_var (v := ?v) ?h ?_); (case h => exact rfl))
  | with_reducible refine y_c ?_
  | with_reducible refine y_op ?_
  | with_reducible refine y_cons ?_
  | with_reducible refine y_nil ?_
  | with_reducible refine y_cb ?_
  | with_reducible refine y_seq ?_
  | with_reducible refine y_set0 ?_
  | with_reducible refine y_set1 ?_
  | with_reducible refine y_set2 ?_
  | with_reducible refine y_set3 ?_
  | with_reducible refine y_set4 ?_
  | with_reducible refine y_set5 ?_
  | with_reducible refine y_set6 ?_
  | with_reducible refine y_set7 ?_
  | with_reducible refine y_set8 ?_
  | with_reducible refine y_set9 ?_
  | with_reducible refine y_set10 ?_
  | with_reducible refine y_set11 ?_
  | with_reducible refine y_set12 ?_
  | with_reducible refine y_set13 ?_
  | with_reducible refine y_set14 ?_
  | with_reducible refine y_set15 ?_
  | with_reducible refine y_set16 ?_
  | with_reducible refine y_set17 ?_
  | with_reducible refine y_set18 ?_
  | with_reducible refine y_set19 ?_
  | with_reducible refine y_set20 ?_
  | with_reducible refine y_set21 ?_
  | with_reducible refine y_set22 ?_
  | with_reducible refine y_set23 ?_
  | with_reducible refine y_set24 ?_
  | with_reducible refine y_set25 ?_
  | with_reducible refine y_set26 ?_
  | with_reducible refine y_set27 ?_
  | with_reducible refine y_set28 ?_
  | with_reducible refine y_set29 ?_
  | with_reducible refine y_test ?_
  | with_reducible refine y_if ?_
  | with_reducible refine y_isblP ?_
  | ((with_reducible refine y_iteT ?h ?_); (case h => first | assumption | rfl))
  | ((with_reducible refine y_iteF ?h ?_); (case h => first | assumption | rfl))
  | with_reducible refine y_next ?_
  | with_reducible refine y_ret ?_
  | with_reducible refine y_drop ?_
  | with_reducible refine y_tB ?_
  | with_reducible refine y_not ?_
  | with_reducible refine y_isbl ?_
  | with_reducible refine y_addI ?_
  | with_reducible refine y_subI ?_
  | with_reducible refine y_eqI ?_
  | with_reducible refine y_neI ?_
  | with_reducible refine y_ltI ?_
  | with_reducible refine y_leI ?_
  | with_reducible refine y_gtI ?_
  | with_reducible refine y_geI ?_
  | ((with_reducible refine y_modI ?h ?_); (case h => omega))
  | ((with_reducible refine y_fdivI ?h ?_); (case h => unfold CDiv; omega))
  | ((with_reducible refine y_mulI ?h ?_); (case h => unfold CMul; omega))
  | ((with_reducible refine y_powI ?h ?_); (case h => unfold CPow; decide))
  | with_reducible refine y_intI ?_
  | with_reducible refine y_abs ?_
  | with_reducible refine y_eqS ?_
  | with_reducible refine y_neS ?_
  | with_reducible refine y_inS ?_
  | with_reducible refine y_notInS ?_
  | with_reducible refine y_ltS ?_
  | with_reducible refine y_geS ?_
  | ((with_reducible refine y_isiI (d := ?d) ?h ?_); (case h => first | assumption | exact Th.str _ | exact Th.int _ | exact Th.bl _ | exact Th.non))
  | ((with_reducible refine y_isiB (d := ?d) ?h ?_); (case h => first | assumption | exact Th.str _ | exact Th.int _ | exact Th.bl _ | exact Th.non))
  | ((with_reducible refine y_isiS (d := ?d) ?h ?_); (case h => first | assumption | exact Th.str _ | exact Th.int _ | exact Th.bl _ | exact Th.non))
  | ((with_reducible refine y_isiT (d := ?d) ?h ?_); (case h => first | assumption | exact Th.str _ | exact Th.int _ | exact Th.bl _ | exact Th.non))
  | ((with_reducible refine y_isiL (d := ?d) ?h ?_); (case h => first | assumption | exact Th.str _ | exact Th.int _ | exact Th.bl _ | exact Th.non))
  | ((with_reducible refine y_isiD (d := ?d) ?h ?_); (case h => first | assumption | exact Th.str _ | exact Th.int _ | exact Th.bl _ | exact Th.non))
  | ((with_reducible refine y_ixL (xs := ?xs) (v := ?v) ?h ?e ?_); (case h => first | assumption | exact SqL.of (by assumption)); (case e => first | exact rfl | assumption))
  | ((with_reducible refine y_ixT (xs := ?xs) (v := ?v) ?h ?e ?_); (case h => first | assumption | exact SqT.of (by assumption)); (case e => first | exact rfl | assumption))
  | ((with_reducible refine y_lenL (xs := ?xs) ?h ?_); (case h => first | assumption | exact SqL.of (by assumption)))
  | ((with_reducible refine y_lenT (xs := ?xs) ?h ?_); (case h => first | assumption | exact SqT.of (by assumption)))
  | ((with_reducible refine y_lenS ?h ?_); (case h => first | assumption | omega))
  | with_reducible refine y_call ?_
  | with_reducible refine y_callS ?_
  | walk_at "yc"
  | with_reducible refine y_and ?_
  | with_reducible refine y_or ?_
  | with_reducible refine y_andV ?_
  | with_reducible refine y_orV ?_
  | with_reducible refine y_chain ?_
  | with_reducible refine y_ifE ?_
  | with_reducible refine y_notV ?_
  | with_reducible refine y_for ?_
  | with_reducible refine y_forr ?_
  | with_reducible refine y_forr2 ?_
  | with_reducible refine y_fore ?_
  | with_reducible refine y_forz ?_
  | with_reducible refine y_fld ?_
  | with_reducible refine y_sfld ?_
  | with_reducible refine y_meth ?_
  | with_reducible refine y_mk ?_
  | ((with_reducible refine y_fldAt (C := ?C) (dx := ?d) (fs := ?fs) (v := ?v) ?h ?c ?m ?l ?_); (case h => assumption); (case c => walk_at "yo"); (case m => walk_at "yo"); (case l => rfl))
  | ((with_reducible refine y_methAt (dx := ?d) (fs := ?fs) ?h ?l ?_); (case h => assumption); (case l => rfl))
  | ((with_reducible refine y_gtup (xs := ?xs) ?h ?l ?_); (case h => first | assumption | exact SqT.of (by assumption)); (case l => rfl))
  | with_reducible refine y_gcons ?_
  | with_reducible refine y_gnil ?_
  | with_reducible refine y_lc ?_
  | with_reducible refine y_lcr ?_
  | with_reducible refine y_lc2 ?_
  | with_reducible refine y_sl ?_
  | with_reducible refine y_nopart ?_
  | with_reducible refine y_part ?_
  | with_reducible refine y_isint ?_
  | ((with_reducible refine y_slS ?h ?_); (case h => first | assumption | omega))
  | ((with_reducible refine y_addS ?h ?_); (case h => omega))
  | with_reducible refine y_bm ?_
  | with_reducible refine y_bm0 ?_
  | with_reducible refine y_tyS ?_
  | ((with_reducible refine y_tyL (xs := ?xs) ?h ?_); (case h => first | assumption | exact SqL.of (by assumption)))
  | with_reducible refine y_m1 ?_
  | with_reducible refine y_m0 ?_
  | with_reducible refine y_isstr ?_
  | with_reducible refine y_asg ?_
  | with_reducible refine y_gsub ?_
  | with_reducible refine y_gname0 ?_
  | with_reducible refine y_gname1 ?_
  | with_reducible refine y_gname2 ?_
  | with_reducible refine y_gname3 ?_
  | with_reducible refine y_gname4 ?_
  | with_reducible refine y_gname5 ?_
  | with_reducible refine y_gname6 ?_
  | with_reducible refine y_gname7 ?_
  | with_reducible refine y_gname8 ?_
  | with_reducible refine y_gname9 ?_
  | with_reducible refine y_gname10 ?_
  | with_reducible refine y_gname11 ?_
  | with_reducible refine y_gname12 ?_
  | with_reducible refine y_gname13 ?_
  | with_reducible refine y_gname14 ?_
  | with_reducible refine y_gname15 ?_
  | with_reducible refine y_gname16 ?_
  | with_reducible refine y_gname17 ?_
  | with_reducible refine y_gname18 ?_
  | with_reducible refine y_gname19 ?_
  | with_reducible refine y_gname20 ?_
  | with_reducible refine y_gname21 ?_
  | with_reducible refine y_gname22 ?_
  | with_reducible refine y_gname23 ?_
  | with_reducible refine y_gname24 ?_
  | with_reducible refine y_gname25 ?_
  | with_reducible refine y_gname26 ?_
  | with_reducible refine y_gname27 ?_
  | with_reducible refine y_gname28 ?_
  | with_reducible refine y_gname29 ?_
  | with_reducible refine y_un ?_
  | with_reducible refine y_ipI ?_
  | with_reducible refine y_aug0 ?_
  | with_reducible refine y_aug1 ?_
  | with_reducible refine y_aug2 ?_
  | with_reducible refine y_aug3 ?_
  | with_reducible refine y_aug4 ?_
  | with_reducible refine y_aug5 ?_
  | with_reducible refine y_aug6 ?_
  | with_reducible refine y_aug7 ?_
  | with_reducible refine y_aug8 ?_
  | with_reducible refine y_aug9 ?_
  | with_reducible refine y_aug10 ?_
  | with_reducible refine y_aug11 ?_
  | with_reducible refine y_aug12 ?_
  | with_reducible refine y_aug13 ?_
  | with_reducible refine y_aug14 ?_
  | with_reducible refine y_aug15 ?_
  | with_reducible refine y_aug16 ?_
  | with_reducible refine y_aug17 ?_
  | with_reducible refine y_aug18 ?_
  | with_reducible refine y_aug19 ?_
  | with_reducible refine y_aug20 ?_
  | with_reducible refine y_aug21 ?_
  | with_reducible refine y_aug22 ?_
  | with_reducible refine y_aug23 ?_
  | with_reducible refine y_aug24 ?_
  | with_reducible refine y_aug25 ?_
  | with_reducible refine y_aug26 ?_
  | with_reducible refine y_aug27 ?_
  | with_reducible refine y_aug28 ?_
  | with_reducible refine y_aug29 ?_
  | with_reducible refine y_neg ?_
  | with_reducible refine y_retN ?_
  | with_reducible refine y_brk ?_
  | with_reducible refine y_cont ?_))
local macro_rules | `(tactic| walk_at "y") => `(tactic| repeat (walk_at "y1"))
local macro_rules | `(tactic| walk_at "yw") => `(tactic| (first
  | with_reducible refine y_wname0 ?_
  | with_reducible refine y_wname1 ?_
  | with_reducible refine y_wname2 ?_
  | with_reducible refine y_wname3 ?_
  | with_reducible refine y_wname4 ?_
  | with_reducible refine y_wname5 ?_
  | with_reducible refine y_wname6 ?_
  | with_reducible refine y_wname7 ?_
  | with_reducible refine y_wname8 ?_
  | with_reducible refine y_wname9 ?_
  | with_reducible refine y_wname10 ?_
  | with_reducible refine y_wname11 ?_
  | with_reducible refine y_wname12 ?_
  | with_reducible refine y_wname13 ?_
  | with_reducible refine y_wname14 ?_
  | with_reducible refine y_wname15 ?_
  | with_reducible refine y_wname16 ?_
  | with_reducible refine y_wname17 ?_
  | with_reducible refine y_wname18 ?_
  | with_reducible refine y_wname19 ?_
  | with_reducible refine y_wname20 ?_
  | with_reducible refine y_wname21 ?_
  | with_reducible refine y_wname22 ?_
  | with_reducible refine y_wname23 ?_
  | with_reducible refine y_wname24 ?_
  | with_reducible refine y_wname25 ?_
  | with_reducible refine y_wname26 ?_
  | with_reducible refine y_wname27 ?_
  | with_reducible refine y_wname28 ?_
  | with_reducible refine y_wname29 ?_))
local macro_rules | `(tactic| walk_at "yx") => `(tactic| (with_reducible refine y_we ?_; repeat (first
  | ((with_reducible refine y_hdF ?h ?_); (case h => walk_at "ye"))
  | ((with_reducible refine y_hdT ?h fun _ _ => ?_); (case h => walk_at "ye"); walk_at "y"))))
local macro_rules | `(tactic| walk_at "yo") => `(tactic| (first
  | with_reducible exact Txt.cl_Machine _
  | with_reducible exact Txt.n_Machine_answers _
  | with_reducible exact Txt.n_Machine_kept_steps _
  | with_reducible exact Txt.n_Machine_kept_webs _
  | with_reducible exact Txt.n_Machine_moves _
  | with_reducible exact Txt.n_Machine_rows _
  | with_reducible exact Txt.n_Machine_size _))

section
variable {P : Program} {w : World} {K : PySem.W.Frag} {mg : Str → Option Value} {base : Heap}

def isPair : Da → Bool
  | .tup ds => decide (ds.length = 2)
  | _ => false
theorem isPair_two {d : Da} (h : isPair d = true) : ∃ a b, d = .tup [a, b] := by
  cases d <;> simp [isPair] at h
  rename_i ds
  match ds, h with
  | [a, b], _ => exact ⟨a, b, rfl⟩
theorem th_two {K : PySem.W.Frag} {H : Hp} {v : V} {a b : Da} (h : Th K H v (.tup [a, b])) : ∃ p x y, v = .ref p ∧ SqT K H p [x, y] ∧ Th K H x a ∧ Th K H y b := by
  cases h with
  | @tup p xs _ hs ht =>
    cases ht with
    | cons h1 h2 =>
      cases h2 with
      | cons h3 h4 =>
        cases h4
        exact ⟨p, _, _, rfl, hs, h1, h3⟩
def sp_is_pair (K : PySem.W.Frag) : Sp := fun vs H Q _ => ∃ v d, vs = [v] ∧ Th K H v d ∧ Q (.bl (isPair d)) H
theorem use_is_pair {H : Hp} {Q : VK} {E : XK} {v : V} {d : Da} (h : Th K H v d) (q : Q (.bl (isPair d)) H) : sp_is_pair K ([v] ++ []) H Q E := ⟨v, d, rfl, h, q⟩
theorem ok_is_pair (T : Txt K mg) : FnOk P w K mg base CX0 1 T.f_is_pair.f T.f_is_pair.fd ["thing"] (sp_is_pair K) := by
  refine T.f_is_pair.F.ok sc_is_pair (fun vs H Q E h => ?_) (fun cdv A outer s H vs Q E hr h => ?_)
  · obtain ⟨v, d, rfl, _⟩ := h
    rfl
  · obtain ⟨v, d, rfl, hd, k⟩ := h
    refine ⟨_, (pss_one (ps_ret (pe_and (pe_callB (call_isiU (K := K)) (by rfl) T.b_isinstance (by decide +kernel) (pa_cons (pv 0) (pa_cons (pe_bltn (v := .ty "tuple") rfl T.b_tuple (by decide +kernel) rfl) pa_nil))) (pe_one (pe_cmpR (op_eqU (K := K) (hu_of hr) hr.units) (pe_callB (call_lenU (K := K)) (by rfl) T.b_len (by decide +kernel) (pa_cons (pv 0) pa_nil)) pe_int (by first | exact nomark _ | rfl)))))), ?_⟩
    try dsimp only [nox_K, tr_K, cxOf_K]
    refine y_start (σ' := some _ :: []) rfl ?_
    walk_at "y"
    cases hd <;> walk_at "y" <;> try exact k
    rename_i a xs ds hs ht
    walk_at "y"
    rw [show decide ((xs.length : Int) = 2) = decide (ds.length = 2) from decide_eq_decide.mpr (by rw [ht.length]; omega)]
    exact k

local macro_rules | `(tactic| walk_at "yc") => `(tactic| ((with_reducible refine use_is_pair (d := ?d) ?h ?_); (case h => first | assumption | exact Th.str _ | exact Th.int _ | exact Th.bl _ | exact Th.non)))

def isInt : Da → Bool
  | .int _ => true
  | _ => false
/-- v's datum is d: an int that is no bool -/
def sp_is_integer (K : PySem.W.Frag) : Sp := fun vs H Q _ => ∃ v d, vs = [v] ∧ Th K H v d ∧ Q (.bl (isInt d)) H
theorem use_is_integer {H : Hp} {Q : VK} {E : XK} {v : V} {d : Da} (h : Th K H v d) (q : Q (.bl (isInt d)) H) : sp_is_integer K ([v] ++ []) H Q E := ⟨v, d, rfl, h, q⟩
theorem ok_is_integer (T : Txt K mg) : FnOk P w K mg base CX0 1 T.f_is_integer.f T.f_is_integer.fd ["thing"] (sp_is_integer K) := by
  refine T.f_is_integer.F.ok sc_is_integer (fun vs H Q E h => ?_) (fun cdv A outer s H vs Q E hr h => ?_)
  · obtain ⟨v, d, rfl, _⟩ := h
    rfl
  · obtain ⟨v, d, rfl, hd, k⟩ := h
    refine ⟨_, (pss_one (ps_ret (pe_and (pe_callB (call_isiU (K := K)) (by rfl) T.b_isinstance (by decide +kernel) (pa_cons (pv 0) (pa_cons (pe_bltn (v := .ty "int") rfl T.b_int (by decide +kernel) rfl) pa_nil))) (pe_one (pe_not (pe_callB (call_isiU (K := K)) (by rfl) T.b_isinstance (by decide +kernel) (pa_cons (pv 0) (pa_cons (pe_bltn (v := .ty "bool") rfl T.b_bool (by decide +kernel) rfl) pa_nil)))))))), ?_⟩
    try dsimp only [nox_K, tr_K, cxOf_K]
    refine y_start (σ' := some _ :: []) rfl ?_
    walk_at "y"
    cases d <;> walk_at "y" <;> exact k

local macro_rules | `(tactic| walk_at "yc") => `(tactic| ((with_reducible refine use_is_integer (d := ?d) ?h ?_); (case h => first | assumption | exact Th.str _ | exact Th.int _ | exact Th.bl _ | exact Th.non)))

def isWithin : Da → Int → Int → Bool
  | .int i, lo, hi => decide (lo ≤ i) && decide (i ≤ hi)
  | _, _, _ => false
def sp_is_within (K : PySem.W.Frag) : Sp := fun vs H Q _ => ∃ v d lo hi, vs = [v, .int lo, .int hi] ∧ Th K H v d ∧ Q (.bl (isWithin d lo hi)) H
theorem use_is_within {H : Hp} {Q : VK} {E : XK} {v : V} {d : Da} {lo hi : Int} (h : Th K H v d) (q : Q (.bl (isWithin d lo hi)) H) : sp_is_within K ([v, .int lo, .int hi] ++ []) H Q E := ⟨v, d, lo, hi, rfl, h, q⟩
theorem ok_is_within (T : Txt K mg) : FnOk P w K mg base CX0 2 T.f_is_within.f T.f_is_within.fd ["thing", "least", "most"] (sp_is_within K) := by
  refine T.f_is_within.F.ok sc_is_within (fun vs H Q E h => ?_) (fun cdv A outer s H vs Q E hr h => ?_)
  · obtain ⟨v, d, lo, hi, rfl, _⟩ := h
    rfl
  · obtain ⟨v, d, lo, hi, rfl, hd, k⟩ := h
    refine ⟨_, (pss_one (ps_ret (pe_and (pe_call (ok_is_integer T) (hr.mono (by decide)) rfl T.f_is_integer.mg T.f_is_integer.kp T.f_is_integer.bd .nil pass0 (pa_cons (pv 0) pa_nil)) (pe_one (pe_chain op_leU op_leU (pv 1) (pv 0) (pv 2)))))), ?_⟩
    try dsimp only [nox_K, tr_K, cxOf_K]
    refine y_start (σ' := some _ :: some _ :: some _ :: []) rfl ?_
    walk_at "y"
    cases hd <;> walk_at "y" <;> try exact k
    rename_i i
    change Q (.bl (decide (lo ≤ i) && decide (i ≤ hi))) H at k
    by_cases c : lo ≤ i
    · rw [decide_eq_true c] at k ⊢
      walk_at "y"
      exact k
    · rw [decide_eq_false c] at k ⊢
      walk_at "y"
      exact k

local macro_rules | `(tactic| walk_at "yc") => `(tactic| ((with_reducible refine use_is_within (d := ?d) ?h ?_); (case h => first | assumption | exact Th.str _ | exact Th.int _ | exact Th.bl _ | exact Th.non)))

def isMove : Da → Int → Bool
  | .tup [a, b], n => isWithin a 1 99 && isWithin b 0 (n - 1)
  | _, _ => false
theorem isMove_not {d : Da} (h : isPair d = false) (n : Int) : isMove d n = false := by
  unfold isMove
  split
  · cases h
  · rfl
def sp_is_move (K : PySem.W.Frag) : Sp := fun vs H Q _ => ∃ v d n, vs = [v, .int n] ∧ Th K H v d ∧ Q (.bl (isMove d n)) H
theorem use_is_move {H : Hp} {Q : VK} {E : XK} {v : V} {d : Da} {n : Int} (h : Th K H v d) (q : Q (.bl (isMove d n)) H) : sp_is_move K ([v, .int n] ++ []) H Q E := ⟨v, d, n, rfl, h, q⟩
theorem ok_is_move (T : Txt K mg) : FnOk P w K mg base CX0 3 T.f_is_move.f T.f_is_move.fd ["thing", "size"] (sp_is_move K) := by
  refine T.f_is_move.F.ok sc_is_move (fun vs H Q E h => ?_) (fun cdv A outer s H vs Q E hr h => ?_)
  · obtain ⟨v, d, n, rfl, _⟩ := h
    rfl
  · obtain ⟨v, d, n, rfl, hd, k⟩ := h
    refine ⟨_, (pss_one (ps_ret (pe_and (pe_call (ok_is_pair T) (hr.mono (by decide)) rfl T.f_is_pair.mg T.f_is_pair.kp T.f_is_pair.bd .nil pass0 (pa_cons (pv 0) pa_nil)) (pe_and (pe_call (ok_is_within T) (hr.mono (by decide)) rfl T.f_is_within.mg T.f_is_within.kp T.f_is_within.bd .nil pass0 (pa_cons (pe_ix (ix_U (K := K) (hu_of hr)) (pv 0) pe_int (fun _ _ => rfl)) (pa_cons pe_int (pa_cons (pe_glob (v := V.int 99) rfl T.c_MOST_TICKS ⟨_, rfl⟩) pa_nil)))) (pe_one (pe_call (ok_is_within T) (hr.mono (by decide)) rfl T.f_is_within.mg T.f_is_within.kp T.f_is_within.bd .nil pass0 (pa_cons (pe_ix (ix_U (K := K) (hu_of hr)) (pv 0) pe_int (fun _ _ => rfl)) (pa_cons pe_int (pa_cons (pe_op op_sub (pv 1) pe_int) pa_nil))))))))), ?_⟩
    try dsimp only [nox_K, tr_K, cxOf_K]
    refine y_start (σ' := some _ :: some _ :: []) rfl ?_
    walk_at "y"
    cases c : isPair d with
    | false =>
      rw [isMove_not c] at k
      walk_at "y"
      exact k
    | true =>
      obtain ⟨a, b, rfl⟩ := isPair_two c
      obtain ⟨p, x, y, rfl, hs, h1, h2⟩ := th_two hd
      walk_at "y"
      change Q (.bl (isWithin a 1 99 && isWithin b 0 (n - 1))) H at k
      cases ca : isWithin a 1 99 with
      | false =>
        rw [ca] at k
        walk_at "y"
        exact k
      | true =>
        rw [ca] at k
        walk_at "y"
        exact k

local macro_rules | `(tactic| walk_at "yc") => `(tactic| ((with_reducible refine use_is_move (d := ?d) ?h ?_); (case h => first | assumption | exact Th.str _ | exact Th.int _ | exact Th.bl _ | exact Th.non)))

def isLine : Da → Int → Int → Bool
  | .tup ms, a, n => decide ((ms.length : Int) = a) && ms.all (isMove · n)
  | _, _, _ => false
def isLines : Da → Nat → Int → Int → Bool
  | .tup ls, r, a, n => decide (ls.length = r) && ls.all (isLine · a n)
  | _, _, _, _ => false
def areMoves : Da → Nat → Int → Bool
  | .tup ss, r, a => decide (1 ≤ ss.length) && decide (ss.length ≤ 12) && ss.all (isLines · r a ss.length)
  | _, _, _ => false
theorem areMoves_tup (ss : List Da) (r : Nat) (a : Int) : areMoves (.tup ss) r a = (decide (1 ≤ ss.length) && decide (ss.length ≤ 12) && ss.all (isLines · r a ss.length)) := rfl
theorem isLines_tup (ls : List Da) (r : Nat) (a n : Int) : isLines (.tup ls) r a n = (decide (ls.length = r) && ls.all (isLine · a n)) := rfl
theorem isLine_tup (ms : List Da) (a n : Int) : isLine (.tup ms) a n = (decide ((ms.length : Int) = a) && ms.all (isMove · n)) := rfl
theorem isLine_not {d : Da} (h : dTup d = false) (a n : Int) : isLine d a n = false := by cases d <;> first | rfl | cases h
theorem isLines_not {d : Da} (h : dTup d = false) (r : Nat) (a n : Int) : isLines d r a n = false := by cases d <;> first | rfl | cases h
theorem areMoves_not {d : Da} (h : dTup d = false) (r : Nat) (a : Int) : areMoves d r a = false := by cases d <;> first | rfl | cases h
theorem all_take {α : Type} {l : List α} {f : α → Bool} {i : Nat} {x : α} (h : l[i]? = some x) : (l.take (i + 1)).all f = ((l.take i).all f && f x) := by
  rw [List.take_add_one, h, List.all_append]
  simp
theorem all_no {α : Type} {l : List α} {f : α → Bool} {i : Nat} {x : α} (h : l[i]? = some x) (q : f x = false) : l.all f = false := by
  rw [Bool.eq_false_iff]
  intro t
  rw [List.all_eq_true.mp t x (List.mem_of_getElem? h)] at q
  cases q
def sp_are_moves (K : PySem.W.Frag) : Sp := fun vs H Q _ => ∃ v d z a, vs = [v, .str z, .int a] ∧ Th K H v d ∧ z.length ≤ sizeLine ∧ a ≤ 10000 ∧ ∀ H', Ev [] H H' → Q (.bl (areMoves d z.length a)) H'
theorem ok_are_moves (T : Txt K mg) : FnOk P w K mg base CX0 4 T.f_are_moves.f T.f_are_moves.fd ["thing", "rows", "answers"] (sp_are_moves K) := by
  refine T.f_are_moves.F.ok sc_are_moves (fun vs H Q E h => ?_) (fun cdv A outer s H vs Q E hr h => ?_)
  · obtain ⟨v, d, z, a, rfl, _⟩ := h
    rfl
  · obtain ⟨v, d, z, a, rfl, hd, hz, ha, k⟩ := h
    refine ⟨_, (pss_cons (ps_if (PW.pt (pw_or (pt_not (pt_val (pe_callB (call_isiU (K := K)) (by rfl) T.b_isinstance (by decide +kernel) (pa_cons (pv 0) (pa_cons (pe_bltn (v := .ty "tuple") rfl T.b_tuple (by decide +kernel) rfl) pa_nil))))) (pw_or1 (pt_not (pt_chain op_leU op_leU pe_int (pe_callB (call_lenU (K := K)) (by rfl) T.b_len (by decide +kernel) (pa_cons (pv 0) pa_nil)) (pe_glob (v := V.int 12) rfl T.c_MOST_STANDINGS ⟨_, rfl⟩)))))) (pss_one (ps_ret pe_bl)) pss_nil)
  (pss_cons (ps_for PassesOwn.never rfl (pi_U (K := K) (pv 0)) (pg_name (i := 3) sc_are_moves.nd rfl (by first | exact Or.inl rfl | exact Or.inr rfl))
  (pss_cons (ps_if (PW.pt (pw_or (pt_not (pt_val (pe_callB (call_isiU (K := K)) (by rfl) T.b_isinstance (by decide +kernel) (pa_cons (pv 3) (pa_cons (pe_bltn (v := .ty "tuple") rfl T.b_tuple (by decide +kernel) rfl) pa_nil))))) (pw_or1 (pt_cmpR (op_neU (K := K) (hu_of hr) hr.units) (pe_callB (call_lenU (K := K)) (by rfl) T.b_len (by decide +kernel) (pa_cons (pv 3) pa_nil)) (pe_callB (call_lenU (K := K)) (by rfl) T.b_len (by decide +kernel) (pa_cons (pv 1) pa_nil)) (by first | exact nomark _ | rfl))))) (pss_one (ps_ret pe_bl)) pss_nil)
  (pss_one (ps_for PassesOwn.never rfl (pi_U (K := K) (pv 3)) (pg_name (i := 4) sc_are_moves.nd rfl (by first | exact Or.inl rfl | exact Or.inr rfl))
  (pss_cons (ps_if (PW.pt (pw_or (pt_not (pt_val (pe_callB (call_isiU (K := K)) (by rfl) T.b_isinstance (by decide +kernel) (pa_cons (pv 4) (pa_cons (pe_bltn (v := .ty "tuple") rfl T.b_tuple (by decide +kernel) rfl) pa_nil))))) (pw_or1 (pt_cmpR (op_neU (K := K) (hu_of hr) hr.units) (pe_callB (call_lenU (K := K)) (by rfl) T.b_len (by decide +kernel) (pa_cons (pv 4) pa_nil)) (pv 2) (by first | exact nomark _ | rfl))))) (pss_one (ps_ret pe_bl)) pss_nil)
  (pss_one (ps_if (pt_not (pt_val (pe_callB (cr_allU (K := K)) (by rfl) T.b_all (by decide +kernel) (pa_cons (pe_lcU (own := [("move", 5)]) (vs := [5]) rfl (by rfl) sc_are_moves.nd (pi_U (K := K) (pv 4)) (blkOk_by (own := [("move", 5)]) (N := N_are_moves) (sc := defScope s_are_moves) (by decide +kernel)) (fun _ _ _ _ _ => (pg_name (i := 5) sc_are_moves.nd rfl (by first | exact Or.inl rfl | exact Or.inr rfl))) (fun _ _ _ _ _ => pts_nil) (fun _ _ _ _ _ => (pe_call (ok_is_move T) (hr.mono (by decide)) rfl T.f_is_move.mg T.f_is_move.kp T.f_is_move.bd .nil pass0 (pa_cons (pv 5) (pa_cons (pe_callB (call_lenU (K := K)) (by rfl) T.b_len (by decide +kernel) (pa_cons (pv 0) pa_nil)) pa_nil))))) pa_nil)))) (pss_one (ps_ret pe_bl)) pss_nil)))))))
  (pss_one (ps_ret pe_bl)))), ?_⟩
    try dsimp only [nox_K, tr_K, cxOf_K]
    refine y_start (σ' := some _ :: some _ :: some _ :: none :: none :: none :: []) rfl ?_
    have hs : (sizeLine : Nat) = 16777216 := sizeLine_eq
    walk_at "y"
    cases c : dTup d with
    | false =>
      rw [areMoves_not c] at k
      walk_at "y"
      exact k _ Ev.refl
    | true =>
      cases hd <;> try (cases c; done)
      rename_i p xs ss hxs ht
      have hl := ht.length
      have kf : ∀ H', Ev [] H H' → ss.all (isLines · z.length a ss.length) = false → Q (.bl false) H' := fun H' e q => by
        have := k H' e
        rw [areMoves_tup] at this
        rw [q, Bool.and_false] at this
        exact this
      walk_at "y"
      rw [hl]
      by_cases c1 : (1 : Int) ≤ ss.length
      · rw [decide_eq_true c1]
        walk_at "y"
        try rw [hl]
        by_cases c2 : (ss.length : Int) ≤ 12
        · rw [decide_eq_true c2]
          walk_at "y"
          refine y_forT xs hxs (fun i σ H' => ∃ o3 o4 o5, σ = [some (.ref p), some (.str z), some (.int a), o3, o4, o5] ∧ Ev [] H H' ∧ (ss.take i).all (isLines · z.length a ss.length) = true) ⟨_, _, _, rfl, Ev.refl, rfl⟩ (fun i σ H' _ h => by
            obtain ⟨_, _, _, _, e, _⟩ := h
            exact e.sqT hxs) ?_ ?_
          · rintro i x σ H' hx ⟨o3, o4, o5, rfl, e, hp⟩
            obtain ⟨d, hd, hxd⟩ := ht.getV hx
            have hxd := e.th hxd
            walk_at "y"
            cases c3 : dTup d with
            | false =>
              walk_at "y"
              exact kf _ e (all_no hd (isLines_not c3 _ _ _))
            | true =>
              cases hxd <;> try (cases c3; done)
              rename_i q ys ls hys hty
              have hl2 := hty.length
              walk_at "y"
              rw [hl2]
              by_cases c4 : (ls.length : Int) = z.length
              · rw [decide_eq_true c4]
                walk_at "y"
                refine y_forT ys hys (fun j σ H2 => ∃ o4 o5, σ = [some (.ref p), some (.str z), some (.int a), some (.ref q), o4, o5] ∧ Ev [] H' H2 ∧ (ls.take j).all (isLine · a ss.length) = true) ⟨_, _, rfl, Ev.refl, rfl⟩ (fun i σ H' _ h => by
                  obtain ⟨_, _, _, e2, _⟩ := h
                  exact e2.sqT hys) ?_ ?_
                · rintro j y σ H2 hy ⟨o4, o5, rfl, e2, hp2⟩
                  obtain ⟨d2, hd2, hyd⟩ := hty.getV hy
                  have kf2 : ∀ H', Ev [] H H' → isLine d2 a ss.length = false → Q (.bl false) H' := fun H' e q => kf H' e (all_no hd (by
                    rw [isLines_tup, all_no hd2 q, Bool.and_false]))
                  have hyd := e2.th hyd
                  walk_at "y"
                  cases c5 : dTup d2 with
                  | false =>
                    walk_at "y"
                    exact kf2 _ (e.trans e2) (isLine_not c5 _ _)
                  | true =>
                    cases hyd <;> try (cases c5; done)
                    rename_i r zs ms hzs htz
                    have hl3 := htz.length
                    walk_at "y"
                    rw [hl3]
                    by_cases c6 : (ms.length : Int) = a
                    · rw [decide_eq_true c6]
                      walk_at "y"
                      refine y_lcFlag (isMove · ss.length) hzs htz (by omega) (fun x d3 Hc Qt hd3 hx3 e3 kq => ?_) fun D H3 hD hD3 e3 => ?_
                      · walk_at "yw"
                        have hx0 : SqT K Hc p xs := ((e.trans e2).trans e3).sqT hxs
                        walk_at "y"
                        rw [hl]
                        exact kq _ Ev.refl
                      · walk_at "y"
                        refine y_all (SqL.of hD3) ?_
                        cases c7 : ms.all (isMove · ss.length) with
                        | true =>
                          rw [show (ms.map (isMove · ss.length)).all id = true by rw [List.all_map]; exact c7]
                          walk_at "y"
                          refine ⟨_, _, rfl, e2.trans e3, ?_⟩
                          rw [all_take hd2, hp2, isLine_tup, decide_eq_true c6, c7]
                          rfl
                        | false =>
                          rw [show (ms.map (isMove · ss.length)).all id = false by rw [List.all_map]; exact c7]
                          walk_at "y"
                          refine kf2 _ ((e.trans e2).trans e3) ?_
                          rw [isLine_tup, c7, Bool.and_false]
                    · rw [decide_eq_false c6]
                      walk_at "y"
                      refine kf2 _ (e.trans e2) ?_
                      rw [isLine_tup, decide_eq_false c6]
                      rfl
                · rintro σ H2 ⟨o4, o5, rfl, e2, hp2⟩
                  walk_at "y"
                  refine ⟨_, _, _, rfl, e.trans e2, ?_⟩
                  rw [all_take hd, hp, isLines_tup, decide_eq_true (show ls.length = z.length by omega)]
                  rw [List.take_of_length_le (by rw [hl2]; exact Nat.le_refl _)] at hp2
                  rw [hp2]
                  rfl
              · rw [decide_eq_false c4]
                walk_at "y"
                refine kf _ e (all_no hd ?_)
                rw [isLines_tup, decide_eq_false (show ¬ ls.length = z.length by omega)]
                rfl
          · rintro σ H' ⟨o3, o4, o5, rfl, e, hp⟩
            walk_at "y"
            have := k H' e
            rw [areMoves_tup] at this
            rw [List.take_of_length_le (by rw [hl]; exact Nat.le_refl _)] at hp
            rw [hp, decide_eq_true (show 1 ≤ ss.length by omega), decide_eq_true (show ss.length ≤ 12 by omega)] at this
            exact this
        · rw [decide_eq_false c2]
          walk_at "y"
          have := k H Ev.refl
          rw [areMoves_tup] at this
          rw [decide_eq_false (show ¬ ss.length ≤ 12 by omega), Bool.and_false, Bool.false_and] at this
          exact this
      · rw [decide_eq_false c1]
        walk_at "y"
        have := k H Ev.refl
        rw [areMoves_tup] at this
        rw [decide_eq_false (show ¬ 1 ≤ ss.length by omega), Bool.false_and, Bool.false_and] at this
        exact this

-- use are_moves
/-- the moves as data -/
def lineD (l : List (Int × Int)) : Da := .tup (l.map fun m => .tup [.int m.1, .int m.2])
def linesD (ls : List (List (Int × Int))) : Da := .tup (ls.map lineD)
def movesD (ss : List (List (List (Int × Int)))) : Da := .tup (ss.map linesD)
def keyOf (s : Nat) (c : Nat) (a : Nat) : List Key := [.inl (s : Int), .inr (ofL [c]), .inl (a : Int)]
/-- the kept steps of the standings ahead of (i, j, k) -/
def Kept (K : PySem.W.Frag) (H : Hp) (kvs : List (List Key × V)) (z : Str) (ss : List (List (List (Int × Int)))) (P : Nat → Nat → Nat → Prop) : Prop :=
  ∀ s r a c ls l m, ss[s]? = some ls → ls[r]? = some l → z.cps.toList[r]? = some c → l[a]? = some m → P s r a → ∃ v, valV kvs (keyOf s c a) = some v ∧ Th K H v (.tup [.int m.1, .int m.2])
theorem Kept.ev {K : PySem.W.Frag} {H H' : Hp} {S : List Addr} {kvs : List (List Key × V)} {z : Str} {ss : List (List (List (Int × Int)))} {P : Nat → Nat → Nat → Prop} (h : Kept K H kvs z ss P) (e : Ev S H H') : Kept K H' kvs z ss P := fun s r a c ls l m h1 h2 h3 h4 p => by
  obtain ⟨v, h5, h6⟩ := h s r a c ls l m h1 h2 h3 h4 p
  exact ⟨v, h5, e.th h6⟩
theorem Kept.mono {K : PySem.W.Frag} {H : Hp} {kvs : List (List Key × V)} {z : Str} {ss : List (List (List (Int × Int)))} {P P' : Nat → Nat → Nat → Prop} (h : Kept K H kvs z ss P) (hp : ∀ s r a, P' s r a → P s r a) : Kept K H kvs z ss P' := fun s r a c ls l m h1 h2 h3 h4 p => h s r a c ls l m h1 h2 h3 h4 (hp s r a p)
theorem nodup_at {α : Type} {l : List α} (h : l.Nodup) {i j : Nat} {x : α} (h1 : l[i]? = some x) (h2 : l[j]? = some x) : i = j := by
  obtain ⟨a, ea⟩ := List.getElem?_eq_some_iff.mp h1
  obtain ⟨b, eb⟩ := List.getElem?_eq_some_iff.mp h2
  rcases Nat.lt_trichotomy i j with q | q | q
  · exact absurd (ea.trans eb.symm) (List.pairwise_iff_getElem.mp h i j a b q)
  · exact q
  · exact absurd (eb.trans ea.symm) (List.pairwise_iff_getElem.mp h j i b a q)
theorem Kept.put {K : PySem.W.Frag} {H : Hp} {kvs : List (List Key × V)} {z : Str} {ss : List (List (List (Int × Int)))} {P P' : Nat → Nat → Nat → Prop} (h : Kept K H kvs z ss P) (zn : z.cps.toList.Nodup) {i j k c0 : Nat} {ls0 : List (List (Int × Int))} {l0 : List (Int × Int)} {m0 : Int × Int} {v : V}
    (h1 : ss[i]? = some ls0) (h2 : ls0[j]? = some l0) (h3 : z.cps.toList[j]? = some c0) (h4 : l0[k]? = some m0) (hv : Th K H v (.tup [.int m0.1, .int m0.2])) (hP : ∀ s r a, P' s r a → P s r a ∨ (s = i ∧ r = j ∧ a = k)) : Kept K H (putK kvs (keyOf i c0 k) v) z ss P' := fun s r a c ls l m q1 q2 q3 q4 p => by
  rw [valV_put]
  by_cases e : keyOf s c a = keyOf i c0 k
  · rw [if_pos e]
    simp only [keyOf, List.cons.injEq, Sum.inl.injEq, Sum.inr.injEq, and_true] at e
    obtain ⟨e1, e2, e3⟩ := e
    have e1 : s = i := by omega
    have e3 : a = k := by omega
    have e2 : c = c0 := by have := ofL_inj e2; simpa using this
    subst e1 e2 e3
    have er := nodup_at zn q3 h3
    subst er
    rw [h1] at q1; cases q1
    rw [h2] at q2; cases q2
    rw [h4] at q4; cases q4
    exact ⟨v, rfl, hv⟩
  · rw [if_neg e]
    rcases hP s r a p with q | ⟨rfl, rfl, rfl⟩
    · exact h s r a c ls l m q1 q2 q3 q4 q
    · rw [h3] at q3; cases q3
      exact absurd rfl e
/-- moves with one line for each row, each of ans answers -/
structure Shape (z : Str) (ans : Nat) (ss : List (List (List (Int × Int)))) : Prop where
  few : ss.length ≤ 12
  rows : ∀ ls ∈ ss, ls.length = z.length
  anss : ∀ ls ∈ ss, ∀ l ∈ ls, l.length = ans
  z4 : z.length ≤ 4
  zn : z.cps.toList.Nodup
  a3 : ans ≤ 3
structure MachAt (K : PySem.W.Frag) (C : Addr) (H : Hp) (m : Addr) (z : Str) (ans : Nat) (mv : Addr) (ss : List (List (List (Int × Int)))) : Prop where
  ins : ∃ dx kp kw, H m = some (.ins C dx [("rows", .str z), ("answers", .int ans), ("moves", .ref mv), ("size", .int ss.length), ("kept_steps", .ref kp), ("kept_webs", .ref kw)]) ∧ ∃ kvs, H kp = some (.dT kvs) ∧ Kept K H kvs z ss fun _ _ _ => True
  th : Th K H (.ref mv) (movesD ss)
  sh : Shape z ans ss
theorem MachAt.ev {K : PySem.W.Frag} {C : Addr} {H H' : Hp} {S : List Addr} {m : Addr} {z : Str} {ans : Nat} {mv : Addr} {ss : List (List (List (Int × Int)))} (h : MachAt K C H m z ans mv ss) (e : Ev S H H') (hS : ∀ a ∈ S, H a = none ∨ ∃ xs, H a = some (.lst xs)) : MachAt K C H' m z ans mv ss := by
  obtain ⟨⟨dx, kp, kw, h1, kvs, h2, h3⟩, th, sh⟩ := h
  have nm : m ∉ S := fun q => by
    rcases hS m q with r | ⟨xs, r⟩ <;> rw [r] at h1 <;> cases h1
  have nk : kp ∉ S := fun q => by
    rcases hS kp q with r | ⟨xs, r⟩ <;> rw [r] at h2 <;> cases h2
  exact ⟨⟨dx, kp, kw, e.keep _ _ h1 nm, kvs, e.keep _ _ h2 nk, h3.ev e⟩, e.th th, sh⟩
theorem MachAt.new {K : PySem.W.Frag} {C : Addr} {H H' : Hp} {m : Addr} {z : Str} {ans : Nat} {mv : Addr} {ss : List (List (List (Int × Int)))} (h : MachAt K C H m z ans mv ss) (e : Ev [] H H') : MachAt K C H' m z ans mv ss := h.ev e (fun _ h => nomatch h)
def sp_Machine_keep (K : PySem.W.Frag) (C : Addr) : Sp := fun vs H Q _ => ∃ (m dx : Addr) (z : Str) (ans : Nat) (mv : Addr) (ss : List (List (List (Int × Int)))), vs = [.ref m, .str z, .int ans, .ref mv] ∧ H m = some (.ins C dx []) ∧ Th K H (.ref mv) (movesD ss) ∧ Shape z ans ss ∧ ∀ H', MachAt K C H' m z ans mv ss → Ev [m] H H' → Q .non H'
theorem ok_Machine_keep (T : Txt K mg) : FnOk P w K mg base CX0 1 T.f_Machine_keep.f T.f_Machine_keep.fd ["self", "rows", "answers", "moves"] (sp_Machine_keep K T.o_Machine) := by
  refine T.f_Machine_keep.F.ok sc_Machine_keep (fun vs H Q E h => ?_) (fun cdv A outer s H vs Q E hr h => ?_)
  · obtain ⟨m, dx, z, ans, mv, ss, rfl, _⟩ := h
    rfl
  · obtain ⟨m, dx, z, ans, mv, ss, rfl, hm, hd, sh, k⟩ := h
    refine ⟨_, (pss_cons (ps_fldU (K := K) (pv 0) (pv 1) rfl)
  (pss_cons (ps_fldU (K := K) (pv 0) (pv 2) rfl)
  (pss_cons (ps_fldU (K := K) (pv 0) (pv 3) rfl)
  (pss_cons (ps_fldU (K := K) (pv 0) (pe_callB (call_lenU (K := K)) (by rfl) T.b_len (by decide +kernel) (pa_cons (pv 3) pa_nil)) rfl)
  (pss_cons (ps_fldU (K := K) (pv 0) pe_dnewT rfl)
  (pss_cons (ps_fldU (K := K) (pv 0) pe_dnewT rfl)
  (pss_one (ps_for PassesOwn.never rfl (pi_enumU (K := K) (by rfl) T.b_enumerate (pa_cons (pv 3) pa_nil)) (pg_tupU (K := K) (n := 2) rfl (pgs_cons (pg_name (i := 4) sc_Machine_keep.nd rfl (by first | exact Or.inl rfl | exact Or.inr rfl)) (pgs_cons (pg_name (i := 5) sc_Machine_keep.nd rfl (by first | exact Or.inl rfl | exact Or.inr rfl)) pgs_nil)) rfl rfl)
  (pss_one (ps_for PassesOwn.never rfl (pi_zipU (K := K) (by rfl) T.b_zip (pa_cons (pv 1) (pa_cons (pv 5) pa_nil))) (pg_tupU (K := K) (n := 2) rfl (pgs_cons (pg_name (i := 6) sc_Machine_keep.nd rfl (by first | exact Or.inl rfl | exact Or.inr rfl)) (pgs_cons (pg_name (i := 7) sc_Machine_keep.nd rfl (by first | exact Or.inl rfl | exact Or.inr rfl)) pgs_nil)) rfl rfl)
  (pss_one (ps_for PassesOwn.never rfl (pi_enumU (K := K) (by rfl) T.b_enumerate (pa_cons (pv 7) pa_nil)) (pg_tupU (K := K) (n := 2) rfl (pgs_cons (pg_name (i := 8) sc_Machine_keep.nd rfl (by first | exact Or.inl rfl | exact Or.inr rfl)) (pgs_cons (pg_name (i := 9) sc_Machine_keep.nd rfl (by first | exact Or.inl rfl | exact Or.inr rfl)) pgs_nil)) rfl rfl)
  (pss_one (ps_asg (pv 9) (pg_sub (pe_fldU (K := K) (pv 0) rfl) (pe_tup (pa_cons (pv 4) (pa_cons (pv 6) (pa_cons (pv 8) pa_nil)))) (set_U (hu_of hr))))))))))))))))), ?_⟩
    try dsimp only [nox_K, tr_K, cxOf_K]
    refine y_start (σ' := some _ :: some _ :: some _ :: some _ :: none :: none :: none :: none :: none :: none :: []) rfl ?_
    have hs : (sizeLine : Nat) = 16777216 := sizeLine_eq
    cases hd with
    | @tup _ xs _ hxs ht =>
    walk_at "y"
    refine y_fldPut hm T.cl_Machine T.n_Machine_rows (by show 0 < 1000; decide) fun H1 h1 e1 => ?_
    change H1 m = some (.ins T.o_Machine dx [("rows", .str z)]) at h1
    walk_at "y"
    refine y_fldPut h1 T.cl_Machine T.n_Machine_answers (by show 1 < 1000; decide) fun H2 h2 e2 => ?_
    change H2 m = some (.ins T.o_Machine dx [("rows", .str z), ("answers", .int ans)]) at h2
    walk_at "y"
    refine y_fldPut h2 T.cl_Machine T.n_Machine_moves (by show 2 < 1000; decide) fun H3 h3 e3 => ?_
    change H3 m = some (.ins T.o_Machine dx [("rows", .str z), ("answers", .int ans), ("moves", .ref mv)]) at h3
    have e13 := e1.trans (e2.trans e3)
    have hx3 : SqT K H3 mv xs := e13.sqT hxs
    walk_at "y"
    refine y_fldPut h3 T.cl_Machine T.n_Machine_size (by show 3 < 1000; decide) fun H4 h4 e4 => ?_
    change H4 m = some (.ins T.o_Machine dx [("rows", .str z), ("answers", .int ans), ("moves", .ref mv), ("size", .int xs.length)]) at h4
    walk_at "y"
    refine y_newDT fun kp H5 nkp hkp e5 => ?_
    have h5 := e5.keep _ _ h4 (by simp)
    walk_at "y"
    refine y_fldPut h5 T.cl_Machine T.n_Machine_kept_steps (by show 4 < 1000; decide) fun H6 h6 e6 => ?_
    change H6 m = some (.ins T.o_Machine dx [("rows", .str z), ("answers", .int ans), ("moves", .ref mv), ("size", .int xs.length), ("kept_steps", .ref kp)]) at h6
    walk_at "y"
    refine y_newDT fun kw H7 nkw hkw e7 => ?_
    have h7 := e7.keep _ _ h6 (by simp)
    walk_at "y"
    refine y_fldPut h7 T.cl_Machine T.n_Machine_kept_webs (by show 5 < 1000; decide) fun H8 h8 e8 => ?_
    change H8 m = some (.ins T.o_Machine dx [("rows", .str z), ("answers", .int ans), ("moves", .ref mv), ("size", .int xs.length), ("kept_steps", .ref kp), ("kept_webs", .ref kw)]) at h8
    have e04 : Ev [m] H H4 := e13.trans e4
    have e48 : Ev [m] H H8 := e04.trans (e5.nil.trans (e6.trans (e7.nil.trans e8)))
    have nm : m ≠ kp := ne_of_none h4 nkp
    have nk0 : H kp = none := e04.none nkp
    have hk8 : H8 kp = some (.dT []) := e8.keep _ _ (e7.keep _ _ (e6.keep _ _ hkp (by simpa using nm.symm)) (by simp)) (by simpa using nm.symm)
    have hl := ht.length
    rw [List.length_map] at hl
    have zl : z.cps.toList.length = z.length := by simp [Str.length]
    have z4 := sh.z4
    have a3 := sh.a3
    have few := sh.few
    walk_at "y"
    refine y_forEn (k := .t) xs (srcT (e48.sqT hxs)) (fun i σ H' => ∃ o4 o5 o6 o7 o8 o9 kvs, σ = [some (.ref m), some (.str z), some (.int ans), some (.ref mv), o4, o5, o6, o7, o8, o9] ∧ Ev [m] H H' ∧ H' m = some (.ins T.o_Machine dx [("rows", .str z), ("answers", .int ans), ("moves", .ref mv), ("size", .int xs.length), ("kept_steps", .ref kp), ("kept_webs", .ref kw)]) ∧ H' kp = some (.dT kvs) ∧ kvs.length ≤ i * 12 ∧ Kept K H' kvs z ss fun s _ _ => s < i) ⟨_, _, _, _, _, _, _, rfl, e48, h8, hk8, by simp, fun s r a c ls l m _ _ _ _ h => absurd h (by omega)⟩ (fun i σ H' _ h => by
      obtain ⟨_, _, _, _, _, _, _, _, e, _⟩ := h
      exact srcT (e.sqT hxs)) ?_ ?_
    · rintro i y T1 σ H9 H10 hy ⟨o4, o5, o6, o7, o8, o9, kvs, rfl, e9, hm9, hk9, hl9, kk9⟩ nT hT e10
      obtain ⟨dl, hdl, hyl⟩ := ht.getV hy
      rw [List.getElem?_map] at hdl
      cases hls : ss[i]? with
      | none => rw [hls] at hdl; cases hdl
      | some ls =>
      rw [hls] at hdl
      cases hdl
      have hi12 : i < 12 := by have := (List.getElem?_eq_some_iff.mp hls).1; omega
      have lsl := sh.rows ls (List.mem_of_getElem? hls)
      have hy10 := e10.th (e9.th hyl)
      cases hy10 with
      | @tup q ys _ hys hty =>
      have hyl2 := hty.length
      rw [List.length_map] at hyl2
      walk_at "y"
      refine y_forZn (k1 := .s) (k2 := .t) _ ys srcS (srcT hys) (fun j σ H' => ∃ o6 o7 o8 o9 kvs, σ = [some (.ref m), some (.str z), some (.int ans), some (.ref mv), some (.int i), some (.ref q), o6, o7, o8, o9] ∧ Ev [m] H H' ∧ SqT K H' q ys ∧ ThAll K H' ys (ls.map lineD) ∧ H' m = some (.ins T.o_Machine dx [("rows", .str z), ("answers", .int ans), ("moves", .ref mv), ("size", .int xs.length), ("kept_steps", .ref kp), ("kept_webs", .ref kw)]) ∧ H' kp = some (.dT kvs) ∧ kvs.length ≤ i * 12 + j * 3 ∧ Kept K H' kvs z ss fun s r _ => s < i ∨ s = i ∧ r < j)
        ⟨_, _, _, _, kvs, rfl, e9.trans e10.nil, hys, hty, e10.keep _ _ hm9 (by simp), e10.keep _ _ hk9 (by simp), hl9, (kk9.ev e10).mono fun s r a p => by omega⟩ (fun j σ H' _ h => by
          obtain ⟨_, _, _, _, _, _, _, hys, _⟩ := h
          exact ⟨srcS, srcT hys⟩) ?_ ?_
      · rintro j cv lv T2 σ H11 H12 hcv hlv ⟨o6, o7, o8, o9, kvs, rfl, e11, hys11, hty11, hm11, hk11, hl11, kk11⟩ nT2 hT2 e12
        rw [List.getElem?_map] at hcv
        cases hcz : z.cps.toList[j]? with
        | none => rw [hcz] at hcv; cases hcv
        | some c0 =>
        rw [hcz] at hcv
        cases hcv
        obtain ⟨dl, hdl, hll⟩ := hty11.getV hlv
        rw [List.getElem?_map] at hdl
        cases hl0 : ls[j]? with
        | none => rw [hl0] at hdl; cases hdl
        | some l0 =>
        rw [hl0] at hdl
        cases hdl
        have hj4 : j < z.length := by have := (List.getElem?_eq_some_iff.mp hcz).1; omega
        have l0l := sh.anss ls (List.mem_of_getElem? hls) l0 (List.mem_of_getElem? hl0)
        have hll12 := e12.th hll
        cases hll12 with
        | @tup r zs _ hzs htz =>
        have hzl := htz.length
        rw [List.length_map] at hzl
        walk_at "y"
        refine y_forEn (k := .t) zs (srcT hzs) (fun k σ H' => ∃ o8 o9 kvs, σ = [some (.ref m), some (.str z), some (.int ans), some (.ref mv), some (.int i), some (.ref q), some (.str (ofL [c0])), some (.ref r), o8, o9] ∧ Ev [m] H H' ∧ SqT K H' q ys ∧ ThAll K H' ys (ls.map lineD) ∧ SqT K H' r zs ∧ ThAll K H' zs (l0.map fun m => Da.tup [.int m.1, .int m.2]) ∧ H' m = some (.ins T.o_Machine dx [("rows", .str z), ("answers", .int ans), ("moves", .ref mv), ("size", .int xs.length), ("kept_steps", .ref kp), ("kept_webs", .ref kw)]) ∧ H' kp = some (.dT kvs) ∧ kvs.length ≤ i * 12 + j * 3 + k ∧ Kept K H' kvs z ss fun s r a => (s < i ∨ s = i ∧ r < j) ∨ s = i ∧ r = j ∧ a < k)
          ⟨_, _, kvs, rfl, e11.trans e12.nil, e12.sqT hys11, e12.thAll hty11, hzs, htz, e12.keep _ _ hm11 (by simp), e12.keep _ _ hk11 (by simp), hl11, (kk11.ev e12).mono fun s r a p => by omega⟩ (fun k σ H' _ h => by
            obtain ⟨_, _, _, _, _, _, _, hzs, _⟩ := h
            exact srcT hzs) ?_ ?_
        · rintro k mvv T3 σ H13 H14 hmv ⟨o8, o9, kvs, rfl, e13, hys13, hty13, hzs13, htz13, hm13, hk13, hl13, kk13⟩ nT3 hT3 e14
          obtain ⟨dl, hdl, hmm⟩ := htz13.getV hmv
          rw [List.getElem?_map] at hdl
          cases hm0 : l0[k]? with
          | none => rw [hm0] at hdl; cases hdl
          | some m0 =>
          rw [hm0] at hdl
          cases hdl
          have hk3 : k < ans := by have := (List.getElem?_eq_some_iff.mp hm0).1; omega
          have hm14 := e14.keep _ _ hm13 (by simp)
          have hk14 := e14.keep _ _ hk13 (by simp)
          walk_at "y"
          refine y_tTup ?_
          walk_at "y"
          refine y_newT (by show 3 ≤ sizeLine; omega) fun pk H15 npk hpk e15 => ?_
          have hk15 := e15.keep _ _ hk14 (by simp)
          refine y_setDT (k := keyOf i c0 k) hk15 hpk (by omega) fun H16 hk16 e16 => ?_
          walk_at "y"
          have eT : Ev [] H13 H15 := e14.trans e15
          have e17 : Ev [kp] H13 H16 := eT.nil.trans e16
          have e18 : Ev [m] H H16 := e13.fresh nk0 (e17.mono (by simp))
          refine ⟨_, _, _, rfl, e18, e17.sqT hys13, e17.thAll hty13, e17.sqT hzs13, e17.thAll htz13, e17.keep _ _ hm13 (by simpa using nm), hk16, ?_, ?_⟩
          · have := length_putK kvs (keyOf i c0 k) mvv
            omega
          · refine (kk13.ev e17).put sh.zn hls hl0 hcz hm0 (e17.th hmm) fun s r a p => ?_
            omega
        · rintro σ H13 ⟨o8, o9, kvs, rfl, e13, hys13, hty13, hzs13, htz13, hm13, hk13, hl13, kk13⟩
          walk_at "y"
          refine ⟨_, _, _, _, kvs, rfl, e13, hys13, hty13, hm13, hk13, by omega, fun s r a c ls' l' m q1 q2 q3 q4 p => kk13 s r a c ls' l' m q1 q2 q3 q4 ?_⟩
          by_cases e : s = i ∧ r = j
          · obtain ⟨rfl, rfl⟩ := e
            rw [hls] at q1; cases q1
            rw [hl0] at q2; cases q2
            have := (List.getElem?_eq_some_iff.mp q4).1
            omega
          · omega
      · rintro σ H11 ⟨o6, o7, o8, o9, kvs, rfl, e11, hys11, hty11, hm11, hk11, hl11, kk11⟩
        walk_at "y"
        rw [List.length_map] at hl11 kk11
        refine ⟨_, _, _, _, _, _, kvs, rfl, e11, hm11, hk11, by omega, fun s r a c ls' l' m q1 q2 q3 q4 p => kk11 s r a c ls' l' m q1 q2 q3 q4 ?_⟩
        have := (List.getElem?_eq_some_iff.mp q3).1
        by_cases e : s = i
        · right
          refine ⟨e, ?_⟩
          omega
        · left
          omega
    · rintro σ H9 ⟨o4, o5, o6, o7, o8, o9, kvs, rfl, e9, hm9, hk9, hl9, kk9⟩
      walk_at "y"
      rw [hl] at hm9
      exact k H9 ⟨⟨dx, kp, kw, hm9, kvs, hk9, fun s r a c ls l m h1 h2 h3 h4 _ => kk9 s r a c ls l m h1 h2 h3 h4 (by have := (List.getElem?_eq_some_iff.mp h1).1; omega)⟩, .tup (e9.sqT hxs) (e9.thAll ht), sh⟩ e9

def ascL : List Nat → Bool
  | a :: b :: r => decide (a < b) && ascL (b :: r)
  | _ => true
theorem ascL_at : ∀ (l : List Nat), ascL l = true → ∀ i a b, l[i]? = some a → l[i + 1]? = some b → a < b
  | [], _, _, _, _, h, _ => nomatch h
  | [x], _, _, _, _, _, h => nomatch h
  | x :: y :: r, h, 0, a, b, h1, h2 => by
    have e1 : x = a := Option.some.inj h1
    have e2 : y = b := Option.some.inj h2
    subst e1 e2
    simp only [ascL, Bool.and_eq_true, decide_eq_true_eq] at h
    exact h.1
  | x :: y :: r, h, i + 1, a, b, h1, h2 => by
    simp only [ascL, Bool.and_eq_true] at h
    exact ascL_at (y :: r) h.2 i a b h1 h2
theorem ascL_of : ∀ (l : List Nat), (∀ i a b, l[i]? = some a → l[i + 1]? = some b → a < b) → ascL l = true
  | [], _ => rfl
  | [x], _ => rfl
  | x :: y :: r, h => by
    simp only [ascL, Bool.and_eq_true, decide_eq_true_eq]
    exact ⟨h 0 x y rfl rfl, ascL_of (y :: r) fun i a b h1 h2 => h (i + 1) a b h1 h2⟩
theorem lt_sign {a b : Nat} : decide ((⟨#[a]⟩ : Str).cps.toList < (⟨#[b]⟩ : Str).cps.toList) = decide (a < b) := by
  have : (([a] : List Nat) < [b]) ↔ a < b := by constructor <;> (intro h; first | (cases h with | rel h => exact h | cons h => cases h) | exact List.Lex.rel h)
  exact decide_eq_decide.mpr this
def sp_is_ascending : Sp := fun vs H Q _ => ∃ s, vs = [.str s] ∧ s.length ≤ sizeLine ∧ Q (.bl (ascL s.cps.toList)) H
theorem use_is_ascending {H : Hp} {Q : VK} {E : XK} {s : Str} (h : s.length ≤ sizeLine) (q : Q (.bl (ascL s.cps.toList)) H) : sp_is_ascending ([.str s] ++ []) H Q E := ⟨s, rfl, h, q⟩
theorem ok_is_ascending (T : Txt K mg) : FnOk P w K mg base CX0 1 T.f_is_ascending.f T.f_is_ascending.fd ["word"] sp_is_ascending := by
  refine T.f_is_ascending.F.ok sc_is_ascending (fun vs H Q E h => ?_) (fun cdv A outer s H vs Q E hr h => ?_)
  · obtain ⟨s, rfl, _⟩ := h
    rfl
  · obtain ⟨x, rfl, hz, k⟩ := h
    refine ⟨_, (pss_cons (ps_for PassesOwn.never rfl (pi_range2 (by rfl) T.b_range (pa_cons pe_int (pa_cons (pe_callB (call_lenU (K := K)) (by rfl) T.b_len (by decide +kernel) (pa_cons (pv 0) pa_nil)) pa_nil))) (pg_name (i := 1) sc_is_ascending.nd rfl (by first | exact Or.inl rfl | exact Or.inr rfl))
  (pss_one (ps_if (pt_cmpR op_geU (pe_ix (ix_U (K := K) (hu_of hr)) (pv 0) (pe_op op_sub (pv 1) pe_int) (fun _ _ => rfl)) (pe_ix (ix_U (K := K) (hu_of hr)) (pv 0) (pv 1) (fun _ _ => rfl)) (by first | exact nomark _ | rfl)) (pss_one (ps_ret pe_bl)) pss_nil)))
  (pss_one (ps_ret pe_bl))), ?_⟩
    try dsimp only [nox_K, tr_K, cxOf_K]
    refine y_start (σ' := some _ :: none :: []) rfl ?_
    have hs : (sizeLine : Nat) = 16777216 := sizeLine_eq
    have len : x.length = x.cps.toList.length := by simp [Str.length]
    walk_at "y"
    refine y_forR2 (by omega) (fun i σ H' => ∃ o, σ = [some (.str x), o] ∧ H' = H ∧ ∀ j a b, j < i → x.cps.toList[j]? = some a → x.cps.toList[j + 1]? = some b → a < b) ⟨_, rfl, rfl, fun _ _ _ h => nomatch h⟩ ?_ ?_
    · rintro i σ H' hi ⟨o, rfl, rfl, ha⟩
      walk_at "y"
      have h1 : i < x.cps.toList.length := by omega
      have h2 : i + 1 < x.cps.toList.length := by omega
      have e1 : (1 : Int) + (i : Int) - 1 = (i : Nat) := by omega
      have e2 : (1 : Int) + (i : Int) = ((i + 1 : Nat) : Int) := by omega
      rw [e1, e2]
      refine y_ixS hz (atI_nat (List.getElem?_eq_getElem h1)) ?_
      walk_at "y"
      refine y_ixS hz (atI_nat (List.getElem?_eq_getElem h2)) ?_
      walk_at "y"
      rw [lt_sign]
      by_cases q : x.cps.toList[i] < x.cps.toList[i + 1]
      · rw [decide_eq_true q]
        walk_at "y"
        refine ⟨_, rfl, rfl, fun j a b hj ja jb => ?_⟩
        by_cases e : j = i
        · subst e
          rw [List.getElem?_eq_getElem h1] at ja
          rw [List.getElem?_eq_getElem h2] at jb
          cases ja
          cases jb
          exact q
        · exact ha j a b (by omega) ja jb
      · rw [decide_eq_false q]
        walk_at "y"
        have f : ascL x.cps.toList = false := Bool.eq_false_iff.mpr fun t => q (ascL_at _ t i _ _ (List.getElem?_eq_getElem h1) (List.getElem?_eq_getElem h2))
        rw [f] at k
        exact k
    · rintro σ H' ⟨o, rfl, rfl, ha⟩
      walk_at "y"
      have f : ascL x.cps.toList = true := ascL_of _ fun i a b h1 h2 => ha i a b (by
        have := (List.getElem?_eq_some_iff.mp h2).1
        omega) h1 h2
      rw [f] at k
      exact k

local macro_rules | `(tactic| walk_at "yc") => `(tactic| ((with_reducible refine use_is_ascending ?h ?_); (case h => first | assumption | omega)))

/-- a text of these signs -/
def isStrOf : Da → Str → Bool
  | .str s, z => s.cps.toList.all fun c => decide (c ∈ z.cps.toList)
  | _, _ => false
def sp_is_string_of (K : PySem.W.Frag) : Sp := fun vs H Q _ => ∃ v d z, vs = [v, .str z] ∧ Th K H v d ∧ Q (.bl (isStrOf d z)) H
theorem use_is_string_of {H : Hp} {Q : VK} {E : XK} {v : V} {d : Da} {z : Str} (h : Th K H v d) (q : Q (.bl (isStrOf d z)) H) : sp_is_string_of K ([v, .str z] ++ []) H Q E := ⟨v, d, z, rfl, h, q⟩
theorem ok_is_string_of (T : Txt K mg) : FnOk P w K mg base CX0 1 T.f_is_string_of.f T.f_is_string_of.fd ["thing", "signs"] (sp_is_string_of K) := by
  refine T.f_is_string_of.F.ok sc_is_string_of (fun vs H Q E h => ?_) (fun cdv A outer s H vs Q E hr h => ?_)
  · obtain ⟨v, d, z, rfl, _⟩ := h
    rfl
  · obtain ⟨v, d, z, rfl, hd, k⟩ := h
    refine ⟨_, (pss_cons (ps_if (pt_not (pt_val (pe_callB (call_isiU (K := K)) (by rfl) T.b_isinstance (by decide +kernel) (pa_cons (pv 0) (pa_cons (pe_bltn (v := .ty "str") rfl T.b_str (by decide +kernel) rfl) pa_nil))))) (pss_one (ps_ret pe_bl)) pss_nil)
  (pss_cons (ps_for PassesOwn.never rfl (pi_U (K := K) (pv 0)) (pg_name (i := 2) sc_is_string_of.nd rfl (by first | exact Or.inl rfl | exact Or.inr rfl))
  (pss_one (ps_if (pt_cmpR (op_notInU (K := K) (hu_of hr) hr.units) (pv 2) (pv 1) (by first | exact nomark _ | rfl)) (pss_one (ps_ret pe_bl)) pss_nil)))
  (pss_one (ps_ret pe_bl)))), ?_⟩
    try dsimp only [nox_K, tr_K, cxOf_K]
    refine y_start (σ' := some _ :: some _ :: none :: []) rfl ?_
    walk_at "y"
    cases hd <;> walk_at "y" <;> try exact k
    rename_i x
    refine y_forS (s := x) (fun i σ H' => ∃ o, σ = [some (.str x), some (.str z), o] ∧ H' = H ∧ (x.cps.toList.take i).all (fun c => decide (c ∈ z.cps.toList)) = true) ⟨_, rfl, rfl, rfl⟩ ?_ ?_
    · rintro i c σ H' hc ⟨o, rfl, rfl, ha⟩
      walk_at "y"
      have e : x.cps.toList.take (i + 1) = x.cps.toList.take i ++ [c] := by
        have hc' : x.cps.toList[i]? = some c := by simpa using hc
        rw [List.take_add_one, hc']
        rfl
      by_cases q : c ∈ z.cps.toList
      · rw [decide_eq_true q]
        walk_at "y"
        exact ⟨_, rfl, rfl, by rw [e, List.all_append, ha, List.all_cons, decide_eq_true q]; rfl⟩
      · rw [decide_eq_false q]
        walk_at "y"
        have f : isStrOf (.str x) z = false := by
          show x.cps.toList.all _ = false
          refine Bool.eq_false_iff.mpr fun t => q ?_
          have hm : c ∈ x.cps.toList := List.mem_of_getElem? (by simpa using hc)
          exact of_decide_eq_true (List.all_eq_true.mp t c hm)
        rw [f] at k
        exact k
    · rintro σ H' ⟨o, rfl, rfl, ha⟩
      walk_at "y"
      have f : isStrOf (.str x) z = true := by
        show x.cps.toList.all _ = true
        rw [List.take_of_length_le (by simp)] at ha
        exact ha
      rw [f] at k
      exact k

local macro_rules | `(tactic| walk_at "yc") => `(tactic| ((with_reducible refine use_is_string_of (d := ?d) ?h ?_); (case h => first | assumption | exact Th.str _ | exact Th.int _ | exact Th.bl _ | exact Th.non)))

def SMALL : Str := "abcdefghijklmnopqrstuvwxyz"
/-- texts are not too long -/
def Fit : Da → Prop
  | .str s => s.length ≤ sizeLine
  | _ => True
def isWord (d : Da) : Bool := isStrOf d SMALL && match d with | .str s => decide (0 < s.length) | _ => false
def sp_is_word (K : PySem.W.Frag) : Sp := fun vs H Q _ => ∃ v d, vs = [v] ∧ Th K H v d ∧ Fit d ∧ Q (.bl (isWord d)) H
theorem use_is_word {H : Hp} {Q : VK} {E : XK} {v : V} {d : Da} (h : Th K H v d) (f : Fit d) (q : Q (.bl (isWord d)) H) : sp_is_word K ([v] ++ []) H Q E := ⟨v, d, rfl, h, f, q⟩
theorem ok_is_word (T : Txt K mg) : FnOk P w K mg base CX0 2 T.f_is_word.f T.f_is_word.fd ["thing"] (sp_is_word K) := by
  refine T.f_is_word.F.ok sc_is_word (fun vs H Q E h => ?_) (fun cdv A outer s H vs Q E hr h => ?_)
  · obtain ⟨v, d, rfl, _⟩ := h
    rfl
  · obtain ⟨v, d, rfl, hd, hf, k⟩ := h
    refine ⟨_, (pss_one (ps_ret (pe_and (pe_call (ok_is_string_of T) (hr.mono (by decide)) rfl T.f_is_string_of.mg T.f_is_string_of.kp T.f_is_string_of.bd .nil pass0 (pa_cons (pv 0) (pa_cons (pe_glob (v := V.str "abcdefghijklmnopqrstuvwxyz") rfl T.c_SMALL ⟨_, rfl⟩) pa_nil))) (pe_one (pe_cmpR op_gtU (pe_callB (call_lenU (K := K)) (by rfl) T.b_len (by decide +kernel) (pa_cons (pv 0) pa_nil)) pe_int (by first | exact nomark _ | rfl)))))), ?_⟩
    try dsimp only [nox_K, tr_K, cxOf_K]
    refine y_start (σ' := some _ :: []) rfl ?_
    walk_at "y"
    unfold isWord at k
    refine y_ite (fun e => ?_) (fun e => ?_)
    · change isStrOf d SMALL = true at e
      rw [e] at k
      cases hd <;> try (cases e; done)
      rename_i x
      have hf' : x.length ≤ sizeLine := hf
      walk_at "y"
      have z : decide ((0 : Int) < (x.length : Int)) = decide (0 < x.length) := by simp
      rw [z]
      exact k
    · change isStrOf d SMALL = false at e
      rw [e] at k
      exact k

local macro_rules | `(tactic| walk_at "yc") => `(tactic| ((with_reducible refine use_is_word (d := ?d) ?h ?f ?_); (case h => first | assumption | exact Th.str _ | exact Th.int _ | exact Th.bl _ | exact Th.non); (case f => first | assumption | trivial)))

def isRows (d : Da) : Bool := isWord d && match d with | .str s => decide (s.length ≤ 4) && ascL s.cps.toList | _ => false
def sp_is_rows (K : PySem.W.Frag) : Sp := fun vs H Q _ => ∃ v d, vs = [v] ∧ Th K H v d ∧ Fit d ∧ Q (.bl (isRows d)) H
theorem use_is_rows {H : Hp} {Q : VK} {E : XK} {v : V} {d : Da} (h : Th K H v d) (f : Fit d) (q : Q (.bl (isRows d)) H) : sp_is_rows K ([v] ++ []) H Q E := ⟨v, d, rfl, h, f, q⟩
theorem ok_is_rows (T : Txt K mg) : FnOk P w K mg base CX0 3 T.f_is_rows.f T.f_is_rows.fd ["thing"] (sp_is_rows K) := by
  refine T.f_is_rows.F.ok sc_is_rows (fun vs H Q E h => ?_) (fun cdv A outer s H vs Q E hr h => ?_)
  · obtain ⟨v, d, rfl, _⟩ := h
    rfl
  · obtain ⟨v, d, rfl, hd, hf, k⟩ := h
    refine ⟨_, (pss_one (ps_ret (pe_and (pe_call (ok_is_word T) (hr.mono (by decide)) rfl T.f_is_word.mg T.f_is_word.kp T.f_is_word.bd .nil pass0 (pa_cons (pv 0) pa_nil)) (pe_and (pe_cmpR op_leU (pe_callB (call_lenU (K := K)) (by rfl) T.b_len (by decide +kernel) (pa_cons (pv 0) pa_nil)) (pe_glob (v := V.int 4) rfl T.c_MOST_ROWS ⟨_, rfl⟩) (by first | exact nomark _ | rfl)) (pe_one (pe_call (ok_is_ascending T) (hr.mono (by decide)) rfl T.f_is_ascending.mg T.f_is_ascending.kp T.f_is_ascending.bd .nil pass0 (pa_cons (pv 0) pa_nil))))))), ?_⟩
    try dsimp only [nox_K, tr_K, cxOf_K]
    refine y_start (σ' := some _ :: []) rfl ?_
    walk_at "y"
    unfold isRows at k
    refine y_ite (fun e => ?_) (fun e => ?_)
    · rw [e] at k
      cases hd <;> try (cases e; done)
      rename_i x
      have hf' : x.length ≤ sizeLine := hf
      change Q (.bl (decide (x.length ≤ 4) && ascL x.cps.toList)) H at k
      walk_at "y"
      by_cases c : x.length ≤ 4
      · have c' : (x.length : Int) ≤ 4 := by omega
        rw [decide_eq_true c] at k
        rw [decide_eq_true c']
        walk_at "y"
        exact k
      · have c' : ¬ (x.length : Int) ≤ 4 := by omega
        rw [decide_eq_false c] at k
        rw [decide_eq_false c']
        walk_at "y"
        exact k
    · rw [e] at k
      exact k

local macro_rules | `(tactic| walk_at "yc") => `(tactic| ((with_reducible refine use_is_rows (d := ?d) ?h ?f ?_); (case h => first | assumption | exact Th.str _ | exact Th.int _ | exact Th.bl _ | exact Th.non); (case f => first | assumption | trivial)))

-- use Machine_keep
-- use are_moves
/-- a right machine -/
structure MachOk (z : Str) (ans : Nat) (ss : List (List (List (Int × Int)))) : Prop where
  sh : Shape z ans ss
  rows : isRows (.str z) = true
  pos : 1 ≤ ss.length
  a1 : 1 ≤ ans
  mv : ∀ ls ∈ ss, ∀ l ∈ ls, ∀ m ∈ l, 1 ≤ m.1 ∧ m.1 ≤ 99 ∧ 0 ≤ m.2 ∧ m.2 < ss.length
theorem MachOk.moves {z : Str} {ans : Nat} {ss : List (List (List (Int × Int)))} (h : MachOk z ans ss) : areMoves (movesD ss) z.length ans = true := by
  show areMoves (.tup (ss.map linesD)) z.length ans = true
  rw [areMoves_tup, List.length_map]
  have h1 := h.pos
  have h2 := h.sh.few
  rw [decide_eq_true h1, decide_eq_true h2, Bool.true_and, Bool.true_and, List.all_map, List.all_eq_true]
  intro ls hls
  show isLines (.tup (ls.map lineD)) z.length ans ss.length = true
  rw [isLines_tup, List.length_map, decide_eq_true (h.sh.rows ls hls), Bool.true_and, List.all_map, List.all_eq_true]
  intro l hl
  show isLine (.tup (l.map _)) ans ss.length = true
  rw [isLine_tup, List.length_map, decide_eq_true (show (l.length : Int) = ans by have := h.sh.anss ls hls l hl; omega), Bool.true_and, List.all_map, List.all_eq_true]
  intro m hm
  have := h.mv ls hls l hl m hm
  show (isWithin (.int m.1) 1 99 && isWithin (.int m.2) 0 (ss.length - 1)) = true
  simp [isWithin]
  omega
def sp_Machine_init (K : PySem.W.Frag) (C : Addr) : Sp := fun vs H Q _ => ∃ (m dx : Addr) (z : Str) (ans : Nat) (mv : Addr) (ss : List (List (List (Int × Int)))), vs = [.ref m, .str z, .int ans, .ref mv] ∧ H m = some (.ins C dx []) ∧ Th K H (.ref mv) (movesD ss) ∧ MachOk z ans ss ∧ ∀ H', MachAt K C H' m z ans mv ss → Ev [m] H H' → Q .non H'
theorem ok_Machine_init (T : Txt K mg) : FnOk P w K mg base (L2.CX P w) 5 T.f_Machine_init.f T.f_Machine_init.fd ["self", "rows", "answers", "moves"] (sp_Machine_init K T.o_Machine) := by
  refine T.f_Machine_init.F.okX sc_Machine_init (fun vs H Q E h => ?_) (fun cdv A outer s H vs Q E hr h => ?_)
  · obtain ⟨m, dx, z, ans, mv, ss, rfl, _⟩ := h
    rfl
  · obtain ⟨m, dx, z, ans, mv, ss, rfl, hm, hd, W, k⟩ := h
    refine ⟨_, (pss_cons (ps_if (pt_not (pt_val (pe_call (ok_is_rows T) (hr.mono (by decide)) rfl T.f_is_rows.mg T.f_is_rows.kp T.f_is_rows.bd .nil pass0 (pa_cons (pv 1) pa_nil)))) (pss_one ps_never) pss_nil)
  (pss_cons (ps_if (pt_not (pt_val (pe_call (ok_is_within T) (hr.mono (by decide)) rfl T.f_is_within.mg T.f_is_within.kp T.f_is_within.bd .nil pass0 (pa_cons (pv 2) (pa_cons pe_int (pa_cons (pe_glob (v := V.int 3) rfl T.c_MOST_ANSWERS ⟨_, rfl⟩) pa_nil)))))) (pss_one ps_never) pss_nil)
  (pss_cons (ps_if (pt_not (pt_val (pe_call (ok_are_moves T) (hr.mono (by decide)) rfl T.f_are_moves.mg T.f_are_moves.kp T.f_are_moves.bd .nil pass0 (pa_cons (pv 3) (pa_cons (pv 1) (pa_cons (pv 2) pa_nil)))))) (pss_one ps_never) pss_nil)
  (pss_one (ps_expr (pe_meth (pv 0) T.cl_Machine T.mt_Machine_keep (ok_Machine_keep T) (hr.mono (by decide)) T.f_Machine_keep.bd .nil pass0 (pa_cons (pv 1) (pa_cons (pv 2) (pa_cons (pv 3) pa_nil))))))))), ?_⟩
    try dsimp only [nox_K, tr_K, cxOf_K]
    refine y_start (σ' := some _ :: some _ :: some _ :: some _ :: []) rfl ?_
    have hs : (sizeLine : Nat) = 16777216 := sizeLine_eq
    have z4 := W.sh.z4
    have a3 := W.sh.a3
    have a1 := W.a1
    have fz : Fit (.str z) := by show z.length ≤ sizeLine; omega
    walk_at "y"
    rw [W.rows]
    walk_at "y"
    rw [show isWithin (.int ans) 1 3 = true by simp [isWithin]; omega]
    walk_at "y"
    refine ⟨_, _, z, ans, rfl, hd, by omega, by omega, fun H1 e1 => ?_⟩
    rw [W.moves]
    walk_at "y"
    have hm1 := e1.keep _ _ hm (by simp)
    have hd1 := e1.th hd
    walk_at "y"
    refine ⟨m, dx, z, ans, mv, ss, rfl, hm1, hd1, W.sh, fun H2 mm e2 => ?_⟩
    walk_at "y"
    exact k _ mm (e1.nil.trans e2)

/-- the hand at a, its cells at c -/
def HandS (H : Hp) (a c : Addr) (cells : List Int) (i big st cnt : Int) : Prop := H a = some (.lst [.ref c, .int i, .int big, .int st, .int cnt]) ∧ H c = some (.lst (cells.map V.int)) ∧ a ≠ c
def HandAt (H : Hp) (a c : Addr) : Prop := ∃ (cells : List Int) (i big st cnt : Int), HandS H a c cells i big st cnt ∧ 0 ≤ i
theorem HandS.ev {S : List Addr} {H H1 : Hp} {a c : Addr} {cells : List Int} {i big st cnt : Int} (h : HandS H a c cells i big st cnt) (e : Ev S H H1) (na : a ∉ S) (nc : c ∉ S) : HandS H1 a c cells i big st cnt := ⟨e.keep _ _ h.1 na, e.keep _ _ h.2.1 nc, h.2.2⟩
section
variable {H : Hp} {a c : Addr} {cells : List Int} {i big st cnt : Int} {Q : VK} {v : Int} {QG : Hp → Prop}
theorem hand_get0 (h : HandS H a c cells i big st cnt) (q : Q (.ref c) H) : rIxU K (.ref a) (.int 0) H Q := y_ixL (SqL.of h.1) rfl q
theorem hand_get1 (h : HandS H a c cells i big st cnt) (q : Q (.int i) H) : rIxU K (.ref a) (.int 1) H Q := y_ixL (SqL.of h.1) rfl q
theorem hand_get2 (h : HandS H a c cells i big st cnt) (q : Q (.int big) H) : rIxU K (.ref a) (.int 2) H Q := y_ixL (SqL.of h.1) rfl q
theorem hand_get3 (h : HandS H a c cells i big st cnt) (q : Q (.int st) H) : rIxU K (.ref a) (.int 3) H Q := y_ixL (SqL.of h.1) rfl q
theorem hand_get4 (h : HandS H a c cells i big st cnt) (q : Q (.int cnt) H) : rIxU K (.ref a) (.int 4) H Q := y_ixL (SqL.of h.1) rfl q
theorem hand_put {o : HO} (h : HandS H a c cells i big st cnt) (k : kindO o = 0) : (upd H a o) a = some o ∧ (upd H a o) c = some (.lst (cells.map V.int)) ∧ Ev [a] H (upd H a o) := ⟨upd_same, by rw [upd_ne h.2.2.symm]; exact h.2.1, Ev.put h.1 k (by simp [kindO]) (by simp [kindO])⟩
theorem hand_set1 (h : HandS H a c cells i big st cnt) (q : ∀ H', HandS H' a c cells v big st cnt → Ev [a] H H' → QG H') : rSetU (.ref a) (.int 1) (.int v) H QG := by
  obtain ⟨x, y, z⟩ := hand_put (o := .lst [.ref c, .int v, .int big, .int st, .int cnt]) h rfl
  exact y_setL h.1 (k := 1) rfl (q _ ⟨x, y, h.2.2⟩ z)
theorem hand_set2 (h : HandS H a c cells i big st cnt) (q : ∀ H', HandS H' a c cells i v st cnt → Ev [a] H H' → QG H') : rSetU (.ref a) (.int 2) (.int v) H QG := by
  obtain ⟨x, y, z⟩ := hand_put (o := .lst [.ref c, .int i, .int v, .int st, .int cnt]) h rfl
  exact y_setL h.1 (k := 2) rfl (q _ ⟨x, y, h.2.2⟩ z)
theorem hand_set3 (h : HandS H a c cells i big st cnt) (q : ∀ H', HandS H' a c cells i big v cnt → Ev [a] H H' → QG H') : rSetU (.ref a) (.int 3) (.int v) H QG := by
  obtain ⟨x, y, z⟩ := hand_put (o := .lst [.ref c, .int i, .int big, .int v, .int cnt]) h rfl
  exact y_setL h.1 (k := 3) rfl (q _ ⟨x, y, h.2.2⟩ z)
theorem hand_set4 (h : HandS H a c cells i big st cnt) (q : ∀ H', HandS H' a c cells i big st v → Ev [a] H H' → QG H') : rSetU (.ref a) (.int 4) (.int v) H QG := by
  obtain ⟨x, y, z⟩ := hand_put (o := .lst [.ref c, .int i, .int big, .int st, .int v]) h rfl
  exact y_setL h.1 (k := 4) rfl (q _ ⟨x, y, h.2.2⟩ z)
theorem hand_len (h : HandS H a c cells i big st cnt) (q : Q (.int cells.length) H) : rLenU K [.ref c] H Q := y_lenL (SqL.of h.2.1) (by rw [List.length_map]; exact q)
theorem hand_cell (h : HandS H a c cells i big st cnt) (i0 : 0 ≤ i) (i1 : i < cells.length) (q : ∀ x, Q (.int x) H) : rIxU K (.ref c) (.int i) H Q := by
  have e : i = (i.toNat : Int) := by omega
  rw [e]
  have k : i.toNat < cells.length := by omega
  refine y_ixL (SqL.of h.2.1) (v := .int cells[i.toNat]) (atI_nat ?_) (q _)
  rw [List.getElem?_map, List.getElem?_eq_getElem k]
  rfl
end
theorem HandAt.ev {S : List Addr} {H H1 : Hp} {a c : Addr} (h : HandAt H a c) (e : Ev S H H1) (na : a ∉ S) (nc : c ∉ S) : HandAt H1 a c := by
  obtain ⟨cells, i, big, st, cnt, h1, r⟩ := h
  exact ⟨cells, i, big, st, cnt, h1.ev e na nc, r⟩
theorem HandAt.new {H H1 : Hp} {a c : Addr} (h : HandAt H a c) (e : Ev [] H H1) : HandAt H1 a c := h.ev e (by simp) (by simp)
theorem HandAt.ne {H : Hp} {a c p : Addr} (h : HandAt H a c) (n : H p = none) : a ≠ p ∧ c ≠ p := by
  obtain ⟨cells, i, big, st, cnt, ⟨h1, h2, _⟩, r⟩ := h
  exact ⟨ne_of_none h1 n, ne_of_none h2 n⟩
theorem HandAt.ev1 {H0 H H1 : Hp} {a c p : Addr} (h : HandAt H a c) (h0 : HandAt H0 a c) (n : H0 p = none) (e : Ev [p] H H1) : HandAt H1 a c :=
  h.ev e (by simpa using (h0.ne n).1) (by simpa using (h0.ne n).2)
theorem HandAt.tr {H : Hp} {a c : Addr} (h : HandAt H a c) : H a ≠ none := by
  obtain ⟨cells, i, big, st, cnt, ⟨h1, h2, _⟩, r⟩ := h
  rw [h1]
  simp
/-! ### displays of data, a hand by -/
section
variable {H H0 : Hp} {a c : Addr} {σ : L2.St} {te : TE} {ts : TA} {L M1 M2 : List Da} {LL : List (List Da)} {n : Nat} {Q : VK}
/-- te makes a datum of L -/
def LitX (K : PySem.W.Frag) (a c : Addr) (σ : L2.St) (H0 : Hp) (te : TE) (L : List Da) : Prop := ∀ (H : Hp) (Q : VK), HandAt H a c → Ev [a] H0 H → (∀ v d H', d ∈ L → Th K H' v d → HandAt H' a c → Ev [a] H H' → Q v H') → te σ H Q
/-- ts makes one of these lists -/
def LitsX (K : PySem.W.Frag) (a c : Addr) (σ : L2.St) (H0 : Hp) (ts : TA) (LL : List (List Da)) : Prop := ∀ (H : Hp) (Q : List V → Hp → Prop), HandAt H a c → Ev [a] H0 H → (∀ vs ds H', ds ∈ LL → ThAll K H' vs ds → HandAt H' a c → Ev [a] H H' → Q vs H') → ts σ H Q
/-- ts makes n data of L -/
def LitsA (K : PySem.W.Frag) (a c : Addr) (σ : L2.St) (H0 : Hp) (ts : TA) (n : Nat) (L : List Da) : Prop := ∀ (H : Hp) (Q : List V → Hp → Prop), HandAt H a c → Ev [a] H0 H → (∀ vs ds H', ds.length = n → (∀ d ∈ ds, d ∈ L) → ThAll K H' vs ds → HandAt H' a c → Ev [a] H H' → Q vs H') → ts σ H Q
theorem lit_non : LitX K a c σ H0 (tC .non) [.non] := fun H Q h e k => k _ _ H (List.mem_singleton_self _) .non h Ev.refl
theorem lit_bl {b : Bool} : LitX K a c σ H0 (tC (.bl b)) [.bl b] := fun H Q h e k => k _ _ H (List.mem_singleton_self _) (.bl b) h Ev.refl
theorem lit_int {i : Int} : LitX K a c σ H0 (tC (.int i)) [.int i] := fun H Q h e k => k _ _ H (List.mem_singleton_self _) (.int i) h Ev.refl
theorem lit_str {s : Str} : LitX K a c σ H0 (tC (.str s)) [.str s] := fun H Q h e k => k _ _ H (List.mem_singleton_self _) (.str s) h Ev.refl
theorem lit_neg {i : Int} : LitX K a c σ H0 (tUn (rU fun i => .int (-i)) (tC (.int i))) [.int (-i)] := fun H Q h e k => ⟨i, rfl, k _ _ H (List.mem_singleton_self _) (.int _) h Ev.refl⟩
theorem lit_pow {i j : Int} (hp : CPow i j) : LitX K a c σ H0 (tOp (rI CPow fun i j => .int (i ^ j.toNat)) (tC (.int i)) (tC (.int j))) [.int (i ^ j.toNat)] := fun H Q h e k => ⟨i, j, rfl, rfl, hp, k _ _ H (List.mem_singleton_self _) (.int _) h Ev.refl⟩
theorem lit_var {i : Nat} {v : V} {d : Da} (hv : σ[i]? = some (some v)) (hd : Th K H0 v d) : LitX K a c σ H0 (tVar i) [d] := fun H Q h e k => ⟨v, hv, k _ _ H (List.mem_singleton_self _) (e.th hd) h Ev.refl⟩
theorem lits_nil : LitsX K a c σ H0 tNil [[]] := fun H Q h e k => k [] [] H (List.mem_singleton_self _) .nil h Ev.refl
theorem lits_cons (h1 : LitX K a c σ H0 te L) (h2 : LitsX K a c σ H0 ts LL) : LitsX K a c σ H0 (tCons te ts) (L.flatMap fun d => LL.map (d :: ·)) := fun H Q h e k =>
  h1 H _ h e fun v d H1 hd t1 hh1 e1 => h2 H1 _ hh1 (e.trans e1) fun vs ds H2 hds t2 hh2 e2 => k _ _ H2 (List.mem_flatMap.mpr ⟨d, hd, List.mem_map_of_mem hds⟩) (.cons (e2.th t1) t2) hh2 (e1.trans e2)
theorem litsA_nil : LitsA K a c σ H0 tNil 0 [] := fun H Q h e k => k [] [] H rfl (fun _ h => nomatch h) .nil h Ev.refl
theorem litsA_cons (h1 : LitX K a c σ H0 te M1) (h2 : LitsA K a c σ H0 ts n M2) : LitsA K a c σ H0 (tCons te ts) (n + 1) (M1 ++ M2) := fun H Q h e k =>
  h1 H _ h e fun v d H1 hd t1 hh1 e1 => h2 H1 _ hh1 (e.trans e1) fun vs ds H2 hl hds t2 hh2 e2 => k _ _ H2 (by simp [hl]) (fun x hx => by
    rcases List.mem_cons.mp hx with q | q
    · subst q; exact List.mem_append_left _ hd
    · exact List.mem_append_right _ (hds x q)) (.cons (e2.th t1) t2) hh2 (e1.trans e2)
theorem thAll_len {vs : List V} {ds : List Da} (h : ThAll K H vs ds) (hl : LL.all (fun l => decide (l.length ≤ 64)) = true) (hm : ds ∈ LL) : vs.length ≤ sizeLine := by
  have := of_decide_eq_true (List.all_eq_true.mp hl _ hm)
  have hs : (sizeLine : Nat) = 16777216 := sizeLine_eq
  rw [h.length]
  omega
theorem lit_tup (h : LitsX K a c σ H0 ts LL) (hl : LL.all (fun l => decide (l.length ≤ 64)) = true) : LitX K a c σ H0 (tTup ts) (LL.map Da.tup) := fun H Q hh e k =>
  h H _ hh e fun vs ds H1 hd t1 hh1 e1 => ⟨thAll_len t1 hl hd, fun p hp => k _ _ _ (List.mem_map_of_mem hd) (.tup (SqT.of upd_same) ((Ev.new hp : Ev [] _ _).thAll t1)) (hh1.new (Ev.new hp)) (e1.trans (Ev.new hp))⟩
theorem lit_lst (h : LitsX K a c σ H0 ts LL) (hl : LL.all (fun l => decide (l.length ≤ 64)) = true) : LitX K a c σ H0 (tLst ts) [.lst] := fun H Q hh e k =>
  h H _ hh e fun vs ds H1 hd t1 hh1 e1 => ⟨thAll_len t1 hl hd, fun p hp => k _ _ _ (List.mem_singleton_self _) (.lst upd_same rfl) (hh1.new (Ev.new hp)) (e1.trans (Ev.new hp))⟩
theorem lit_dct0 : LitX K a c σ H0 tDNewK [.dct] := fun H Q hh e k => fun p hp => k _ _ _ (List.mem_singleton_self _) (.dct upd_same (.inl rfl)) (hh.new (Ev.new hp)) (Ev.new hp)
theorem lit_dct1 {s : Str} {v : V} : LitX K a c σ H0 (tDisp [(tC (.str s), tC v)]) [.dct] := fun H Q hh e k => fun p hp => by
  refine ⟨upd_same, [(.inr s, v)], rfl, by show 1 ≤ 15; decide, ?_⟩
  rw [upd_upd]
  exact k _ _ _ (List.mem_singleton_self _) (.dct upd_same (.inl rfl)) (hh.new (Ev.new hp)) (Ev.new hp)
theorem LitsA.cast {n' : Nat} {L' : List Da} (h : LitsA K a c σ H0 ts n L) (e1 : n = n') (e2 : L = L') : LitsA K a c σ H0 ts n' L' := e1 ▸ e2 ▸ h
/-- a list of data -/
theorem y_litL {K : PySem.W.Frag} (hh : HandAt H a c) (h : LitsA K a c σ H ts n L) (hn : n ≤ 64) (q : ∀ p vs ds H', H p = none → H' p = some (.lst vs) → ThAll K H' vs ds → vs.length = n → (∀ d ∈ ds, d ∈ L) → HandAt H' a c → Ev [a] H H' → Q (.ref p) H') : tLst ts σ H Q :=
  h H _ hh Ev.refl fun vs ds H1 hl hd t1 hh1 e1 => ⟨by
    have hs : (sizeLine : Nat) = 16777216 := sizeLine_eq
    rw [t1.length, hl]; omega, fun p hp => q p vs ds _ (e1.none hp) upd_same ((Ev.new hp : Ev [] _ _).thAll t1) (by rw [t1.length, hl]) hd (hh1.new (Ev.new hp)) (e1.trans (Ev.new hp))⟩
end
def sp_law_hand (K : PySem.W.Frag) : Sp := fun vs H Q _ => ∃ (b : Addr) (ns : List Int), vs = [.ref b] ∧ SqL K H b (ns.map V.int) ∧ (∀ Hn, Ev [] H Hn → SqL K Hn b (ns.map V.int)) ∧ ns.length ≤ sizeLine ∧ ∀ a c H', HandAt H' a c → H a = none → Ev [] H H' → Q (.ref a) H'
theorem use_law_hand {H : Hp} {Q : VK} {E : XK} {b : Addr} {ns : List Int} (h : SqL K H b (ns.map V.int)) (h2 : ∀ Hn, Ev [] H Hn → SqL K Hn b (ns.map V.int)) (hl : ns.length ≤ sizeLine) (q : ∀ a c H', HandAt H' a c → H a = none → Ev [] H H' → Q (.ref a) H') : sp_law_hand K ([.ref b] ++ []) H Q E := ⟨b, ns, rfl, h, h2, hl, q⟩
theorem cutV_ints (ns : List Int) (lo hi : Option Int) : ∃ ms : List Int, cutV (ns.map V.int) lo hi = ms.map V.int := by
  unfold cutV
  exact ⟨_, by rw [← List.map_drop, ← List.map_take]⟩
theorem ok_law_hand (T : Txt K mg) : FnOk P w K mg base CX0 1 T.f_law_hand.f T.f_law_hand.fd ["_law_script"] (sp_law_hand K) := by
  refine T.f_law_hand.F.ok sc_law_hand (fun vs H Q E h => ?_) (fun cdv A outer s H vs Q E hr h => ?_)
  · obtain ⟨b, ns, rfl, _⟩ := h
    rfl
  · obtain ⟨b, ns, rfl, hb, hb2, hl, k⟩ := h
    refine ⟨_, (pss_cons (ps_setLcU (i := 1) (own := [("_law_cell", 2)]) (vs := [2]) rfl (by rfl) sc_law_hand.nd rfl rfl (sw_true rfl rfl rfl (by decide +kernel)) (pi_U (K := K) (pe_slice (sl_U (K := K)) (pv 0) po_none (po_some pe_int))) (blkOk_by (own := [("_law_cell", 2)]) (N := N_law_hand) (sc := defScope s_law_hand) (by decide +kernel)) (fun _ _ _ _ _ => (pg_name (i := 2) sc_law_hand.nd rfl (by first | exact Or.inl rfl | exact Or.inr rfl))) (fun _ _ _ _ _ => pts_nil) (fun _ _ _ _ _ => (pe_callB call_absU (by rfl) T.b_abs (by decide +kernel) (pa_cons (pe_callTy call_intU (by rfl) T.b_int (by decide +kernel) (pa_cons (pv 2) pa_nil)) pa_nil))))
  (pss_one (ps_ret (pe_lst (pa_cons (pv 1) (pa_cons pe_int (pa_cons pe_int (pa_cons (pe_op (op_addU (K := K)) pe_int (pe_callB (call_lenU (K := K)) (by rfl) T.b_len (by decide +kernel) (pa_cons (pv 1) pa_nil))) (pa_cons pe_int pa_nil))))))))), ?_⟩
    try dsimp only [nox_K, tr_K, cxOf_K]
    refine y_start (σ' := some _ :: none :: none :: []) rfl ?_
    walk_at "y"
    refine y_slL _ hb fun p H1 np hp e1 => ?_
    walk_at "y"
    obtain ⟨ms, hms⟩ := cutV_ints ns none (some 63)
    have hlen := cutV_length (ns.map V.int) none (some 63)
    rw [hms] at hp hlen
    rw [List.length_map, List.length_map] at hlen
    refine y_lcL _ (SqL.of hp) [] (by simp) (fun Hc e => SqL.of (e.keep _ _ hp (by simp))) (fun i acc _ => ∃ cs : List Int, acc = cs.map V.int ∧ ∀ x ∈ cs, 0 ≤ x) (by rw [List.length_map]; omega) (fun _ _ => ⟨[], rfl, fun _ h => nomatch h⟩) ?_ ?_
    · rintro i x acc D Hc Qt hx hD e hl ⟨cs, rfl, hcs⟩ kq
      walk_at "yw"
      rw [List.getElem?_map] at hx
      cases hm : ms[i]? with
      | none => rw [hm] at hx; cases hx
      | some z =>
        rw [hm] at hx
        cases hx
        walk_at "y"
        refine kq _ _ Ev.refl fun H5 e5 => ⟨cs ++ [if z < 0 then -z else z], by simp, fun x hx => ?_⟩
        rcases List.mem_append.mp hx with h | h
        · exact hcs x h
        · simp at h
          subst h
          split <;> omega
    · rintro D Hn acc hD e hDn hl ⟨cs, rfl, hcs⟩
      walk_at "y"
      refine y_tLst ?_
      walk_at "y"
      refine y_newL (by show 5 ≤ sizeLine; decide) fun a H2 na ha e2 => ?_
      refine k a D H2 ⟨cs, 0, 0, _, 0, ⟨ha, e2.keep _ _ hDn (by simp), ?_⟩, by omega⟩ ?_ ?_
      · exact (ne_of_none hDn na).symm
      · exact e1.none (e.none na)
      · exact e1.trans (e.trans e2)

local macro_rules | `(tactic| walk_at "yc") => `(tactic| (first
  | ((with_reducible refine hand_get0 (i := ?i) (big := ?b) (st := ?s) (cnt := ?c) (cells := ?z) (c := ?y) ?h ?_); (case h => assumption))
  | ((with_reducible refine hand_get1 (i := ?i) (big := ?b) (st := ?s) (cnt := ?c) (cells := ?z) (c := ?y) ?h ?_); (case h => assumption))
  | ((with_reducible refine hand_get2 (i := ?i) (big := ?b) (st := ?s) (cnt := ?c) (cells := ?z) (c := ?y) ?h ?_); (case h => assumption))
  | ((with_reducible refine hand_get3 (i := ?i) (big := ?b) (st := ?s) (cnt := ?c) (cells := ?z) (c := ?y) ?h ?_); (case h => assumption))
  | ((with_reducible refine hand_get4 (i := ?i) (big := ?b) (st := ?s) (cnt := ?c) (cells := ?z) (c := ?y) ?h ?_); (case h => assumption))
  | ((with_reducible refine hand_len (a := ?a) (i := ?i) (big := ?b) (st := ?s) (cnt := ?c) (cells := ?z) ?h ?_); (case h => assumption))))
local macro_rules | `(tactic| walk_at "yl1") => `(tactic| (first
  | with_reducible exact litsA_nil
  | with_reducible exact lits_nil
  | with_reducible apply litsA_cons
  | with_reducible apply lits_cons
  | with_reducible exact lit_non
  | with_reducible exact lit_bl
  | with_reducible exact lit_int
  | with_reducible exact lit_str
  | with_reducible exact lit_neg
  | with_reducible apply lit_pow
  | with_reducible apply lit_tup
  | with_reducible apply lit_lst
  | with_reducible exact lit_dct0
  | with_reducible exact lit_dct1
  | ((with_reducible refine lit_var (v := ?v) (d := ?d) ?h ?q); (case h => exact rfl); (case q => first | assumption | exact Th.str _ | exact Th.int _ | exact Th.bl _ | exact Th.non))
  | (unfold CPow; decide)
  | decide))
local macro_rules | `(tactic| walk_at "yl") => `(tactic| repeat' (walk_at "yl1"))

-- use law_hand
def sp_law_draw : Sp := fun vs H Q _ => ∃ a c m, vs = [.ref a, .int m] ∧ HandAt H a c ∧ 1 ≤ m ∧ m < 1073741824 ∧ ∀ d H', 0 ≤ d → d < m → HandAt H' a c → Ev [a] H H' → Q (.int d) H'
theorem use_law_draw {H : Hp} {Q : VK} {E : XK} {a c : Addr} {m : Int} (h : HandAt H a c) (h1 : 1 ≤ m) (h2 : m < 1073741824) (q : ∀ d H', 0 ≤ d → d < m → HandAt H' a c → Ev [a] H H' → Q (.int d) H') : sp_law_draw ([.ref a, .int m] ++ []) H Q E := ⟨a, c, m, rfl, h, h1, h2, q⟩
theorem ok_law_draw (T : Txt K mg) : FnOk P w K mg base CX0 1 T.f_law_draw.f T.f_law_draw.fd ["_law_hand_here", "_law_many"] sp_law_draw := by
  refine T.f_law_draw.F.ok sc_law_draw (fun vs H Q E h => ?_) (fun cdv A outer s H vs Q E hr h => ?_)
  · obtain ⟨a, c, m, rfl, _⟩ := h
    rfl
  · obtain ⟨a, c, m, rfl, hh, m1, m2, k⟩ := h
    obtain ⟨cells, i, big, st, cnt, h1, ip⟩ := hh
    refine ⟨_, (pss_cons (ps_if (PW.pt (pw_and (pt_cmpR (op_eqU (K := K) (hu_of hr) hr.units) (pe_ix (ix_U (K := K) (hu_of hr)) (pv 0) pe_int (fun _ _ => rfl)) pe_int (by first | exact nomark _ | rfl)) (pw_and1 (pt_cmpR op_ltU (pe_ix (ix_U (K := K) (hu_of hr)) (pv 0) pe_int (fun _ _ => rfl)) (pe_callB (call_lenU (K := K)) (by rfl) T.b_len (by decide +kernel) (pa_cons (pe_ix (ix_U (K := K) (hu_of hr)) (pv 0) pe_int (fun _ _ => rfl)) pa_nil)) (by first | exact nomark _ | rfl))))) (pss_cons (ps_set (i := 2) sc_law_draw.nd rfl (by first | exact Or.inl rfl | exact Or.inr rfl) (pe_ix (ix_U (K := K) (hu_of hr)) (pe_ix (ix_U (K := K) (hu_of hr)) (pv 0) pe_int (fun _ _ => rfl)) (pe_ix (ix_U (K := K) (hu_of hr)) (pv 0) pe_int (fun _ _ => rfl)) (fun _ _ => rfl)))
  (pss_cons (ps_asg (pe_op (op_addU (K := K)) (pe_ix (ix_U (K := K) (hu_of hr)) (pv 0) pe_int (fun _ _ => rfl)) pe_int) (pg_sub (pv 0) pe_int (set_U (hu_of hr))))
  (pss_cons (ps_asg (pe_op op_modU (pe_callTy call_intU (by rfl) T.b_int (by decide +kernel) (pa_cons (pe_op (op_addU (K := K)) (pe_op (op_addU (K := K)) (pe_op op_mulU (pe_ix (ix_U (K := K) (hu_of hr)) (pv 0) pe_int (fun _ _ => rfl)) pe_int) (pv 2)) pe_int) pa_nil)) pe_int) (pg_sub (pv 0) pe_int (set_U (hu_of hr))))
  (pss_one (ps_if (pt_cmpR op_geU (pv 2) (pe_op op_pow pe_int pe_int) (by first | exact nomark _ | rfl)) (pss_one (ps_asg (pv 2) (pg_sub (pv 0) pe_int (set_U (hu_of hr))))) pss_nil))))) pss_nil)
  (pss_cons (ps_if (pt_cmpR op_gtU (pe_ix (ix_U (K := K) (hu_of hr)) (pv 0) pe_int (fun _ _ => rfl)) pe_int (by first | exact nomark _ | rfl)) (pss_cons (ps_set (i := 3) sc_law_draw.nd rfl (by first | exact Or.inl rfl | exact Or.inr rfl) (pe_op op_modU (pe_callTy call_intU (by rfl) T.b_int (by decide +kernel) (pa_cons (pe_ix (ix_U (K := K) (hu_of hr)) (pv 0) pe_int (fun _ _ => rfl)) pa_nil)) (pv 1)))
  (pss_cons (ps_asg (pe_op op_fdivU (pe_ix (ix_U (K := K) (hu_of hr)) (pv 0) pe_int (fun _ _ => rfl)) (pv 1)) (pg_sub (pv 0) pe_int (set_U (hu_of hr))))
  (pss_one (ps_ret (pv 3))))) pss_nil)
  (pss_cons (ps_asg (pe_op (op_addU (K := K)) (pe_ix (ix_U (K := K) (hu_of hr)) (pv 0) pe_int (fun _ _ => rfl)) pe_int) (pg_sub (pv 0) pe_int (set_U (hu_of hr))))
  (pss_cons (ps_set (i := 4) sc_law_draw.nd rfl (by first | exact Or.inl rfl | exact Or.inr rfl) (pe_op op_modU (pe_callTy call_intU (by rfl) T.b_int (by decide +kernel) (pa_cons (pe_op op_mulU (pe_callTy call_intU (by rfl) T.b_int (by decide +kernel) (pa_cons (pe_op (op_addU (K := K)) (pe_ix (ix_U (K := K) (hu_of hr)) (pv 0) pe_int (fun _ _ => rfl)) (pe_op op_mulU pe_int (pe_ix (ix_U (K := K) (hu_of hr)) (pv 0) pe_int (fun _ _ => rfl)))) pa_nil)) pe_int) pa_nil)) pe_int))
  (pss_cons (ps_set (i := 4) sc_law_draw.nd rfl (by first | exact Or.inl rfl | exact Or.inr rfl) (pe_op op_modU (pe_callTy call_intU (by rfl) T.b_int (by decide +kernel) (pa_cons (pe_op op_mulU (pv 4) (pe_op (op_addU (K := K)) (pe_op op_fdivU (pv 4) pe_int) pe_int)) pa_nil)) pe_int))
  (pss_cons (ps_set (i := 4) sc_law_draw.nd rfl (by first | exact Or.inl rfl | exact Or.inr rfl) (pe_op op_modU (pe_callTy call_intU (by rfl) T.b_int (by decide +kernel) (pa_cons (pe_op op_mulU (pv 4) (pe_op (op_addU (K := K)) (pe_op op_fdivU (pv 4) pe_int) pe_int)) pa_nil)) pe_int))
  (pss_one (ps_ret (pe_op op_modU (pe_callTy call_intU (by rfl) T.b_int (by decide +kernel) (pa_cons (pe_op op_fdivU (pv 4) pe_int) pa_nil)) (pv 1)))))))))), ?_⟩
    try dsimp only [nox_K, tr_K, cxOf_K]
    refine y_start (σ' := some _ :: some _ :: none :: none :: none :: []) rfl ?_
    refine y_seqM (fun σ H' => ∃ i' big' st' x, σ = [some (.ref a), some (.int m), x, none, none] ∧ HandS H' a c cells i' big' st' cnt ∧ 0 ≤ i' ∧ Ev [a] H H') ?_ ?_
    · rintro σ H' ⟨i', big', st', x, rfl, hs, i0, e⟩
      walk_at "y"
      refine y_ite (fun hb => ?_) (fun hb => ?_)
      · walk_at "y"
        refine hand_set2 hs fun H2 hs2 e2 => ?_
        walk_at "y"
        exact k _ _ (Int.emod_nonneg _ (by omega)) (Int.emod_lt_of_pos _ (by omega)) ⟨_, _, _, _, _, hs2, i0⟩ (e.trans e2)
      · walk_at "y"
        refine hand_set4 hs fun H2 hs2 e2 => ?_
        walk_at "y"
        exact k _ _ (Int.emod_nonneg _ (by omega)) (Int.emod_lt_of_pos _ (by omega)) ⟨_, _, _, _, _, hs2, i0⟩ (e.trans e2)
    · intro N hN
      walk_at "y"
      refine y_ite (fun hb => ?_) (fun hb => ?_)
      · walk_at "y"
        refine y_ite (fun hb2 => ?_) (fun hb2 => ?_)
        · have hb3 : i < cells.length := by simpa using hb2
          walk_at "y"
          refine hand_cell h1 ip hb3 fun x => ?_
          walk_at "y"
          refine hand_set1 h1 fun H2 hs2 e2 => ?_
          walk_at "y"
          refine hand_set3 hs2 fun H3 hs3 e3 => ?_
          walk_at "y"
          refine y_ite (fun hb4 => ?_) (fun hb4 => ?_)
          · walk_at "y"
            refine hand_set2 hs3 fun H4 hs4 e4 => ?_
            walk_at "y"
            exact hN _ _ ⟨_, _, _, _, rfl, hs4, by omega, (e2.trans e3).trans e4⟩
          · walk_at "y"
            exact hN _ _ ⟨_, _, _, _, rfl, hs3, by omega, e2.trans e3⟩
        · walk_at "y"
          exact hN _ _ ⟨_, _, _, _, rfl, h1, ip, Ev.refl⟩
      · walk_at "y"
        exact hN _ _ ⟨_, _, _, _, rfl, h1, ip, Ev.refl⟩
/-- [..][_law_draw(hand, n)] -/
theorem y_pick {K : PySem.W.Frag} {σ : L2.St} {H : Hp} {a c : Addr} {ts : TA} {n : Nat} {L : List Da} {Q : VK} {E : XK} {j : Nat} {m : Int} (hh : HandAt H a c) (h : LitsA K a c σ H ts n L) (hv : σ[j]? = some (some (.ref a))) (hm : m = n) (hn : 1 ≤ n) (hn2 : n ≤ 64)
    (q : ∀ v d H', d ∈ L → Th K H' v d → HandAt H' a c → Ev [a] H H' → Q v H') : tOpP (rIxU K) (tLst ts) (tCall sp_law_draw [] E (tCons (tVar j) (tCons (tC (.int m)) tNil))) σ H Q := by
  subst hm
  refine y_op ?_
  refine y_litL (K := K) hh h hn2 fun p vs ds H1 np hp ht hl hds hh1 e1 => ?_
  refine y_call ?_
  refine y_cons ?_
  refine y_var hv ?_
  refine y_cons ?_
  refine y_c ?_
  refine y_nil ?_
  refine use_law_draw hh1 (by omega) (by omega) fun d H3 d0 d1 hh3 e3 => ?_
  have na : p ≠ a := fun z => by subst z; exact hh.tr np
  have hq3 := e3.keep _ _ hp (by simpa using na)
  obtain ⟨i, rfl⟩ : ∃ i : Nat, d = (i : Int) := ⟨d.toNat, by omega⟩
  have hj : i < vs.length := by omega
  obtain ⟨x, ex, tx⟩ := ht.getV (List.getElem?_eq_getElem hj)
  refine y_ixL (SqL.of hq3) (atI_nat (List.getElem?_eq_getElem hj)) ?_
  exact q _ x H3 (hds x (List.mem_of_getElem? ex)) (e3.th tx) hh3 (e1.trans e3)

def sp_is_code (K : PySem.W.Frag) : Sp := fun vs H Q _ => ∃ z v d, vs = [.str z, v] ∧ Th K H v d ∧ Q (.bl (isStrOf d z)) H
theorem use_is_code {H : Hp} {Q : VK} {E : XK} {v : V} {d : Da} {z : Str} (h : Th K H v d) (q : Q (.bl (isStrOf d z)) H) : sp_is_code K ([.str z, v] ++ []) H Q E := ⟨z, v, d, rfl, h, q⟩
theorem ok_is_code (T : Txt K mg) : FnOk P w K mg base CX0 2 T.f_is_code.f T.f_is_code.fd ["rows", "thing"] (sp_is_code K) := by
  refine T.f_is_code.F.ok sc_is_code (fun vs H Q E h => ?_) (fun cdv A outer s H vs Q E hr h => ?_)
  · obtain ⟨z, v, d, rfl, _⟩ := h
    rfl
  · obtain ⟨z, v, d, rfl, hd, k⟩ := h
    refine ⟨_, (pss_one (ps_ret (pe_call (ok_is_string_of T) (hr.mono (by decide)) rfl T.f_is_string_of.mg T.f_is_string_of.kp T.f_is_string_of.bd .nil pass0 (pa_cons (pv 1) (pa_cons (pv 0) pa_nil))))), ?_⟩
    try dsimp only [nox_K, tr_K, cxOf_K]
    refine y_start (σ' := some _ :: some _ :: []) rfl ?_
    walk_at "y"
    exact k

local macro_rules | `(tactic| walk_at "yc") => `(tactic| ((with_reducible refine use_is_code (d := ?d) ?h ?_); (case h => first | assumption | exact Th.str _ | exact Th.int _ | exact Th.bl _ | exact Th.non)))

def isRun : Da → Str → Int → Bool
  | .tup [.str c, .tup as], z, n => isStrOf (.str c) z && (decide (as.length = c.length) && as.all (isWithin · 0 (n - 1)))
  | _, _, _ => false
/-- texts of data that can be -/
def FitIn : Da → Prop
  | .tup [.str c, _] => c.length ≤ sizeLine
  | _ => True
theorem isRun_pair {d : Da} (h : isPair d = false) (z : Str) (n : Int) : isRun d z n = false := by
  unfold isRun
  split
  · cases h
  · rfl
theorem isRun_code {a b : Da} {z : Str} (h : isStrOf a z = false) (n : Int) : isRun (.tup [a, b]) z n = false := by
  unfold isRun
  split
  · rename_i c as e
    cases e
    rw [h]; rfl
  · rfl
theorem isRun_tup {a b : Da} {z : Str} (h : dTup b = false) (n : Int) : isRun (.tup [a, b]) z n = false := by
  unfold isRun
  split
  · rename_i c as e
    cases e
    cases h
  · rfl
theorem isRun_is (c : Str) (as : List Da) (z : Str) (n : Int) : isRun (.tup [.str c, .tup as]) z n = (isStrOf (.str c) z && (decide (as.length = c.length) && as.all (isWithin · 0 (n - 1)))) := rfl
def sp_is_run (K : PySem.W.Frag) : Sp := fun vs H Q _ => ∃ z n v d, vs = [.str z, .int n, v] ∧ Th K H v d ∧ FitIn d ∧ ∀ H', Ev [] H H' → Q (.bl (isRun d z n)) H'
theorem ok_is_run (T : Txt K mg) : FnOk P w K mg base CX0 3 T.f_is_run.f T.f_is_run.fd ["rows", "answers", "thing"] (sp_is_run K) := by
  refine T.f_is_run.F.ok sc_is_run (fun vs H Q E h => ?_) (fun cdv A outer s H vs Q E hr h => ?_)
  · obtain ⟨z, n, v, d, rfl, _⟩ := h
    rfl
  · obtain ⟨z, n, v, d, rfl, hd, hf, k⟩ := h
    refine ⟨_, (pss_cons (ps_if (PW.pt (pw_or (pt_not (pt_val (pe_call (ok_is_pair T) (hr.mono (by decide)) rfl T.f_is_pair.mg T.f_is_pair.kp T.f_is_pair.bd .nil pass0 (pa_cons (pv 2) pa_nil)))) (pw_or (pt_not (pt_val (pe_call (ok_is_code T) (hr.mono (by decide)) rfl T.f_is_code.mg T.f_is_code.kp T.f_is_code.bd .nil pass0 (pa_cons (pv 0) (pa_cons (pe_ix (ix_U (K := K) (hu_of hr)) (pv 2) pe_int (fun _ _ => rfl)) pa_nil))))) (pw_or1 (pt_not (pt_val (pe_callB (call_isiU (K := K)) (by rfl) T.b_isinstance (by decide +kernel) (pa_cons (pe_ix (ix_U (K := K) (hu_of hr)) (pv 2) pe_int (fun _ _ => rfl)) (pa_cons (pe_bltn (v := .ty "tuple") rfl T.b_tuple (by decide +kernel) rfl) pa_nil))))))))) (pss_one (ps_ret pe_bl)) pss_nil)
  (pss_one (ps_ret (pe_and (pe_cmpR (op_eqU (K := K) (hu_of hr) hr.units) (pe_callB (call_lenU (K := K)) (by rfl) T.b_len (by decide +kernel) (pa_cons (pe_ix (ix_U (K := K) (hu_of hr)) (pv 2) pe_int (fun _ _ => rfl)) pa_nil)) (pe_callB (call_lenU (K := K)) (by rfl) T.b_len (by decide +kernel) (pa_cons (pe_ix (ix_U (K := K) (hu_of hr)) (pv 2) pe_int (fun _ _ => rfl)) pa_nil)) (by first | exact nomark _ | rfl)) (pe_one (pe_callB (cr_allU (K := K)) (by rfl) T.b_all (by decide +kernel) (pa_cons (pe_lcU (own := [("answer", 3)]) (vs := [3]) rfl (by rfl) sc_is_run.nd (pi_U (K := K) (pe_ix (ix_U (K := K) (hu_of hr)) (pv 2) pe_int (fun _ _ => rfl))) (blkOk_by (own := [("answer", 3)]) (N := N_is_run) (sc := defScope s_is_run) (by decide +kernel)) (fun _ _ _ _ _ => (pg_name (i := 3) sc_is_run.nd rfl (by first | exact Or.inl rfl | exact Or.inr rfl))) (fun _ _ _ _ _ => pts_nil) (fun _ _ _ _ _ => (pe_call (ok_is_within T) (hr.mono (by decide)) rfl T.f_is_within.mg T.f_is_within.kp T.f_is_within.bd .nil pass0 (pa_cons (pv 3) (pa_cons pe_int (pa_cons (pe_op op_sub (pv 1) pe_int) pa_nil)))))) pa_nil))))))), ?_⟩
    try dsimp only [nox_K, tr_K, cxOf_K]
    refine y_start (σ' := some _ :: some _ :: some _ :: none :: []) rfl ?_
    have hs : (sizeLine : Nat) = 16777216 := sizeLine_eq
    walk_at "y"
    cases c : isPair d with
    | false =>
      rw [isRun_pair c] at k
      walk_at "y"
      exact k _ Ev.refl
    | true =>
      obtain ⟨a, b, rfl⟩ := isPair_two c
      obtain ⟨p, x, y, rfl, hp, h1, h2⟩ := th_two hd
      walk_at "y"
      cases c2 : isStrOf a z with
      | false =>
        rw [isRun_code c2] at k
        walk_at "y"
        exact k _ Ev.refl
      | true =>
        walk_at "y"
        cases c3 : dTup b with
        | false =>
          rw [isRun_tup c3] at k
          walk_at "y"
          exact k _ Ev.refl
        | true =>
          cases h2 <;> try (cases c3; done)
          cases h1 <;> try (cases c2; done)
          rename_i q ys as hys hty w
          have hf : w.length ≤ sizeLine := hf
          have hl := hty.length
          rw [isRun_is, c2, Bool.true_and] at k
          walk_at "y"
          rw [hl]
          by_cases c4 : as.length = w.length
          · rw [decide_eq_true (show (as.length : Int) = w.length by omega)]
            rw [decide_eq_true c4, Bool.true_and] at k
            walk_at "y"
            refine y_lcFlag (isWithin · 0 (n - 1)) hys hty (by omega) (fun x d Hc Qt hd3 hx3 e3 kq => ?_) fun D H3 hD hD3 e3 => ?_
            · walk_at "yw"
              walk_at "y"
              exact kq _ Ev.refl
            · walk_at "y"
              refine y_all (SqL.of hD3) ?_
              rw [show (as.map (isWithin · 0 (n - 1))).all id = as.all (isWithin · 0 (n - 1)) by rw [List.all_map]; rfl]
              exact k _ e3
          · rw [decide_eq_false (show ¬ (as.length : Int) = w.length by omega)]
            rw [decide_eq_false c4, Bool.false_and] at k
            walk_at "y"
            exact k _ Ev.refl

-- use Machine_init
-- use is_run
def moveAt (ss : List (List (List (Int × Int)))) (s r a : Nat) : Int × Int := ((ss.getD s []).getD r []).getD a (0, 0)
def stepF (ss : List (List (List (Int × Int)))) (t : Int × Nat) (r : Nat × Nat) : Int × Nat := (t.1 + (moveAt ss t.2 r.1 r.2).1, (moveAt ss t.2 r.1 r.2).2.toNat)
/-- ticks and standing behind a run -/
def ledF (ss : List (List (List (Int × Int)))) (s : Nat) (rs : List (Nat × Nat)) : Int × Nat := rs.foldl (stepF ss) (0, s)
def signAt (z : Str) (r : Nat) : Nat := z.cps.toList.getD r 0
def codeOf (z : Str) (rs : List (Nat × Nat)) : Str := ofL (rs.map fun r => signAt z r.1)
def runD (z : Str) (rs : List (Nat × Nat)) : Da := .tup [.str (codeOf z rs), .tup (rs.map fun r => Da.int r.2)]
structure RunOk (z : Str) (ans : Nat) (rs : List (Nat × Nat)) : Prop where
  all : ∀ r ∈ rs, r.1 < z.length ∧ r.2 < ans
  len : rs.length ≤ 100000
theorem MachOk.at {z : Str} {ans : Nat} {ss : List (List (List (Int × Int)))} (W : MachOk z ans ss) {s r a : Nat} (hs : s < ss.length) (hr : r < z.length) (ha : a < ans) :
    ∃ ls l, ss[s]? = some ls ∧ ls[r]? = some l ∧ z.cps.toList[r]? = some (signAt z r) ∧ l[a]? = some (moveAt ss s r a) ∧ 1 ≤ (moveAt ss s r a).1 ∧ (moveAt ss s r a).1 ≤ 99 ∧ 0 ≤ (moveAt ss s r a).2 ∧ (moveAt ss s r a).2 < ss.length := by
  have e1 : ss[s]? = some ss[s] := List.getElem?_eq_getElem hs
  have m1 : ss[s] ∈ ss := List.mem_of_getElem? e1
  have h2 : r < (ss[s]).length := by rw [W.sh.rows _ m1]; exact hr
  have e2 : (ss[s])[r]? = some (ss[s])[r] := List.getElem?_eq_getElem h2
  have m2 : (ss[s])[r] ∈ ss[s] := List.mem_of_getElem? e2
  have h3 : a < ((ss[s])[r]).length := by rw [W.sh.anss _ m1 _ m2]; exact ha
  have e3 : ((ss[s])[r])[a]? = some ((ss[s])[r])[a] := List.getElem?_eq_getElem h3
  have em : moveAt ss s r a = ((ss[s])[r])[a] := by
    unfold moveAt
    rw [List.getD_eq_getElem?_getD, List.getD_eq_getElem?_getD, List.getD_eq_getElem?_getD, e1, Option.getD_some, e2, Option.getD_some, e3, Option.getD_some]
  have zl : z.cps.toList.length = z.length := by simp [Str.length]
  have hz : r < z.cps.toList.length := by omega
  have ez : z.cps.toList[r]? = some (signAt z r) := by
    unfold signAt
    rw [List.getD_eq_getElem?_getD, List.getElem?_eq_getElem hz]; rfl
  have hm := W.mv _ m1 _ m2 _ (List.mem_of_getElem? e3)
  rw [em]
  exact ⟨_, _, e1, e2, ez, e3, hm⟩
theorem ledF_snoc (ss : List (List (List (Int × Int)))) (s : Nat) (rs : List (Nat × Nat)) (i : Nat) (r : Nat × Nat) (h : rs[i]? = some r) : ledF ss s (rs.take (i + 1)) = stepF ss (ledF ss s (rs.take i)) r := by
  unfold ledF
  rw [List.take_add_one, h, List.foldl_append]
  rfl
theorem runD_ok {z : Str} {ans : Nat} {rs : List (Nat × Nat)} (h : RunOk z ans rs) : isRun (runD z rs) z ans = true := by
  unfold runD
  rw [isRun_is]
  have zl : z.cps.toList.length = z.length := by simp [Str.length]
  have h1 : isStrOf (.str (codeOf z rs)) z = true := by
    show (codeOf z rs).cps.toList.all _ = true
    rw [List.all_eq_true]
    intro c hc
    have e : (codeOf z rs).cps.toList = rs.map fun r => signAt z r.1 := by simp [codeOf, ofL]
    rw [e] at hc
    obtain ⟨r, hr, rfl⟩ := List.mem_map.mp hc
    have := (h.all r hr).1
    refine decide_eq_true ?_
    unfold signAt
    rw [List.getD_eq_getElem?_getD, List.getElem?_eq_getElem (by omega)]
    exact List.getElem_mem _
  rw [h1, Bool.true_and, List.length_map, decide_eq_true (show rs.length = (codeOf z rs).length by rw [codeOf, ofL_len, List.length_map]), Bool.true_and, List.all_map, List.all_eq_true]
  intro r hr
  have := (h.all r hr).2
  show isWithin (.int r.2) 0 (ans - 1) = true
  simp [isWithin]
  omega
theorem runD_fit {z : Str} {ans : Nat} {rs : List (Nat × Nat)} (h : RunOk z ans rs) : FitIn (runD z rs) := by
  have hs : (sizeLine : Nat) = 16777216 := sizeLine_eq
  have := h.len
  show (codeOf z rs).length ≤ sizeLine
  rw [codeOf, ofL_len, List.length_map]
  omega
theorem runD_at {K : PySem.W.Frag} {H : Hp} {v : V} {z : Str} {rs : List (Nat × Nat)} (h : Th K H v (runD z rs)) : ∃ p q, v = .ref p ∧ SqT K H p [.str (codeOf z rs), .ref q] ∧ SqT K H q (rs.map fun r => V.int r.2) := by
  obtain ⟨p, x, y, rfl, hp, h1, h2⟩ := th_two h
  cases h1
  cases h2 with
  | @tup q ys _ hys hty =>
  refine ⟨p, q, rfl, hp, ?_⟩
  have : ∀ {ys : List V} {rs : List (Nat × Nat)}, ThAll K H ys (rs.map fun r => Da.int r.2) → ys = rs.map fun r => V.int r.2 := by
    intro ys rs
    induction rs generalizing ys with
    | nil => intro h; cases h; rfl
    | cons r rs ih =>
      intro h
      cases h with
      | cons a b =>
        cases a
        rw [ih b]
        rfl
  rw [← this hty]
  exact hys
def sp_led (K : PySem.W.Frag) (C : Addr) : Sp := fun vs H Q _ => ∃ (m : Addr) (z : Str) (ans : Nat) (mv : Addr) (ss : List (List (List (Int × Int)))) (s : Nat) (v : V) (rs : List (Nat × Nat)), vs = [.ref m, .int s, v] ∧ MachAt K C H m z ans mv ss ∧ MachOk z ans ss ∧ s < ss.length ∧ Th K H v (runD z rs) ∧ RunOk z ans rs ∧
  ∀ q H', H' q = some (.tup [.int (ledF ss s rs).1, .int (ledF ss s rs).2]) → Ev [] H H' → Q (.ref q) H'
theorem ok_led (T : Txt K mg) : FnOk P w K mg base CX0 1 T.f_led.f T.f_led.fd ["machine", "standing", "run"] (sp_led K T.o_Machine) := by
  refine T.f_led.F.ok sc_led (fun vs H Q E h => ?_) (fun cdv A outer s H vs Q E hr h => ?_)
  · obtain ⟨m, z, ans, mv, ss, s, v, rs, rfl, _⟩ := h
    rfl
  · obtain ⟨m, z, ans, mv, ss, st, v, rs, rfl, hm, W, hst, hd, ok, k⟩ := h
    obtain ⟨dx, kp, kw, hi, kvs, hk, hkk⟩ := hm.ins
    obtain ⟨p, q, rfl, hp, hq⟩ := runD_at hd
    refine ⟨_, (pss_cons (ps_set (i := 3) sc_led.nd rfl (by first | exact Or.inl rfl | exact Or.inr rfl) pe_int)
  (pss_cons (ps_for PassesOwn.never rfl (pi_zipU (K := K) (by rfl) T.b_zip (pa_cons (pe_ix (ix_U (K := K) (hu_of hr)) (pv 2) pe_int (fun _ _ => rfl)) (pa_cons (pe_ix (ix_U (K := K) (hu_of hr)) (pv 2) pe_int (fun _ _ => rfl)) pa_nil))) (pg_tupU (K := K) (n := 2) rfl (pgs_cons (pg_name (i := 4) sc_led.nd rfl (by first | exact Or.inl rfl | exact Or.inr rfl)) (pgs_cons (pg_name (i := 5) sc_led.nd rfl (by first | exact Or.inl rfl | exact Or.inr rfl)) pgs_nil)) rfl rfl)
  (pss_cons (ps_asg (pe_ix (ix_U (K := K) (hu_of hr)) (pe_fldU (K := K) (pv 0) rfl) (pe_tup (pa_cons (pv 1) (pa_cons (pv 4) (pa_cons (pv 5) pa_nil)))) (fun _ _ => rfl)) (pg_tupU (K := K) (n := 2) rfl (pgs_cons (pg_name (i := 6) sc_led.nd rfl (by first | exact Or.inl rfl | exact Or.inr rfl)) (pgs_cons (pg_name (i := 1) sc_led.nd rfl (by first | exact Or.inl rfl | exact Or.inr rfl)) pgs_nil)) rfl rfl))
  (pss_one (ps_aug (i := 3) sc_led.nd rfl (by first | exact Or.inl rfl | exact Or.inr rfl) (pv 6) ip_addU))))
  (pss_one (ps_ret (pe_tup (pa_cons (pv 3) (pa_cons (pv 1) pa_nil))))))), ?_⟩
    try dsimp only [nox_K, tr_K, cxOf_K]
    refine y_start (σ' := some _ :: some _ :: some _ :: none :: none :: none :: none :: []) rfl ?_
    walk_at "y"
    have cl : (codeOf z rs).cps.toList = rs.map fun r => signAt z r.1 := by simp [codeOf, ofL]
    refine y_forZn (k1 := .s) (k2 := .t) _ _ srcS (srcT hq) (fun i σ H' => ∃ o4 o5 o6, σ = [some (.ref m), some (.int (ledF ss st (rs.take i)).2), some (.ref p), some (.int (ledF ss st (rs.take i)).1), o4, o5, o6] ∧ (ledF ss st (rs.take i)).2 < ss.length ∧ Ev [] H H') ⟨_, _, _, rfl, hst, Ev.refl⟩ (fun i σ H' _ h => by
      obtain ⟨_, _, _, _, _, e⟩ := h
      exact ⟨srcS, srcT (e.sqT hq)⟩) ?_ ?_
    · rintro i cv av T1 σ H1 H2 hcv hav ⟨o4, o5, o6, rfl, hb, e1⟩ nT hT e2
      rw [List.getElem?_map] at hav
      cases hr : rs[i]? with
      | none => rw [hr] at hav; cases hav
      | some r =>
      rw [hr] at hav
      cases hav
      rw [cl, List.getElem?_map, List.getElem?_map, hr] at hcv
      cases hcv
      obtain ⟨hr1, hr2⟩ := ok.all r (List.mem_of_getElem? hr)
      obtain ⟨ls, l, g1, g2, g3, g4, b1, b2, b3, b4⟩ := W.at hb hr1 hr2
      obtain ⟨w, hw, tw⟩ := hkk _ _ _ _ _ _ _ g1 g2 g3 g4 trivial
      have e12 := e1.trans e2
      have hi2 := e12.keep _ _ hi (by simp)
      have hk2 := e12.keep _ _ hk (by simp)
      walk_at "y"
      refine y_tTup ?_
      walk_at "y"
      refine y_newT (by show 3 ≤ sizeLine; decide) fun pk H3 npk hpk e3 => ?_
      have hk3 := e3.keep _ _ hk2 (by simp)
      refine y_getDT (k := keyOf (ledF ss st (rs.take i)).2 (signAt z r.1) r.2) hk3 hpk hw ?_
      have tw3 := (e12.trans e3).th tw
      obtain ⟨p2, x, y, rfl, hp2, h1, h2⟩ := th_two tw3
      cases h1
      cases h2
      walk_at "y"
      rw [ledF_snoc ss st rs i r hr]
      have e5 : ((stepF ss (ledF ss st (rs.take i)) r).2 : Int) = (moveAt ss (ledF ss st (rs.take i)).2 r.1 r.2).2 := by
        show ((moveAt ss (ledF ss st (rs.take i)).2 r.1 r.2).2.toNat : Int) = _
        omega
      have e6 : (stepF ss (ledF ss st (rs.take i)) r).1 = (ledF ss st (rs.take i)).1 + (moveAt ss (ledF ss st (rs.take i)).2 r.1 r.2).1 := rfl
      rw [e5, e6]
      exact ⟨_, _, _, rfl, by omega, e12.trans e3⟩
    · rintro σ H1 ⟨o4, o5, o6, rfl, hb, e1⟩
      rw [show min ((codeOf z rs).cps.toList.map fun c => V.str ⟨#[c]⟩).length (rs.map fun r => V.int r.2).length = rs.length by rw [cl]; simp, List.take_of_length_le (Nat.le_refl _)]
      walk_at "y"
      refine y_tTup ?_
      walk_at "y"
      refine y_newT (by show 2 ≤ sizeLine; decide) fun pk H3 npk hpk e3 => ?_
      exact k _ _ hpk (e1.trans e3)

-- use law_hand
-- use is_rows
def abcL : List Nat := (List.range 26).map (97 + ·)
theorem SMALL_is : SMALL = ofL abcL := by decide +kernel
theorem abcL_drop (r : Nat) (j : Nat) (h : r + j < 26) : (abcL.drop r)[j]? = some (97 + (r + j)) := by
  rw [List.getElem?_drop, abcL, List.getElem?_map, List.getElem?_range h]
  rfl
theorem abcL_mem {c : Nat} : c ∈ abcL ↔ 97 ≤ c ∧ c < 123 := by
  unfold abcL
  rw [List.mem_map]
  constructor
  · rintro ⟨a, h, rfl⟩
    have := List.mem_range.mp h
    omega
  · rintro ⟨h1, h2⟩
    exact ⟨c - 97, List.mem_range.mpr (by omega), by omega⟩
theorem ascL_snoc : ∀ (l : List Nat) (c : Nat), ascL l = true → (∀ x ∈ l, x < c) → ascL (l ++ [c]) = true
  | [], c, _, _ => rfl
  | [x], c, _, h => by simp [ascL, h x (by simp)]
  | x :: y :: r, c, h, hx => by
    simp only [ascL, Bool.and_eq_true] at h
    show (decide (x < y) && ascL (y :: r ++ [c])) = true
    rw [h.1, ascL_snoc (y :: r) c h.2 fun z hz => hx z (List.mem_cons_of_mem _ hz)]
    rfl
/-- rows so far: of the first r letters -/
structure RowsSo (l : List Nat) (r : Nat) : Prop where
  asc : ascL l = true
  mem : ∀ x ∈ l, 97 ≤ x ∧ x < 97 + r
theorem RowsSo.snoc {l : List Nat} {r j : Nat} (h : RowsSo l r) : RowsSo (l ++ [97 + (r + j)]) (r + j + 1) where
  asc := ascL_snoc l _ h.asc fun x hx => by have := h.mem x hx; omega
  mem := fun x hx => by
    rcases List.mem_append.mp hx with q | q
    · have := h.mem x q; omega
    · simp at q; omega
theorem RowsSo.ok {l : List Nat} {r : Nat} (h : RowsSo l r) (hr : r ≤ 26) (n1 : 1 ≤ l.length) (n4 : l.length ≤ 4) : isRows (.str (ofL l)) = true := by
  unfold isRows isWord
  have e : (ofL l).cps.toList = l := by simp [ofL]
  have a : isStrOf (.str (ofL l)) SMALL = true := by
    show (ofL l).cps.toList.all _ = true
    rw [e, SMALL_is, List.all_eq_true]
    intro x hx
    have : x ∈ (ofL abcL).cps.toList := by
      have e2 : (ofL abcL).cps.toList = abcL := by simp [ofL]
      rw [e2, abcL_mem]
      have := h.mem x hx
      omega
    exact decide_eq_true this
  rw [a]
  simp only [ofL_len, e, h.asc, Bool.true_and, Bool.and_true, Bool.and_eq_true, decide_eq_true_eq]
  omega
theorem isStrOf_L (l : List Nat) : isStrOf (.str (ofL l)) SMALL = true ↔ ∀ x ∈ l, x ∈ abcL := by
  have e : (ofL l).cps.toList = l := by simp [ofL]
  have e2 : SMALL.cps.toList = abcL := by rw [SMALL_is]; simp [ofL]
  show (ofL l).cps.toList.all _ = true ↔ _
  rw [e, List.all_eq_true, e2]
  simp
/-- rows without twins and without a caret -/
structure RowsGood (x : Str) : Prop where
  len : x.length ≤ 4
  nd : x.cps.toList.Nodup
  nc : 94 ∉ x.cps.toList
theorem ascL_nodup : ∀ l : List Nat, ascL l = true → l.Pairwise (· < ·)
  | [], _ => .nil
  | [x], _ => by simp
  | x :: y :: r, h => by
    simp only [ascL, Bool.and_eq_true, decide_eq_true_eq] at h
    have q := ascL_nodup (y :: r) h.2
    refine List.pairwise_cons.mpr ⟨fun z hz => ?_, q⟩
    rcases List.mem_cons.mp hz with e | e
    · subst e; exact h.1
    · exact Nat.lt_trans h.1 ((List.pairwise_cons.mp q).1 z e)
theorem rows_parts {s : Str} (h : isRows (.str s) = true) : isStrOf (.str s) SMALL = true ∧ 0 < s.length ∧ s.length ≤ 4 ∧ ascL s.cps.toList = true := by
  unfold isRows isWord at h
  simp only [Bool.and_eq_true, decide_eq_true_eq] at h
  exact ⟨h.1.1, h.1.2, h.2.1, h.2.2⟩
theorem rows_good {s : Str} (h : isRows (.str s) = true) : RowsGood s := by
  obtain ⟨h1, h2, h3, h4⟩ := rows_parts h
  refine ⟨h3, (ascL_nodup _ h4).imp fun h => Nat.ne_of_lt h, fun q => ?_⟩
  rw [← ofL_cps s] at h1
  have := abcL_mem.mp ((isStrOf_L _).mp h1 94 q)
  omega
theorem join_signs (ls : List Nat) : Txt.join "" (ls.map fun c => ofL [c]) = ofL ls := by
  have h : ∀ ls : List Nat, TL.joinL [] (ls.map fun c => [c]) = ls := by
    intro ls
    induction ls with
    | nil => rfl
    | cons c r ih =>
      cases r with
      | nil => rfl
      | cons d r =>
        show [c] ++ ([] ++ TL.joinL [] ((d :: r).map fun c => [c])) = _
        rw [ih]; rfl
  have e := TL.tl_join "" (ls.map fun c => ofL [c])
  have e2 : (ls.map fun c => ofL [c]).map TL.tl = ls.map fun c => [c] := by rw [List.map_map]; exact List.map_congr_left fun c _ => rfl
  rw [e2, show TL.tl "" = [] from rfl, h] at e
  rw [TL.join_eq]
  exact (ofL_cps _).symm.trans (congrArg ofL e)
def sp_law_rows : Sp := fun vs H Q _ => ∃ a c m, vs = [.ref a, .int m] ∧ HandAt H a c ∧ 1 ≤ m ∧ m ≤ 4 ∧ ∀ s H', isRows (.str s) = true → (s.length : Int) ≤ m → HandAt H' a c → Ev [a] H H' → Q (.str s) H'
theorem ok_law_rows (T : Txt K mg) : FnOk P w K mg base CX0 2 T.f_law_rows.f T.f_law_rows.fd ["_law_hand_here", "_law_most"] sp_law_rows := by
  refine T.f_law_rows.F.ok sc_law_rows (fun vs H Q E h => ?_) (fun cdv A outer s H vs Q E hr h => ?_)
  · obtain ⟨a, c, m, rfl, _⟩ := h
    rfl
  · obtain ⟨a, c, m, rfl, hh, m1, m2, k⟩ := h
    refine ⟨_, (pss_cons (ps_set (i := 2) sc_law_rows.nd rfl (by first | exact Or.inl rfl | exact Or.inr rfl) (pe_op (op_addU (K := K)) pe_int (pe_call (ok_law_draw T) (hr.mono (by decide)) rfl T.f_law_draw.mg T.f_law_draw.kp T.f_law_draw.bd .nil pass0 (pa_cons (pv 0) (pa_cons (pv 1) pa_nil)))))
  (pss_cons (ps_set (i := 3) sc_law_rows.nd rfl (by first | exact Or.inl rfl | exact Or.inr rfl) pe_str)
  (pss_cons (ps_set (i := 4) sc_law_rows.nd rfl (by first | exact Or.inl rfl | exact Or.inr rfl) pe_str)
  (pss_cons (ps_for PassesOwn.never rfl (pi_range1 (by rfl) T.b_range (pa_cons (pv 2) pa_nil)) (pg_name (i := 5) sc_law_rows.nd rfl (by first | exact Or.inl rfl | exact Or.inr rfl))
  (pss_cons (ps_set (i := 6) sc_law_rows.nd rfl (by first | exact Or.inl rfl | exact Or.inr rfl) (pe_call (ok_law_draw T) (hr.mono (by decide)) rfl T.f_law_draw.mg T.f_law_draw.kp T.f_law_draw.bd .nil pass0 (pa_cons (pv 0) (pa_cons (pe_op op_sub (pe_callB (call_lenU (K := K)) (by rfl) T.b_len (by decide +kernel) (pa_cons (pv 4) pa_nil)) (pe_op op_sub (pe_op op_sub (pv 2) (pv 5)) pe_int)) pa_nil))))
  (pss_cons (ps_set (i := 3) sc_law_rows.nd rfl (by first | exact Or.inl rfl | exact Or.inr rfl) (pe_op (op_addU (K := K)) (pv 3) (pe_ix (ix_U (K := K) (hu_of hr)) (pv 4) (pv 6) (fun _ _ => rfl))))
  (pss_one (ps_set (i := 4) sc_law_rows.nd rfl (by first | exact Or.inl rfl | exact Or.inr rfl) (pe_slice (sl_U (K := K)) (pv 4) (po_some (pe_op (op_addU (K := K)) (pv 6) pe_int)) po_none))))))
  (pss_one (ps_ret (pv 3))))))), ?_⟩
    try dsimp only [nox_K, tr_K, cxOf_K]
    refine y_start (σ' := some _ :: some _ :: none :: none :: none :: none :: none :: []) rfl ?_
    have hs : (sizeLine : Nat) = 16777216 := sizeLine_eq
    walk_at "y"
    refine use_law_draw hh (by omega) (by omega) fun d H1 d0 d1 hh1 e1 => ?_
    walk_at "y"
    refine y_forR (by omega) (fun i σ H' => ∃ l r o o2, σ = [some (.ref a), some (.int m), some (.int (1 + d)), some (.str (ofL l)), some (.str (ofL (abcL.drop r))), o, o2] ∧ RowsSo l r ∧ l.length = i ∧ (r : Int) + (1 + d - i) ≤ 26 ∧ HandAt H' a c ∧ Ev [a] H H') ⟨[], 0, none, none, ?_, ⟨rfl, fun x h => nomatch h⟩, rfl, by omega, hh1, e1⟩ ?_ ?_
    · rw [show ("" : Str) = ofL [] from rfl, show ("abcdefghijklmnopqrstuvwxyz" : Str) = ofL (abcL.drop 0) from SMALL_is]
    · rintro i σ H' hi ⟨l, r, o, o2, rfl, rs, hl, hr, hh2, e2⟩
      have hlen : (ofL (abcL.drop r)).length = 26 - r := by rw [ofL_len, List.length_drop]; rfl
      walk_at "y"
      rw [hlen]
      refine use_law_draw hh2 (by omega) (by omega) fun at_ H2 t0 t1 hh3 e3 => ?_
      walk_at "y"
      obtain ⟨j, rfl⟩ : ∃ j : Nat, at_ = (j : Int) := ⟨at_.toNat, by omega⟩
      refine y_ixS (by omega) (atI_nat (show (ofL (abcL.drop r)).cps.toList[j]? = some (97 + (r + j)) by
        have e2 : (ofL (abcL.drop r)).cps.toList = abcL.drop r := by simp [ofL]
        rw [e2]; exact abcL_drop r j (by omega))) ?_
      walk_at "y"
      refine y_addS (by rw [ofL_len]; show l.length + 1 ≤ _; omega) ?_
      walk_at "y"
      refine ⟨l ++ [97 + (r + j)], r + j + 1, some (.int i), some (.int j), ?_, rs.snoc, by simp [hl], by omega, hh3, e2.trans e3⟩
      rw [cut_from _ _ (by omega)]
      have e3 : (ofL (abcL.drop r)).cps.toList = abcL.drop r := by simp [ofL]
      rw [e3, List.drop_drop, show r + ((j : Int) + 1).toNat = r + j + 1 by omega]
      rw [show (⟨#[97 + (r + j)]⟩ : Str) = ofL [97 + (r + j)] from rfl, ofL_app]
    · rintro σ H' ⟨l, r, o, o2, rfl, rs, hl, hr, hh2, e2⟩
      walk_at "y"
      refine k _ _ (rs.ok (by omega) (by omega) (by omega)) (by rw [ofL_len]; omega) hh2 e2

-- use led
-- use law_rows
def sp_law_led (K : PySem.W.Frag) : Sp := fun vs H Q _ => ∃ (p : Addr) (z : Str) (ans : Nat) (mv : Addr) (ss : List (List (List (Int × Int)))) (s : Nat) (v : V) (rs : List (Nat × Nat)), vs = [.ref p, .int s, v] ∧ SqT K H p [.str z, .int ans, .ref mv] ∧ Th K H (.ref mv) (movesD ss) ∧ MachOk z ans ss ∧ s < ss.length ∧ Th K H v (runD z rs) ∧ RunOk z ans rs ∧
  ∀ q H', H' q = some (.tup [.int (ledF ss s rs).1, .int (ledF ss s rs).2]) → Ev [] H H' → Q (.ref q) H'
theorem find_at {z : Str} {r : Nat} (zn : z.cps.toList.Nodup) (hr : r < z.length) : Txt.find z (ofL [signAt z r]) = (r : Int) := by
  have zl : z.cps.toList.length = z.length := by simp [Str.length]
  have ez : z.cps.toList[r]? = some (signAt z r) := by
    unfold signAt
    rw [List.getD_eq_getElem?_getD, List.getElem?_eq_getElem (by omega)]; rfl
  rcases find_sign z (signAt z r) with ⟨_, n⟩ | ⟨i, h, hi⟩
  · exact absurd (List.mem_of_getElem? ez) n
  · rw [h, nodup_at zn hi ez]
theorem map_at {α β : Type} {l : List α} {f : α → β} {i : Nat} {x : α} (h : l[i]? = some x) : (l.map f)[i]? = some (f x) := by rw [List.getElem?_map, h]; rfl
theorem tup_at {K : PySem.W.Frag} {H : Hp} {v : V} {ds : List Da} {i : Nat} {d : Da} (h : Th K H v (.tup ds)) (e : ds[i]? = some d) : ∃ p xs w, v = .ref p ∧ SqT K H p xs ∧ atI xs (i : Int) = some w ∧ Th K H w d := by
  cases h with
  | @tup p xs _ hs ht =>
  obtain ⟨w, h1, h2⟩ := ht.get e
  exact ⟨p, xs, w, rfl, hs, atI_nat h1, h2⟩
theorem ok_law_led (T : Txt K mg) : FnOk P w K mg base CX0 1 T.f_law_led.f T.f_law_led.fd ["_law_world_here", "_law_at", "_law_run_here"] (sp_law_led K) := by
  refine T.f_law_led.F.ok sc_law_led (fun vs H Q E h => ?_) (fun cdv A outer s H vs Q E hr h => ?_)
  · obtain ⟨p, z, ans, mv, ss, s, v, rs, rfl, _⟩ := h
    rfl
  · obtain ⟨m, z, ans, mv, ss, st, v, rs, rfl, hm, tm, W, hst, hd, ok, k⟩ := h
    obtain ⟨p, q, rfl, hp, hq⟩ := runD_at hd
    refine ⟨_, (pss_cons (ps_set (i := 3) sc_law_led.nd rfl (by first | exact Or.inl rfl | exact Or.inr rfl) pe_int)
  (pss_cons (ps_for PassesOwn.never rfl (pi_zipU (K := K) (by rfl) T.b_zip (pa_cons (pe_ix (ix_U (K := K) (hu_of hr)) (pv 2) pe_int (fun _ _ => rfl)) (pa_cons (pe_ix (ix_U (K := K) (hu_of hr)) (pv 2) pe_int (fun _ _ => rfl)) pa_nil))) (pg_tupU (K := K) (n := 2) rfl (pgs_cons (pg_name (i := 4) sc_law_led.nd rfl (by first | exact Or.inl rfl | exact Or.inr rfl)) (pgs_cons (pg_name (i := 5) sc_law_led.nd rfl (by first | exact Or.inl rfl | exact Or.inr rfl)) pgs_nil)) rfl rfl)
  (pss_cons (ps_asg (pe_ix (ix_U (K := K) (hu_of hr)) (pe_ix (ix_U (K := K) (hu_of hr)) (pe_ix (ix_U (K := K) (hu_of hr)) (pe_ix (ix_U (K := K) (hu_of hr)) (pv 0) pe_int (fun _ _ => rfl)) (pv 1) (fun _ _ => rfl)) (pe_bmU (K := K) PySem.F.plainAttrs_str PySem.F.slot_str_find PySem.F.type_str_find mt_findU (pe_ix (ix_U (K := K) (hu_of hr)) (pv 0) pe_int (fun _ _ => rfl)) (pa_cons (pv 4) pa_nil)) (fun _ _ => rfl)) (pv 5) (fun _ _ => rfl)) (pg_tupU (K := K) (n := 2) rfl (pgs_cons (pg_name (i := 6) sc_law_led.nd rfl (by first | exact Or.inl rfl | exact Or.inr rfl)) (pgs_cons (pg_name (i := 1) sc_law_led.nd rfl (by first | exact Or.inl rfl | exact Or.inr rfl)) pgs_nil)) rfl rfl))
  (pss_one (ps_set (i := 3) sc_law_led.nd rfl (by first | exact Or.inl rfl | exact Or.inr rfl) (pe_op (op_addU (K := K)) (pv 3) (pv 6))))))
  (pss_one (ps_ret (pe_tup (pa_cons (pv 3) (pa_cons (pv 1) pa_nil))))))), ?_⟩
    try dsimp only [nox_K, tr_K, cxOf_K]
    refine y_start (σ' := some _ :: some _ :: some _ :: none :: none :: none :: none :: []) rfl ?_
    walk_at "y"
    have cl : (codeOf z rs).cps.toList = rs.map fun r => signAt z r.1 := by simp [codeOf, ofL]
    refine y_forZn (k1 := .s) (k2 := .t) _ _ srcS (srcT hq) (fun i σ H' => ∃ o4 o5 o6, σ = [some (.ref m), some (.int (ledF ss st (rs.take i)).2), some (.ref p), some (.int (ledF ss st (rs.take i)).1), o4, o5, o6] ∧ (ledF ss st (rs.take i)).2 < ss.length ∧ Ev [] H H') ⟨_, _, _, rfl, hst, Ev.refl⟩ (fun i σ H' _ h => by
      obtain ⟨_, _, _, _, _, e⟩ := h
      exact ⟨srcS, srcT (e.sqT hq)⟩) ?_ ?_
    · rintro i cv av T1 σ H1 H2 hcv hav ⟨o4, o5, o6, rfl, hb, e1⟩ nT hT e2
      rw [List.getElem?_map] at hav
      cases hr : rs[i]? with
      | none => rw [hr] at hav; cases hav
      | some r =>
      rw [hr] at hav
      cases hav
      rw [cl, List.getElem?_map, List.getElem?_map, hr] at hcv
      cases hcv
      obtain ⟨hr1, hr2⟩ := ok.all r (List.mem_of_getElem? hr)
      obtain ⟨ls, l, g1, g2, g3, g4, b1, b2, b3, b4⟩ := W.at hb hr1 hr2
      have e12 := e1.trans e2
      have hm2 := e12.sqT hm
      have tm2 := e12.th tm
      obtain ⟨p1, xs1, w1, ew1, hs1, i1, tw1⟩ := tup_at (ds := ss.map linesD) tm2 (map_at g1)
      cases ew1
      obtain ⟨p2, xs2, w2, rfl, hs2, i2, tw2⟩ := tup_at (ds := ls.map lineD) tw1 (map_at g2)
      obtain ⟨p3, xs3, w3, rfl, hs3, i3, tw3⟩ := tup_at (ds := l.map fun m => Da.tup [.int m.1, .int m.2]) tw2 (map_at g4)
      obtain ⟨p4, x, y, rfl, hp4, h1, h2⟩ := th_two tw3
      cases h1
      cases h2
      walk_at "y"
      refine ⟨z, ofL [signAt z r.1], rfl, rfl, ?_⟩
      rw [find_at W.sh.zn hr1]
      walk_at "y"
      rw [ledF_snoc ss st rs i r hr]
      have e5 : ((stepF ss (ledF ss st (rs.take i)) r).2 : Int) = (moveAt ss (ledF ss st (rs.take i)).2 r.1 r.2).2 := by
        show ((moveAt ss (ledF ss st (rs.take i)).2 r.1 r.2).2.toNat : Int) = _
        omega
      have e6 : (stepF ss (ledF ss st (rs.take i)) r).1 = (ledF ss st (rs.take i)).1 + (moveAt ss (ledF ss st (rs.take i)).2 r.1 r.2).1 := rfl
      rw [e5, e6]
      exact ⟨_, _, _, rfl, by omega, e12⟩
    · rintro σ H1 ⟨o4, o5, o6, rfl, hb, e1⟩
      rw [show min ((codeOf z rs).cps.toList.map fun c => V.str ⟨#[c]⟩).length (rs.map fun r => V.int r.2).length = rs.length by rw [cl]; simp, List.take_of_length_le (Nat.le_refl _)]
      walk_at "y"
      refine y_tTup ?_
      walk_at "y"
      refine y_newT (by show 2 ≤ sizeLine; decide) fun pk H3 npk hpk e3 => ?_
      exact k _ _ hpk (e1.trans e3)

-- use law_hand
-- use law_rows
-- use led
theorem zip_map1 {α β : Type} : ∀ {l : List α} {m : List β}, l.length = m.length → (l.zip m).map Prod.fst = l := fun h => List.map_fst_zip (Nat.le_of_eq h)
theorem zip_map2 {α β : Type} : ∀ {l : List α} {m : List β}, l.length = m.length → (l.zip m).map Prod.snd = m := fun h => List.map_snd_zip (Nat.le_of_eq h.symm)
def sp_law_run (K : PySem.W.Frag) : Sp := fun vs H Q _ => ∃ (a c : Addr) (z : Str) (ans : Nat) (n : Int), vs = [.ref a, .str z, .int ans, .int n] ∧ HandAt H a c ∧ 1 ≤ z.length ∧ z.length ≤ 4 ∧ 1 ≤ ans ∧ ans ≤ 3 ∧ 0 ≤ n ∧ n ≤ 1000 ∧
  ∀ v rs H', Th K H' v (runD z rs) → RunOk z ans rs → (rs.length : Int) = n → HandAt H' a c → Ev [a] H H' → Q v H'
theorem ok_law_run (T : Txt K mg) : FnOk P w K mg base CX0 2 T.f_law_run.f T.f_law_run.fd ["_law_hand_here", "_law_rows_here", "_law_answers", "_law_many"] (sp_law_run K) := by
  refine T.f_law_run.F.ok sc_law_run (fun vs H Q E h => ?_) (fun cdv A outer s H vs Q E hr h => ?_)
  · obtain ⟨a, c, z, ans, n, rfl, _⟩ := h
    rfl
  · obtain ⟨a, c, z, ans, n, rfl, hh, z1, z4, a1, a3, n0, n1, k⟩ := h
    refine ⟨_, (pss_cons (ps_set (i := 4) sc_law_run.nd rfl (by first | exact Or.inl rfl | exact Or.inr rfl) (pe_joinU (K := K) pe_str (pe_lcU (own := [("_law_turn", 5)]) (vs := [5]) rfl (by rfl) sc_law_run.nd (pi_range1 (by rfl) T.b_range (pa_cons (pv 3) pa_nil)) (blkOk_by (own := [("_law_turn", 5)]) (N := N_law_run) (sc := defScope s_law_run) (by decide +kernel)) (fun _ _ _ _ _ => (pg_name (i := 5) sc_law_run.nd rfl (by first | exact Or.inl rfl | exact Or.inr rfl))) (fun _ _ _ _ _ => pts_nil) (fun _ _ _ _ _ => (pe_ix (ix_U (K := K) (hu_of hr)) (pv 1) (pe_call (ok_law_draw T) (hr.mono (by decide)) rfl T.f_law_draw.mg T.f_law_draw.kp T.f_law_draw.bd .nil pass0 (pa_cons (pv 0) (pa_cons (pe_callB (call_lenU (K := K)) (by rfl) T.b_len (by decide +kernel) (pa_cons (pv 1) pa_nil)) pa_nil))) (fun _ _ => rfl))))))
  (pss_one (ps_ret (pe_tup (pa_cons (pv 4) (pa_cons (pe_callTy (call_tupleU (K := K)) (by rfl) T.b_tuple (by decide +kernel) (pa_cons (pe_lcU (own := [("_law_row", 6)]) (vs := [6]) rfl (by rfl) sc_law_run.nd (pi_U (K := K) (pv 4)) (blkOk_by (own := [("_law_row", 6)]) (N := N_law_run) (sc := defScope s_law_run) (by decide +kernel)) (fun _ _ _ _ _ => (pg_name (i := 6) sc_law_run.nd rfl (by first | exact Or.inl rfl | exact Or.inr rfl))) (fun _ _ _ _ _ => pts_nil) (fun _ _ _ _ _ => (pe_call (ok_law_draw T) (hr.mono (by decide)) rfl T.f_law_draw.mg T.f_law_draw.kp T.f_law_draw.bd .nil pass0 (pa_cons (pv 0) (pa_cons (pv 2) pa_nil))))) pa_nil)) pa_nil)))))), ?_⟩
    try dsimp only [nox_K, tr_K, cxOf_K]
    refine y_start (σ' := some _ :: some _ :: some _ :: some _ :: none :: none :: none :: []) rfl ?_
    have hs : (sizeLine : Nat) = 16777216 := sizeLine_eq
    have zl : z.cps.toList.length = z.length := by simp [Str.length]
    walk_at "y"
    refine y_lcR ⟨by omega, by omega⟩ [a] (by simpa using hh.tr) (fun j acc Hc => HandAt Hc a c ∧ ∃ rl : List Nat, acc = rl.map (fun r => V.str (ofL [signAt z r])) ∧ rl.length = j ∧ ∀ r ∈ rl, r < z.length) (fun Hc e => ⟨hh.new e, [], rfl, rfl, (fun _ h => nomatch h)⟩) ?_ ?_
    · rintro j acc D Hc Qt hj hD e hla ⟨hhc, rl, rfl, hrl, hr⟩ kq
      walk_at "yw"
      walk_at "y"
      refine use_law_draw hhc (by omega) (by omega) fun x H1 x0 x1 hh1 e1 => ?_
      obtain ⟨r, rfl⟩ : ∃ r : Nat, x = (r : Int) := ⟨x.toNat, by omega⟩
      have ez : z.cps.toList[r]? = some (signAt z r) := by
        unfold signAt
        rw [List.getD_eq_getElem?_getD, List.getElem?_eq_getElem (by omega)]; rfl
      refine y_ixS (by omega) (atI_nat ez) ?_
      refine kq _ _ e1 fun H5 e5 => ⟨hh1.ev1 hh hD e5, rl ++ [r], by simp [ofL], by simp [hrl], fun q hq => ?_⟩
      rcases List.mem_append.mp hq with q1 | q1
      · exact hr q q1
      · simp at q1
        subst q1
        omega
    · rintro D H1 acc hD e hD1 hla ⟨hh1, rl, rfl, hrl, hr⟩
      rw [List.length_map] at hla
      have ec : (rl.map fun r => ofL [signAt z r]) = (rl.map (signAt z)).map fun c => ofL [c] := by rw [List.map_map]; rfl
      refine y_join (rl.map fun r => ofL [signAt z r]) (.inl (SqL.of (by rw [hD1, List.map_map]; rfl))) ?_ ?_
      · have : ((rl.map fun r => ofL [signAt z r]).map (·.length)).sum = rl.length := by
          rw [List.map_map, show (Str.length ∘ fun r : Nat => ofL [signAt z r]) = fun _ => 1 from funext fun c => rfl]
          clear hla hrl hr hD1 ec
          induction rl with
          | nil => rfl
          | cons x r ih => rw [List.map_cons, List.sum_cons, ih, List.length_cons]; omega
        rw [this]
        show rl.length + (rl.map fun r => ofL [signAt z r]).length * 0 ≤ 16777216
        omega
      rw [ec, join_signs]
      walk_at "y"
      refine y_tTup ?_
      walk_at "y"
      have cl : (ofL (rl.map (signAt z))).cps.toList = rl.map (signAt z) := by simp [ofL]
      have csz : (ofL (rl.map (signAt z))).cps.size = rl.length := by simp [ofL]
      refine y_lcS [a] (by simpa using hh1.tr) (fun j acc Hc => HandAt Hc a c ∧ ∃ al : List Nat, acc = al.map (fun r : Nat => V.int r) ∧ al.length = j ∧ ∀ r ∈ al, r < ans) (by rw [csz]; omega) (fun Hc e => ⟨hh1.new e, [], rfl, rfl, (fun _ h => nomatch h)⟩) ?_ ?_
      · rintro j cc acc D2 Hc Qt hc hD2 e2 hla2 ⟨hhc, al, rfl, hal, ha⟩ kq
        walk_at "yw"
        walk_at "y"
        refine use_law_draw hhc (by omega) (by omega) fun x H2 x0 x1 hh2 e3 => ?_
        obtain ⟨r, rfl⟩ : ∃ r : Nat, x = (r : Int) := ⟨x.toNat, by omega⟩
        refine kq _ _ e3 fun H5 e5 => ⟨hh2.ev1 hh1 hD2 e5, al ++ [r], by simp, by simp [hal], fun q hq => ?_⟩
        rcases List.mem_append.mp hq with q1 | q1
        · exact ha q q1
        · simp at q1
          subst q1
          omega
      · rintro D2 H2 acc hD2 e2 hD22 hla2 ⟨hh2, al, rfl, hal, ha⟩
        rw [csz] at hal
        walk_at "y"
        refine y_tupleL (SqL.of hD22) fun q H3 nq hq e3 => ?_
        walk_at "y"
        refine y_newT (by show 2 ≤ sizeLine; omega) fun p H4 np hp e4 => ?_
        have hl : rl.length = al.length := hal.symm
        have m1 := zip_map1 hl
        have m2 := zip_map2 hl
        have ec : codeOf z (rl.zip al) = ofL (rl.map (signAt z)) := by
          unfold codeOf
          rw [show ((rl.zip al).map fun r => signAt z r.1) = ((rl.zip al).map Prod.fst).map (signAt z) by rw [List.map_map]; rfl, m1]
        have ea : ((rl.zip al).map fun r => Da.int r.2) = al.map fun r : Nat => Da.int r := by
          rw [show ((rl.zip al).map fun r => Da.int r.2) = ((rl.zip al).map Prod.snd).map fun r : Nat => Da.int r by rw [List.map_map]; rfl, m2]
        refine k _ (rl.zip al) H4 ?_ ⟨fun r hr' => ?_, by rw [List.length_zip]; omega⟩ (by rw [List.length_zip]; omega) ((hh2.new e3).new e4) (e.trans (e2.trans (e3.trans e4).nil))
        · unfold runD
          rw [ec, ea]
          refine .tup (SqT.of hp) (.cons (.str _) (.cons (.tup (SqT.of (e4.keep _ _ hq (by simp))) ?_) .nil))
          have := ThAll.ints (K := K) (H := H4) (al.map fun r : Nat => (r : Int))
          rw [List.map_map, List.map_map] at this
          exact this
        · exact ⟨hr r.1 (by rw [← m1]; exact List.mem_map_of_mem hr'), ha r.2 (by rw [← m2]; exact List.mem_map_of_mem hr')⟩

-- use law_hand
-- use Machine_keep
def sp_law_line (K : PySem.W.Frag) : Sp := fun vs H Q _ => ∃ (a c : Addr) (ans : Nat) (size top : Int), vs = [.ref a, .int ans, .int size, .int top] ∧ HandAt H a c ∧ ans ≤ 100 ∧ 1 ≤ size ∧ size < 1073741824 ∧ 1 ≤ top ∧ top < 1073741824 ∧
  ∀ v l H', Th K H' v (lineD l) → l.length = ans → (∀ m ∈ l, 1 ≤ m.1 ∧ m.1 ≤ top ∧ 0 ≤ m.2 ∧ m.2 < size) → HandAt H' a c → Ev [a] H H' → Q v H'
theorem ok_law_line (T : Txt K mg) : FnOk P w K mg base CX0 2 T.f_law_line.f T.f_law_line.fd ["_law_hand_here", "_law_answers", "_law_size", "_law_top"] (sp_law_line K) := by
  refine T.f_law_line.F.ok sc_law_line (fun vs H Q E h => ?_) (fun cdv A outer s H vs Q E hr h => ?_)
  · obtain ⟨a, c, ans, size, top, rfl, _⟩ := h
    rfl
  · obtain ⟨a, c, ans, size, top, rfl, hh, ha, s1, s2, t1, t2, k⟩ := h
    refine ⟨_, (pss_one (ps_ret (pe_callTy (call_tupleU (K := K)) (by rfl) T.b_tuple (by decide +kernel) (pa_cons (pe_lcU (own := [("_law_answer", 4)]) (vs := [4]) rfl (by rfl) sc_law_line.nd (pi_range1 (by rfl) T.b_range (pa_cons (pv 1) pa_nil)) (blkOk_by (own := [("_law_answer", 4)]) (N := N_law_line) (sc := defScope s_law_line) (by decide +kernel)) (fun _ _ _ _ _ => (pg_name (i := 4) sc_law_line.nd rfl (by first | exact Or.inl rfl | exact Or.inr rfl))) (fun _ _ _ _ _ => pts_nil) (fun _ _ _ _ _ => (pe_tup (pa_cons (pe_op (op_addU (K := K)) pe_int (pe_call (ok_law_draw T) (hr.mono (by decide)) rfl T.f_law_draw.mg T.f_law_draw.kp T.f_law_draw.bd .nil pass0 (pa_cons (pv 0) (pa_cons (pv 3) pa_nil)))) (pa_cons (pe_call (ok_law_draw T) (hr.mono (by decide)) rfl T.f_law_draw.mg T.f_law_draw.kp T.f_law_draw.bd .nil pass0 (pa_cons (pv 0) (pa_cons (pv 2) pa_nil))) pa_nil))))) pa_nil)))), ?_⟩
    try dsimp only [nox_K, tr_K, cxOf_K]
    refine y_start (σ' := some _ :: some _ :: some _ :: some _ :: none :: []) rfl ?_
    have hs : (sizeLine : Nat) = 16777216 := sizeLine_eq
    walk_at "y"
    refine y_lcR ⟨by omega, by omega⟩ [a] (by simpa using hh.tr) (fun j acc Hc => HandAt Hc a c ∧ ∃ l : List (Int × Int), ThAll K Hc acc (l.map fun m => Da.tup [.int m.1, .int m.2]) ∧ l.length = j ∧ ∀ m ∈ l, 1 ≤ m.1 ∧ m.1 ≤ top ∧ 0 ≤ m.2 ∧ m.2 < size) (fun Hc e => ⟨hh.new e, [], .nil, rfl, (fun m h => nomatch h)⟩) ?_ ?_
    · rintro j acc D Hc Qt hj hD e hla ⟨hhc, l, tl, ll, hl⟩ kq
      walk_at "yw"
      refine y_tTup ?_
      walk_at "y"
      refine use_law_draw hhc t1 t2 fun x H1 x0 x1 hh1 e1 => ?_
      walk_at "y"
      refine use_law_draw hh1 s1 s2 fun y H2 y0 y1 hh2 e2 => ?_
      walk_at "y"
      refine y_newT (by show 2 ≤ sizeLine; omega) fun p H3 np hp e3 => ?_
      have e13 : Ev [a] Hc H3 := e1.trans (e2.trans e3.nil)
      refine kq _ _ e13 fun H5 e5 => ⟨(hh2.new e3).ev1 hh hD e5, l ++ [(1 + x, y)], ?_, by simp [ll], fun m hm => ?_⟩
      · rw [List.map_append]
        exact (e5.thAll (e13.thAll tl)).app (.cons (e5.th (.tup (SqT.of hp) (.cons (.int _) (.cons (.int _) .nil)))) .nil)
      · rcases List.mem_append.mp hm with q | q
        · exact hl m q
        · simp at q
          subst q
          exact ⟨by show 1 ≤ 1 + x; omega, by show 1 + x ≤ top; omega, y0, y1⟩
    · rintro D Hn acc hD e hDn hla ⟨hhn, l, tl, ll, hl⟩
      walk_at "y"
      refine y_tupleL (SqL.of hDn) fun p H1 np hp e1 => ?_
      exact k _ l H1 (.tup (SqT.of hp) (e1.thAll tl)) (by omega) hl (hhn.new e1) (e.trans e1.nil)

-- use law_hand
-- use Machine_init
def sp_law_world (K : PySem.W.Frag) : Sp := fun vs H Q _ => ∃ (a c : Addr) (size : Int), vs = [.ref a, .int 4, .int size] ∧ HandAt H a c ∧ 1 ≤ size ∧ size ≤ 12 ∧
  ∀ (p : Addr) (z : Str) (ans : Nat) (mv : Addr) (ss : List (List (List (Int × Int)))) (H' : Hp), H' p = some (.tup [.str z, .int ans, .ref mv]) → Th K H' (.ref mv) (movesD ss) → MachOk z ans ss → (ss.length : Int) ≤ size → HandAt H' a c → Ev [a] H H' → Q (.ref p) H'
theorem ok_law_world (T : Txt K mg) : FnOk P w K mg base CX0 3 T.f_law_world.f T.f_law_world.fd ["_law_hand_here", "_law_most", "_law_size"] (sp_law_world K) := by
  refine T.f_law_world.F.ok sc_law_world (fun vs H Q E h => ?_) (fun cdv A outer s H vs Q E hr h => ?_)
  · obtain ⟨a, c, size, rfl, _⟩ := h
    rfl
  · obtain ⟨a, c, size, rfl, hh, s1, s2, k⟩ := h
    refine ⟨_, (pss_cons (ps_set (i := 3) sc_law_world.nd rfl (by first | exact Or.inl rfl | exact Or.inr rfl) (pe_call (ok_law_rows T) (hr.mono (by decide)) rfl T.f_law_rows.mg T.f_law_rows.kp T.f_law_rows.bd .nil pass0 (pa_cons (pv 0) (pa_cons (pv 1) pa_nil))))
  (pss_cons (ps_set (i := 4) sc_law_world.nd rfl (by first | exact Or.inl rfl | exact Or.inr rfl) (pe_P (pe_ix (ix_U (K := K) (hu_of hr)) (pe_lst (pa_cons pe_int (pa_cons pe_int (pa_cons pe_int (pa_cons pe_int (pa_cons pe_int pa_nil)))))) (pe_call (ok_law_draw T) (hr.mono (by decide)) rfl T.f_law_draw.mg T.f_law_draw.kp T.f_law_draw.bd .nil pass0 (pa_cons (pv 0) (pa_cons pe_int pa_nil))) (fun _ _ => rfl))))
  (pss_cons (ps_set (i := 5) sc_law_world.nd rfl (by first | exact Or.inl rfl | exact Or.inr rfl) (pe_op (op_addU (K := K)) pe_int (pe_call (ok_law_draw T) (hr.mono (by decide)) rfl T.f_law_draw.mg T.f_law_draw.kp T.f_law_draw.bd .nil pass0 (pa_cons (pv 0) (pa_cons (pv 2) pa_nil)))))
  (pss_cons (ps_set (i := 6) sc_law_world.nd rfl (by first | exact Or.inl rfl | exact Or.inr rfl) (pe_P (pe_ix (ix_U (K := K) (hu_of hr)) (pe_lst (pa_cons pe_int (pa_cons pe_int (pa_cons pe_int (pa_cons pe_int (pa_cons pe_int pa_nil)))))) (pe_call (ok_law_draw T) (hr.mono (by decide)) rfl T.f_law_draw.mg T.f_law_draw.kp T.f_law_draw.bd .nil pass0 (pa_cons (pv 0) (pa_cons pe_int pa_nil))) (fun _ _ => rfl))))
  (pss_cons (ps_set (i := 7) sc_law_world.nd rfl (by first | exact Or.inl rfl | exact Or.inr rfl) (pe_lst pa_nil))
  (pss_cons (ps_for PassesOwn.never rfl (pi_range1 (by rfl) T.b_range (pa_cons (pv 5) pa_nil)) (pg_name (i := 8) sc_law_world.nd rfl (by first | exact Or.inl rfl | exact Or.inr rfl))
  (pss_one (ps_expr (pe_bmU (K := K) PySem.F.plainAttrs_list PySem.F.slot_list_append PySem.F.type_list_append mt_append (pv 7) (pa_cons (pe_callTy (call_tupleU (K := K)) (by rfl) T.b_tuple (by decide +kernel) (pa_cons (pe_lcU (own := [("_law_row", 9)]) (vs := [9]) rfl (by rfl) sc_law_world.nd (pi_U (K := K) (pv 3)) (blkOk_by (own := [("_law_row", 9)]) (N := N_law_world) (sc := defScope s_law_world) (by decide +kernel)) (fun _ _ _ _ _ => (pg_name (i := 9) sc_law_world.nd rfl (by first | exact Or.inl rfl | exact Or.inr rfl))) (fun _ _ _ _ _ => pts_nil) (fun _ _ _ _ _ => (pe_call (ok_law_line T) (hr.mono (by decide)) rfl T.f_law_line.mg T.f_law_line.kp T.f_law_line.bd .nil pass0 (pa_cons (pv 0) (pa_cons (pv 4) (pa_cons (pv 5) (pa_cons (pv 6) pa_nil))))))) pa_nil)) pa_nil)))))
  (pss_one (ps_ret (pe_tup (pa_cons (pv 3) (pa_cons (pv 4) (pa_cons (pe_callTy (call_tupleU (K := K)) (by rfl) T.b_tuple (by decide +kernel) (pa_cons (pv 7) pa_nil)) pa_nil)))))))))))), ?_⟩
    try dsimp only [nox_K, tr_K, cxOf_K]
    refine y_start (σ' := some _ :: some _ :: some _ :: none :: none :: none :: none :: none :: none :: none :: []) rfl ?_
    have hs : (sizeLine : Nat) = 16777216 := sizeLine_eq
    walk_at "y"
    refine ⟨a, c, 4, rfl, hh, by omega, by omega, fun z H1 hz hzl hh1 e1 => ?_⟩
    walk_at "y"
    refine y_pick (n := 5) (L := [.int 1, .int 1, .int 2, .int 2, .int 3]) hh1 ?_ rfl rfl (by decide) (by decide) fun v d H2 hd th hh2 e2 => ?_
    · apply LitsA.cast
      · walk_at "yl"
      · rfl
      · rfl
    obtain ⟨ans, rfl, a1, a3⟩ : ∃ n : Nat, v = .int n ∧ 1 ≤ n ∧ n ≤ 3 := by
      simp only [List.mem_cons, List.not_mem_nil, or_false] at hd
      rcases hd with rfl | rfl | rfl | rfl | rfl <;> cases th
      · exact ⟨1, rfl, by decide, by decide⟩
      · exact ⟨1, rfl, by decide, by decide⟩
      · exact ⟨2, rfl, by decide, by decide⟩
      · exact ⟨2, rfl, by decide, by decide⟩
      · exact ⟨3, rfl, by decide, by decide⟩
    walk_at "y"
    refine use_law_draw hh2 (by omega) (by omega) fun x H3 x0 x1 hh3 e3 => ?_
    walk_at "y"
    refine y_pick (n := 5) (L := [.int 1, .int 2, .int 3, .int 9, .int 99]) hh3 ?_ rfl rfl (by decide) (by decide) fun v d H4 hd th hh4 e4 => ?_
    · apply LitsA.cast
      · walk_at "yl"
      · rfl
      · rfl
    obtain ⟨top, rfl, t1, t2⟩ : ∃ n : Int, v = .int n ∧ 1 ≤ n ∧ n ≤ 99 := by
      simp only [List.mem_cons, List.not_mem_nil, or_false] at hd
      rcases hd with rfl | rfl | rfl | rfl | rfl <;> cases th <;> exact ⟨_, rfl, by decide, by decide⟩
    walk_at "y"
    refine y_tLst ?_
    walk_at "y"
    refine y_newL0 fun p H5 np hp e5 => ?_
    have zl : z.cps.toList.length = z.length := by simp [Str.length]
    have zr := hz
    have z4 : z.length ≤ 4 := by omega
    have nap : p ≠ a := fun q => by subst q; exact hh4.tr np
    have e15 : Ev [a] H H5 := e1.trans (e2.trans (e3.trans (e4.trans e5.nil)))
    walk_at "y"
    refine y_forR (by omega) (fun i σ H' => ∃ o8 ss xs, σ = [some (.ref a), some (.int 4), some (.int size), some (.str z), some (.int ans), some (.int (1 + x)), some (.int top), some (.ref p), o8, none] ∧ HandAt H' a c ∧ Ev [a] H H' ∧ H' p = some (.lst xs) ∧ ThAll K H' xs (ss.map linesD) ∧ ss.length = i ∧ ∀ ls ∈ ss, ls.length = z.length ∧ ∀ l ∈ ls, l.length = ans ∧ ∀ m ∈ l, 1 ≤ m.1 ∧ m.1 ≤ top ∧ 0 ≤ m.2 ∧ m.2 < 1 + x)
      ⟨_, [], [], rfl, hh4.new e5, e15, hp, .nil, rfl, (fun _ h => nomatch h)⟩ ?_ ?_
    · rintro i σ H6 hi ⟨o8, ss, xs, rfl, hh6, e6, hp6, txs, lss, hss⟩
      walk_at "y"
      refine y_lcS [a] (by simpa using hh6.tr) (fun j acc Hc => HandAt Hc a c ∧ ∃ ls, ThAll K Hc acc (ls.map lineD) ∧ ls.length = j ∧ ∀ l ∈ ls, l.length = ans ∧ ∀ m ∈ l, 1 ≤ m.1 ∧ m.1 ≤ top ∧ 0 ≤ m.2 ∧ m.2 < 1 + x) (by have : z.cps.size = z.length := rfl; omega) (fun Hc e => ⟨hh6.new e, [], .nil, rfl, (fun _ h => nomatch h)⟩) ?_ ?_
      · rintro j cc acc D Hc Qt hc hD e hla ⟨hhc, ls, tls, lls, hls⟩ kq
        walk_at "yw"
        walk_at "y"
        refine ⟨a, c, ans, 1 + x, top, rfl, hhc, by omega, by omega, by omega, by omega, by omega, fun v l H7 tl ll hl hh7 e7 => ?_⟩
        refine kq _ _ e7 fun H8 e8 => ⟨hh7.ev1 hh6 hD e8, ls ++ [l], ?_, by simp [lls], fun l' hl' => ?_⟩
        · rw [List.map_append]
          exact (e8.thAll (e7.thAll tls)).app (.cons (e8.th tl) .nil)
        · rcases List.mem_append.mp hl' with q | q
          · exact hls l' q
          · simp at q
            subst q
            exact ⟨ll, hl⟩
      · rintro D H7 acc hD e7 hD7 hla ⟨hh7, ls, tls, lls, hls⟩
        have hp7 := e7.keep _ _ hp6 (by simpa using nap)
        walk_at "y"
        refine y_tupleL (SqL.of hD7) fun q H8 nq hq e8 => ?_
        have hp8 := e8.keep _ _ hp7 (by simp)
        walk_at "y"
        refine y_append _ hp8 ?_ fun H9 hp9 e9 => ?_
        · have := txs.length
          rw [List.length_map] at this
          omega
        walk_at "y"
        have npH : H p = none := (e1.trans (e2.trans (e3.trans e4))).none np
        have e69 : Ev [a] H6 H8 := e7.trans e8.nil
        refine ⟨_, ss ++ [ls], xs ++ [.ref q], rfl, (hh7.new e8).ev1 hh npH e9, (e6.trans e69).fresh npH (e9.mono (by simp)), hp9, ?_, by simp [lss], fun ls' hl' => ?_⟩
        · rw [List.map_append]
          exact (e9.thAll (e69.thAll txs)).app (.cons (e9.th (.tup (SqT.of hq) (e8.thAll tls))) .nil)
        · rcases List.mem_append.mp hl' with q | q
          · exact hss ls' q
          · simp at q
            subst q
            exact ⟨lls.trans (by rfl), hls⟩
    · rintro σ H6 ⟨o8, ss, xs, rfl, hh6, e6, hp6, txs, lss, hss⟩
      walk_at "y"
      refine y_tTup ?_
      walk_at "y"
      refine y_tupleL (SqL.of hp6) fun mv H7 nmv hmv e7 => ?_
      walk_at "y"
      refine y_newT (by show 3 ≤ sizeLine; omega) fun p2 H8 np2 hp2 e8 => ?_
      have rg := rows_good hz
      refine k p2 z ans mv ss H8 hp2 (e8.th (.tup (SqT.of hmv) (e7.thAll txs))) ⟨⟨by omega, fun ls h => (hss ls h).1, fun ls h l h2 => ((hss ls h).2 l h2).1, z4, rg.nd, a3⟩, hz, by omega, a1, fun ls h l h2 m h3 => ?_⟩ (by omega) ((hh6.new e7).new e8) (e6.trans (e7.trans e8).nil)
      obtain ⟨b1, b2, b3, b4⟩ := ((hss ls h).2 l h2).2 m h3
      exact ⟨b1, by omega, b3, by omega⟩

-- use Machine_init
def sp_check_run (K : PySem.W.Frag) (C cR : Addr) : Sp := fun vs H Q E => ∃ m z ans mv ss v d, vs = [.ref m, v] ∧ MachAt K C H m z ans mv ss ∧ Th K H v d ∧ FitIn d ∧ (isRun d z ans = true → ∀ H', Ev [] H H' → Q .non H') ∧ (isRun d z ans = false → ∀ H', Ev [] H H' → E (.ref cR) none H')
theorem ok_check_run (T : Txt K mg) : FnOk P w K mg base (L2.CX P w) 4 T.f_check_run.f T.f_check_run.fd ["machine", "thing"] (sp_check_run K T.o_Machine T.x_NoRun.C) := by
  refine T.f_check_run.F.okX sc_check_run (fun vs H Q E h => ?_) (fun cdv A outer s H vs Q E hr h => ?_)
  · obtain ⟨m, z, ans, mv, ss, v, d, rfl, _⟩ := h
    rfl
  · obtain ⟨m, z, ans, mv, ss, v, d, rfl, hm, hd, hf, k1, k2⟩ := h
    obtain ⟨dx, kp, kw, hi, kvs, hk, hkk⟩ := hm.ins
    refine ⟨_, (pss_one (ps_if (pt_not (pt_val (pe_call (ok_is_run T) (hr.mono (by decide)) rfl T.f_is_run.mg T.f_is_run.kp T.f_is_run.bd .nil pass0 (pa_cons (pe_fldU (K := K) (pv 0) rfl) (pa_cons (pe_fldU (K := K) (pv 0) rfl) (pa_cons (pv 1) pa_nil)))))) (pss_one (ps_raise rfl (takes_of rfl rfl rfl rfl) (pmk_own0 T.x_NoRun rfl))) pss_nil)), ?_⟩
    try dsimp only [nox_K, tr_K, cxOf_K]
    refine y_start (σ' := some _ :: some _ :: []) rfl ?_
    walk_at "y"
    refine ⟨z, ans, v, d, rfl, hd, hf, fun H1 e1 => ?_⟩
    cases c : isRun d z ans with
    | true =>
      walk_at "y"
      exact k1 c _ e1
    | false =>
      walk_at "y"
      exact k2 c _ e1

-- use led
def sp_standing (K : PySem.W.Frag) (C cR : Addr) : Sp := fun vs H Q E => ∃ (m : Addr) (z : Str) (ans : Nat) (mv : Addr) (ss : List (List (List (Int × Int)))) (v : V) (d : Da), vs = [.ref m, v] ∧ MachAt K C H m z ans mv ss ∧ MachOk z ans ss ∧ Th K H v d ∧ FitIn d ∧
  ((∃ rs, d = runD z rs ∧ RunOk z ans rs ∧ ∀ H', Ev [] H H' → Q (.int (ledF ss 0 rs).2) H') ∨ (isRun d z ans = false ∧ ∀ H', Ev [] H H' → E (.ref cR) none H'))
theorem ok_standing (T : Txt K mg) : FnOk P w K mg base (L2.CX P w) 5 T.f_standing.f T.f_standing.fd ["machine", "run"] (sp_standing K T.o_Machine T.x_NoRun.C) := by
  refine T.f_standing.F.okX sc_standing (fun vs H Q E h => ?_) (fun cdv A outer s H vs Q E hr h => ?_)
  · obtain ⟨m, z, ans, mv, ss, v, d, rfl, _⟩ := h
    rfl
  · obtain ⟨m, z, ans, mv, ss, v, d, rfl, hm, W, hd, hf, k⟩ := h
    refine ⟨_, (pss_cons (ps_expr (pe_call (ok_check_run T) (hr.mono (by decide)) rfl T.f_check_run.mg T.f_check_run.kp T.f_check_run.bd .nil (passes_call (takes_of rfl rfl rfl rfl) (fun _ _ _ _ q => q)) (pa_cons (pv 0) (pa_cons (pv 1) pa_nil))))
  (pss_one (ps_ret (pe_ix (ix_U (K := K) (hu_of hr)) (pe_call (ok_led T) (hr.mono (by decide)) rfl T.f_led.mg T.f_led.kp T.f_led.bd .nil pass0 (pa_cons (pv 0) (pa_cons pe_int (pa_cons (pv 1) pa_nil)))) pe_int (fun _ _ => rfl))))), ?_⟩
    try dsimp only [nox_K, tr_K, cxOf_K]
    refine y_start (σ' := some _ :: some _ :: []) rfl ?_
    walk_at "y"
    refine ⟨m, z, ans, mv, ss, v, d, rfl, hm, hd, hf, fun q H1 e1 => ?_, fun q H1 e1 => ?_⟩
    · rcases k with ⟨rs, rfl, ok, k⟩ | ⟨q2, _⟩
      · walk_at "y"
        refine ⟨m, z, ans, mv, ss, 0, v, rs, rfl, hm.new e1, W, W.pos, e1.th hd, ok, fun p H2 hp e2 => ?_⟩
        walk_at "y"
        exact k _ (e1.trans e2)
      · rw [q] at q2; cases q2
    · rcases k with ⟨rs, rfl, ok, k⟩ | ⟨_, k⟩
      · rw [runD_ok ok] at q; cases q
      · exact k _ e1

-- use Machine_init
def sp_check_standing (K : PySem.W.Frag) (C cS : Addr) : Sp := fun vs H Q E => ∃ m z ans mv ss v d, vs = [.ref m, v] ∧ MachAt K C H m z ans mv ss ∧ Th K H v d ∧ (isWithin d 0 (ss.length - 1) = true → Q .non H) ∧ (isWithin d 0 (ss.length - 1) = false → E (.ref cS) none H)
theorem ok_check_standing (T : Txt K mg) : FnOk P w K mg base (L2.CX P w) 3 T.f_check_standing.f T.f_check_standing.fd ["machine", "thing"] (sp_check_standing K T.o_Machine T.x_NoStanding.C) := by
  refine T.f_check_standing.F.okX sc_check_standing (fun vs H Q E h => ?_) (fun cdv A outer s H vs Q E hr h => ?_)
  · obtain ⟨m, z, ans, mv, ss, v, d, rfl, _⟩ := h
    rfl
  · obtain ⟨m, z, ans, mv, ss, v, d, rfl, hm, hd, k1, k2⟩ := h
    obtain ⟨dx, kp, kw, hi, kvs, hk, hkk⟩ := hm.ins
    refine ⟨_, (pss_one (ps_if (pt_not (pt_val (pe_call (ok_is_within T) (hr.mono (by decide)) rfl T.f_is_within.mg T.f_is_within.kp T.f_is_within.bd .nil pass0 (pa_cons (pv 1) (pa_cons pe_int (pa_cons (pe_op op_sub (pe_fldU (K := K) (pv 0) rfl) pe_int) pa_nil)))))) (pss_one (ps_raise rfl (takes_of rfl rfl rfl rfl) (pmk_own0 T.x_NoStanding rfl))) pss_nil)), ?_⟩
    try dsimp only [nox_K, tr_K, cxOf_K]
    refine y_start (σ' := some _ :: some _ :: []) rfl ?_
    walk_at "y"
    cases c : isWithin d 0 (ss.length - 1) with
    | true =>
      walk_at "y"
      exact k1 c
    | false =>
      walk_at "y"
      exact k2 c

-- use led
def sp_standing_from (K : PySem.W.Frag) (C cS cR : Addr) : Sp := fun vs H Q E => ∃ (m : Addr) (z : Str) (ans : Nat) (mv : Addr) (ss : List (List (List (Int × Int)))) (u : V) (e : Da) (v : V) (d : Da), vs = [.ref m, u, v] ∧ MachAt K C H m z ans mv ss ∧ MachOk z ans ss ∧ Th K H u e ∧ Th K H v d ∧ FitIn d ∧
  ((∃ (s : Nat) (rs : _), e = .int s ∧ s < ss.length ∧ d = runD z rs ∧ RunOk z ans rs ∧ ∀ H', Ev [] H H' → Q (.int (ledF ss s rs).2) H') ∨ (isWithin e 0 (ss.length - 1) = false ∧ E (.ref cS) none H) ∨ (isWithin e 0 (ss.length - 1) = true ∧ isRun d z ans = false ∧ ∀ H', Ev [] H H' → E (.ref cR) none H'))
theorem ok_standing_from (T : Txt K mg) : FnOk P w K mg base (L2.CX P w) 5 T.f_standing_from.f T.f_standing_from.fd ["machine", "first", "run"] (sp_standing_from K T.o_Machine T.x_NoStanding.C T.x_NoRun.C) := by
  refine T.f_standing_from.F.okX sc_standing_from (fun vs H Q E h => ?_) (fun cdv A outer s H vs Q E hr h => ?_)
  · obtain ⟨m, z, ans, mv, ss, u, e, v, d, rfl, _⟩ := h
    rfl
  · obtain ⟨m, z, ans, mv, ss, u, e, v, d, rfl, hm, W, he, hd, hf, k⟩ := h
    refine ⟨_, (pss_cons (ps_expr (pe_call (ok_check_standing T) (hr.mono (by decide)) rfl T.f_check_standing.mg T.f_check_standing.kp T.f_check_standing.bd .nil (passes_call (takes_of rfl rfl rfl rfl) (fun _ _ _ _ q => q)) (pa_cons (pv 0) (pa_cons (pv 1) pa_nil))))
  (pss_cons (ps_expr (pe_call (ok_check_run T) (hr.mono (by decide)) rfl T.f_check_run.mg T.f_check_run.kp T.f_check_run.bd .nil (passes_call (takes_of rfl rfl rfl rfl) (fun _ _ _ _ q => q)) (pa_cons (pv 0) (pa_cons (pv 2) pa_nil))))
  (pss_one (ps_ret (pe_ix (ix_U (K := K) (hu_of hr)) (pe_call (ok_led T) (hr.mono (by decide)) rfl T.f_led.mg T.f_led.kp T.f_led.bd .nil pass0 (pa_cons (pv 0) (pa_cons (pv 1) (pa_cons (pv 2) pa_nil)))) pe_int (fun _ _ => rfl)))))), ?_⟩
    try dsimp only [nox_K, tr_K, cxOf_K]
    refine y_start (σ' := some _ :: some _ :: some _ :: []) rfl ?_
    walk_at "y"
    refine ⟨m, z, ans, mv, ss, u, e, rfl, hm, he, fun q => ?_, fun q => ?_⟩
    · walk_at "y"
      refine ⟨m, z, ans, mv, ss, v, d, rfl, hm, hd, hf, fun q3 H1 e1 => ?_, fun q3 H1 e1 => ?_⟩
      · rcases k with ⟨s, rs, rfl, hs, rfl, ok, k⟩ | ⟨q2, _⟩ | ⟨_, q2, _⟩
        · cases he
          walk_at "y"
          refine ⟨m, z, ans, mv, ss, s, v, rs, rfl, hm.new e1, W, hs, e1.th hd, ok, fun p H2 hp e2 => ?_⟩
          walk_at "y"
          exact k _ (e1.trans e2)
        · rw [q] at q2; cases q2
        · rw [q3] at q2; cases q2
      · rcases k with ⟨s, rs, rfl, hs, rfl, ok, k⟩ | ⟨q2, _⟩ | ⟨_, q2, k⟩
        · rw [runD_ok ok] at q3; cases q3
        · rw [q] at q2; cases q2
        · exact k _ e1
    · rcases k with ⟨s, rs, rfl, hs, rfl, ok, k⟩ | ⟨_, k⟩ | ⟨q2, _⟩
      · have : isWithin (.int s) 0 (ss.length - 1) = true := by simp [isWithin]; omega
        rw [this] at q; cases q
      · exact k
      · rw [q] at q2; cases q2

-- use led
def sp_ticks (K : PySem.W.Frag) (C cR : Addr) : Sp := fun vs H Q E => ∃ (m : Addr) (z : Str) (ans : Nat) (mv : Addr) (ss : List (List (List (Int × Int)))) (v : V) (d : Da), vs = [.ref m, v] ∧ MachAt K C H m z ans mv ss ∧ MachOk z ans ss ∧ Th K H v d ∧ FitIn d ∧
  ((∃ rs, d = runD z rs ∧ RunOk z ans rs ∧ ∀ H', Ev [] H H' → Q (.int (ledF ss 0 rs).1) H') ∨ (isRun d z ans = false ∧ ∀ H', Ev [] H H' → E (.ref cR) none H'))
theorem ok_ticks (T : Txt K mg) : FnOk P w K mg base (L2.CX P w) 5 T.f_ticks.f T.f_ticks.fd ["machine", "run"] (sp_ticks K T.o_Machine T.x_NoRun.C) := by
  refine T.f_ticks.F.okX sc_ticks (fun vs H Q E h => ?_) (fun cdv A outer s H vs Q E hr h => ?_)
  · obtain ⟨m, z, ans, mv, ss, v, d, rfl, _⟩ := h
    rfl
  · obtain ⟨m, z, ans, mv, ss, v, d, rfl, hm, W, hd, hf, k⟩ := h
    refine ⟨_, (pss_cons (ps_expr (pe_call (ok_check_run T) (hr.mono (by decide)) rfl T.f_check_run.mg T.f_check_run.kp T.f_check_run.bd .nil (passes_call (takes_of rfl rfl rfl rfl) (fun _ _ _ _ q => q)) (pa_cons (pv 0) (pa_cons (pv 1) pa_nil))))
  (pss_one (ps_ret (pe_ix (ix_U (K := K) (hu_of hr)) (pe_call (ok_led T) (hr.mono (by decide)) rfl T.f_led.mg T.f_led.kp T.f_led.bd .nil pass0 (pa_cons (pv 0) (pa_cons pe_int (pa_cons (pv 1) pa_nil)))) pe_int (fun _ _ => rfl))))), ?_⟩
    try dsimp only [nox_K, tr_K, cxOf_K]
    refine y_start (σ' := some _ :: some _ :: []) rfl ?_
    walk_at "y"
    refine ⟨m, z, ans, mv, ss, v, d, rfl, hm, hd, hf, fun q H1 e1 => ?_, fun q H1 e1 => ?_⟩
    · rcases k with ⟨rs, rfl, ok, k⟩ | ⟨q2, _⟩
      · walk_at "y"
        refine ⟨m, z, ans, mv, ss, 0, v, rs, rfl, hm.new e1, W, W.pos, e1.th hd, ok, fun p H2 hp e2 => ?_⟩
        walk_at "y"
        exact k _ (e1.trans e2)
      · rw [q] at q2; cases q2
    · rcases k with ⟨rs, rfl, ok, k⟩ | ⟨_, k⟩
      · rw [runD_ok ok] at q; cases q
      · exact k _ e1

-- use led
def sp_ticks_from (K : PySem.W.Frag) (C cS cR : Addr) : Sp := fun vs H Q E => ∃ (m : Addr) (z : Str) (ans : Nat) (mv : Addr) (ss : List (List (List (Int × Int)))) (u : V) (e : Da) (v : V) (d : Da), vs = [.ref m, u, v] ∧ MachAt K C H m z ans mv ss ∧ MachOk z ans ss ∧ Th K H u e ∧ Th K H v d ∧ FitIn d ∧
  ((∃ (s : Nat) (rs : _), e = .int s ∧ s < ss.length ∧ d = runD z rs ∧ RunOk z ans rs ∧ ∀ H', Ev [] H H' → Q (.int (ledF ss s rs).1) H') ∨ (isWithin e 0 (ss.length - 1) = false ∧ E (.ref cS) none H) ∨ (isWithin e 0 (ss.length - 1) = true ∧ isRun d z ans = false ∧ ∀ H', Ev [] H H' → E (.ref cR) none H'))
theorem ok_ticks_from (T : Txt K mg) : FnOk P w K mg base (L2.CX P w) 5 T.f_ticks_from.f T.f_ticks_from.fd ["machine", "first", "run"] (sp_ticks_from K T.o_Machine T.x_NoStanding.C T.x_NoRun.C) := by
  refine T.f_ticks_from.F.okX sc_ticks_from (fun vs H Q E h => ?_) (fun cdv A outer s H vs Q E hr h => ?_)
  · obtain ⟨m, z, ans, mv, ss, u, e, v, d, rfl, _⟩ := h
    rfl
  · obtain ⟨m, z, ans, mv, ss, u, e, v, d, rfl, hm, W, he, hd, hf, k⟩ := h
    refine ⟨_, (pss_cons (ps_expr (pe_call (ok_check_standing T) (hr.mono (by decide)) rfl T.f_check_standing.mg T.f_check_standing.kp T.f_check_standing.bd .nil (passes_call (takes_of rfl rfl rfl rfl) (fun _ _ _ _ q => q)) (pa_cons (pv 0) (pa_cons (pv 1) pa_nil))))
  (pss_cons (ps_expr (pe_call (ok_check_run T) (hr.mono (by decide)) rfl T.f_check_run.mg T.f_check_run.kp T.f_check_run.bd .nil (passes_call (takes_of rfl rfl rfl rfl) (fun _ _ _ _ q => q)) (pa_cons (pv 0) (pa_cons (pv 2) pa_nil))))
  (pss_one (ps_ret (pe_ix (ix_U (K := K) (hu_of hr)) (pe_call (ok_led T) (hr.mono (by decide)) rfl T.f_led.mg T.f_led.kp T.f_led.bd .nil pass0 (pa_cons (pv 0) (pa_cons (pv 1) (pa_cons (pv 2) pa_nil)))) pe_int (fun _ _ => rfl)))))), ?_⟩
    try dsimp only [nox_K, tr_K, cxOf_K]
    refine y_start (σ' := some _ :: some _ :: some _ :: []) rfl ?_
    walk_at "y"
    refine ⟨m, z, ans, mv, ss, u, e, rfl, hm, he, fun q => ?_, fun q => ?_⟩
    · walk_at "y"
      refine ⟨m, z, ans, mv, ss, v, d, rfl, hm, hd, hf, fun q3 H1 e1 => ?_, fun q3 H1 e1 => ?_⟩
      · rcases k with ⟨s, rs, rfl, hs, rfl, ok, k⟩ | ⟨q2, _⟩ | ⟨_, q2, _⟩
        · cases he
          walk_at "y"
          refine ⟨m, z, ans, mv, ss, s, v, rs, rfl, hm.new e1, W, hs, e1.th hd, ok, fun p H2 hp e2 => ?_⟩
          walk_at "y"
          exact k _ (e1.trans e2)
        · rw [q] at q2; cases q2
        · rw [q3] at q2; cases q2
      · rcases k with ⟨s, rs, rfl, hs, rfl, ok, k⟩ | ⟨q2, _⟩ | ⟨_, q2, k⟩
        · rw [runD_ok ok] at q3; cases q3
        · rw [q] at q2; cases q2
        · exact k _ e1
    · rcases k with ⟨s, rs, rfl, hs, rfl, ok, k⟩ | ⟨_, k⟩ | ⟨q2, _⟩
      · have : isWithin (.int s) 0 (ss.length - 1) = true := by simp [isWithin]; omega
        rw [this] at q; cases q
      · exact k
      · rw [q] at q2; cases q2

-- use led
-- use law_rows
theorem stepF_shift (ss : List (List (List (Int × Int)))) (t : Int) : ∀ (rs : List (Nat × Nat)) (x : Int × Nat), rs.foldl (stepF ss) (t + x.1, x.2) = (t + (rs.foldl (stepF ss) x).1, (rs.foldl (stepF ss) x).2)
  | [], _ => rfl
  | r :: rs, x => by
    rw [List.foldl_cons, List.foldl_cons]
    have : stepF ss (t + x.1, x.2) r = (t + (stepF ss x r).1, (stepF ss x r).2) := by
      unfold stepF
      show (t + x.1 + _, _) = (t + (x.1 + _), _)
      rw [Int.add_assoc]
    rw [this]
    exact stepF_shift ss t rs _
theorem ledF_app (ss : List (List (List (Int × Int)))) (s : Nat) (a b : List (Nat × Nat)) : ledF ss s (a ++ b) = ((ledF ss s a).1 + (ledF ss (ledF ss s a).2 b).1, (ledF ss (ledF ss s a).2 b).2) := by
  unfold ledF
  rw [List.foldl_append]
  generalize a.foldl (stepF ss) (0, s) = x
  have := stepF_shift ss x.1 b (0, x.2)
  rw [Int.add_zero] at this
  exact this
theorem ledF_lt {z : Str} {ans : Nat} {ss : List (List (List (Int × Int)))} (W : MachOk z ans ss) {s : Nat} (hs : s < ss.length) {rs : List (Nat × Nat)} (ok : RunOk z ans rs) : (ledF ss s rs).2 < ss.length := by
  have : ∀ i, i ≤ rs.length → (ledF ss s (rs.take i)).2 < ss.length := by
    intro i
    induction i with
    | zero => intro _; exact hs
    | succ i ih =>
      intro hi
      have e : rs[i]? = some rs[i] := List.getElem?_eq_getElem (by omega)
      have hb := ih (by omega)
      rw [ledF_snoc ss s rs i _ e]
      obtain ⟨h1, h2⟩ := ok.all _ (List.mem_of_getElem? e)
      obtain ⟨_, _, _, _, _, _, _, _, b3, b4⟩ := W.at hb h1 h2
      show (moveAt ss (ledF ss s (rs.take i)).2 _ _).2.toNat < ss.length
      omega
  have h := this rs.length (Nat.le_refl _)
  rwa [List.take_of_length_le (Nat.le_refl _)] at h
theorem RunOk.app {z : Str} {ans : Nat} {a b : List (Nat × Nat)} (h1 : RunOk z ans a) (h2 : RunOk z ans b) (hl : a.length + b.length ≤ 100000) : RunOk z ans (a ++ b) := ⟨fun r hr => (List.mem_append.mp hr).elim (h1.all r) (h2.all r), by rw [List.length_append]; exact hl⟩
theorem HandAt.lst {H : Hp} {a c : Addr} (h : HandAt H a c) : ∃ xs, H a = some (.lst xs) := by
  obtain ⟨cells, i, big, st, cnt, ⟨h1, _⟩, _⟩ := h
  exact ⟨_, h1⟩
theorem run_ints {K : PySem.W.Frag} {H : Hp} {p q : Addr} {z : Str} {rs : List (Nat × Nat)} (hp : SqT K H p [.str (codeOf z rs), .ref q]) (hq : SqT K H q (rs.map fun r => V.int r.2)) : Th K H (.ref p) (runD z rs) := by
  refine .tup hp (.cons (.str _) (.cons (.tup hq ?_) .nil))
  have := ThAll.ints (K := K) (H := H) (rs.map fun r => (r.2 : Int))
  rw [List.map_map, List.map_map] at this
  exact this
theorem use_ticks {K : PySem.W.Frag} {C cR : Addr} {H : Hp} {Q : VK} {E : XK} {m : Addr} {z : Str} {ans : Nat} {mv : Addr} {ss : List (List (List (Int × Int)))} {v : V} {rs : List (Nat × Nat)} (mm : MachAt K C H m z ans mv ss) (W : MachOk z ans ss) (tr : Th K H v (runD z rs)) (ok : RunOk z ans rs) (q : ∀ H', Ev [] H H' → Q (.int (ledF ss 0 rs).1) H') : sp_ticks K C cR ([.ref m, v] ++ []) H Q E :=
  ⟨m, z, ans, mv, ss, v, runD z rs, rfl, mm, W, tr, runD_fit ok, .inl ⟨rs, rfl, ok, q⟩⟩
theorem use_ticks_from {K : PySem.W.Frag} {C cS cR : Addr} {H : Hp} {Q : VK} {E : XK} {m : Addr} {z : Str} {ans : Nat} {mv : Addr} {ss : List (List (List (Int × Int)))} {s : Nat} {v : V} {rs : List (Nat × Nat)} (mm : MachAt K C H m z ans mv ss) (W : MachOk z ans ss) (hs : s < ss.length) (tr : Th K H v (runD z rs)) (ok : RunOk z ans rs) (q : ∀ H', Ev [] H H' → Q (.int (ledF ss s rs).1) H') : sp_ticks_from K C cS cR ([.ref m, .int s, v] ++ []) H Q E :=
  ⟨m, z, ans, mv, ss, .int s, .int s, v, runD z rs, rfl, mm, W, .int _, tr, runD_fit ok, .inl ⟨s, rs, rfl, hs, rfl, ok, q⟩⟩
theorem use_standing {K : PySem.W.Frag} {C cR : Addr} {H : Hp} {Q : VK} {E : XK} {m : Addr} {z : Str} {ans : Nat} {mv : Addr} {ss : List (List (List (Int × Int)))} {v : V} {rs : List (Nat × Nat)} (mm : MachAt K C H m z ans mv ss) (W : MachOk z ans ss) (tr : Th K H v (runD z rs)) (ok : RunOk z ans rs) (q : ∀ H', Ev [] H H' → Q (.int (ledF ss 0 rs).2) H') : sp_standing K C cR ([.ref m, v] ++ []) H Q E :=
  ⟨m, z, ans, mv, ss, v, runD z rs, rfl, mm, W, tr, runD_fit ok, .inl ⟨rs, rfl, ok, q⟩⟩
theorem use_standing_from {K : PySem.W.Frag} {C cS cR : Addr} {H : Hp} {Q : VK} {E : XK} {m : Addr} {z : Str} {ans : Nat} {mv : Addr} {ss : List (List (List (Int × Int)))} {s : Nat} {v : V} {rs : List (Nat × Nat)} (mm : MachAt K C H m z ans mv ss) (W : MachOk z ans ss) (hs : s < ss.length) (tr : Th K H v (runD z rs)) (ok : RunOk z ans rs) (q : ∀ H', Ev [] H H' → Q (.int (ledF ss s rs).2) H') : sp_standing_from K C cS cR ([.ref m, .int s, v] ++ []) H Q E :=
  ⟨m, z, ans, mv, ss, .int s, .int s, v, runD z rs, rfl, mm, W, .int _, tr, runD_fit ok, .inl ⟨s, rs, rfl, hs, rfl, ok, q⟩⟩
theorem dp_two {K : PySem.W.Frag} {H : Hp} {p : Addr} {i j : Int} (h : H p = some (.tup [.int i, .int j])) : Dp K H (.ref p) (.tuple [.int i, .int j]) := .tup (SqT.of h) (.cons (.int _) (.cons (.int _) .nil))
def sp_law (K : PySem.W.Frag) : Sp := fun vs H Q _ => ∃ (b : Addr) (ns : List Int), vs = [.ref b] ∧ SqL K H b (ns.map V.int) ∧ (∀ Hn, Ev [] H Hn → SqL K Hn b (ns.map V.int)) ∧ ns.length ≤ 63 ∧ ∀ H', Q (.bl true) H'
theorem sp_law_in {K : PySem.W.Frag} {H : Hp} {a : Addr} {ns : List Int} (hl : ns.length ≤ 63) (hO : Only H) (hS : SqL K H a (ns.map V.int)) : sp_law K [.ref a] H (fun v _ => v = .bl true) (fun _ _ _ => False) := by
  refine ⟨a, ns, rfl, hS, fun Hn e => ?_, hl, fun _ => rfl⟩
  exact e.sqL hS (by simp)
theorem ok_law (T : Txt K mg) : FnOk P w K mg base CX0 7 T.f_law.f T.f_law.fd ["_law_script"] (sp_law K) := by
  refine T.f_law.F.ok sc_law (fun vs H Q E h => ?_) (fun cdv A outer s H vs Q E hr h => ?_)
  · obtain ⟨b, ns, rfl, _⟩ := h
    rfl
  · obtain ⟨b, ns, rfl, hb, hb2, hl, k⟩ := h
    refine ⟨_, (pss_cons (ps_set (i := 1) sc_law.nd rfl (by first | exact Or.inl rfl | exact Or.inr rfl) (pe_call (ok_law_hand T) (hr.mono (by decide)) rfl T.f_law_hand.mg T.f_law_hand.kp T.f_law_hand.bd .nil pass0 (pa_cons (pv 0) pa_nil)))
  (pss_cons (ps_for PassesOwn.never rfl (pi_range1 (by rfl) T.b_range (pa_cons pe_int pa_nil)) (pg_name (i := 2) sc_law.nd rfl (by first | exact Or.inl rfl | exact Or.inr rfl))
  (pss_cons (ps_set (i := 3) sc_law.nd rfl (by first | exact Or.inl rfl | exact Or.inr rfl) (pe_call (ok_law_world T) (hr.mono (by decide)) rfl T.f_law_world.mg T.f_law_world.kp T.f_law_world.bd .nil pass0 (pa_cons (pv 1) (pa_cons pe_int (pa_cons (pe_P (pe_ix (ix_U (K := K) (hu_of hr)) (pe_lst (pa_cons pe_int (pa_cons pe_int pa_nil))) (pe_call (ok_law_draw T) (hr.mono (by decide)) rfl T.f_law_draw.mg T.f_law_draw.kp T.f_law_draw.bd .nil pass0 (pa_cons (pv 1) (pa_cons pe_int pa_nil))) (fun _ _ => rfl))) pa_nil)))))
  (pss_cons (ps_set (i := 4) sc_law.nd rfl (by first | exact Or.inl rfl | exact Or.inr rfl) (pe_make T.m_Machine (ok_Machine_init T) (hr.mono (by decide)) rfl T.k_Machine T.f_Machine_init.bd .nil passL (pa_cons (pe_ix (ix_U (K := K) (hu_of hr)) (pv 3) pe_int (fun _ _ => rfl)) (pa_cons (pe_ix (ix_U (K := K) (hu_of hr)) (pv 3) pe_int (fun _ _ => rfl)) (pa_cons (pe_ix (ix_U (K := K) (hu_of hr)) (pv 3) pe_int (fun _ _ => rfl)) pa_nil)))))
  (pss_cons (ps_set (i := 5) sc_law.nd rfl (by first | exact Or.inl rfl | exact Or.inr rfl) (pe_call (ok_law_run T) (hr.mono (by decide)) rfl T.f_law_run.mg T.f_law_run.kp T.f_law_run.bd .nil pass0 (pa_cons (pv 1) (pa_cons (pe_ix (ix_U (K := K) (hu_of hr)) (pv 3) pe_int (fun _ _ => rfl)) (pa_cons (pe_ix (ix_U (K := K) (hu_of hr)) (pv 3) pe_int (fun _ _ => rfl)) (pa_cons (pe_P (pe_ix (ix_U (K := K) (hu_of hr)) (pe_lst (pa_cons pe_int (pa_cons pe_int (pa_cons pe_int (pa_cons pe_int pa_nil))))) (pe_call (ok_law_draw T) (hr.mono (by decide)) rfl T.f_law_draw.mg T.f_law_draw.kp T.f_law_draw.bd .nil pass0 (pa_cons (pv 1) (pa_cons pe_int pa_nil))) (fun _ _ => rfl))) pa_nil))))))
  (pss_cons (ps_set (i := 6) sc_law.nd rfl (by first | exact Or.inl rfl | exact Or.inr rfl) (pe_call (ok_law_run T) (hr.mono (by decide)) rfl T.f_law_run.mg T.f_law_run.kp T.f_law_run.bd .nil pass0 (pa_cons (pv 1) (pa_cons (pe_ix (ix_U (K := K) (hu_of hr)) (pv 3) pe_int (fun _ _ => rfl)) (pa_cons (pe_ix (ix_U (K := K) (hu_of hr)) (pv 3) pe_int (fun _ _ => rfl)) (pa_cons (pe_call (ok_law_draw T) (hr.mono (by decide)) rfl T.f_law_draw.mg T.f_law_draw.kp T.f_law_draw.bd .nil pass0 (pa_cons (pv 1) (pa_cons pe_int pa_nil))) pa_nil))))))
  (pss_cons (ps_set (i := 7) sc_law.nd rfl (by first | exact Or.inl rfl | exact Or.inr rfl) (pe_tup (pa_cons (pe_op (op_addU (K := K)) (pe_ix (ix_U (K := K) (hu_of hr)) (pv 5) pe_int (fun _ _ => rfl)) (pe_ix (ix_U (K := K) (hu_of hr)) (pv 6) pe_int (fun _ _ => rfl))) (pa_cons (pe_op (op_addU (K := K)) (pe_ix (ix_U (K := K) (hu_of hr)) (pv 5) pe_int (fun _ _ => rfl)) (pe_ix (ix_U (K := K) (hu_of hr)) (pv 6) pe_int (fun _ _ => rfl))) pa_nil))))
  (pss_cons (ps_if (pt_cmpR (op_neU (K := K) (hu_of hr) hr.units) (pe_tup (pa_cons (pe_call (ok_ticks T) (hr.mono (by decide)) rfl T.f_ticks.mg T.f_ticks.kp T.f_ticks.bd .nil passL (pa_cons (pv 4) (pa_cons (pv 5) pa_nil))) (pa_cons (pe_call (ok_standing T) (hr.mono (by decide)) rfl T.f_standing.mg T.f_standing.kp T.f_standing.bd .nil passL (pa_cons (pv 4) (pa_cons (pv 5) pa_nil))) pa_nil))) (pe_call (ok_law_led T) (hr.mono (by decide)) rfl T.f_law_led.mg T.f_law_led.kp T.f_law_led.bd .nil pass0 (pa_cons (pv 3) (pa_cons pe_int (pa_cons (pv 5) pa_nil)))) (by first | exact nomark _ | rfl)) (pss_one (ps_ret pe_bl)) pss_nil)
  (pss_one (ps_for PassesOwn.never rfl (pi_range1 (by rfl) T.b_range (pa_cons (pe_fldU (K := K) (pv 4) rfl) pa_nil)) (pg_name (i := 8) sc_law.nd rfl (by first | exact Or.inl rfl | exact Or.inr rfl))
  (pss_cons (ps_set (i := 9) sc_law.nd rfl (by first | exact Or.inl rfl | exact Or.inr rfl) (pe_tup (pa_cons (pe_call (ok_ticks_from T) (hr.mono (by decide)) rfl T.f_ticks_from.mg T.f_ticks_from.kp T.f_ticks_from.bd .nil passL (pa_cons (pv 4) (pa_cons (pv 8) (pa_cons (pv 7) pa_nil)))) (pa_cons (pe_call (ok_standing_from T) (hr.mono (by decide)) rfl T.f_standing_from.mg T.f_standing_from.kp T.f_standing_from.bd .nil passL (pa_cons (pv 4) (pa_cons (pv 8) (pa_cons (pv 7) pa_nil)))) pa_nil))))
  (pss_cons (ps_if (PW.pt (pw_or (pt_cmpR (op_neU (K := K) (hu_of hr) hr.units) (pv 9) (pe_call (ok_law_led T) (hr.mono (by decide)) rfl T.f_law_led.mg T.f_law_led.kp T.f_law_led.bd .nil pass0 (pa_cons (pv 3) (pa_cons (pv 8) (pa_cons (pv 7) pa_nil)))) (by first | exact nomark _ | rfl)) (pw_or (pt_val (pe_callB (call_isiU (K := K)) (by rfl) T.b_isinstance (by decide +kernel) (pa_cons (pe_ix (ix_U (K := K) (hu_of hr)) (pv 9) pe_int (fun _ _ => rfl)) (pa_cons (pe_bltn (v := .ty "bool") rfl T.b_bool (by decide +kernel) rfl) pa_nil)))) (pw_or1 (pt_val (pe_callB (call_isiU (K := K)) (by rfl) T.b_isinstance (by decide +kernel) (pa_cons (pe_ix (ix_U (K := K) (hu_of hr)) (pv 9) pe_int (fun _ _ => rfl)) (pa_cons (pe_bltn (v := .ty "bool") rfl T.b_bool (by decide +kernel) rfl) pa_nil)))))))) (pss_one (ps_ret pe_bl)) pss_nil)
  (pss_cons (ps_set (i := 10) sc_law.nd rfl (by first | exact Or.inl rfl | exact Or.inr rfl) (pe_call (ok_standing_from T) (hr.mono (by decide)) rfl T.f_standing_from.mg T.f_standing_from.kp T.f_standing_from.bd .nil passL (pa_cons (pv 4) (pa_cons (pv 8) (pa_cons (pv 5) pa_nil)))))
  (pss_cons (ps_if (pt_cmpR (op_neU (K := K) (hu_of hr) hr.units) (pe_ix (ix_U (K := K) (hu_of hr)) (pv 9) pe_int (fun _ _ => rfl)) (pe_op (op_addU (K := K)) (pe_call (ok_ticks_from T) (hr.mono (by decide)) rfl T.f_ticks_from.mg T.f_ticks_from.kp T.f_ticks_from.bd .nil passL (pa_cons (pv 4) (pa_cons (pv 8) (pa_cons (pv 5) pa_nil)))) (pe_call (ok_ticks_from T) (hr.mono (by decide)) rfl T.f_ticks_from.mg T.f_ticks_from.kp T.f_ticks_from.bd .nil passL (pa_cons (pv 4) (pa_cons (pv 10) (pa_cons (pv 6) pa_nil))))) (by first | exact nomark _ | rfl)) (pss_one (ps_ret pe_bl)) pss_nil)
  (pss_cons (ps_if (pt_cmpR (op_neU (K := K) (hu_of hr) hr.units) (pe_ix (ix_U (K := K) (hu_of hr)) (pv 9) pe_int (fun _ _ => rfl)) (pe_call (ok_standing_from T) (hr.mono (by decide)) rfl T.f_standing_from.mg T.f_standing_from.kp T.f_standing_from.bd .nil passL (pa_cons (pv 4) (pa_cons (pv 10) (pa_cons (pv 6) pa_nil)))) (by first | exact nomark _ | rfl)) (pss_one (ps_ret pe_bl)) pss_nil)
  (pss_one (ps_if (pt_cmpR (op_neU (K := K) (hu_of hr) hr.units) (pe_tup (pa_cons (pe_call (ok_ticks_from T) (hr.mono (by decide)) rfl T.f_ticks_from.mg T.f_ticks_from.kp T.f_ticks_from.bd .nil passL (pa_cons (pv 4) (pa_cons (pv 8) (pa_cons (pe_tup (pa_cons pe_str (pa_cons (pe_tup pa_nil) pa_nil))) pa_nil)))) (pa_cons (pe_call (ok_standing_from T) (hr.mono (by decide)) rfl T.f_standing_from.mg T.f_standing_from.kp T.f_standing_from.bd .nil passL (pa_cons (pv 4) (pa_cons (pv 8) (pa_cons (pe_tup (pa_cons pe_str (pa_cons (pe_tup pa_nil) pa_nil))) pa_nil)))) pa_nil))) (pe_tup (pa_cons pe_int (pa_cons (pv 8) pa_nil))) (by first | exact nomark _ | rfl)) (pss_one (ps_ret pe_bl)) pss_nil))))))))))))))))
  (pss_one (ps_ret pe_bl)))), ?_⟩
    try dsimp only [nox_K, tr_K, cxOf_K]
    refine y_start (σ' := some _ :: none :: none :: none :: none :: none :: none :: none :: none :: none :: none :: []) rfl ?_
    have hs : (sizeLine : Nat) = 16777216 := sizeLine_eq
    walk_at "y"
    refine ⟨b, ns, rfl, hb, hb2, by omega, fun a c H1 hh na e1 => ?_⟩
    walk_at "y"
    refine y_forR (by omega) (fun i σ H' => ∃ o2 o3 o4 o5 o6 o7 o8 o9 o10, σ = [some (.ref b), some (.ref a), o2, o3, o4, o5, o6, o7, o8, o9, o10] ∧ HandAt H' a c) ⟨_, _, _, _, _, _, _, _, _, rfl, hh⟩ ?_ ?_
    · rintro i σ H2 hi ⟨o2, o3, o4, o5, o6, o7, o8, o9, o10, rfl, hh2⟩
      walk_at "y"
      refine y_pick (n := 2) (L := [.int 4, .int 12]) hh2 ?_ rfl rfl (by decide) (by decide) fun v d H3 hd th hh3 e3 => ?_
      · apply LitsA.cast
        · walk_at "yl"
        · rfl
        · rfl
      obtain ⟨size, rfl, s1, s2⟩ : ∃ n : Int, v = .int n ∧ 1 ≤ n ∧ n ≤ 12 := by
        simp only [List.mem_cons, List.not_mem_nil, or_false] at hd
        rcases hd with rfl | rfl <;> cases th <;> exact ⟨_, rfl, by decide, by decide⟩
      walk_at "y"
      refine ⟨a, c, size, rfl, hh3, s1, s2, fun wp z ans mv ss H4 hwp tmv W _ hh4 e4 => ?_⟩
      have z4 := W.sh.z4
      have z1 := (rows_parts W.rows).2.1
      have a1 := W.a1
      have a3 := W.sh.a3
      have few := W.sh.few
      have pos := W.pos
      walk_at "y"
      refine y_makeAt fun m dx H5 nm hm e5 => ?_
      refine ⟨m, dx, z, ans, mv, ss, rfl, hm, e5.th tmv, W, fun H6 mm6 e6 => ⟨rfl, ?_⟩⟩
      have e46 : Ev [] H4 H6 := e5.fresh nm e6
      have hh6 := hh4.new e46
      have hwp6 := e46.keep _ _ hwp (by simp)
      have tmv6 := e46.th tmv
      walk_at "y"
      refine y_pick (n := 4) (L := [.int 0, .int 1, .int 5, .int 30]) hh6 ?_ rfl rfl (by decide) (by decide) fun v d H7 hd th hh7 e7 => ?_
      · apply LitsA.cast
        · walk_at "yl"
        · rfl
        · rfl
      obtain ⟨n1, rfl, n10, n11⟩ : ∃ n : Int, v = .int n ∧ 0 ≤ n ∧ n ≤ 30 := by
        simp only [List.mem_cons, List.not_mem_nil, or_false] at hd
        rcases hd with rfl | rfl | rfl | rfl <;> cases th <;> exact ⟨_, rfl, by decide, by decide⟩
      walk_at "y"
      refine ⟨a, c, z, ans, n1, rfl, hh7, z1, z4, a1, a3, n10, by omega, fun v1 rs1 H8 tr1 ok1 lr1 hh8 e8 => ?_⟩
      have e68 : Ev [a] H6 H8 := e7.trans e8
      have nwa : wp ≠ a := fun q => by
        subst q
        obtain ⟨xs, q⟩ := hh6.lst
        rw [q] at hwp6; cases hwp6
      have hwp8 := e68.keep _ _ hwp6 (by simpa using nwa)
      walk_at "y"
      refine use_law_draw hh8 (by omega) (by omega) fun n2 H9 n20 n21 hh9 e9 => ?_
      have hwp9 := e9.keep _ _ hwp8 (by simpa using nwa)
      walk_at "y"
      refine ⟨a, c, z, ans, n2, rfl, hh9, z1, z4, a1, a3, n20, by omega, fun v2 rs2 H10 tr2 ok2 lr2 hh10 e10 => ?_⟩
      have e8_10 : Ev [a] H8 H10 := e9.trans e10
      have e6_10 : Ev [a] H6 H10 := e68.trans e8_10
      have mm10 : MachAt K T.o_Machine H10 m z ans mv ss := mm6.ev e6_10 (fun x hx => by simp at hx; subst hx; exact .inr hh6.lst)
      have hwp10 := e6_10.keep _ _ hwp6 (by simpa using nwa)
      have tmv10 := e6_10.th tmv6
      have tr1 := e8_10.th tr1
      obtain ⟨p1, q1, rfl, hp1, hq1⟩ := runD_at tr1
      obtain ⟨p2, q2, rfl, hp2, hq2⟩ := runD_at tr2
      walk_at "y"
      have l1 : (codeOf z rs1).length = rs1.length := by rw [codeOf, ofL_len, List.length_map]
      have l2 : (codeOf z rs2).length = rs2.length := by rw [codeOf, ofL_len, List.length_map]
      refine y_tTup ?_
      walk_at "y"
      refine y_catT _ _ hq1 hq2 (by rw [List.length_map, List.length_map]; omega) fun q3 H11 hq3 e11 => ?_
      walk_at "y"
      refine y_newT (by show 2 ≤ sizeLine; omega) fun p3 H12 np3 hp3 e12 => ?_
      have e10_12 : Ev [] H10 H12 := e11.trans e12
      have tr3 : Th K H12 (.ref p3) (runD z (rs1 ++ rs2)) := by
        refine run_ints (q := q3) ?_ ?_
        · have : codeOf z (rs1 ++ rs2) = codeOf z rs1 ++ codeOf z rs2 := by
            unfold codeOf
            rw [List.map_append, ofL_app]
          rw [this]
          exact SqT.of hp3
        · rw [List.map_append]
          exact e12.sqT hq3
      have ok3 : RunOk z ans (rs1 ++ rs2) := ok1.app ok2 (by omega)
      have mm12 := mm10.new e10_12
      have tr1 := e10_12.th tr1
      have tr2 := e10_12.th tr2
      have hwp12 := e10_12.keep _ _ hwp10 (by simp)
      have tmv12 := e10_12.th tmv10
      have hh12 := hh10.new e10_12
      walk_at "y"
      refine y_tTup ?_
      walk_at "y"
      refine use_ticks mm12 W tr1 ok1 fun H13 e13 => ?_
      walk_at "y"
      refine use_standing (mm12.new e13) W (e13.th tr1) ok1 fun H14 e14 => ?_
      walk_at "y"
      refine y_newT (by show 2 ≤ sizeLine; omega) fun p4 H15 np4 hp4 e15 => ?_
      have f15 : Ev [] H12 H15 := e13.trans (e14.trans e15)
      walk_at "y"
      refine ⟨wp, z, ans, mv, ss, 0, _, rs1, rfl, SqT.of (f15.keep _ _ hwp12 (by simp)), f15.th tmv12, W, W.pos, f15.th tr1, ok1, fun p5 H16 hp5 e16 => ?_⟩
      refine y_neSame (dp_two (e16.keep _ _ hp4 (by simp))) (dp_two hp5) rfl ?_
      have f16 : Ev [] H12 H16 := f15.trans e16
      have mm16 := mm12.new f16
      obtain ⟨mdx, mkp, mkw, mi, mkvs, mk, mkk⟩ := mm16.ins
      walk_at "y"
      refine y_forR (by omega) (fun j σ H' => ∃ o8 o9 o10, σ = [some (.ref b), some (.ref a), some (.int i), some (.ref wp), some (.ref m), some (.ref p1), some (.ref p2), some (.ref p3), o8, o9, o10] ∧ Ev [] H12 H') ⟨_, _, _, rfl, f16⟩ ?_ ?_
      · rintro j σ H17 hj ⟨o8, o9, o10, rfl, f17⟩
        have hj : j < ss.length := by omega
        have mm17 := mm12.new f17
        walk_at "y"
        refine y_tTup ?_
        walk_at "y"
        refine use_ticks_from mm17 W hj (f17.th tr3) ok3 fun H18 e18 => ?_
        walk_at "y"
        refine use_standing_from (mm17.new e18) W hj ((f17.trans e18).th tr3) ok3 fun H19 e19 => ?_
        walk_at "y"
        refine y_newT (by show 2 ≤ sizeLine; omega) fun p6 H20 np6 hp6 e20 => ?_
        have f20 : Ev [] H12 H20 := f17.trans (e18.trans (e19.trans e20))
        walk_at "y"
        refine ⟨wp, z, ans, mv, ss, j, _, _, rfl, SqT.of (f20.keep _ _ hwp12 (by simp)), f20.th tmv12, W, hj, f20.th tr3, ok3, fun p7 H21 hp7 e21 => ?_⟩
        have hp6 := e21.keep _ _ hp6 (by simp)
        refine y_neSame (dp_two hp6) (dp_two hp7) rfl ?_
        have f21 : Ev [] H12 H21 := f20.trans e21
        walk_at "y"
        refine use_standing_from (mm12.new f21) W hj (f21.th tr1) ok1 fun H22 e22 => ?_
        have f22 := f21.trans e22
        have hp6 := e22.keep _ _ hp6 (by simp)
        have hmid := ledF_lt W hj ok1
        walk_at "y"
        refine use_ticks_from (mm12.new f22) W hj (f22.th tr1) ok1 fun H23 e23 => ?_
        have f23 := f22.trans e23
        walk_at "y"
        refine use_ticks_from (mm12.new f23) W hmid (f23.th tr2) ok2 fun H24 e24 => ?_
        have f24 := f23.trans e24
        have hp6 := (e23.trans e24).keep _ _ hp6 (by simp)
        walk_at "y"
        rw [ledF_app] at hp6 ⊢
        rw [decide_eq_true rfl]
        walk_at "y"
        refine use_standing_from (mm12.new f24) W hmid (f24.th tr2) ok2 fun H25 e25 => ?_
        have f25 := f24.trans e25
        walk_at "y"
        rw [decide_eq_true rfl]
        have ok0 : RunOk z ans [] := ⟨(fun _ h => nomatch h), by decide⟩
        walk_at "y"
        refine y_tTup ?_
        walk_at "y"
        refine y_tTup ?_
        walk_at "y"
        refine y_tTup ?_
        walk_at "y"
        refine y_newT (by show 0 ≤ sizeLine; omega) fun pe1 H26 npe1 hpe1 e26 => ?_
        walk_at "y"
        refine y_newT (by show 2 ≤ sizeLine; omega) fun pe2 H27 npe2 hpe2 e27 => ?_
        walk_at "y"
        have f27 := f25.trans (e26.trans e27)
        have tre : Th K H27 (.ref pe2) (runD z []) := .tup (SqT.of hpe2) (.cons (.str _) (.cons (.tup (SqT.of (e27.keep _ _ hpe1 (by simp))) .nil) .nil))
        refine use_ticks_from (mm12.new f27) W hj tre ok0 fun H28 e28 => ?_
        walk_at "y"
        refine y_tTup ?_
        walk_at "y"
        refine y_tTup ?_
        walk_at "y"
        refine y_newT (by show 0 ≤ sizeLine; omega) fun pe3 H29 npe3 hpe3 e29 => ?_
        walk_at "y"
        refine y_newT (by show 2 ≤ sizeLine; omega) fun pe4 H30 npe4 hpe4 e30 => ?_
        walk_at "y"
        have f30 := f27.trans (e28.trans (e29.trans e30))
        have tre2 : Th K H30 (.ref pe4) (runD z []) := .tup (SqT.of hpe4) (.cons (.str _) (.cons (.tup (SqT.of (e30.keep _ _ hpe3 (by simp))) .nil) .nil))
        refine use_standing_from (mm12.new f30) W hj tre2 ok0 fun H31 e31 => ?_
        walk_at "y"
        refine y_newT (by show 2 ≤ sizeLine; omega) fun p8 H32 np8 hp8 e32 => ?_
        walk_at "y"
        refine y_tTup ?_
        walk_at "y"
        refine y_newT (by show 2 ≤ sizeLine; omega) fun p9 H33 np9 hp9 e33 => ?_
        refine y_neSame (dp_two (e33.keep _ _ hp8 (by simp))) (dp_two hp9) rfl ?_
        walk_at "y"
        exact ⟨_, _, _, rfl, f30.trans (e31.trans (e32.trans e33))⟩
      · rintro σ H17 ⟨o8, o9, o10, rfl, f17⟩
        walk_at "y"
        exact ⟨_, _, _, _, _, _, _, _, _, rfl, hh12.new f17⟩
    · rintro σ H2 ⟨o2, o3, o4, o5, o6, o7, o8, o9, o10, rfl, hh2⟩
      walk_at "y"
      exact k _

end

theorem all_mk {l : PySem.W.OpenLaw} {w : World} {K : PySem.W.Frag} {h : Heap} {mg : Str → Option Value} {fa : Addr} (X : K.In h) (G : h.Ns mainGlobals mg) (hfa : mg "law" = some (.ref fa))
    {o_Machine : Addr}
    {f0 : Addr} {od0 an0 : Option Addr} {sl0 : Array (Option Value)} {oc0 kV0 dc0 pm0 cd0 ct0 : Value}
    {f1 : Addr} {od1 an1 : Option Addr} {sl1 : Array (Option Value)} {oc1 kV1 dc1 pm1 cd1 ct1 : Value}
    {f2 : Addr} {od2 an2 : Option Addr} {sl2 : Array (Option Value)} {oc2 kV2 dc2 pm2 cd2 ct2 : Value}
    {f3 : Addr} {od3 an3 : Option Addr} {sl3 : Array (Option Value)} {oc3 kV3 dc3 pm3 cd3 ct3 : Value}
    {f4 : Addr} {od4 an4 : Option Addr} {sl4 : Array (Option Value)} {oc4 kV4 dc4 pm4 cd4 ct4 : Value}
    {f5 : Addr} {od5 an5 : Option Addr} {sl5 : Array (Option Value)} {oc5 kV5 dc5 pm5 cd5 ct5 : Value}
    {f6 : Addr} {od6 an6 : Option Addr} {sl6 : Array (Option Value)} {oc6 kV6 dc6 pm6 cd6 ct6 : Value}
    {f7 : Addr} {od7 an7 : Option Addr} {sl7 : Array (Option Value)} {oc7 kV7 dc7 pm7 cd7 ct7 : Value}
    {f8 : Addr} {od8 an8 : Option Addr} {sl8 : Array (Option Value)} {oc8 kV8 dc8 pm8 cd8 ct8 : Value}
    {f9 : Addr} {od9 an9 : Option Addr} {sl9 : Array (Option Value)} {oc9 kV9 dc9 pm9 cd9 ct9 : Value}
    {f10 : Addr} {od10 an10 : Option Addr} {sl10 : Array (Option Value)} {oc10 kV10 dc10 pm10 cd10 ct10 : Value}
    {f11 : Addr} {od11 an11 : Option Addr} {sl11 : Array (Option Value)} {oc11 kV11 dc11 pm11 cd11 ct11 : Value}
    {f12 : Addr} {od12 an12 : Option Addr} {sl12 : Array (Option Value)} {oc12 kV12 dc12 pm12 cd12 ct12 : Value}
    {f13 : Addr} {od13 an13 : Option Addr} {sl13 : Array (Option Value)} {oc13 kV13 dc13 pm13 cd13 ct13 : Value}
    {f14 : Addr} {od14 an14 : Option Addr} {sl14 : Array (Option Value)} {oc14 kV14 dc14 pm14 cd14 ct14 : Value}
    {f15 : Addr} {od15 an15 : Option Addr} {sl15 : Array (Option Value)} {oc15 kV15 dc15 pm15 cd15 ct15 : Value}
    {f16 : Addr} {od16 an16 : Option Addr} {sl16 : Array (Option Value)} {oc16 kV16 dc16 pm16 cd16 ct16 : Value}
    {f17 : Addr} {od17 an17 : Option Addr} {sl17 : Array (Option Value)} {oc17 kV17 dc17 pm17 cd17 ct17 : Value}
    {f18 : Addr} {od18 an18 : Option Addr} {sl18 : Array (Option Value)} {oc18 kV18 dc18 pm18 cd18 ct18 : Value}
    {f19 : Addr} {od19 an19 : Option Addr} {sl19 : Array (Option Value)} {oc19 kV19 dc19 pm19 cd19 ct19 : Value}
    {f20 : Addr} {od20 an20 : Option Addr} {sl20 : Array (Option Value)} {oc20 kV20 dc20 pm20 cd20 ct20 : Value}
    {f21 : Addr} {od21 an21 : Option Addr} {sl21 : Array (Option Value)} {oc21 kV21 dc21 pm21 cd21 ct21 : Value}
    {f22 : Addr} {od22 an22 : Option Addr} {sl22 : Array (Option Value)} {oc22 kV22 dc22 pm22 cd22 ct22 : Value}
    {f23 : Addr} {od23 an23 : Option Addr} {sl23 : Array (Option Value)} {oc23 kV23 dc23 pm23 cd23 ct23 : Value}
    {f24 : Addr} {od24 an24 : Option Addr} {sl24 : Array (Option Value)} {oc24 kV24 dc24 pm24 cd24 ct24 : Value}
    {f25 : Addr} {od25 an25 : Option Addr} {sl25 : Array (Option Value)} {oc25 kV25 dc25 pm25 cd25 ct25 : Value}
    {f500 : Addr} {od500 an500 : Option Addr} {sl500 : Array (Option Value)} {oc500 kV500 dc500 pm500 cd500 ct500 : Value}
    {f501 : Addr} {od501 an501 : Option Addr} {sl501 : Array (Option Value)} {oc501 kV501 dc501 pm501 cd501 ct501 : Value}
    {t_MOST_ANSWERS : Tok}
    {t_MOST_ROWS : Tok}
    {t_MOST_STANDINGS : Tok}
    {t_MOST_TICKS : Tok}
    {t_SMALL : Tok}
    {C_NoStanding : Addr}
    {C_NoRun : Addr}
    (oa_Machine : PySem.W.nsIn K mainGlobals "Machine" = some (some (.ref o_Machine)))
    (a0 : PySem.W.nsIn K mainGlobals "is_integer" = some (some (.ref f0)))
    (l0 : K.lookup f0 = some ⟨oc0, od0, .func (PySem.W.fnOf "is_integer" "is_integer" (defArgs s_is_integer) (defBody s_is_integer) (defScope s_is_integer) .none kV0 dc0 pm0 an0 cd0 ct0), sl0⟩)
    (c0 : PySem.W.codeIn K cd0 "is_integer" = true)
    (k0 : PySem.W.keepIn K (.ref f0) = true)
    (a1 : PySem.W.nsIn K mainGlobals "is_within" = some (some (.ref f1)))
    (l1 : K.lookup f1 = some ⟨oc1, od1, .func (PySem.W.fnOf "is_within" "is_within" (defArgs s_is_within) (defBody s_is_within) (defScope s_is_within) .none kV1 dc1 pm1 an1 cd1 ct1), sl1⟩)
    (c1 : PySem.W.codeIn K cd1 "is_within" = true)
    (k1 : PySem.W.keepIn K (.ref f1) = true)
    (a2 : PySem.W.nsIn K mainGlobals "is_pair" = some (some (.ref f2)))
    (l2 : K.lookup f2 = some ⟨oc2, od2, .func (PySem.W.fnOf "is_pair" "is_pair" (defArgs s_is_pair) (defBody s_is_pair) (defScope s_is_pair) .none kV2 dc2 pm2 an2 cd2 ct2), sl2⟩)
    (c2 : PySem.W.codeIn K cd2 "is_pair" = true)
    (k2 : PySem.W.keepIn K (.ref f2) = true)
    (a3 : PySem.W.nsIn K mainGlobals "is_string_of" = some (some (.ref f3)))
    (l3 : K.lookup f3 = some ⟨oc3, od3, .func (PySem.W.fnOf "is_string_of" "is_string_of" (defArgs s_is_string_of) (defBody s_is_string_of) (defScope s_is_string_of) .none kV3 dc3 pm3 an3 cd3 ct3), sl3⟩)
    (c3 : PySem.W.codeIn K cd3 "is_string_of" = true)
    (k3 : PySem.W.keepIn K (.ref f3) = true)
    (a4 : PySem.W.nsIn K mainGlobals "is_word" = some (some (.ref f4)))
    (l4 : K.lookup f4 = some ⟨oc4, od4, .func (PySem.W.fnOf "is_word" "is_word" (defArgs s_is_word) (defBody s_is_word) (defScope s_is_word) .none kV4 dc4 pm4 an4 cd4 ct4), sl4⟩)
    (c4 : PySem.W.codeIn K cd4 "is_word" = true)
    (k4 : PySem.W.keepIn K (.ref f4) = true)
    (a5 : PySem.W.nsIn K mainGlobals "is_ascending" = some (some (.ref f5)))
    (l5 : K.lookup f5 = some ⟨oc5, od5, .func (PySem.W.fnOf "is_ascending" "is_ascending" (defArgs s_is_ascending) (defBody s_is_ascending) (defScope s_is_ascending) .none kV5 dc5 pm5 an5 cd5 ct5), sl5⟩)
    (c5 : PySem.W.codeIn K cd5 "is_ascending" = true)
    (k5 : PySem.W.keepIn K (.ref f5) = true)
    (a6 : PySem.W.nsIn K mainGlobals "is_rows" = some (some (.ref f6)))
    (l6 : K.lookup f6 = some ⟨oc6, od6, .func (PySem.W.fnOf "is_rows" "is_rows" (defArgs s_is_rows) (defBody s_is_rows) (defScope s_is_rows) .none kV6 dc6 pm6 an6 cd6 ct6), sl6⟩)
    (c6 : PySem.W.codeIn K cd6 "is_rows" = true)
    (k6 : PySem.W.keepIn K (.ref f6) = true)
    (a7 : PySem.W.nsIn K mainGlobals "is_code" = some (some (.ref f7)))
    (l7 : K.lookup f7 = some ⟨oc7, od7, .func (PySem.W.fnOf "is_code" "is_code" (defArgs s_is_code) (defBody s_is_code) (defScope s_is_code) .none kV7 dc7 pm7 an7 cd7 ct7), sl7⟩)
    (c7 : PySem.W.codeIn K cd7 "is_code" = true)
    (k7 : PySem.W.keepIn K (.ref f7) = true)
    (a8 : PySem.W.nsIn K mainGlobals "is_run" = some (some (.ref f8)))
    (l8 : K.lookup f8 = some ⟨oc8, od8, .func (PySem.W.fnOf "is_run" "is_run" (defArgs s_is_run) (defBody s_is_run) (defScope s_is_run) .none kV8 dc8 pm8 an8 cd8 ct8), sl8⟩)
    (c8 : PySem.W.codeIn K cd8 "is_run" = true)
    (k8 : PySem.W.keepIn K (.ref f8) = true)
    (a9 : PySem.W.nsIn K mainGlobals "check_run" = some (some (.ref f9)))
    (l9 : K.lookup f9 = some ⟨oc9, od9, .func (PySem.W.fnOf "check_run" "check_run" (defArgs s_check_run) (defBody s_check_run) (defScope s_check_run) .none kV9 dc9 pm9 an9 cd9 ct9), sl9⟩)
    (c9 : PySem.W.codeIn K cd9 "check_run" = true)
    (k9 : PySem.W.keepIn K (.ref f9) = true)
    (a10 : PySem.W.nsIn K mainGlobals "check_standing" = some (some (.ref f10)))
    (l10 : K.lookup f10 = some ⟨oc10, od10, .func (PySem.W.fnOf "check_standing" "check_standing" (defArgs s_check_standing) (defBody s_check_standing) (defScope s_check_standing) .none kV10 dc10 pm10 an10 cd10 ct10), sl10⟩)
    (c10 : PySem.W.codeIn K cd10 "check_standing" = true)
    (k10 : PySem.W.keepIn K (.ref f10) = true)
    (a11 : PySem.W.nsIn K mainGlobals "is_move" = some (some (.ref f11)))
    (l11 : K.lookup f11 = some ⟨oc11, od11, .func (PySem.W.fnOf "is_move" "is_move" (defArgs s_is_move) (defBody s_is_move) (defScope s_is_move) .none kV11 dc11 pm11 an11 cd11 ct11), sl11⟩)
    (c11 : PySem.W.codeIn K cd11 "is_move" = true)
    (k11 : PySem.W.keepIn K (.ref f11) = true)
    (a12 : PySem.W.nsIn K mainGlobals "are_moves" = some (some (.ref f12)))
    (l12 : K.lookup f12 = some ⟨oc12, od12, .func (PySem.W.fnOf "are_moves" "are_moves" (defArgs s_are_moves) (defBody s_are_moves) (defScope s_are_moves) .none kV12 dc12 pm12 an12 cd12 ct12), sl12⟩)
    (c12 : PySem.W.codeIn K cd12 "are_moves" = true)
    (k12 : PySem.W.keepIn K (.ref f12) = true)
    (a13 : PySem.W.nsIn K mainGlobals "led" = some (some (.ref f13)))
    (l13 : K.lookup f13 = some ⟨oc13, od13, .func (PySem.W.fnOf "led" "led" (defArgs s_led) (defBody s_led) (defScope s_led) .none kV13 dc13 pm13 an13 cd13 ct13), sl13⟩)
    (c13 : PySem.W.codeIn K cd13 "led" = true)
    (k13 : PySem.W.keepIn K (.ref f13) = true)
    (a14 : PySem.W.nsIn K mainGlobals "ticks" = some (some (.ref f14)))
    (l14 : K.lookup f14 = some ⟨oc14, od14, .func (PySem.W.fnOf "ticks" "ticks" (defArgs s_ticks) (defBody s_ticks) (defScope s_ticks) .none kV14 dc14 pm14 an14 cd14 ct14), sl14⟩)
    (c14 : PySem.W.codeIn K cd14 "ticks" = true)
    (k14 : PySem.W.keepIn K (.ref f14) = true)
    (a15 : PySem.W.nsIn K mainGlobals "standing" = some (some (.ref f15)))
    (l15 : K.lookup f15 = some ⟨oc15, od15, .func (PySem.W.fnOf "standing" "standing" (defArgs s_standing) (defBody s_standing) (defScope s_standing) .none kV15 dc15 pm15 an15 cd15 ct15), sl15⟩)
    (c15 : PySem.W.codeIn K cd15 "standing" = true)
    (k15 : PySem.W.keepIn K (.ref f15) = true)
    (a16 : PySem.W.nsIn K mainGlobals "ticks_from" = some (some (.ref f16)))
    (l16 : K.lookup f16 = some ⟨oc16, od16, .func (PySem.W.fnOf "ticks_from" "ticks_from" (defArgs s_ticks_from) (defBody s_ticks_from) (defScope s_ticks_from) .none kV16 dc16 pm16 an16 cd16 ct16), sl16⟩)
    (c16 : PySem.W.codeIn K cd16 "ticks_from" = true)
    (k16 : PySem.W.keepIn K (.ref f16) = true)
    (a17 : PySem.W.nsIn K mainGlobals "standing_from" = some (some (.ref f17)))
    (l17 : K.lookup f17 = some ⟨oc17, od17, .func (PySem.W.fnOf "standing_from" "standing_from" (defArgs s_standing_from) (defBody s_standing_from) (defScope s_standing_from) .none kV17 dc17 pm17 an17 cd17 ct17), sl17⟩)
    (c17 : PySem.W.codeIn K cd17 "standing_from" = true)
    (k17 : PySem.W.keepIn K (.ref f17) = true)
    (a18 : PySem.W.nsIn K mainGlobals "_law_hand" = some (some (.ref f18)))
    (l18 : K.lookup f18 = some ⟨oc18, od18, .func (PySem.W.fnOf "_law_hand" "_law_hand" (defArgs s_law_hand) (defBody s_law_hand) (defScope s_law_hand) .none kV18 dc18 pm18 an18 cd18 ct18), sl18⟩)
    (c18 : PySem.W.codeIn K cd18 "_law_hand" = true)
    (k18 : PySem.W.keepIn K (.ref f18) = true)
    (a19 : PySem.W.nsIn K mainGlobals "_law_draw" = some (some (.ref f19)))
    (l19 : K.lookup f19 = some ⟨oc19, od19, .func (PySem.W.fnOf "_law_draw" "_law_draw" (defArgs s_law_draw) (defBody s_law_draw) (defScope s_law_draw) .none kV19 dc19 pm19 an19 cd19 ct19), sl19⟩)
    (c19 : PySem.W.codeIn K cd19 "_law_draw" = true)
    (k19 : PySem.W.keepIn K (.ref f19) = true)
    (a20 : PySem.W.nsIn K mainGlobals "_law_rows" = some (some (.ref f20)))
    (l20 : K.lookup f20 = some ⟨oc20, od20, .func (PySem.W.fnOf "_law_rows" "_law_rows" (defArgs s_law_rows) (defBody s_law_rows) (defScope s_law_rows) .none kV20 dc20 pm20 an20 cd20 ct20), sl20⟩)
    (c20 : PySem.W.codeIn K cd20 "_law_rows" = true)
    (k20 : PySem.W.keepIn K (.ref f20) = true)
    (a21 : PySem.W.nsIn K mainGlobals "_law_line" = some (some (.ref f21)))
    (l21 : K.lookup f21 = some ⟨oc21, od21, .func (PySem.W.fnOf "_law_line" "_law_line" (defArgs s_law_line) (defBody s_law_line) (defScope s_law_line) .none kV21 dc21 pm21 an21 cd21 ct21), sl21⟩)
    (c21 : PySem.W.codeIn K cd21 "_law_line" = true)
    (k21 : PySem.W.keepIn K (.ref f21) = true)
    (a22 : PySem.W.nsIn K mainGlobals "_law_world" = some (some (.ref f22)))
    (l22 : K.lookup f22 = some ⟨oc22, od22, .func (PySem.W.fnOf "_law_world" "_law_world" (defArgs s_law_world) (defBody s_law_world) (defScope s_law_world) .none kV22 dc22 pm22 an22 cd22 ct22), sl22⟩)
    (c22 : PySem.W.codeIn K cd22 "_law_world" = true)
    (k22 : PySem.W.keepIn K (.ref f22) = true)
    (a23 : PySem.W.nsIn K mainGlobals "_law_run" = some (some (.ref f23)))
    (l23 : K.lookup f23 = some ⟨oc23, od23, .func (PySem.W.fnOf "_law_run" "_law_run" (defArgs s_law_run) (defBody s_law_run) (defScope s_law_run) .none kV23 dc23 pm23 an23 cd23 ct23), sl23⟩)
    (c23 : PySem.W.codeIn K cd23 "_law_run" = true)
    (k23 : PySem.W.keepIn K (.ref f23) = true)
    (a24 : PySem.W.nsIn K mainGlobals "_law_led" = some (some (.ref f24)))
    (l24 : K.lookup f24 = some ⟨oc24, od24, .func (PySem.W.fnOf "_law_led" "_law_led" (defArgs s_law_led) (defBody s_law_led) (defScope s_law_led) .none kV24 dc24 pm24 an24 cd24 ct24), sl24⟩)
    (c24 : PySem.W.codeIn K cd24 "_law_led" = true)
    (k24 : PySem.W.keepIn K (.ref f24) = true)
    (a25 : PySem.W.nsIn K mainGlobals "law" = some (some (.ref f25)))
    (l25 : K.lookup f25 = some ⟨oc25, od25, .func (PySem.W.fnOf "law" "law" (defArgs s_law) (defBody s_law) (defScope s_law) .none kV25 dc25 pm25 an25 cd25 ct25), sl25⟩)
    (c25 : PySem.W.codeIn K cd25 "law" = true)
    (k25 : PySem.W.keepIn K (.ref f25) = true)
    (a500 : PySem.W.findIn K (.ref o_Machine) "__init__" = some (some (.ref f500)))
    (l500 : K.lookup f500 = some ⟨oc500, od500, .func (PySem.W.fnOf "__init__" "Machine.__init__" (defArgs s_Machine_init) (defBody s_Machine_init) (defScope s_Machine_init) .none kV500 dc500 pm500 an500 cd500 ct500), sl500⟩)
    (c500 : PySem.W.codeIn K cd500 "Machine.__init__" = true)
    (k500 : PySem.W.keepIn K (.ref f500) = true)
    (i500 : PySem.W.isFn K (.ref f500) = true)
    (a501 : PySem.W.findIn K (.ref o_Machine) "keep" = some (some (.ref f501)))
    (l501 : K.lookup f501 = some ⟨oc501, od501, .func (PySem.W.fnOf "keep" "Machine.keep" (defArgs s_Machine_keep) (defBody s_Machine_keep) (defScope s_Machine_keep) .none kV501 dc501 pm501 an501 cd501 ct501), sl501⟩)
    (c501 : PySem.W.codeIn K cd501 "Machine.keep" = true)
    (k501 : PySem.W.keepIn K (.ref f501) = true)
    (i501 : PySem.W.isFn K (.ref f501) = true)
    (pg_Machine : PySem.W.plainGet K o_Machine Str.empty = true)
    (hd_Machine : PySem.W.hasDictIn K o_Machine = true)
    (po_Machine : PySem.W.plainOver K o_Machine = true)
    (sa_Machine : PySem.W.findIn K (.ref o_Machine) "__setattr__" = some (some (.builtin "object.__setattr__")))
    (mk_Machine : PySem.W.makesIn K o_Machine = true)
    (kc_Machine : PySem.W.keepIn K (.ref o_Machine) = true)
    (n_Machine_answers : PySem.W.findIn K (.ref o_Machine) "answers" = some none)
    (n_Machine_kept_steps : PySem.W.findIn K (.ref o_Machine) "kept_steps" = some none)
    (n_Machine_kept_webs : PySem.W.findIn K (.ref o_Machine) "kept_webs" = some none)
    (n_Machine_moves : PySem.W.findIn K (.ref o_Machine) "moves" = some none)
    (n_Machine_rows : PySem.W.findIn K (.ref o_Machine) "rows" = some none)
    (n_Machine_size : PySem.W.findIn K (.ref o_Machine) "size" = some none)
    (z_abs : PySem.W.nsIn K mainGlobals "abs" = some none)
    (z_all : PySem.W.nsIn K mainGlobals "all" = some none)
    (z_bool : PySem.W.nsIn K mainGlobals "bool" = some none)
    (z_enumerate : PySem.W.nsIn K mainGlobals "enumerate" = some none)
    (z_int : PySem.W.nsIn K mainGlobals "int" = some none)
    (z_isinstance : PySem.W.nsIn K mainGlobals "isinstance" = some none)
    (z_len : PySem.W.nsIn K mainGlobals "len" = some none)
    (z_range : PySem.W.nsIn K mainGlobals "range" = some none)
    (z_str : PySem.W.nsIn K mainGlobals "str" = some none)
    (z_tuple : PySem.W.nsIn K mainGlobals "tuple" = some none)
    (z_zip : PySem.W.nsIn K mainGlobals "zip" = some none)
    (g_MOST_ANSWERS : PySem.W.nsIn K mainGlobals "MOST_ANSWERS" = some (some (.int 3 t_MOST_ANSWERS)))
    (g_MOST_ROWS : PySem.W.nsIn K mainGlobals "MOST_ROWS" = some (some (.int 4 t_MOST_ROWS)))
    (g_MOST_STANDINGS : PySem.W.nsIn K mainGlobals "MOST_STANDINGS" = some (some (.int 12 t_MOST_STANDINGS)))
    (g_MOST_TICKS : PySem.W.nsIn K mainGlobals "MOST_TICKS" = some (some (.int 99 t_MOST_TICKS)))
    (g_SMALL : PySem.W.nsIn K mainGlobals "SMALL" = some (some (.str "abcdefghijklmnopqrstuvwxyz" t_SMALL)))
    (xa_NoStanding : PySem.W.nsIn K mainGlobals "NoStanding" = some (some (.ref C_NoStanding)))
    (xx_NoStanding : PySem.W.excIn K C_NoStanding [.type "ValueError", .type "Exception", .type "BaseException", .type "object"] "ValueError.__new__" = true)
    (xk_NoStanding : PySem.W.keepIn K (.ref C_NoStanding) = true)
    (xs_NoStanding : PySem.W.subIn K (.ref C_NoStanding) (.type "BaseException") = some true)
    (xt_NoStanding : PySem.W.typeIn K (.ref C_NoStanding) = some (.type "type"))
    (xa_NoRun : PySem.W.nsIn K mainGlobals "NoRun" = some (some (.ref C_NoRun)))
    (xx_NoRun : PySem.W.excIn K C_NoRun [.type "ValueError", .type "Exception", .type "BaseException", .type "object"] "ValueError.__new__" = true)
    (xk_NoRun : PySem.W.keepIn K (.ref C_NoRun) = true)
    (xs_NoRun : PySem.W.subIn K (.ref C_NoRun) (.type "BaseException") = some true)
    (xt_NoRun : PySem.W.typeIn K (.ref C_NoRun) = some (.type "type"))
    : ∃ fd : FuncData, (∀ (s : Shared) (v : Value), BindsTo s fd ⟨[v], []⟩ [("_law_script", v)]) ∧ ∀ base : Heap, K.In base → base.Ns mainGlobals mg → FnOk l.prog w K mg base CX0 7 fa fd ["_law_script"] (sp_law K) := by
  have e := hfa.symm.trans (PySem.W.mg_of X G a25)
  cases e
  let T : Txt K mg := {
    f_is_integer := ⟨_, _, fun_mk (st := s_is_integer) l0 c0 k0, PySem.W.mg_of X G a0, (fun_mk (st := s_is_integer) l0 c0 k0).binds (ps := ["thing"]) fun _ _ _ _ _ _ us hl => match us, hl with | [_], _ => rfl⟩
    f_is_within := ⟨_, _, fun_mk (st := s_is_within) l1 c1 k1, PySem.W.mg_of X G a1, (fun_mk (st := s_is_within) l1 c1 k1).binds (ps := ["thing", "least", "most"]) fun _ _ _ _ _ _ us hl => match us, hl with | [_, _, _], _ => rfl⟩
    f_is_pair := ⟨_, _, fun_mk (st := s_is_pair) l2 c2 k2, PySem.W.mg_of X G a2, (fun_mk (st := s_is_pair) l2 c2 k2).binds (ps := ["thing"]) fun _ _ _ _ _ _ us hl => match us, hl with | [_], _ => rfl⟩
    f_is_string_of := ⟨_, _, fun_mk (st := s_is_string_of) l3 c3 k3, PySem.W.mg_of X G a3, (fun_mk (st := s_is_string_of) l3 c3 k3).binds (ps := ["thing", "signs"]) fun _ _ _ _ _ _ us hl => match us, hl with | [_, _], _ => rfl⟩
    f_is_word := ⟨_, _, fun_mk (st := s_is_word) l4 c4 k4, PySem.W.mg_of X G a4, (fun_mk (st := s_is_word) l4 c4 k4).binds (ps := ["thing"]) fun _ _ _ _ _ _ us hl => match us, hl with | [_], _ => rfl⟩
    f_is_ascending := ⟨_, _, fun_mk (st := s_is_ascending) l5 c5 k5, PySem.W.mg_of X G a5, (fun_mk (st := s_is_ascending) l5 c5 k5).binds (ps := ["word"]) fun _ _ _ _ _ _ us hl => match us, hl with | [_], _ => rfl⟩
    f_is_rows := ⟨_, _, fun_mk (st := s_is_rows) l6 c6 k6, PySem.W.mg_of X G a6, (fun_mk (st := s_is_rows) l6 c6 k6).binds (ps := ["thing"]) fun _ _ _ _ _ _ us hl => match us, hl with | [_], _ => rfl⟩
    f_is_code := ⟨_, _, fun_mk (st := s_is_code) l7 c7 k7, PySem.W.mg_of X G a7, (fun_mk (st := s_is_code) l7 c7 k7).binds (ps := ["rows", "thing"]) fun _ _ _ _ _ _ us hl => match us, hl with | [_, _], _ => rfl⟩
    f_is_run := ⟨_, _, fun_mk (st := s_is_run) l8 c8 k8, PySem.W.mg_of X G a8, (fun_mk (st := s_is_run) l8 c8 k8).binds (ps := ["rows", "answers", "thing"]) fun _ _ _ _ _ _ us hl => match us, hl with | [_, _, _], _ => rfl⟩
    f_check_run := ⟨_, _, fun_mk (st := s_check_run) l9 c9 k9, PySem.W.mg_of X G a9, (fun_mk (st := s_check_run) l9 c9 k9).binds (ps := ["machine", "thing"]) fun _ _ _ _ _ _ us hl => match us, hl with | [_, _], _ => rfl⟩
    f_check_standing := ⟨_, _, fun_mk (st := s_check_standing) l10 c10 k10, PySem.W.mg_of X G a10, (fun_mk (st := s_check_standing) l10 c10 k10).binds (ps := ["machine", "thing"]) fun _ _ _ _ _ _ us hl => match us, hl with | [_, _], _ => rfl⟩
    f_is_move := ⟨_, _, fun_mk (st := s_is_move) l11 c11 k11, PySem.W.mg_of X G a11, (fun_mk (st := s_is_move) l11 c11 k11).binds (ps := ["thing", "size"]) fun _ _ _ _ _ _ us hl => match us, hl with | [_, _], _ => rfl⟩
    f_are_moves := ⟨_, _, fun_mk (st := s_are_moves) l12 c12 k12, PySem.W.mg_of X G a12, (fun_mk (st := s_are_moves) l12 c12 k12).binds (ps := ["thing", "rows", "answers"]) fun _ _ _ _ _ _ us hl => match us, hl with | [_, _, _], _ => rfl⟩
    f_led := ⟨_, _, fun_mk (st := s_led) l13 c13 k13, PySem.W.mg_of X G a13, (fun_mk (st := s_led) l13 c13 k13).binds (ps := ["machine", "standing", "run"]) fun _ _ _ _ _ _ us hl => match us, hl with | [_, _, _], _ => rfl⟩
    f_ticks := ⟨_, _, fun_mk (st := s_ticks) l14 c14 k14, PySem.W.mg_of X G a14, (fun_mk (st := s_ticks) l14 c14 k14).binds (ps := ["machine", "run"]) fun _ _ _ _ _ _ us hl => match us, hl with | [_, _], _ => rfl⟩
    f_standing := ⟨_, _, fun_mk (st := s_standing) l15 c15 k15, PySem.W.mg_of X G a15, (fun_mk (st := s_standing) l15 c15 k15).binds (ps := ["machine", "run"]) fun _ _ _ _ _ _ us hl => match us, hl with | [_, _], _ => rfl⟩
    f_ticks_from := ⟨_, _, fun_mk (st := s_ticks_from) l16 c16 k16, PySem.W.mg_of X G a16, (fun_mk (st := s_ticks_from) l16 c16 k16).binds (ps := ["machine", "first", "run"]) fun _ _ _ _ _ _ us hl => match us, hl with | [_, _, _], _ => rfl⟩
    f_standing_from := ⟨_, _, fun_mk (st := s_standing_from) l17 c17 k17, PySem.W.mg_of X G a17, (fun_mk (st := s_standing_from) l17 c17 k17).binds (ps := ["machine", "first", "run"]) fun _ _ _ _ _ _ us hl => match us, hl with | [_, _, _], _ => rfl⟩
    f_law_hand := ⟨_, _, fun_mk (st := s_law_hand) l18 c18 k18, PySem.W.mg_of X G a18, (fun_mk (st := s_law_hand) l18 c18 k18).binds (ps := ["_law_script"]) fun _ _ _ _ _ _ us hl => match us, hl with | [_], _ => rfl⟩
    f_law_draw := ⟨_, _, fun_mk (st := s_law_draw) l19 c19 k19, PySem.W.mg_of X G a19, (fun_mk (st := s_law_draw) l19 c19 k19).binds (ps := ["_law_hand_here", "_law_many"]) fun _ _ _ _ _ _ us hl => match us, hl with | [_, _], _ => rfl⟩
    f_law_rows := ⟨_, _, fun_mk (st := s_law_rows) l20 c20 k20, PySem.W.mg_of X G a20, (fun_mk (st := s_law_rows) l20 c20 k20).binds (ps := ["_law_hand_here", "_law_most"]) fun _ _ _ _ _ _ us hl => match us, hl with | [_, _], _ => rfl⟩
    f_law_line := ⟨_, _, fun_mk (st := s_law_line) l21 c21 k21, PySem.W.mg_of X G a21, (fun_mk (st := s_law_line) l21 c21 k21).binds (ps := ["_law_hand_here", "_law_answers", "_law_size", "_law_top"]) fun _ _ _ _ _ _ us hl => match us, hl with | [_, _, _, _], _ => rfl⟩
    f_law_world := ⟨_, _, fun_mk (st := s_law_world) l22 c22 k22, PySem.W.mg_of X G a22, (fun_mk (st := s_law_world) l22 c22 k22).binds (ps := ["_law_hand_here", "_law_most", "_law_size"]) fun _ _ _ _ _ _ us hl => match us, hl with | [_, _, _], _ => rfl⟩
    f_law_run := ⟨_, _, fun_mk (st := s_law_run) l23 c23 k23, PySem.W.mg_of X G a23, (fun_mk (st := s_law_run) l23 c23 k23).binds (ps := ["_law_hand_here", "_law_rows_here", "_law_answers", "_law_many"]) fun _ _ _ _ _ _ us hl => match us, hl with | [_, _, _, _], _ => rfl⟩
    f_law_led := ⟨_, _, fun_mk (st := s_law_led) l24 c24 k24, PySem.W.mg_of X G a24, (fun_mk (st := s_law_led) l24 c24 k24).binds (ps := ["_law_world_here", "_law_at", "_law_run_here"]) fun _ _ _ _ _ _ us hl => match us, hl with | [_, _, _], _ => rfl⟩
    f_law := ⟨_, _, fun_mk (st := s_law) l25 c25 k25, PySem.W.mg_of X G a25, (fun_mk (st := s_law) l25 c25 k25).binds (ps := ["_law_script"]) fun _ _ _ _ _ _ us hl => match us, hl with | [_], _ => rfl⟩
    f_Machine_init := ⟨_, _, fun_mk (st := s_Machine_init) l500 c500 k500, (fun_mk (st := s_Machine_init) l500 c500 k500).binds (ps := ["self", "rows", "answers", "moves"]) fun _ _ _ _ _ _ us hl => match us, hl with | [_, _, _, _], _ => rfl⟩
    m_Machine := ⟨mk_Machine, a500, i500, kc_Machine⟩
    f_Machine_keep := ⟨_, _, fun_mk (st := s_Machine_keep) l501 c501 k501, (fun_mk (st := s_Machine_keep) l501 c501 k501).binds (ps := ["self", "rows", "answers", "moves"]) fun _ _ _ _ _ _ us hl => match us, hl with | [_, _, _, _], _ => rfl⟩
    mt_Machine_keep := ⟨a501, i501, k501⟩
    o_Machine := o_Machine
    k_Machine := PySem.W.mg_of X G oa_Machine
    cl_Machine := ⟨pg_Machine, hd_Machine, po_Machine, sa_Machine⟩
    n_Machine_answers := n_Machine_answers
    n_Machine_kept_steps := n_Machine_kept_steps
    n_Machine_kept_webs := n_Machine_kept_webs
    n_Machine_moves := n_Machine_moves
    n_Machine_rows := n_Machine_rows
    n_Machine_size := n_Machine_size
    b_abs := PySem.W.mg_none_of X G z_abs
    b_all := PySem.W.mg_none_of X G z_all
    b_bool := PySem.W.mg_none_of X G z_bool
    b_enumerate := PySem.W.mg_none_of X G z_enumerate
    b_int := PySem.W.mg_none_of X G z_int
    b_isinstance := PySem.W.mg_none_of X G z_isinstance
    b_len := PySem.W.mg_none_of X G z_len
    b_range := PySem.W.mg_none_of X G z_range
    b_str := PySem.W.mg_none_of X G z_str
    b_tuple := PySem.W.mg_none_of X G z_tuple
    b_zip := PySem.W.mg_none_of X G z_zip
    t_MOST_ANSWERS := t_MOST_ANSWERS
    c_MOST_ANSWERS := PySem.W.mg_of X G g_MOST_ANSWERS
    t_MOST_ROWS := t_MOST_ROWS
    c_MOST_ROWS := PySem.W.mg_of X G g_MOST_ROWS
    t_MOST_STANDINGS := t_MOST_STANDINGS
    c_MOST_STANDINGS := PySem.W.mg_of X G g_MOST_STANDINGS
    t_MOST_TICKS := t_MOST_TICKS
    c_MOST_TICKS := PySem.W.mg_of X G g_MOST_TICKS
    t_SMALL := t_SMALL
    c_SMALL := PySem.W.mg_of X G g_SMALL
    x_NoStanding := ⟨C_NoStanding, PySem.W.mg_of X G xa_NoStanding, xx_NoStanding, xk_NoStanding, xs_NoStanding, xt_NoStanding⟩
    x_NoRun := ⟨C_NoRun, PySem.W.mg_of X G xa_NoRun, xx_NoRun, xk_NoRun, xs_NoRun, xt_NoRun⟩
  }
  exact ⟨T.f_law.fd, fun s v => .of_eq rfl, fun base _ _ => ok_law T⟩
theorem walk {l : PySem.W.OpenLaw} {q : Program} {loose : List Str} {XP : (Str → Option Value) → Heap → Prop} {YP : World → Heap → Prop} {d : DefRec} {K : Params → PySem.W.Frag} (hn : l.most = some 63) (hdf : d.params.defaults = [])
    (hY : ∀ (w : World) (h : Heap), YP w h → (K w.params).In h)
    (F : ∀ (w : World) (mg : Str → Option Value) (fa : Addr) (h : Heap), (K w.params).In h → h.Ns mainGlobals mg → mg d.name = some (.ref fa) →
      ∃ fd : FuncData, (∀ (s : Shared) (u : Value), BindsTo s fd ⟨[u], []⟩ [("_law_script", u)]) ∧ ∀ base : Heap, (K w.params).In base → base.Ns mainGlobals mg → FnOk l.prog w (K w.params) mg base CX0 7 fa fd ["_law_script"] (sp_law (K w.params))) :
    PySem.W.WalkO q loose XP YP l.row.toRowW d [] (fun f vs => PySem.call f vs) :=
  L2.walk_of (n := 63) (k := 7) (x := "_law_script") (CX := fun _ => CX0) (sp := fun w => sp_law (K w.params)) hn (by decide) hdf ⟨rfl, by decide, by decide⟩ hY F (fun _ H a ns hl hO hS => sp_law_in hl hO hS) fun _ _ _ _ _ z => z
end Lw
open PySem PySem.W PyProof.Rows
set_option maxRecDepth 100000 in
set_option maxHeartbeats 0 in
theorem PySem.Challenge.cw_stretchprices_k02_whole_runs_by_own_step_holds : PySem.Challenge.rw_stretchprices_k02_whole_runs_by_own_step.Holds := by
  w_on; o_law; k_head; (case hw => w_witness2)
  k_fill
  refine Lw.walk (l := PySem.Challenge.rw_stretchprices_k02_whole_runs_by_own_step) rfl rfl (fun w h Y => PySem.W.kIn_of Y) ?F
  case F =>
    intro w mg fa h KX G hmg
    refine' Lw.all_mk KX G hmg ?oa_Machine ?a0 ?l0 ?c0 ?k0 ?a1 ?l1 ?c1 ?k1 ?a2 ?l2 ?c2 ?k2 ?a3 ?l3 ?c3 ?k3 ?a4 ?l4 ?c4 ?k4 ?a5 ?l5 ?c5 ?k5 ?a6 ?l6 ?c6 ?k6 ?a7 ?l7 ?c7 ?k7 ?a8 ?l8 ?c8 ?k8 ?a9 ?l9 ?c9 ?k9 ?a10 ?l10 ?c10 ?k10 ?a11 ?l11 ?c11 ?k11 ?a12 ?l12 ?c12 ?k12 ?a13 ?l13 ?c13 ?k13 ?a14 ?l14 ?c14 ?k14 ?a15 ?l15 ?c15 ?k15 ?a16 ?l16 ?c16 ?k16 ?a17 ?l17 ?c17 ?k17 ?a18 ?l18 ?c18 ?k18 ?a19 ?l19 ?c19 ?k19 ?a20 ?l20 ?c20 ?k20 ?a21 ?l21 ?c21 ?k21 ?a22 ?l22 ?c22 ?k22 ?a23 ?l23 ?c23 ?k23 ?a24 ?l24 ?c24 ?k24 ?a25 ?l25 ?c25 ?k25 ?a500 ?l500 ?c500 ?k500 ?i500 ?a501 ?l501 ?c501 ?k501 ?i501 ?pg_Machine ?hd_Machine ?po_Machine ?sa_Machine ?mk_Machine ?kc_Machine ?n_Machine_answers ?n_Machine_kept_steps ?n_Machine_kept_webs ?n_Machine_moves ?n_Machine_rows ?n_Machine_size ?z_abs ?z_all ?z_bool ?z_enumerate ?z_int ?z_isinstance ?z_len ?z_range ?z_str ?z_tuple ?z_zip ?g_MOST_ANSWERS ?g_MOST_ROWS ?g_MOST_STANDINGS ?g_MOST_TICKS ?g_SMALL ?xa_NoStanding ?xx_NoStanding ?xk_NoStanding ?xs_NoStanding ?xt_NoStanding ?xa_NoRun ?xx_NoRun ?xk_NoRun ?xs_NoRun ?xt_NoRun
    (case oa_Machine => first | k_is | rfl)
    (case a0 => first | k_is | rfl)
    (case l0 => first | k_is | rfl)
    (case c0 => first | k_is | rfl)
    (case k0 => first | k_is | rfl)
    (case a1 => first | k_is | rfl)
    (case l1 => first | k_is | rfl)
    (case c1 => first | k_is | rfl)
    (case k1 => first | k_is | rfl)
    (case a2 => first | k_is | rfl)
    (case l2 => first | k_is | rfl)
    (case c2 => first | k_is | rfl)
    (case k2 => first | k_is | rfl)
    (case a3 => first | k_is | rfl)
    (case l3 => first | k_is | rfl)
    (case c3 => first | k_is | rfl)
    (case k3 => first | k_is | rfl)
    (case a4 => first | k_is | rfl)
    (case l4 => first | k_is | rfl)
    (case c4 => first | k_is | rfl)
    (case k4 => first | k_is | rfl)
    (case a5 => first | k_is | rfl)
    (case l5 => first | k_is | rfl)
    (case c5 => first | k_is | rfl)
    (case k5 => first | k_is | rfl)
    (case a6 => first | k_is | rfl)
    (case l6 => first | k_is | rfl)
    (case c6 => first | k_is | rfl)
    (case k6 => first | k_is | rfl)
    (case a7 => first | k_is | rfl)
    (case l7 => first | k_is | rfl)
    (case c7 => first | k_is | rfl)
    (case k7 => first | k_is | rfl)
    (case a8 => first | k_is | rfl)
    (case l8 => first | k_is | rfl)
    (case c8 => first | k_is | rfl)
    (case k8 => first | k_is | rfl)
    (case a9 => first | k_is | rfl)
    (case l9 => first | k_is | rfl)
    (case c9 => first | k_is | rfl)
    (case k9 => first | k_is | rfl)
    (case a10 => first | k_is | rfl)
    (case l10 => first | k_is | rfl)
    (case c10 => first | k_is | rfl)
    (case k10 => first | k_is | rfl)
    (case a11 => first | k_is | rfl)
    (case l11 => first | k_is | rfl)
    (case c11 => first | k_is | rfl)
    (case k11 => first | k_is | rfl)
    (case a12 => first | k_is | rfl)
    (case l12 => first | k_is | rfl)
    (case c12 => first | k_is | rfl)
    (case k12 => first | k_is | rfl)
    (case a13 => first | k_is | rfl)
    (case l13 => first | k_is | rfl)
    (case c13 => first | k_is | rfl)
    (case k13 => first | k_is | rfl)
    (case a14 => first | k_is | rfl)
    (case l14 => first | k_is | rfl)
    (case c14 => first | k_is | rfl)
    (case k14 => first | k_is | rfl)
    (case a15 => first | k_is | rfl)
    (case l15 => first | k_is | rfl)
    (case c15 => first | k_is | rfl)
    (case k15 => first | k_is | rfl)
    (case a16 => first | k_is | rfl)
    (case l16 => first | k_is | rfl)
    (case c16 => first | k_is | rfl)
    (case k16 => first | k_is | rfl)
    (case a17 => first | k_is | rfl)
    (case l17 => first | k_is | rfl)
    (case c17 => first | k_is | rfl)
    (case k17 => first | k_is | rfl)
    (case a18 => first | k_is | rfl)
    (case l18 => first | k_is | rfl)
    (case c18 => first | k_is | rfl)
    (case k18 => first | k_is | rfl)
    (case a19 => first | k_is | rfl)
    (case l19 => first | k_is | rfl)
    (case c19 => first | k_is | rfl)
    (case k19 => first | k_is | rfl)
    (case a20 => first | k_is | rfl)
    (case l20 => first | k_is | rfl)
    (case c20 => first | k_is | rfl)
    (case k20 => first | k_is | rfl)
    (case a21 => first | k_is | rfl)
    (case l21 => first | k_is | rfl)
    (case c21 => first | k_is | rfl)
    (case k21 => first | k_is | rfl)
    (case a22 => first | k_is | rfl)
    (case l22 => first | k_is | rfl)
    (case c22 => first | k_is | rfl)
    (case k22 => first | k_is | rfl)
    (case a23 => first | k_is | rfl)
    (case l23 => first | k_is | rfl)
    (case c23 => first | k_is | rfl)
    (case k23 => first | k_is | rfl)
    (case a24 => first | k_is | rfl)
    (case l24 => first | k_is | rfl)
    (case c24 => first | k_is | rfl)
    (case k24 => first | k_is | rfl)
    (case a25 => first | k_is | rfl)
    (case l25 => first | k_is | rfl)
    (case c25 => first | k_is | rfl)
    (case k25 => first | k_is | rfl)
    (case a500 => first | k_is | rfl)
    (case l500 => first | k_is | rfl)
    (case c500 => first | k_is | rfl)
    (case k500 => first | k_is | rfl)
    (case i500 => first | k_is | rfl)
    (case a501 => first | k_is | rfl)
    (case l501 => first | k_is | rfl)
    (case c501 => first | k_is | rfl)
    (case k501 => first | k_is | rfl)
    (case i501 => first | k_is | rfl)
    (case pg_Machine => first | k_is | rfl)
    (case hd_Machine => first | k_is | rfl)
    (case po_Machine => first | k_is | rfl)
    (case sa_Machine => first | k_is | rfl)
    (case mk_Machine => first | k_is | rfl)
    (case kc_Machine => first | k_is | rfl)
    (case n_Machine_answers => first | k_is | rfl)
    (case n_Machine_kept_steps => first | k_is | rfl)
    (case n_Machine_kept_webs => first | k_is | rfl)
    (case n_Machine_moves => first | k_is | rfl)
    (case n_Machine_rows => first | k_is | rfl)
    (case n_Machine_size => first | k_is | rfl)
    (case z_abs => first | k_is | rfl)
    (case z_all => first | k_is | rfl)
    (case z_bool => first | k_is | rfl)
    (case z_enumerate => first | k_is | rfl)
    (case z_int => first | k_is | rfl)
    (case z_isinstance => first | k_is | rfl)
    (case z_len => first | k_is | rfl)
    (case z_range => first | k_is | rfl)
    (case z_str => first | k_is | rfl)
    (case z_tuple => first | k_is | rfl)
    (case z_zip => first | k_is | rfl)
    (case g_MOST_ANSWERS => first | k_is | rfl)
    (case g_MOST_ROWS => first | k_is | rfl)
    (case g_MOST_STANDINGS => first | k_is | rfl)
    (case g_MOST_TICKS => first | k_is | rfl)
    (case g_SMALL => first | k_is | rfl)
    (case xa_NoStanding => first | k_is | rfl)
    (case xx_NoStanding => k_exc)
    (case xk_NoStanding => first | k_is | rfl)
    (case xs_NoStanding => first | k_is | rfl)
    (case xt_NoStanding => first | k_is | rfl)
    (case xa_NoRun => first | k_is | rfl)
    (case xx_NoRun => k_exc)
    (case xk_NoRun => first | k_is | rfl)
    (case xs_NoRun => first | k_is | rfl)
    (case xt_NoRun => first | k_is | rfl)
#print axioms PySem.Challenge.cw_stretchprices_k02_whole_runs_by_own_step_holds
