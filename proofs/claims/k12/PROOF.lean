import PyProof.Rows.All
import Wide.All
import OpenK.AllK
import Wide.FinOn
import HandS.ForMost
import HandS.ForExc
import HandS.Wide
import HandS.TryMany
import HandS.IsInst
import HandS.TupAny
import HandS.Walk
import HandS.Conv
import HandS.Small
import HandS.CallSlots
import HandS.FStr
import HandS.Zip
import KE.GoesEnum
import KE.KStrOpen
import PyProof.Rows.SortShellAny
import HandS.Exc
import PySem.Challenge.RW_stretchprices_k12_whole_stretches
set_option Elab.async false
set_option linter.all false
set_option maxRecDepth 100000
set_option maxHeartbeats 4000000


/-! ## G1: operators that look at their values, data, heaps that grow -/
namespace L2
open PySem PySem.Spec PyProof.Rows
section
variable {X : Cx}
theorem PSet.or {t t' : TSet} (h : PSet X t) (h' : PSet X t') : PSet X (fun o i v H Q => t o i v H Q ∨ t' o i v H Q) := by
  intro pins s σ H o i v ov iv u Q I r1 r2 r3 q
  rcases q with q | q
  · exact h pins s σ H o i v ov iv u Q I r1 r2 r3 q
  · exact h' pins s σ H o i v ov iv u Q I r1 r2 r3 q
theorem PIp.or {op : Operator} {t t' : TIp} (h : PIp X op t) (h' : PIp X op t') : PIp X op (fun x y H Q => t x y H Q ∨ t' x y H Q) := by
  intro pins s σ H x y v u Q I r1 r2 q
  rcases q with q | q
  · exact h pins s σ H x y v u Q I r1 r2 q
  · exact h' pins s σ H x y v u Q I r1 r2 q

/-! ### subscripts -/
def rIxD : R2 := fun x y H Q => ∃ a w, x = .ref a ∧ DGet H a y (some w) ∧ Q w H
theorem ix_dict (hu : X.A.units + 1 < cLine) : IxR X rIxD := by
  intro value slice pins s σ H x y v u Q I rx ry h hs
  obtain ⟨a, w, rfl, g, q⟩ := h
  cases rx
  exact tail_any (dict_typeIs I g) PySem.F.slot_dict_getitem.lookup (d_getItem hu I g ry fun w' s' I' rw' => ⟨w, H, I', rw', q⟩) hs
def rIxU (K : PySem.W.Frag) : R2 := fun x y H Q => rIx K x y H Q ∨ rIxD x y H Q
theorem ix_U {K : PySem.W.Frag} (hu : X.A.units + 1 < cLine) (hK : X.K = K := by rfl) : IxR X (rIxU K) := hK ▸ ix_seq.or (ix_dict hu)
def rSetU : TSet := fun o i v H Q => rSetL o i v H Q ∨ rSetD o i v H Q
theorem set_U (hu : X.A.units + 1 < cLine) : PSet X rSetU := set_list.or (set_dict hu)
def rSlU (K : PySem.W.Frag) : V → Option Int → Option Int → Hp → VK → Prop := fun x lo hi H Q => rSlL K x lo hi H Q ∨ (rSlA K x lo hi H Q ∨ rSlS x lo hi H Q)
theorem sl_U {K : PySem.W.Frag} (hK : X.K = K := by rfl) : SlR X (rSlU K) := hK ▸ sl_list.or (sl_tupA.or sl_str)

/-- a display, indexed: opened as one -/
def tOpP (r : R2) (ta tb : TE) : TE := tOp r ta tb
theorem pe_P {e : Expr} {r : R2} {ta tb : TE} (h : PE X e (tOp r ta tb)) : PE X e (tOpP r ta tb) := h
/-- the class C, or one above -/
theorem exm_of {K : PySem.W.Frag} {C D : Addr} {b : Bool} (h1 : PySem.W.subIn K (.ref D) (.type "BaseException") = some true) (h2 : PySem.W.isClsIn K D = true) (h3 : PySem.W.typeIn K (.ref D) = some (.type "type")) (h4 : PySem.W.subIn K (.ref C) (.ref D) = some b) :
    PySem.W.exmOne K (.ref C) (.ref D) = some b := by
  have e1 : (PySem.W.subIn K (.ref D) (.type "BaseException") == some true) = true := by rw [h1] <;> rfl
  have e2 : ((PySem.W.clsIn K D).isSome && PySem.W.typeIn K (.ref D) == some (.type "type")) = true := by
    have h2' : (PySem.W.clsIn K D).isSome = true := h2
    rw [h2', h3] <;> rfl
  show (if (PySem.W.subIn K (.ref D) (.type "BaseException") == some true) = true then (if ((PySem.W.clsIn K D).isSome && PySem.W.typeIn K (.ref D) == some (.type "type")) = true then PySem.W.subIn K (.ref C) (.ref D) else none) else none) = some b
  rw [if_pos e1, if_pos e2]
  exact h4
/-! ### operators -/
def rAddS : R2 := fun x y H Q => ∃ i j, x = .str i ∧ y = .str j ∧ i.length + j.length ≤ sizeLine ∧ Q (.str (i ++ j)) H
def rAddU (K : PySem.W.Frag) : R2 := fun x y H Q => rI0 (fun i j => .int (i + j)) x y H Q ∨ (rAddS x y H Q ∨ (rCat x y H Q ∨ rCatA K x y H Q))
theorem op_addU {K : PySem.W.Frag} (hK : X.K = K := by rfl) : OpR X (binaryOp .Add) (rAddU K) := hK ▸ op_add.or (OpR.or (r := rAddS) op_add_str (op_cat.or op_catA))
def rMulU : R2 := fun x y H Q => rI CMul (fun i j => .int (i * j)) x y H Q ∨ (rI CMulW (fun i j => .int (i * j)) x y H Q ∨ rRep x y H Q)
theorem op_mulU : OpR X (binaryOp .Mult) rMulU := op_mul.or (op_mulW.or op_rep)
def rModU : R2 := fun x y H Q => rI (fun _ j => 0 < j) (fun i j => .int (i % j)) x y H Q ∨ rI (fun _ j => j ≠ 0) (fun i j => .int (i.fmod j)) x y H Q
theorem op_modU : OpR X (binaryOp .Mod) rModU := op_mod.or op_modN
def rFdivU : R2 := fun x y H Q => rI CDiv (fun i j => .int (i / j)) x y H Q ∨ (rI CDivN (fun i j => .int (i.fdiv j)) x y H Q ∨ rI CDivW (fun i j => .int (i / j)) x y H Q)
theorem op_fdivU : OpR X (binaryOp .FloorDiv) rFdivU := op_fdiv.or (op_fdivN.or op_fdivW)
def rEqU (K : PySem.W.Frag) : R2 := fun x y H Q => rEq x y H Q ∨ rEqD K x y H Q
def rNeU (K : PySem.W.Frag) : R2 := fun x y H Q => rNe x y H Q ∨ rNeD K x y H Q
theorem op_eqU {K : PySem.W.Frag} (_ : X.A.units + 1 < cLine) (hu : X.A.units + 64 < cLine) (hK : X.K = K := by rfl) : OpR X (compareOp .Eq) (rEqU K) := hK ▸ op_eq.or (op_eqD hu)
theorem op_neU {K : PySem.W.Frag} (_ : X.A.units + 1 < cLine) (hu : X.A.units + 64 < cLine) (hK : X.K = K := by rfl) : OpR X (compareOp .NotEq) (rNeU K) := hK ▸ op_ne.or (op_neD hu)
def rCmpS (f : Str → Str → Bool) : R2 := fun x y H Q => ∃ i j, x = .str i ∧ y = .str j ∧ Q (.bl (f i j)) H
def rLtU : R2 := fun x y H Q => rI0 (fun i j => .bl (decide (i < j))) x y H Q ∨ rCmpS (fun i j => decide (i.cps.toList < j.cps.toList)) x y H Q
def rLeU : R2 := fun x y H Q => rI0 (fun i j => .bl (decide (i ≤ j))) x y H Q ∨ rCmpS (fun i j => !decide (j.cps.toList < i.cps.toList)) x y H Q
def rGtU : R2 := fun x y H Q => rI0 (fun i j => .bl (decide (j < i))) x y H Q ∨ rCmpS (fun i j => decide (j.cps.toList < i.cps.toList)) x y H Q
def rGeU : R2 := fun x y H Q => rI0 (fun i j => .bl (decide (j ≤ i))) x y H Q ∨ rCmpS (fun i j => !decide (i.cps.toList < j.cps.toList)) x y H Q
theorem op_ltU : OpR X (compareOp .Lt) rLtU := op_lt.or op_lt_str
theorem op_leU : OpR X (compareOp .LtE) rLeU := op_le.or op_le_str
theorem op_gtU : OpR X (compareOp .Gt) rGtU := op_gt.or op_gt_str
theorem op_geU : OpR X (compareOp .GtE) rGeU := op_ge.or op_ge_str
def rDIn (neg : Bool) : R2 := fun y x H Q => ∃ a o, x = .ref a ∧ DGet H a y o ∧ Q (.bl (if neg then !o.isSome else o.isSome)) H
theorem op_inDict (hu : X.A.units + 1 < cLine) : OpR X (compareOp .In) (rDIn false) := by
  intro pins s σ H x y v u Q I rx ry h
  obtain ⟨a, o, rfl, g, q⟩ := h
  cases ry
  exact d_in hu I g rx fun s' I' => ⟨.bl o.isSome, H, I', rfl, q⟩
theorem op_notInDict (hu : X.A.units + 1 < cLine) : OpR X (compareOp .NotIn) (rDIn true) := by
  intro pins s σ H x y v u Q I rx ry h
  obtain ⟨a, o, rfl, g, q⟩ := h
  cases ry
  exact d_notIn hu I g rx fun s' I' => ⟨.bl (!o.isSome), H, I', rfl, q⟩
def rSignIn (neg : Bool) : R2 := fun x y H Q => ∃ (c : Nat) (z : Str), x = .str ⟨#[c]⟩ ∧ y = .str z ∧ Q (.bl (if neg then !decide (c ∈ z.cps.toList) else decide (c ∈ z.cps.toList))) H
theorem op_inSign : OpR X (compareOp .In) (rSignIn false) := op_in_sign
theorem op_notInSign : OpR X (compareOp .NotIn) (rSignIn true) := op_notIn_sign
def rInU (K : PySem.W.Frag) (neg : Bool) : R2 := fun x y H Q => rSignIn neg x y H Q ∨ (rIn K neg x y H Q ∨ rDIn neg x y H Q)
theorem op_inU {K : PySem.W.Frag} (hu : X.A.units + 1 < cLine) (_ : X.A.units + 64 < cLine) (hK : X.K = K := by rfl) : OpR X (compareOp .In) (rInU K false) := hK ▸ op_inSign.or (op_in_seq.or (op_inDict hu))
theorem op_notInU {K : PySem.W.Frag} (hu : X.A.units + 1 < cLine) (_ : X.A.units + 64 < cLine) (hK : X.K = K := by rfl) : OpR X (compareOp .NotIn) (rInU K true) := hK ▸ op_notInSign.or (op_notIn_seq.or (op_notInDict hu))
def ipAddU : R2 := fun x y H Q => ipI (fun i j => i + j) x y H Q ∨ rAddS x y H Q
theorem ip_addU : PIp X .Add ipAddU := ip_add.or fun pins s σ H x y v u Q I rx ry h => iop_add_str pins s σ H x y v u Q I rx ry h
theorem ip_subU : PIp X .Sub (ipI fun i j => i - j) := ip_sub

/-! ### calls of built-ins -/
def rLenU (K : PySem.W.Frag) : List V → Hp → VK → Prop := fun xs H Q => (∃ x n, xs = [x] ∧ LenV K x H n ∧ Q (.int n) H) ∨ ∃ a kvs, xs = [V.ref a] ∧ H a = some (.dK kvs) ∧ Q (.int kvs.length) H
theorem call_lenU {K : PySem.W.Frag} (hK : X.K = K := by rfl) : CallR X (.builtin "len") (rLenU K) := hK ▸ call_len.or call_lenD
def rIsiU (K : PySem.W.Frag) : List V → Hp → VK → Prop := fun xs H Q => rIsi K xs H Q ∨ rIsiT K xs H Q
theorem call_isiU {K : PySem.W.Frag} (hK : X.K = K := by rfl) : CallR X (.builtin "isinstance") (rIsiU K) := hK ▸ call_isi.or call_isiT
def rIntU : List V → Hp → VK → Prop := fun xs H Q => (∃ i, xs = [.int i] ∧ Q (.int i) H) ∨ ∃ k, xs = [.bl k] ∧ Q (.int (if k then 1 else 0)) H
theorem call_intU : CallR X (.type "int") rIntU := call_int1
def rBoolU : List V → Hp → VK → Prop := fun xs H Q => (∃ i, xs = [.int i] ∧ Q (.bl (i != 0)) H) ∨ ∃ k, xs = [.bl k] ∧ Q (.bl k) H
theorem call_boolU : CallR X (.type "bool") rBoolU := call_bool1
def rStrU : List V → Hp → VK → Prop := fun xs H Q => ∃ i, xs = [.int i] ∧ i.natAbs.log2 < 1920 ∧ Q (.str (toString i)) H
theorem call_strU : CallR X (.type "str") rStrU := call_str_int
def rTupleU (K : PySem.W.Frag) : List V → Hp → VK → Prop := fun xs H Q => ∃ p ys, xs = [.ref p] ∧ ((SqL K H p ys ∧ ∀ l, H l = none → Q (.ref l) (upd H l (.tup ys))) ∨ (SqT K H p ys ∧ Q (.ref p) H))
theorem call_tupleU {K : PySem.W.Frag} (hK : X.K = K := by rfl) : CallR X (.type "tuple") (rTupleU K) := hK ▸ call_tuple_of
def rAbsU : List V → Hp → VK → Prop := fun xs H Q => ∃ i, xs = [.int i] ∧ Q (.int (if i < 0 then -i else i)) H
theorem call_absU : CallR X (.builtin "abs") rAbsU := call_abs
def rUpperU : V → List V → Hp → VK → Prop := fun x xs H Q => ∃ a, x = .str a ∧ xs = [] ∧ a.length ≤ 5592405 ∧ Q (.str (Txt.upper a)) H
theorem mt_upperU : MtR X "str.upper" rUpperU := mt_upper
def rStartU : V → List V → Hp → VK → Prop := fun x xs H Q => ∃ a b, x = .str a ∧ xs = [.str b] ∧ Q (.bl (Txt.startswith a b)) H
theorem mt_startswithU : MtR X "str.startswith" rStartU := mt_startswith
def rFindU : V → List V → Hp → VK → Prop := fun x xs H Q => ∃ a b, x = .str a ∧ xs = [.str b] ∧ Q (.int (Txt.find a b)) H
theorem mt_findU : MtR X "str.find" rFindU := mt_find
def rCountU : V → List V → Hp → VK → Prop := fun x xs H Q => ∃ a b, x = .str a ∧ xs = [.str b] ∧ Q (.int (Txt.count a b)) H
theorem mt_countU : MtR X "str.count" rCountU := mt_count
def rJoinU (K : PySem.W.Frag) : V → List V → Hp → VK → Prop := fun x xs H Q => ∃ a p, ∃ ys : List Str, x = .str a ∧ xs = [.ref p] ∧ (SqL K H p (ys.map V.str) ∨ SqT K H p (ys.map V.str)) ∧
  (ys.map (·.length)).sum + ys.length * a.length ≤ 16777216 ∧ Q (.str (Txt.join a ys)) H
theorem pe_joinU {K : PySem.W.Frag} {o e : Expr} {to te : TE} {apos pos : Pos} (ho : PE X o to) (he : PE X e te) (hK : X.K = K := by rfl) (hs : starEach [e] X.env = [(false, eval e X.env)] := by rfl) (hbase : attributeBase o "join" X.env (eval o X.env) = eval o X.env := by rfl) (hline : (apos.endLine == pos.line) = true := by rfl) :
    PE X (.Call (.Attribute o "join" apos) [e] [] pos) (tM1 (rJoinU K) to te) := hK ▸ pe_join ho he hs hbase hline
theorem pe_bmU {K : PySem.W.Frag} {T : String} {name : Str} {id : String} {r : V → List V → Hp → VK → Prop} {o e : Expr} {es : List Expr} {to : TE} {t : TA} {apos cpos : Pos} (pa : PlainAttrs T) (slot : Slot T name id) (hty : typeOf (.builtin id) = pure (.type "method_descriptor")) (hm : MtR X id r) (ho : PE X o to) (ha : PA X (e :: es) t) (hK : X.K = K := by rfl)
    (hbase : attributeBase o name X.env (eval o X.env) = eval o X.env := by rfl)
    (hfew : ((backTo cpos (starEach (e :: es) X.env)).all (fun x => !x.1) && (backToKw cpos (keywordEach [] X.env)).all (fun x => x.1.isSome)
      && decide ((e :: es).length + ([] : List Keyword).length + (if ([] : List Keyword).isEmpty then 0 else 1) < 30)) = true := by rfl)
    (hline : (apos.endLine == cpos.line) = true := by rfl) (hs : starEach (e :: es) X.env = (false, eval e X.env) :: starEach es X.env := by rfl) (hplain : (backTo cpos (starEach es X.env)).any (·.1) = false := by rfl) :
    PE X (.Call (.Attribute o name apos) (e :: es) [] cpos) (tBM K T r to t) := hK ▸ pe_bm pa slot hty hm ho ha hbase hfew hline hs hplain
theorem pe_bm0U {K : PySem.W.Frag} {T : String} {name : Str} {id : String} {r : V → List V → Hp → VK → Prop} {o : Expr} {to : TE} {apos cpos : Pos} (pa : PlainAttrs T) (slot : Slot T name id) (hty : typeOf (.builtin id) = pure (.type "method_descriptor")) (hm : MtR X id r) (ho : PE X o to) (hK : X.K = K := by rfl)
    (hbase : attributeBase o name X.env (eval o X.env) = eval o X.env := by rfl) (hline : (apos.endLine == cpos.line) = true := by rfl) : PE X (.Call (.Attribute o name apos) [] [] cpos) (tBM0 K T r to) := hK ▸ pe_bm0 pa slot hty hm ho hbase hline
def rListU (K : PySem.W.Frag) : List V → Hp → VK → Prop := fun xs H Q => (∃ p ys, xs = [.ref p] ∧ (SqL K H p ys ∨ SqT K H p ys) ∧ ∀ l, H l = none → Q (.ref l) (upd H l (.lst ys))) ∨ rListD xs H Q
theorem call_listU {K : PySem.W.Frag} (hK : X.K = K := by rfl) (hc : X.calm = true := by rfl) : CallR X (.type "list") (rListU K) := hK ▸ call_list_of.or (call_list_dK hc)
/-- sorted of texts, of any number -/
def rSortedSA (K : PySem.W.Frag) : List V → Hp → VK → Prop := fun vs H Q => ∃ (a : Addr) (xs : List Str), vs = [V.ref a] ∧ SqL K H a (xs.map V.str) ∧
  ∀ (p : Addr) (ys : List Str), H p = none → ys.Perm xs → PyProof.Rows.sortedS ys = true → Q (.ref p) (upd H p (.lst (ys.map V.str)))
theorem cr_sortedSA : CallR X (.builtin "sorted") (rSortedSA X.K) := by
  intro pins s σ H vs us Q I r h
  obtain ⟨a, xs, rfl, hs, q⟩ := h
  obtain ⟨its, rv, hl, hz⟩ := I.list hs
  rw [Vals.ref1 r]
  refine PyProof.Rows.sorted_strsAny hl.isList rv.strs (by rw [← rv.length]; exact hz) fun out ys h1 h2 h3 => ?_
  obtain ⟨ep, he'⟩ := PyProof.Rows.sortedAll_at s.heap its out
  have hlen : (ys.map V.str).length ≤ sizeLine := by
    rw [List.length_map, h2.length_eq]
    rw [List.length_map] at hz
    exact hz
  exact ⟨.ref _, upd H (s.heap.objs.size + 1) (.lst (ys.map V.str)), I.laid (t' := s.toks) (fun _ _ => PyProof.Rows.sortedAll_old) (Nat.le_succ _) ⟨hlen, out.toList, ep, vals_of_strs h1, he'⟩, rfl, q _ ys (I.hok.fresh (Nat.le_succ _)) h2 h3⟩
def rSortedU (K : PySem.W.Frag) : List V → Hp → VK → Prop := fun vs H Q => rSortedSA K vs H Q
theorem cr_sortedU {K : PySem.W.Frag} (hK : X.K = K := by rfl) : CallR X (.builtin "sorted") (rSortedU K) := hK ▸ cr_sortedSA
theorem cr_allU {K : PySem.W.Frag} (hK : X.K = K := by rfl) (hc : X.calm = true := by rfl) : CallR X (.builtin "all") (rAll K) := hK ▸ cr_all hc
theorem cr_anyU {K : PySem.W.Frag} (hK : X.K = K := by rfl) (hc : X.calm = true := by rfl) : CallR X (.builtin "any") (rAny K) := hK ▸ cr_any hc
theorem cr_sumU {K : PySem.W.Frag} (hK : X.K = K := by rfl) (hc : X.calm = true := by rfl) : CallR X (.builtin "sum") (rSum K) := hK ▸ cr_sum hc

/-! ### what is walked: a list, a tuple, a text -/
def iU (K : PySem.W.Frag) (te : TE) : TI := fun σ H R => te σ H fun v H1 => (∃ a, v = .ref a ∧ (∃ xs, SqL K H1 a xs) ∧ R (Itl K a) H1) ∨ ((∃ a, v = .ref a ∧ (∃ xs, SqT K H1 a xs) ∧ R (Itt K a) H1) ∨ ∃ x, v = .str x ∧ R (Its x) H1)
theorem pi_U {K : PySem.W.Frag} {tg l : Expr} {tl : TE} (hl : PE X l tl) (hK : X.K = K := by rfl) : PI X tg l (iU K tl) := by
  subst hK
  refine ⟨fun pins s σ H R I h => ?_⟩
  refine thn (hl.run pins s σ H _ I h) fun v s1 ⟨x, H1, I1, r1, q1⟩ => ?_
  rcases q1 with ⟨a, e, ⟨xs, hq⟩, q⟩ | ⟨a, e, ⟨xs, hq⟩, q⟩ | ⟨z, e, q⟩
  · subst e
    cases r1
    obtain ⟨its, rv, p, hz⟩ := I1.list hq
    refine wpAny_pyIter_list p.isList ?_
    refine ⟨s1.heap.objs.size, [s1.heap.objs.size], _, _, H1, rfl, I1.kept (t' := s1.toks) fun b o e => Heap.get?_push_of_some _ e, turn_list a _, ⟨_, Heap.get?_push_size _ rfl, rfl, rfl⟩, fun b hb => ?_, q⟩
    have e : b = s1.heap.objs.size := by simpa using hb
    subst e
    exact I1.fpOk (Nat.le_refl _) (I1.hok.fresh (Nat.le_refl _))
  · subst e
    cases r1
    obtain ⟨its, rv, p, hz⟩ := I1.tuple hq
    refine wpAny_pyIter_tuple (show s1.heap.IsTuple a its.toArray from p) ?_
    refine ⟨s1.heap.objs.size, [s1.heap.objs.size], _, _, H1, rfl, I1.kept (t' := s1.toks) fun b o e => Heap.get?_push_of_some _ e, turn_tuple a _, ⟨_, Heap.get?_push_size _ rfl, rfl, rfl⟩, fun b hb => ?_, q⟩
    have e : b = s1.heap.objs.size := by simpa using hb
    subst e
    exact I1.fpOk (Nat.le_refl _) (I1.hok.fresh (Nat.le_refl _))
  · subst e
    obtain ⟨t, rfl⟩ := r1
    cases ha : z.cps.all (· < 128)
    · exact wpAny_pyIter_wide ha (pi_one (tk := s1.toks) I1 _ (turn_str _ z t "str_iterator" (.inr rfl)) ⟨_, Heap.get?_push_size _ rfl, rfl, rfl⟩ q)
    · exact wpAny_pyIter_ascii ha (pi_one (tk := s1.toks) I1 _ (turn_str _ z t "str_ascii_iterator" (.inl rfl)) ⟨_, Heap.get?_push_size _ rfl, rfl, rfl⟩ q)
/-- an own exception's class, of those below ValueError, without own __init__ -/
structure ExcAt (K : PySem.W.Frag) (mg : Str → Option Value) (x : Str) where
  C : Addr
  gC : mg x = some (.ref C)
  ex : PySem.W.excIn K C [.type "ValueError", .type "Exception", .type "BaseException", .type "object"] "ValueError.__new__" = true
  kC : PySem.W.keepIn K (.ref C) = true
  sb : PySem.W.subIn K (.ref C) (.type "BaseException") = some true
  ty : PySem.W.typeIn K (.ref C) = some (.type "type")
/-- X() -/
theorem pmk_own0 {x : Str} {p pos : Pos} (T : ExcAt X.K X.mg x) (hg : Gl X x) (hdb : (x == ("__debug__" : Str)) = false := by decide) : PMk X (.Call (.Name x p) [] [] pos) (fun _ H Q => Q (.ref T.C) none H) := by
  intro pins s σ H Q I h
  refine wpAny_Call_Name_kw (ld_glob I hg T.gC ?_ hdb)
  refine PySem.W.callWith_K0 I.kIn T.kC ?_
  show wpAny _ _ (call (.ref T.C) []) _ _ _
  obtain ⟨bm, N, nm, qn, bs, hdct, sn, sub, ab, col, dd, k0, k1, k2, k3, k5, mN, hC, hN, hni, T'⟩ := exc_obj I.kIn T.ex
  refine wpAny_call_exc_subT PySem.F.excBase_ValueError T' hC hN hni (fun h' e hm => ?_) (Nat.zero_le _)
  exact mk_of I hm (raises_own T.sb T.ty) h (I.hok.gone hm.new)
/-- a def of the text, where the top has left it -/
structure DefAt (K : PySem.W.Frag) (mg : Str → Option Value) (x qual : Str) (st : Stmt) (ps : List Str) where
  f : Addr
  fd : FuncData
  F : Fun K x qual st f fd
  mg : mg x = some (.ref f)
  bd : Binds K fd ps []
theorem DefAt.kp {K : PySem.W.Frag} {mg : Str → Option Value} {x qual : Str} {st : Stmt} {ps : List Str} (D : DefAt K mg x qual st ps) : PySem.W.keepIn K (.ref D.f) = true := D.F.kp
end
end L2

/-! ## G2: data, heaps that grow, steps -/
namespace L2
open PySem PySem.Spec PyProof.Rows

/-! ### heaps -/
def kindO : HO → Nat
  | .lst _ => 0
  | .tup _ => 1
  | .dK _ => 2
  | .dT _ => 3
  | .set _ _ => 4
  | .ins _ _ _ => 5
  | .own _ => 6
  | .xd _ => 7
  | .met _ _ => 8
  | .rng _ _ => 9
  | .frz _ _ => 10
  | .tbl _ => 11
  | .ext _ => 12
/-- H has become H'; at most the objects of S have changed, each of its kind -/
structure Ev (S : List Addr) (H H' : Hp) : Prop where
  keep : ∀ b o, H b = some o → b ∉ S → H' b = some o
  tups : ∀ b xs, H b = some (.tup xs) → H' b = some (.tup xs)
  frzs : ∀ b o u, H b = some (.frz o u) → H' b = some (.frz o u)
  kind : ∀ b o, H b = some o → ∃ o', H' b = some o' ∧ kindO o' = kindO o
section
variable {S S' : List Addr} {H H1 H2 : Hp} {p b : Addr} {o o' : HO}
theorem Ev.refl : Ev S H H := ⟨fun _ _ h _ => h, fun _ _ h => h, fun _ _ _ h => h, fun _ o h => ⟨o, h, rfl⟩⟩
theorem Ev.trans (a : Ev S H H1) (b : Ev S H1 H2) : Ev S H H2 :=
  ⟨fun c o h n => b.keep c o (a.keep c o h n) n, fun c xs h => b.tups c xs (a.tups c xs h), fun c o u h => b.frzs c o u (a.frzs c o u h), fun c o h => by
    obtain ⟨o1, h1, e1⟩ := a.kind c o h
    obtain ⟨o2, h2, e2⟩ := b.kind c o1 h1
    exact ⟨o2, h2, e2.trans e1⟩⟩
theorem Ev.mono (a : Ev S H H1) (h : ∀ x ∈ S, x ∈ S') : Ev S' H H1 := ⟨fun c o e n => a.keep c o e fun m => n (h c m), a.tups, a.frzs, a.kind⟩
theorem Ev.nil (a : Ev [] H H1) : Ev S H H1 := a.mono fun _ h => nomatch h
theorem Ev.new (h : H p = none) : Ev S H (upd H p o) :=
  ⟨fun c o e _ => by rw [upd_ne (ne_of_none e h)]; exact e, fun c xs e => by rw [upd_ne (ne_of_none e h)]; exact e, fun c _ _ e => by rw [upd_ne (ne_of_none e h)]; exact e, fun c o e => ⟨o, by rw [upd_ne (ne_of_none e h)]; exact e, rfl⟩⟩
theorem Ev.put (h : H p = some o) (k : kindO o' = kindO o) (n1 : kindO o ≠ 1) (n2 : kindO o ≠ 10) : Ev [p] H (upd H p o') where
  keep := fun c u e n => by rw [upd_ne (by simpa using n)]; exact e
  tups := fun c xs e => by
    have : c ≠ p := by
      rintro rfl
      rw [h] at e; cases e; exact n1 rfl
    rw [upd_ne this]; exact e
  frzs := fun c w u e => by
    have : c ≠ p := by
      rintro rfl
      rw [h] at e; cases e; exact n2 rfl
    rw [upd_ne this]; exact e
  kind := fun c u e => by
    by_cases q : c = p
    · subst q
      rw [h] at e; cases e
      exact ⟨_, upd_same, k⟩
    · exact ⟨u, by rw [upd_ne q]; exact e, rfl⟩
/-- what was not there at the beginning may change -/
theorem Ev.fresh (a : Ev S H H1) (n : H p = none) (b : Ev (p :: S) H1 H2) : Ev S H H2 :=
  ⟨fun c o e m => b.keep c o (a.keep c o e m) (by
    intro q
    rcases List.mem_cons.mp q with q | q
    · subst q; rw [n] at e; cases e
    · exact m q), fun c xs e => b.tups c xs (a.tups c xs e), fun c o u e => b.frzs c o u (a.frzs c o u e), fun c o h => by
    obtain ⟨o1, h1, e1⟩ := a.kind c o h
    obtain ⟨o2, h2, e2⟩ := b.kind c o1 h1
    exact ⟨o2, h2, e2.trans e1⟩⟩
theorem Ev.none (a : Ev S H H1) (h : H1 b = none) : H b = none := by
  cases q : H b with
  | none => rfl
  | some o =>
    obtain ⟨_, e, _⟩ := a.kind b o q
    rw [h] at e; cases e
theorem Ev.sqT {K : PySem.W.Frag} {a : Addr} {xs : List V} (e : Ev S H H1) (h : SqT K H a xs) : SqT K H1 a xs := by
  rcases h with (h | ⟨o, h⟩) | h
  · exact .inl (.inl (e.tups _ _ h))
  · exact .inl (.inr ⟨o, e.frzs _ _ _ h⟩)
  · exact .inr h
theorem Ev.sqL {K : PySem.W.Frag} {a : Addr} {xs : List V} (e : Ev S H H1) (h : SqL K H a xs) (n : a ∉ S) : SqL K H1 a xs := by
  rcases h with (h | ⟨o, h⟩) | h
  · exact .inl (.inl (e.keep _ _ h n))
  · exact .inl (.inr ⟨o, e.frzs _ _ _ h⟩)
  · exact .inr h
/-- a locked list -/
theorem Ev.sqLf {K : PySem.W.Frag} {a : Addr} {o : Obj} {xs : List V} (e : Ev S H H1) (h : H a = some (.frz o (.lst xs))) : SqL K H1 a xs := .inl (.inr ⟨o, e.frzs _ _ _ h⟩)
end

/-! ### data without lists and dicts; these are leaves -/
inductive Da where
  | non | bl (b : Bool) | int (i : Int) | str (s : Str) | tup (l : List Da) | lst | dct
def IsDct (H : Hp) (a : Addr) : Prop := ∃ o, H a = some o ∧ (kindO o = 2 ∨ kindO o = 3)
mutual
inductive Th (K : PySem.W.Frag) (H : Hp) : V → Da → Prop
  | non : Th K H .non .non
  | bl (b : Bool) : Th K H (.bl b) (.bl b)
  | int (i : Int) : Th K H (.int i) (.int i)
  | str (x : Str) : Th K H (.str x) (.str x)
  | tup {a : Addr} {xs : List V} {ds : List Da} : SqT K H a xs → ThAll K H xs ds → Th K H (.ref a) (.tup ds)
  | lst {a : Addr} {o : HO} : H a = some o → kindO o = 0 → Th K H (.ref a) .lst
  | dct {a : Addr} {o : HO} : H a = some o → (kindO o = 2 ∨ kindO o = 3) → Th K H (.ref a) .dct
inductive ThAll (K : PySem.W.Frag) (H : Hp) : List V → List Da → Prop
  | nil : ThAll K H [] []
  | cons {v : V} {vs : List V} {d : Da} {ds : List Da} : Th K H v d → ThAll K H vs ds → ThAll K H (v :: vs) (d :: ds)
end
section
variable {K : PySem.W.Frag} {S : List Addr} {H H1 : Hp} {v : V} {vs : List V} {d : Da} {ds : List Da}
mutual
theorem Th.ev (e : Ev S H H1) : ∀ (d : Da) (v : V), Th K H v d → Th K H1 v d
  | .non, _, h => by cases h; exact .non
  | .bl b, _, h => by cases h; exact .bl b
  | .int i, _, h => by cases h; exact .int i
  | .str x, _, h => by cases h; exact .str x
  | .tup ds, _, h => by
    cases h with
    | tup q r => exact .tup (e.sqT q) (ThAll.ev e ds _ r)
  | .lst, _, h => by
    cases h with
    | lst q r =>
      obtain ⟨o', q', k⟩ := e.kind _ _ q
      exact .lst q' (k.trans r)
  | .dct, _, h => by
    cases h with
    | dct q r =>
      obtain ⟨o', q', k⟩ := e.kind _ _ q
      exact .dct q' (by rw [k]; exact r)
theorem ThAll.ev (e : Ev S H H1) : ∀ (ds : List Da) (vs : List V), ThAll K H vs ds → ThAll K H1 vs ds
  | [], _, h => by cases h; exact .nil
  | d :: ds, _, h => by
    cases h with
    | cons p q => exact .cons (Th.ev e d _ p) (ThAll.ev e ds _ q)
end
theorem Ev.th (e : Ev S H H1) (h : Th K H v d) : Th K H1 v d := Th.ev e d v h
theorem Ev.thAll (e : Ev S H H1) (h : ThAll K H vs ds) : ThAll K H1 vs ds := ThAll.ev e ds vs h
theorem ThAll.length : ∀ {vs : List V} {ds : List Da}, ThAll K H vs ds → vs.length = ds.length
  | _, _, .nil => rfl
  | _, _, .cons _ q => congrArg (· + 1) q.length
theorem ThAll.get : ∀ {vs : List V} {ds : List Da} {i : Nat} {d : Da}, ThAll K H vs ds → ds[i]? = some d → ∃ v, vs[i]? = some v ∧ Th K H v d
  | _, _, i, d, .nil, e => by simp at e
  | _, _, 0, d, .cons p q, e => by simp at e; subst e; exact ⟨_, rfl, p⟩
  | _, _, i + 1, d, .cons p q, e => by
    obtain ⟨v, h1, h2⟩ := ThAll.get (i := i) q (by simpa using e)
    exact ⟨v, by simpa using h1, h2⟩
theorem ThAll.getV : ∀ {vs : List V} {ds : List Da} {i : Nat} {v : V}, ThAll K H vs ds → vs[i]? = some v → ∃ d, ds[i]? = some d ∧ Th K H v d
  | _, _, i, d, .nil, e => by simp at e
  | _, _, 0, d, .cons p q, e => by simp at e; subst e; exact ⟨_, rfl, p⟩
  | _, _, i + 1, d, .cons p q, e => by
    obtain ⟨v, h1, h2⟩ := ThAll.getV (i := i) q (by simpa using e)
    exact ⟨v, by simpa using h1, h2⟩
theorem ThAll.app : ∀ {vs ws : List V} {ds es : List Da}, ThAll K H vs ds → ThAll K H ws es → ThAll K H (vs ++ ws) (ds ++ es)
  | _, _, _, _, .nil, q => q
  | _, _, _, _, .cons p r, q => .cons p (r.app q)
theorem ThAll.ints : ∀ l : List Int, ThAll K H (l.map V.int) (l.map Da.int)
  | [] => .nil
  | i :: l => .cons (.int i) (ThAll.ints l)
theorem ThAll.strs : ∀ l : List Str, ThAll K H (l.map V.str) (l.map Da.str)
  | [] => .nil
  | i :: l => .cons (.str i) (ThAll.strs l)
/-- the type of a thing -/
def tyD : Da → String
  | .non => "NoneType"
  | .bl _ => "bool"
  | .int _ => "int"
  | .str _ => "str"
  | .tup _ => "tuple"
  | .lst => "list"
  | .dct => "dict"
theorem SqT.ty {a : Addr} {xs : List V} (h : SqT K H a xs) : TyX K H (.ref a) (.type "tuple") := by
  rcases h with (h | ⟨o, h⟩) | ⟨o, its, n, h, c, _⟩
  · exact .base (.tup h)
  · exact .fTuple h
  · exact .kTuple h c
theorem Th.ty (h : Th K H v d) : TyX K H v (.type (tyD d)) := by
  cases h with
  | non => exact .base .non
  | bl b => exact .base (.bl b)
  | int i => exact .base (.int i)
  | str x => exact .base (.str x)
  | tup q r => exact q.ty
  | @lst a o q r =>
    cases o <;> simp [kindO] at r
    exact .base (.lst q)
  | @dct a o q r =>
    cases o <;> simp [kindO] at r
    · exact .base (.dK q)
    · exact .base (.dT q)
end

/-! ### steps -/
section
variable {K : PySem.W.Frag} {σ : St} {H : Hp} {Q : VK} {ta tb tc te : TE} {t : TA} {r r' : R2} {n : St → Hp → Prop} {rt : VK} {bk ct : St → Hp → Prop} {i j : Int} {x y v : V} {s z : Str} {b : Bool} {D : Ends} {t1 t2 : TS} {c c2 : TT} {QB : Bool → Hp → Prop} {QA : List V → Hp → Prop} {g : TG}
theorem y_var {i : Nat} (h : σ[i]? = some (some v)) (q : Q v H) : tVar i σ H Q := ⟨v, h, q⟩
theorem y_c (q : Q v H) : tC v σ H Q := q
theorem y_op (q : ta σ H fun x H1 => tb σ H1 fun y H2 => r x y H2 Q) : tOp r ta tb σ H Q := q
theorem y_un {ru : V → Hp → VK → Prop} (q : ta σ H fun x H1 => ru x H1 Q) : tUn ru ta σ H Q := q
theorem y_neg (q : Q (.int (-i)) H) : rU (fun i => .int (-i)) (.int i) H Q := ⟨i, rfl, q⟩
theorem y_nil (q : QA [] H) : tNil σ H QA := q
theorem y_cons (q : ta σ H fun x H1 => t σ H1 fun xs H2 => QA (x :: xs) H2) : tCons ta t σ H QA := q
theorem y_cb {rr : List V → Hp → VK → Prop} (q : t σ H fun vs H1 => rr vs H1 Q) : tCB rr t σ H Q := q
theorem y_seq (q : t1 ⟨fun σ H => t2 ⟨n, rt, bk, ct⟩ σ H, rt, bk, ct⟩ σ H) : tSeq t1 t2 ⟨n, rt, bk, ct⟩ σ H := q
theorem y_seqM (mid : St → Hp → Prop) (h2 : ∀ σ H, mid σ H → t2 ⟨n, rt, bk, ct⟩ σ H) (h1 : ∀ N : St → Hp → Prop, (∀ σ H, mid σ H → N σ H) → t1 ⟨N, rt, bk, ct⟩ σ H) : tSeq t1 t2 ⟨n, rt, bk, ct⟩ σ H := h1 _ h2
theorem y_next (q : n σ H) : tNext ⟨n, rt, bk, ct⟩ σ H := q
theorem y_set {i : Nat} (q : te σ H fun x H1 => n (σ.set i (some x)) H1) : tAsg te (gName i) ⟨n, rt, bk, ct⟩ σ H := q
theorem y_asg (q : te σ H fun x H1 => g x σ H1 n) : tAsg te g ⟨n, rt, bk, ct⟩ σ H := q
theorem y_gname {i : Nat} {QG : St → Hp → Prop} (q : QG (σ.set i (some x)) H) : gName i x σ H QG := q
theorem y_gsub {to ti : TE} {ts : TSet} {QG : St → Hp → Prop} (q : to σ H fun o H1 => ti σ H1 fun i H2 => ts o i v H2 fun H3 => QG σ H3) : gSub to ti ts v σ H QG := q
theorem y_gtup {m : Nat} {tg : TGs} {QG : St → Hp → Prop} {a : Addr} {xs : List V} (h : SqT K H a xs) (l : xs.length = m) (q : tg xs σ H QG) : gTup K m tg (.ref a) σ H QG := ⟨a, xs, rfl, h, l, q⟩
theorem y_gcons {tg : TG} {u : TGs} {QG : St → Hp → Prop} {vs : List V} (q : tg v σ H fun σ' H' => u vs σ' H' QG) : gCons tg u (v :: vs) σ H QG := ⟨v, vs, rfl, q⟩
theorem y_gnil {QG : St → Hp → Prop} (q : QG σ H) : gNil [] σ H QG := ⟨rfl, q⟩
theorem y_drop (q : te σ H fun _ H1 => n σ H1) : tDrop te ⟨n, rt, bk, ct⟩ σ H := q
theorem y_ret (q : te σ H rt) : tRet te ⟨n, rt, bk, ct⟩ σ H := q
theorem y_retN (q : rt .non H) : tRetN ⟨n, rt, bk, ct⟩ σ H := q
theorem y_brk (q : bk σ H) : tBreak ⟨n, rt, bk, ct⟩ σ H := q
theorem y_cont (q : ct σ H) : tCont ⟨n, rt, bk, ct⟩ σ H := q
theorem y_if (q : c σ H fun b H1 => if b = true then t1 D σ H1 else t2 D σ H1) : tIfS c t1 t2 D σ H := q
theorem y_ifE (q : c σ H fun b H1 => if b = true then ta σ H1 Q else tb σ H1 Q) : tIf c ta tb σ H Q := q
theorem y_test (q : ta σ H fun x H1 => ∃ k, x = .bl k ∧ QB k H1) : tTest ta σ H QB := q
theorem y_tB (q : ta σ H fun x H1 => ∃ k, x = .bl k ∧ QB k H1) : tB ta σ H QB := q
theorem y_isbl (q : QB b H) : ∃ k, V.bl b = .bl k ∧ QB k H := ⟨b, rfl, q⟩
theorem y_not (q : c σ H fun k H1 => QB (!k) H1) : tNot c σ H QB := q
theorem y_notV (q : ta σ H fun x H1 => ∃ k, x = .bl k ∧ Q (.bl (!k)) H1) : tNotV ta σ H Q := q
theorem y_and (q : c σ H fun k H1 => if k = true then c2 σ H1 QB else QB false H1) : tAnd c c2 σ H QB := q
theorem y_or (q : c σ H fun k H1 => if k = true then QB true H1 else c2 σ H1 QB) : tOr c c2 σ H QB := q
theorem y_andV (q : ta σ H fun x H1 => ∃ k, x = .bl k ∧ if k = true then tb σ H1 Q else Q (.bl false) H1) : tAndV ta tb σ H Q := q
theorem y_orV (q : ta σ H fun x H1 => ∃ k, x = .bl k ∧ if k = true then Q (.bl true) H1 else tb σ H1 Q) : tOrV ta tb σ H Q := q
theorem y_isblP {P : Bool → Prop} (q : P b) : ∃ k, V.bl b = .bl k ∧ P k := ⟨b, rfl, q⟩
theorem y_chain (q : ta σ H fun x H1 => tb σ H1 fun y H2 => r x y H2 fun z H3 => ∃ k, z = .bl k ∧ if k = true then tc σ H3 fun u H4 => r' y u H4 Q else Q (.bl false) H3) : tChain r r' ta tb tc σ H Q := q
theorem y_iteT {A B : Prop} (h : b = true) (q : A) : if b = true then A else B := by rw [if_pos h]; exact q
theorem y_iteF {A B : Prop} (h : b = false) (q : B) : if b = true then A else B := by rw [if_neg (by rw [h]; decide)]; exact q
theorem y_ite {A B : Prop} (p : b = true → A) (q : b = false → B) : if b = true then A else B := by
  cases b with
  | true => rw [if_pos rfl]; exact p rfl
  | false => rw [if_neg (by decide)]; exact q rfl
/-! operators by their values -/
theorem y_addI (q : Q (.int (i + j)) H) : rAddU K (.int i) (.int j) H Q := .inl ⟨i, j, rfl, rfl, q⟩
theorem y_addS (h : s.length + z.length ≤ sizeLine) (q : Q (.str (s ++ z)) H) : rAddU K (.str s) (.str z) H Q := .inr (.inl ⟨s, z, rfl, rfl, h, q⟩)
theorem y_subI (q : Q (.int (i - j)) H) : rI0 (fun i j => .int (i - j)) (.int i) (.int j) H Q := ⟨i, j, rfl, rfl, q⟩
theorem y_mulI (h : CMul i j) (q : Q (.int (i * j)) H) : rMulU (.int i) (.int j) H Q := .inl ⟨i, j, rfl, rfl, h, q⟩
theorem y_modI (h : 0 < j) (q : Q (.int (i % j)) H) : rModU (.int i) (.int j) H Q := .inl ⟨i, j, rfl, rfl, h, q⟩
theorem y_fdivI (h : CDiv i j) (q : Q (.int (i / j)) H) : rFdivU (.int i) (.int j) H Q := .inl ⟨i, j, rfl, rfl, h, q⟩
theorem y_powI (h : CPow i j) (q : Q (.int (i ^ j.toNat)) H) : rI CPow (fun i j => .int (i ^ j.toNat)) (.int i) (.int j) H Q := ⟨i, j, rfl, rfl, h, q⟩
theorem y_ltI (q : Q (.bl (decide (i < j))) H) : rLtU (.int i) (.int j) H Q := .inl ⟨i, j, rfl, rfl, q⟩
theorem y_leI (q : Q (.bl (decide (i ≤ j))) H) : rLeU (.int i) (.int j) H Q := .inl ⟨i, j, rfl, rfl, q⟩
theorem y_gtI (q : Q (.bl (decide (j < i))) H) : rGtU (.int i) (.int j) H Q := .inl ⟨i, j, rfl, rfl, q⟩
theorem y_geI (q : Q (.bl (decide (j ≤ i))) H) : rGeU (.int i) (.int j) H Q := .inl ⟨i, j, rfl, rfl, q⟩
theorem y_ltS (q : Q (.bl (decide (s.cps.toList < z.cps.toList))) H) : rLtU (.str s) (.str z) H Q := .inr ⟨s, z, rfl, rfl, q⟩
theorem y_geS (q : Q (.bl (!decide (s.cps.toList < z.cps.toList))) H) : rGeU (.str s) (.str z) H Q := .inr ⟨s, z, rfl, rfl, q⟩
theorem y_eqI (q : Q (.bl (decide (i = j))) H) : rEqU K (.int i) (.int j) H Q := .inl ⟨rfl, by
  have e : decide (V.int i = V.int j) = decide (i = j) := by simp
  rw [e]; exact q⟩
theorem y_neI (q : Q (.bl (!decide (i = j))) H) : rNeU K (.int i) (.int j) H Q := .inl ⟨rfl, by
  have e : decide (V.int i = V.int j) = decide (i = j) := by simp
  rw [e]; exact q⟩
theorem y_eqS (q : Q (.bl (decide (s = z))) H) : rEqU K (.str s) (.str z) H Q := .inl ⟨rfl, by
  have e : decide (V.str s = V.str z) = decide (s = z) := by simp
  rw [e]; exact q⟩
theorem y_neS (q : Q (.bl (!decide (s = z))) H) : rNeU K (.str s) (.str z) H Q := .inl ⟨rfl, by
  have e : decide (V.str s = V.str z) = decide (s = z) := by simp
  rw [e]; exact q⟩
theorem y_inS {c : Nat} (q : Q (.bl (decide (c ∈ z.cps.toList))) H) : rInU K false (.str ⟨#[c]⟩) (.str z) H Q := .inl ⟨c, z, rfl, rfl, q⟩
theorem y_notInS {c : Nat} (q : Q (.bl (!decide (c ∈ z.cps.toList))) H) : rInU K true (.str ⟨#[c]⟩) (.str z) H Q := .inl ⟨c, z, rfl, rfl, q⟩
/-! built-ins -/
theorem y_lenS (h : s.length ≤ sizeLine) (q : Q (.int s.length) H) : rLenU K [.str s] H Q := .inl ⟨_, _, rfl, ⟨h, rfl⟩, q⟩
theorem y_lenL {a : Addr} {xs : List V} (h : SqL K H a xs) (q : Q (.int xs.length) H) : rLenU K [.ref a] H Q := .inl ⟨_, _, rfl, .inl ⟨xs, h, rfl⟩, q⟩
theorem y_lenT {a : Addr} {xs : List V} (h : SqT K H a xs) (q : Q (.int xs.length) H) : rLenU K [.ref a] H Q := .inl ⟨_, _, rfl, .inr ⟨xs, h, rfl⟩, q⟩
theorem y_intI (q : Q (.int i) H) : rIntU [.int i] H Q := .inl ⟨i, rfl, q⟩
theorem y_abs (q : Q (.int (if i < 0 then -i else i)) H) : rAbsU [.int i] H Q := ⟨i, rfl, q⟩
theorem y_isi {d : Da} {T : String} {k : Bool} (h : Th K H v d) (e : kitB (tyD d) T = some k) (q : Q (.bl k) H) : rIsiU K [v, .ty T] H Q := .inl ⟨v, .ty T, _, _, k, rfl, .ty T, h.ty, kit_ty e, q⟩
/-! subscripts -/
theorem y_ixL {a : Addr} {xs : List V} (h : SqL K H a xs) (e : atI xs i = some v) (q : Q v H) : rIxU K (.ref a) (.int i) H Q := .inl (.inl ⟨a, xs, i, v, rfl, rfl, h, e, q⟩)
theorem y_ixT {a : Addr} {xs : List V} (h : SqT K H a xs) (e : atI xs i = some v) (q : Q v H) : rIxU K (.ref a) (.int i) H Q := .inl (.inr (.inl ⟨a, xs, i, v, rfl, rfl, h, e, q⟩))
theorem y_ixS {c : Nat} (h : s.length ≤ sizeLine) (e : atI s.cps.toList i = some c) (q : Q (.str ⟨#[c]⟩) H) : rIxU K (.str s) (.int i) H Q := .inl (.inr (.inr ⟨s, i, c, rfl, rfl, h, e, q⟩))
theorem y_setL {a : Addr} {xs : List V} {k : Nat} {QG : Hp → Prop} (h : H a = some (.lst xs)) (e : ixN xs.length i = some k) (q : QG (upd H a (.lst (xs.set k v)))) : rSetU (.ref a) (.int i) v H QG := .inl ⟨a, xs, i, k, rfl, rfl, h, e, q⟩
/-! made things: the heap behind is told by what is known of it -/
theorem y_tup {xs : List V} (l : xs.length ≤ sizeLine) (q : ∀ p H', H p = none → H' p = some (.tup xs) → Ev [] H H' → Q (.ref p) H') : xs.length ≤ sizeLine ∧ ∀ p, H p = none → Q (.ref p) (upd H p (.tup xs)) := ⟨l, fun p h => q p _ h upd_same (Ev.new h)⟩
theorem y_new {o : HO} {P : V → Hp → Prop} (q : ∀ p H', H p = none → H' p = some o → Ev [] H H' → P (.ref p) H') : ∀ p, H p = none → P (.ref p) (upd H p o) := fun p h => q p _ h upd_same (Ev.new h)
end
end L2

/-! ## G3: loops and comprehensions, what a value is -/
namespace L2
open PySem PySem.Spec PyProof.Rows
def dInt : Da → Bool
  | .int _ => true
  | .bl _ => true
  | _ => false
def dBl : Da → Bool
  | .bl _ => true
  | _ => false
def dStr : Da → Bool
  | .str _ => true
  | _ => false
def dTup : Da → Bool
  | .tup _ => true
  | _ => false
def dLst : Da → Bool
  | .lst => true
  | _ => false
def dDct : Da → Bool
  | .dct => true
  | _ => false
theorem kit_int : ∀ d : Da, kitB (tyD d) "int" = some (dInt d)
  | .non => (by decide +kernel : kitB "NoneType" "int" = some false)
  | .bl b => (by decide +kernel : kitB "bool" "int" = some true)
  | .int i => (by decide +kernel : kitB "int" "int" = some true)
  | .str x => (by decide +kernel : kitB "str" "int" = some false)
  | .tup l => (by decide +kernel : kitB "tuple" "int" = some false)
  | .lst => (by decide +kernel : kitB "list" "int" = some false)
  | .dct => (by decide +kernel : kitB "dict" "int" = some false)
theorem kit_bl : ∀ d : Da, kitB (tyD d) "bool" = some (dBl d)
  | .non => (by decide +kernel : kitB "NoneType" "bool" = some false)
  | .bl b => (by decide +kernel : kitB "bool" "bool" = some true)
  | .int i => (by decide +kernel : kitB "int" "bool" = some false)
  | .str x => (by decide +kernel : kitB "str" "bool" = some false)
  | .tup l => (by decide +kernel : kitB "tuple" "bool" = some false)
  | .lst => (by decide +kernel : kitB "list" "bool" = some false)
  | .dct => (by decide +kernel : kitB "dict" "bool" = some false)
theorem kit_str : ∀ d : Da, kitB (tyD d) "str" = some (dStr d)
  | .non => (by decide +kernel : kitB "NoneType" "str" = some false)
  | .bl b => (by decide +kernel : kitB "bool" "str" = some false)
  | .int i => (by decide +kernel : kitB "int" "str" = some false)
  | .str x => (by decide +kernel : kitB "str" "str" = some true)
  | .tup l => (by decide +kernel : kitB "tuple" "str" = some false)
  | .lst => (by decide +kernel : kitB "list" "str" = some false)
  | .dct => (by decide +kernel : kitB "dict" "str" = some false)
theorem kit_tup : ∀ d : Da, kitB (tyD d) "tuple" = some (dTup d)
  | .non => (by decide +kernel : kitB "NoneType" "tuple" = some false)
  | .bl b => (by decide +kernel : kitB "bool" "tuple" = some false)
  | .int i => (by decide +kernel : kitB "int" "tuple" = some false)
  | .str x => (by decide +kernel : kitB "str" "tuple" = some false)
  | .tup l => (by decide +kernel : kitB "tuple" "tuple" = some true)
  | .lst => (by decide +kernel : kitB "list" "tuple" = some false)
  | .dct => (by decide +kernel : kitB "dict" "tuple" = some false)
theorem kit_lst : ∀ d : Da, kitB (tyD d) "list" = some (dLst d)
  | .non => (by decide +kernel : kitB "NoneType" "list" = some false)
  | .bl b => (by decide +kernel : kitB "bool" "list" = some false)
  | .int i => (by decide +kernel : kitB "int" "list" = some false)
  | .str x => (by decide +kernel : kitB "str" "list" = some false)
  | .tup l => (by decide +kernel : kitB "tuple" "list" = some false)
  | .lst => (by decide +kernel : kitB "list" "list" = some true)
  | .dct => (by decide +kernel : kitB "dict" "list" = some false)
theorem kit_dct : ∀ d : Da, kitB (tyD d) "dict" = some (dDct d)
  | .non => (by decide +kernel : kitB "NoneType" "dict" = some false)
  | .bl b => (by decide +kernel : kitB "bool" "dict" = some false)
  | .int i => (by decide +kernel : kitB "int" "dict" = some false)
  | .str x => (by decide +kernel : kitB "str" "dict" = some false)
  | .tup l => (by decide +kernel : kitB "tuple" "dict" = some false)
  | .lst => (by decide +kernel : kitB "list" "dict" = some false)
  | .dct => (by decide +kernel : kitB "dict" "dict" = some true)
section
variable {K : PySem.W.Frag} {H : Hp} {Q : VK} {v : V} {d : Da}
theorem y_isiI (h : Th K H v d) (q : Q (.bl (dInt d)) H) : rIsiU K [v, .ty "int"] H Q := y_isi h (kit_int d) q
theorem y_isiB (h : Th K H v d) (q : Q (.bl (dBl d)) H) : rIsiU K [v, .ty "bool"] H Q := y_isi h (kit_bl d) q
theorem y_isiS (h : Th K H v d) (q : Q (.bl (dStr d)) H) : rIsiU K [v, .ty "str"] H Q := y_isi h (kit_str d) q
theorem y_isiT (h : Th K H v d) (q : Q (.bl (dTup d)) H) : rIsiU K [v, .ty "tuple"] H Q := y_isi h (kit_tup d) q
theorem y_isiL (h : Th K H v d) (q : Q (.bl (dLst d)) H) : rIsiU K [v, .ty "list"] H Q := y_isi h (kit_lst d) q
theorem y_isiD (h : Th K H v d) (q : Q (.bl (dDct d)) H) : rIsiU K [v, .ty "dict"] H Q := y_isi h (kit_dct d) q
end
section
variable {K : PySem.W.Frag} {σ : St} {H H1 : Hp} {Q : VK} {te t1 t2 : TE} {n : St → Hp → Prop} {rt : VK} {bk ct : St → Hp → Prop} {g : TG} {tb : TS} {a : Addr} {xs : List V}
/-- the loop, its source's value known -/
def ForU (K : PySem.W.Frag) (g : TG) (tb : TS) (D : Ends) (σ : St) (v : V) (H1 : Hp) : Prop := tFor (iU K (tC v)) g tb D σ H1
theorem y_for (q : te σ H fun v H1 => ForU K g tb ⟨n, rt, bk, ct⟩ σ v H1) : tFor (iU K te) g tb ⟨n, rt, bk, ct⟩ σ H := q
def ForR (g : TG) (tb : TS) (D : Ends) (σ : St) (v : V) (H1 : Hp) : Prop := tFor (iRng1 (tCons (tC v) tNil)) g tb D σ H1
theorem y_forr (q : te σ H fun v H1 => ForR g tb ⟨n, rt, bk, ct⟩ σ v H1) : tFor (iRng1 (tCons te tNil)) g tb ⟨n, rt, bk, ct⟩ σ H := q
def ForR2 (g : TG) (tb : TS) (D : Ends) (σ : St) (v u : V) (H1 : Hp) : Prop := tFor (iRng2 (tCons (tC v) (tCons (tC u) tNil))) g tb D σ H1
theorem y_forr2 (q : t1 σ H fun v H1 => t2 σ H1 fun u H2 => ForR2 g tb ⟨n, rt, bk, ct⟩ σ v u H2) : tFor (iRng2 (tCons t1 (tCons t2 tNil))) g tb ⟨n, rt, bk, ct⟩ σ H := q
theorem y_forS {s : Str} (Pv : Nat → St → Hp → Prop) (h0 : Pv 0 σ H)
    (hs : ∀ (i : Nat) (c : Nat) (σ : St) (H : Hp), s.cps[i]? = some c → Pv i σ H → g (.str ⟨#[c]⟩) σ H fun σ2 H2 => tb ⟨Pv (i + 1), rt, n, Pv (i + 1)⟩ σ2 H2) (hd : ∀ σ H, Pv s.cps.size σ H → n σ H) : ForU K g tb ⟨n, rt, bk, ct⟩ σ (.str s) H := by
  refine .inr (.inr ⟨s, rfl, ?_⟩)
  refine for_it walk_str Pv h0 (fun _ _ _ _ _ => trivial) (fun i x σ H H' hi p y => ?_) hd
  obtain ⟨rfl, c, hc, rfl⟩ := y
  exact hs i c σ _ hc p
theorem y_forL (xs : List V) (hx : SqL K H a xs) (Pv : Nat → St → Hp → Prop) (h0 : Pv 0 σ H) (hl : ∀ i σ H, i ≤ xs.length → Pv i σ H → SqL K H a xs)
    (hs : ∀ (i : Nat) (x : V) (σ : St) (H : Hp), xs[i]? = some x → Pv i σ H → g x σ H fun σ2 H2 => tb ⟨Pv (i + 1), rt, n, Pv (i + 1)⟩ σ2 H2) (hd : ∀ σ H, Pv xs.length σ H → n σ H) : ForU K g tb ⟨n, rt, bk, ct⟩ σ (.ref a) H := by
  refine .inl ⟨a, rfl, ⟨xs, hx⟩, ?_⟩
  exact for_list Pv h0 hl hs hd
theorem y_forT (xs : List V) (hx : SqT K H a xs) (Pv : Nat → St → Hp → Prop) (h0 : Pv 0 σ H) (hl : ∀ i σ H, i ≤ xs.length → Pv i σ H → SqT K H a xs)
    (hs : ∀ (i : Nat) (x : V) (σ : St) (H : Hp), xs[i]? = some x → Pv i σ H → g x σ H fun σ2 H2 => tb ⟨Pv (i + 1), rt, n, Pv (i + 1)⟩ σ2 H2) (hd : ∀ σ H, Pv xs.length σ H → n σ H) : ForU K g tb ⟨n, rt, bk, ct⟩ σ (.ref a) H := by
  refine .inr (.inl ⟨a, rfl, ⟨xs, hx⟩, ?_⟩)
  exact for_tup Pv h0 hl hs hd
theorem y_forR {m : Int} (hm : -(2 ^ 62) ≤ m ∧ m < 2 ^ 62) (Pv : Nat → St → Hp → Prop) (h0 : Pv 0 σ H)
    (hs : ∀ (i : Nat) (σ : St) (H : Hp), (i : Int) < m → Pv i σ H → g (.int i) σ H fun σ2 H2 => tb ⟨Pv (i + 1), rt, n, Pv (i + 1)⟩ σ2 H2) (hd : ∀ σ H, Pv m.toNat σ H → n σ H) : ForR g tb ⟨n, rt, bk, ct⟩ σ (.int m) H := by
  refine ⟨m, rfl, hm.1, hm.2, ?_⟩
  refine for_range Pv h0 (fun i σ H hi p => ?_) hd
  have e : (0 : Int) + (i : Int) = i := Int.zero_add _
  rw [e]
  exact hs i σ H (by omega) p
theorem y_forR2 {lo hi : Int} (hm : -(2 ^ 62) ≤ lo ∧ lo < 2 ^ 62 ∧ -(2 ^ 62) ≤ hi ∧ hi < 2 ^ 62) (Pv : Nat → St → Hp → Prop) (h0 : Pv 0 σ H)
    (hs : ∀ (i : Nat) (σ : St) (H : Hp), lo + (i : Int) < hi → Pv i σ H → g (.int (lo + i)) σ H fun σ2 H2 => tb ⟨Pv (i + 1), rt, n, Pv (i + 1)⟩ σ2 H2) (hd : ∀ σ H, Pv (hi - lo).toNat σ H → n σ H) : ForR2 g tb ⟨n, rt, bk, ct⟩ σ (.int lo) (.int hi) H := by
  refine ⟨lo, hi, rfl, hm, ?_⟩
  exact for_range Pv h0 (fun i σ H hi p => hs i σ H (by omega) p) hd
end

/-! ### comprehensions -/
section
variable {K : PySem.W.Frag} {σ : St} {H H1 : Hp} {Q : VK} {te t0 t1 t2 : TE} {g : TG} {a : Addr} {xs : List V} {vs : List Nat} {J : It} {n : Nat} {G : Hp → Prop} {Y : Nat → Hp → V → Hp → Prop}
theorem lc_go (w : Walk J n G Y) (S : List Addr) (hS : ∀ s ∈ S, H1 s ≠ none) (Iv : Nat → List V → Hp → Prop) (hz : n ≤ sizeLine)
    (h0 : ∀ Hc, Ev [] H1 Hc → Iv 0 [] Hc) (hG : ∀ i acc Hc, i ≤ n → Ev S H1 Hc → Iv i acc Hc → G Hc)
    (hs : ∀ (i : Nat) (x : V) (acc : List V) (D : Addr) (Hc H' : Hp) (Qt : VK), i < n → H1 D = none → Ev S H1 Hc → acc.length = i → Iv i acc Hc → Y i Hc x H' →
      (∀ y H4, Ev S Hc H4 → (∀ H5, Ev [D] H4 H5 → Iv (i + 1) (acc ++ [y]) H5) → Qt y H4) → g x (wipe σ vs) H' fun σ2 H2 => wipe σ2 vs = wipe σ vs ∧ te σ2 H2 Qt)
    (hd : ∀ (D : Addr) (Hn : Hp) (acc : List V), H1 D = none → Ev S H1 Hn → Hn D = some (.lst acc) → acc.length = n → Iv n acc Hn → Q (.ref D) Hn) :
    ∀ D, H1 D = none → ∃ W : Nat → Nat → Hp → Prop, (∃ m, W 0 m (upd H1 D (.lst []))) ∧ ∀ i m H, W i m H →
      (J.stop i H ∧ Q (.ref D) H) ∨ (J.go i H ∧ ∃ Nx : Hp → Prop, (∀ H', Nx H' → ∃ m', m' < m ∧ W (i + 1) m' H') ∧ ∀ x H', J.yld i H x H' → g x (wipe σ vs) H' fun σ2 H2 => wipe σ2 vs = wipe σ vs ∧ tYes σ2 H2 fun b H3 =>
        if b = true then te σ2 H3 fun y H4 => ∃ acc, H4 D = some (.lst acc) ∧ acc.length < sizeLine ∧ Nx (upd H4 D (.lst (acc ++ [y]))) else Nx H3) := by
  intro D hD
  have nD : D ∉ S := fun m => hS D m hD
  refine lc_it (tt := tYes) (Qd := fun H => Q (.ref D) H) w (fun i Hc => Ev S H1 Hc ∧ ∃ acc, Hc D = some (.lst acc) ∧ acc.length = i ∧ Iv i acc Hc) ⟨(Ev.new hD), [], upd_same, rfl, h0 _ (Ev.new hD)⟩ (fun i Hc hi ⟨e, acc, _, _, iv⟩ => hG i acc Hc hi e iv) (fun i x Hc H' hi p y => ?_) (fun Hn p => ?_)
  · obtain ⟨e, acc, hDc, hl, iv⟩ := p
    refine hs i x acc D Hc H' (fun y H4 => ∃ acc, H4 D = some (.lst acc) ∧ acc.length < sizeLine ∧ _) hi hD e hl iv y fun y H4 e4 k => ?_
    have hD4 := e4.keep D _ hDc nD
    have e5 : Ev [D] H4 (upd H4 D (.lst (acc ++ [y]))) := Ev.put hD4 rfl (by simp [kindO]) (by simp [kindO])
    refine ⟨acc, hD4, by omega, ?_, acc ++ [y], upd_same, by simp [hl], k _ e5⟩
    exact (e.trans e4).fresh hD (e5.mono fun x hx => by simp at hx; subst hx; exact List.mem_cons_self)
  · obtain ⟨e, acc, hDc, hl, iv⟩ := p
    exact hd D Hn acc hD e hDc hl iv
/-- the comprehension, its source's value known -/
def LcU (K : PySem.W.Frag) (g : TG) (te : TE) (vs : List Nat) (σ : St) (v : V) (H1 : Hp) (Q : VK) : Prop := tLc (iU K (tC v)) g tYes te vs σ H1 Q
theorem y_lc (q : t0 σ H fun v H1 => LcU K g te vs σ v H1 Q) : tLc (iU K t0) g tYes te vs σ H Q := q
def LcR (g : TG) (te : TE) (vs : List Nat) (σ : St) (v : V) (H1 : Hp) (Q : VK) : Prop := tLc (iRng1 (tCons (tC v) tNil)) g tYes te vs σ H1 Q
theorem y_lcr (q : t0 σ H fun v H1 => LcR g te vs σ v H1 Q) : tLc (iRng1 (tCons t0 tNil)) g tYes te vs σ H Q := q
theorem y_lcL (xs : List V) (hx : SqL K H1 a xs) (S : List Addr) (hS : ∀ s ∈ S, H1 s ≠ none) (na : ∀ Hc, Ev S H1 Hc → SqL K Hc a xs) (Iv : Nat → List V → Hp → Prop) (hz : xs.length ≤ sizeLine)
    (h0 : ∀ Hc, Ev [] H1 Hc → Iv 0 [] Hc)
    (hs : ∀ (i : Nat) (x : V) (acc : List V) (D : Addr) (Hc : Hp) (Qt : VK), xs[i]? = some x → H1 D = none → Ev S H1 Hc → acc.length = i → Iv i acc Hc →
      (∀ y H4, Ev S Hc H4 → (∀ H5, Ev [D] H4 H5 → Iv (i + 1) (acc ++ [y]) H5) → Qt y H4) → g x (wipe σ vs) Hc fun σ2 H2 => wipe σ2 vs = wipe σ vs ∧ te σ2 H2 Qt)
    (hd : ∀ (D : Addr) (Hn : Hp) (acc : List V), H1 D = none → Ev S H1 Hn → Hn D = some (.lst acc) → acc.length = xs.length → Iv xs.length acc Hn → Q (.ref D) Hn) : LcU K g te vs σ (.ref a) H1 Q := by
  refine .inl ⟨a, rfl, ⟨xs, hx⟩, ?_⟩
  refine lc_go walk_list S hS Iv hz h0 (fun i acc Hc hi e iv => na Hc e) (fun i x acc D Hc H' Qt hi hD e hl iv y k => ?_) hd
  obtain ⟨rfl, ex⟩ := y
  exact hs i x acc D _ Qt ex hD e hl iv k
theorem y_lcT (xs : List V) (hx : SqT K H1 a xs) (S : List Addr) (hS : ∀ s ∈ S, H1 s ≠ none) (Iv : Nat → List V → Hp → Prop) (hz : xs.length ≤ sizeLine)
    (h0 : ∀ Hc, Ev [] H1 Hc → Iv 0 [] Hc)
    (hs : ∀ (i : Nat) (x : V) (acc : List V) (D : Addr) (Hc : Hp) (Qt : VK), xs[i]? = some x → H1 D = none → Ev S H1 Hc → acc.length = i → Iv i acc Hc →
      (∀ y H4, Ev S Hc H4 → (∀ H5, Ev [D] H4 H5 → Iv (i + 1) (acc ++ [y]) H5) → Qt y H4) → g x (wipe σ vs) Hc fun σ2 H2 => wipe σ2 vs = wipe σ vs ∧ te σ2 H2 Qt)
    (hd : ∀ (D : Addr) (Hn : Hp) (acc : List V), H1 D = none → Ev S H1 Hn → Hn D = some (.lst acc) → acc.length = xs.length → Iv xs.length acc Hn → Q (.ref D) Hn) : LcU K g te vs σ (.ref a) H1 Q := by
  refine .inr (.inl ⟨a, rfl, ⟨xs, hx⟩, ?_⟩)
  refine lc_go walk_tup S hS Iv hz h0 (fun i acc Hc hi e iv => e.sqT hx) (fun i x acc D Hc H' Qt hi hD e hl iv y k => ?_) hd
  obtain ⟨rfl, ex⟩ := y
  exact hs i x acc D _ Qt ex hD e hl iv k
theorem y_lcS {s : Str} (S : List Addr) (hS : ∀ s ∈ S, H1 s ≠ none) (Iv : Nat → List V → Hp → Prop) (hz : s.cps.size ≤ sizeLine)
    (h0 : ∀ Hc, Ev [] H1 Hc → Iv 0 [] Hc)
    (hs : ∀ (i : Nat) (c : Nat) (acc : List V) (D : Addr) (Hc : Hp) (Qt : VK), s.cps[i]? = some c → H1 D = none → Ev S H1 Hc → acc.length = i → Iv i acc Hc →
      (∀ y H4, Ev S Hc H4 → (∀ H5, Ev [D] H4 H5 → Iv (i + 1) (acc ++ [y]) H5) → Qt y H4) → g (.str ⟨#[c]⟩) (wipe σ vs) Hc fun σ2 H2 => wipe σ2 vs = wipe σ vs ∧ te σ2 H2 Qt)
    (hd : ∀ (D : Addr) (Hn : Hp) (acc : List V), H1 D = none → Ev S H1 Hn → Hn D = some (.lst acc) → acc.length = s.cps.size → Iv s.cps.size acc Hn → Q (.ref D) Hn) : LcU K g te vs σ (.str s) H1 Q := by
  refine .inr (.inr ⟨s, rfl, ?_⟩)
  refine lc_go walk_str S hS Iv hz h0 (fun _ _ _ _ _ _ => trivial) (fun i x acc D Hc H' Qt hi hD e hl iv y k => ?_) hd
  obtain ⟨rfl, c, ec, rfl⟩ := y
  exact hs i c acc D _ Qt ec hD e hl iv k
theorem y_lcR {m : Int} (hm : 0 ≤ m ∧ m ≤ 10000) (S : List Addr) (hS : ∀ s ∈ S, H1 s ≠ none) (Iv : Nat → List V → Hp → Prop)
    (h0 : ∀ Hc, Ev [] H1 Hc → Iv 0 [] Hc)
    (hs : ∀ (i : Nat) (acc : List V) (D : Addr) (Hc : Hp) (Qt : VK), (i : Int) < m → H1 D = none → Ev S H1 Hc → acc.length = i → Iv i acc Hc →
      (∀ y H4, Ev S Hc H4 → (∀ H5, Ev [D] H4 H5 → Iv (i + 1) (acc ++ [y]) H5) → Qt y H4) → g (.int i) (wipe σ vs) Hc fun σ2 H2 => wipe σ2 vs = wipe σ vs ∧ te σ2 H2 Qt)
    (hd : ∀ (D : Addr) (Hn : Hp) (acc : List V), H1 D = none → Ev S H1 Hn → Hn D = some (.lst acc) → (acc.length : Int) = m → Iv m.toNat acc Hn → Q (.ref D) Hn) : LcR g te vs σ (.int m) H1 Q := by
  refine ⟨m, rfl, by omega, by omega, ?_⟩
  refine lc_go walk_range S hS Iv (by rw [sizeLine_eq]; omega) h0 (fun _ _ _ _ _ _ => trivial) (fun i x acc D Hc H' Qt hi hD e hl iv y k => ?_) (fun D Hn acc h1 h2 h3 h4 h5 => hd D Hn acc h1 h2 h3 (by omega) h5)
  obtain ⟨rfl, rfl⟩ := y
  have e0 : (0 : Int) + (i : Int) = i := Int.zero_add _
  show g (.int ((0 : Int) + (i : Int))) (wipe σ vs) _ _
  rw [e0]
  exact hs i acc D _ Qt (by omega) hD e hl iv k
end
/-! ### comprehensions, their places given -/
section
variable {X : Cx}
theorem pe_lcU {elt tg iter : Expr} {ifs : List Expr} {scope : Scope} {own : List (Str × Nat)} {vs : List Nat} {pos : Pos} {wi : TI} {g : TG} {tt : TT} {te : TE} (hv : own.map (·.2) = vs) (hc : X.calm = true) (hN : X.N.Nodup) (hi : PI X tg iter wi) (ok : BlkOk X.N X.env.scope scope own)
    (hg : ∀ (s : Shared) (H : Hp) (C : Addr) (cl : List (Str × Addr)) (fp : List Addr), PG (X.blk s H scope (compEnvC scope cl C X.env) fp) tg g) (ht : ∀ (s : Shared) (H : Hp) (C : Addr) (cl : List (Str × Addr)) (fp : List Addr), PTs (X.blk s H scope (compEnvC scope cl C X.env) fp) ifs tt)
    (he : ∀ (s : Shared) (H : Hp) (C : Addr) (cl : List (Str × Addr)) (fp : List Addr), PE (X.blk s H scope (compEnvC scope cl C X.env) fp) elt te) (hs : ∀ x, foldedSetIterable iter X.env x = pure x := by intro _; rfl) :
    PE X (.ListComp elt [⟨tg, iter, ifs, 0⟩] scope pos) (tLc wi g tt te vs) := hv ▸ pe_lc hc hN hi ok hg ht he hs
theorem ps_setLcU {i : Nat} {y : Str} {py : Pos} {elt tg iter : Expr} {ifs : List Expr} {scope : Scope} {own : List (Str × Nat)} {vs : List Nat} {pos spos : Pos} {wi : TI} {g : TG} {tt : TT} {te : TE} (hv : own.map (·.2) = vs) (hc : X.calm = true) (hN : X.N.Nodup) (hy : X.N[i]? = some y) (hyl : X.env.scope.names.lookup y = some .local)
    (hsw : swapsWith (.ListComp elt [⟨tg, iter, ifs, 0⟩] scope pos) (some (.Name y py)) spos.line X.env = pure true) (hi : PI X tg iter wi) (ok : BlkOk X.N X.env.scope scope own)
    (hg : ∀ (s : Shared) (H : Hp) (C : Addr) (cl : List (Str × Addr)) (fp : List Addr), PG (X.blk s H scope (compEnvC scope cl C X.env) fp) tg g) (ht : ∀ (s : Shared) (H : Hp) (C : Addr) (cl : List (Str × Addr)) (fp : List Addr), PTs (X.blk s H scope (compEnvC scope cl C X.env) fp) ifs tt)
    (he : ∀ (s : Shared) (H : Hp) (C : Addr) (cl : List (Str × Addr)) (fp : List Addr), PE (X.blk s H scope (compEnvC scope cl C X.env) fp) elt te) (hs : ∀ x, foldedSetIterable iter X.env x = pure x := by intro _; rfl) :
    PS X (.Assign [.Name y py] (.ListComp elt [⟨tg, iter, ifs, 0⟩] scope pos) spos) (tAsg (tLc wi g tt te vs) (gName i)) := hv ▸ ps_setLc hc hN hy hyl hsw hi ok hg ht he hs
theorem ps_setLc2U {i : Nat} {y : Str} {py : Pos} {elt tg iter tg1 iter1 : Expr} {ifs ifs1 : List Expr} {scope : Scope} {own : List (Str × Nat)} {vs vs1 : List Nat} {pos spos : Pos} {wi wi1 : TI} {g g1 : TG} {tt tt1 : TT} {te : TE} (hv0 : own.map (·.2) = vs) (hc : X.calm = true) (hN : X.N.Nodup) (hy : X.N[i]? = some y) (hyl : X.env.scope.names.lookup y = some .local)
    (hsw : swapsWith (.ListComp elt [⟨tg, iter, ifs, 0⟩, ⟨tg1, iter1, ifs1, 0⟩] scope pos) (some (.Name y py)) spos.line X.env = pure true) (hi : PI X tg iter wi) (ok : BlkOk X.N X.env.scope scope own) (hv : ∀ i ∈ vs1, i ∈ own.map (·.2))
    (hg : ∀ (s : Shared) (H : Hp) (C : Addr) (cl : List (Str × Addr)) (fp : List Addr), PG (X.blk s H scope (compEnvC scope cl C X.env) fp) tg g) (ht : ∀ (s : Shared) (H : Hp) (C : Addr) (cl : List (Str × Addr)) (fp : List Addr), PTs (X.blk s H scope (compEnvC scope cl C X.env) fp) ifs tt)
    (hi1 : ∀ (s : Shared) (H : Hp) (C : Addr) (cl : List (Str × Addr)) (fp : List Addr), PI (X.blk s H scope (compEnvC scope cl C X.env) fp) tg1 iter1 wi1)
    (hg1 : ∀ (s : Shared) (H : Hp) (C : Addr) (cl : List (Str × Addr)) (fp : List Addr), PG (X.blk s H scope (compEnvC scope cl C X.env) fp) tg1 g1) (ht1 : ∀ (s : Shared) (H : Hp) (C : Addr) (cl : List (Str × Addr)) (fp : List Addr), PTs (X.blk s H scope (compEnvC scope cl C X.env) fp) ifs1 tt1)
    (he : ∀ (s : Shared) (H : Hp) (C : Addr) (cl : List (Str × Addr)) (fp : List Addr), PE (X.blk s H scope (compEnvC scope cl C X.env) fp) elt te) (hs : ∀ x, foldedSetIterable iter X.env x = pure x := by intro _; rfl) (hs1 : ∀ env x, foldedSetIterable iter1 env x = pure x := by intro _ _; rfl) :
    PS X (.Assign [.Name y py] (.ListComp elt [⟨tg, iter, ifs, 0⟩, ⟨tg1, iter1, ifs1, 0⟩] scope pos) spos) (tAsg (tLc2 wi g tt wi1 g1 tt1 te vs vs1) (gName i)) := hv0 ▸ ps_setLc2 hc hN hy hyl hsw hi ok hv hg ht hi1 hg1 ht1 he hs hs1
theorem pe_lc2U {elt tg iter tg1 iter1 : Expr} {ifs ifs1 : List Expr} {scope : Scope} {own : List (Str × Nat)} {vs vs1 : List Nat} {pos : Pos} {wi wi1 : TI} {g g1 : TG} {tt tt1 : TT} {te : TE} (hv0 : own.map (·.2) = vs) (hc : X.calm = true) (hN : X.N.Nodup) (hi : PI X tg iter wi) (ok : BlkOk X.N X.env.scope scope own) (hv : ∀ i ∈ vs1, i ∈ own.map (·.2))
    (hg : ∀ (s : Shared) (H : Hp) (C : Addr) (cl : List (Str × Addr)) (fp : List Addr), PG (X.blk s H scope (compEnvC scope cl C X.env) fp) tg g) (ht : ∀ (s : Shared) (H : Hp) (C : Addr) (cl : List (Str × Addr)) (fp : List Addr), PTs (X.blk s H scope (compEnvC scope cl C X.env) fp) ifs tt)
    (hi1 : ∀ (s : Shared) (H : Hp) (C : Addr) (cl : List (Str × Addr)) (fp : List Addr), PI (X.blk s H scope (compEnvC scope cl C X.env) fp) tg1 iter1 wi1)
    (hg1 : ∀ (s : Shared) (H : Hp) (C : Addr) (cl : List (Str × Addr)) (fp : List Addr), PG (X.blk s H scope (compEnvC scope cl C X.env) fp) tg1 g1) (ht1 : ∀ (s : Shared) (H : Hp) (C : Addr) (cl : List (Str × Addr)) (fp : List Addr), PTs (X.blk s H scope (compEnvC scope cl C X.env) fp) ifs1 tt1)
    (he : ∀ (s : Shared) (H : Hp) (C : Addr) (cl : List (Str × Addr)) (fp : List Addr), PE (X.blk s H scope (compEnvC scope cl C X.env) fp) elt te) (hs : ∀ x, foldedSetIterable iter X.env x = pure x := by intro _; rfl) (hs1 : ∀ env x, foldedSetIterable iter1 env x = pure x := by intro _ _; rfl) :
    PE X (.ListComp elt [⟨tg, iter, ifs, 0⟩, ⟨tg1, iter1, ifs1, 0⟩] scope pos) (tLc2 wi g tt wi1 g1 tt1 te vs vs1) := hv0 ▸ pe_lc2 hc hN hi ok hv hg ht hi1 hg1 ht1 he hs hs1
end
/-! ### [.. for x in a list for c in a text] -/
section
variable {K : PySem.W.Frag} {σ : St} {H H1 : Hp} {Q : VK} {te t0 t1 : TE} {g g1 : TG} {a : Addr} {vs vs1 : List Nat}
def LcU2 (K : PySem.W.Frag) (g : TG) (t1 : TE) (g1 : TG) (te : TE) (vs vs1 : List Nat) (σ : St) (v : V) (H1 : Hp) (Q : VK) : Prop := tLc2 (iU K (tC v)) g tYes (iU K t1) g1 tYes te vs vs1 σ H1 Q
theorem y_lc2 (q : t0 σ H fun v H1 => LcU2 K g t1 g1 te vs vs1 σ v H1 Q) : tLc2 (iU K t0) g tYes (iU K t1) g1 tYes te vs vs1 σ H Q := q
theorem y_yesT {A B : Hp → Prop} (q : A H) : tYes σ H fun b H3 => if b = true then A H3 else B H3 := by
  show (if true = true then A H else B H)
  rw [if_pos rfl]
  exact q
theorem y_lc2LS (xs : List V) (z : Str) (f : V → Nat → V) (σx : V → St) (σy : V → Nat → St) (hx : H1 a = some (.lst xs)) (hz : xs.length * z.cps.toList.length ≤ sizeLine)
    (hw : ∀ x, wipe (σx x) vs = wipe σ vs) (hw1 : ∀ x c, wipe (σy x c) vs1 = wipe (σx x) vs1)
    (hg : ∀ x Hc (QG : St → Hp → Prop), QG (σx x) Hc → g x (wipe σ vs) Hc QG) (ht1 : ∀ x Hc (Q' : VK), Q' (.str z) Hc → t1 (σx x) Hc Q')
    (hg1 : ∀ x c Hc (QG : St → Hp → Prop), QG (σy x c) Hc → g1 (.str ⟨#[c]⟩) (wipe (σx x) vs1) Hc QG)
    (hte : ∀ x c Hc (Q' : VK), x ∈ xs → c ∈ z.cps.toList → Q' (f x c) Hc → te (σy x c) Hc Q')
    (hd : ∀ D, H1 D = none → Q (.ref D) (upd H1 D (.lst (xs.flatMap fun x => z.cps.toList.map (f x))))) : LcU2 K g t1 g1 te vs vs1 σ (.ref a) H1 Q := by
  refine .inl ⟨a, rfl, ⟨_, SqL.of hx⟩, ?_⟩
  intro D hD
  have nD : a ≠ D := ne_of_none hx hD
  have len : ∀ l : List V, (l.flatMap fun x => z.cps.toList.map (f x)).length = l.length * z.cps.toList.length := by
    intro l
    induction l with
    | nil => simp
    | cons x r ih => rw [List.flatMap_cons, List.length_append, ih, List.length_map, List.length_cons, Nat.succ_mul, Nat.add_comm]
  have stp : ∀ i x, xs[i]? = some x → (xs.take (i + 1)).flatMap (fun x => z.cps.toList.map (f x)) = (xs.take i).flatMap (fun x => z.cps.toList.map (f x)) ++ z.cps.toList.map (f x) := by
    intro i x h
    rw [List.take_add_one, h, List.flatMap_append]
    simp
  refine ⟨fun i m H => m = xs.length - i ∧ i ≤ xs.length ∧ H = upd H1 D (.lst ((xs.take i).flatMap fun x => z.cps.toList.map (f x))), ⟨xs.length, by simp, Nat.zero_le _, by simp⟩, ?_⟩
  rintro i m H ⟨rfl, hi, rfl⟩
  have hL : ∀ l, SqL K (upd H1 D (.lst l)) a xs := fun l => SqL.of (by rw [upd_ne nD]; exact hx)
  by_cases hlt : i < xs.length
  · refine .inr ⟨walk_list.goes i _ hlt (hL _), fun H => H = upd H1 D (.lst ((xs.take (i + 1)).flatMap fun x => z.cps.toList.map (f x))), fun H' p' => ⟨xs.length - (i + 1), by omega, rfl, hlt, p'⟩, fun x H' y => ?_⟩
    obtain ⟨e1, ex⟩ := walk_list.yields i _ x H' hlt (hL _) y
    subst e1
    refine hg x _ _ ⟨hw x, ?_⟩
    refine y_yesT ?_
    refine ht1 x _ _ ?_
    refine .inr (.inr ⟨z, rfl, ?_⟩)
    refine ⟨fun j k H => k = z.cps.toList.length - j ∧ j ≤ z.cps.toList.length ∧ H = upd H1 D (.lst ((xs.take i).flatMap (fun x => z.cps.toList.map (f x)) ++ (z.cps.toList.take j).map (f x))), ⟨z.cps.toList.length, by simp, Nat.zero_le _, by simp⟩, ?_⟩
    rintro j k H ⟨rfl, hj, rfl⟩
    by_cases jl : j < z.cps.toList.length
    · refine .inr ⟨walk_str.goes j _ (by simpa using jl) trivial, fun H => H = upd H1 D (.lst ((xs.take i).flatMap (fun x => z.cps.toList.map (f x)) ++ (z.cps.toList.take (j + 1)).map (f x))), fun H' p' => ⟨z.cps.toList.length - (j + 1), by omega, rfl, jl, p'⟩, fun y H' yy => ?_⟩
      obtain ⟨e1, c, hc, rfl⟩ := walk_str.yields j _ y H' (by simpa using jl) trivial yy
      subst e1
      have hc' : z.cps.toList[j]? = some c := by simpa using hc
      refine hg1 x c _ _ ⟨hw1 x c, ?_⟩
      refine y_yesT ?_
      refine hte x c _ _ (List.mem_of_getElem? ex) (List.mem_of_getElem? hc') ?_
      refine ⟨_, upd_same, ?_, ?_⟩
      · have h1 : (i + 1) * z.cps.toList.length ≤ xs.length * z.cps.toList.length := Nat.mul_le_mul_right _ hlt
        rw [Nat.succ_mul] at h1
        rw [List.length_append, len, List.length_map, List.length_take, List.length_take, Nat.min_eq_left hi]
        omega
      · rw [upd_upd, List.take_add_one, hc', List.map_append, List.append_assoc]
        rfl
    · have e : j = z.cps.toList.length := by omega
      subst e
      refine .inl ⟨walk_str.stops _ trivial, ?_⟩
      rw [stp i x ex, List.take_of_length_le (Nat.le_refl _)]
  · have e : i = xs.length := by omega
    subst e
    refine .inl ⟨walk_list.stops _ (hL _), ?_⟩
    rw [List.take_of_length_le (Nat.le_refl _)]
    exact hd D hD
end
/-! ### except clauses -/
section
variable {K : PySem.W.Frag} {σ : St} {H : Hp} {Wout : WX} {D : Ends} {c cls : Value} {d : Option Addr} {ts : Addr → Value → Option Addr → TS} {r : List (Value × (Addr → Value → Option Addr → TS))}
theorem y_we {W : WX} (q : W cls d σ H) : WE W σ cls d H := q
theorem y_hdT (h : PySem.W.exmOne K cls c = some true) (q : ∀ a, H a = none → ts a cls d D σ H) : wMany K Wout D ((c, ts) :: r) cls d σ H := ⟨true, h, fun _ => q, fun e => nomatch e⟩
theorem y_hdF (h : PySem.W.exmOne K cls c = some false) (q : wMany K Wout D r cls d σ H) : wMany K Wout D ((c, ts) :: r) cls d σ H := ⟨false, h, fun e => (nomatch e), fun _ => q⟩
theorem y_hdN (q : Wout cls d σ H) : wMany K Wout D [] cls d σ H := q
end
/-! ### data compared -/
section
variable {K : PySem.W.Frag} {σ : St} {H H1 : Hp} {Q : VK} {x y : V} {d e : PyData} {a : Addr} {S : List Addr}
theorem y_neD (hd : Dp K H x d) (he : Dp K H y e) (sd : SeqAt.shaped d = true) (se : SeqAt.shaped e = true) (q : Q (.bl (!PyData.eqv d e)) H) : rNeU K x y H Q := .inr ⟨d, e, hd, he, sd, se, q⟩
theorem y_eqD (hd : Dp K H x d) (he : Dp K H y e) (sd : SeqAt.shaped d = true) (se : SeqAt.shaped e = true) (q : Q (.bl (PyData.eqv d e)) H) : rEqU K x y H Q := .inr ⟨d, e, hd, he, sd, se, q⟩
theorem y_neSame (hd : Dp K H x d) (he : Dp K H y d) (sd : SeqAt.shaped d = true) (q : Q (.bl false) H) : rNeU K x y H Q := y_neD hd he sd sd (by
  rw [SeqAt.eqv_refl d (SeqAt.canLay_of_shaped sd)]
  exact q)
theorem y_eqSame (hd : Dp K H x d) (he : Dp K H y d) (sd : SeqAt.shaped d = true) (q : Q (.bl true) H) : rEqU K x y H Q := y_eqD hd he sd sd (by
  rw [SeqAt.eqv_refl d (SeqAt.canLay_of_shaped sd)]
  exact q)
def dStrs (ys : List Str) : PyData := .list (ys.map PyData.str)
theorem dpAll_strs : ∀ ys : List Str, DpAll K H (ys.map V.str) (ys.map PyData.str)
  | [] => .nil
  | x :: r => .cons (.str x) (dpAll_strs r)
theorem dp_strs {ys : List Str} (h : SqL K H a (ys.map V.str)) : Dp K H (.ref a) (dStrs ys) := .lst h (dpAll_strs ys)
end
/-! ### sorted texts -/
theorem ltCps_dec (a b : List Nat) : ltCps a b = decide (a < b) := PyProof.Rows.ltCps_eq a b
theorem rising_pw : ∀ (l : List Str) (p : Str), PyProof.Rows.risingS p l = true → (p :: l).Pairwise fun a b : Str => a.cps.toList ≤ b.cps.toList
  | [], p, _ => by simp
  | x :: r, p, h => by
    have h' : (!ltCps x.cps.toList p.cps.toList && PyProof.Rows.risingS x r) = true := h
    simp only [Bool.and_eq_true, Bool.not_eq_true'] at h'
    have q := rising_pw r x h'.2
    have px : p.cps.toList ≤ x.cps.toList := by
      have := h'.1
      rw [ltCps_dec] at this
      exact of_decide_eq_false this
    refine List.pairwise_cons.mpr ⟨fun y hy => ?_, q⟩
    rcases List.mem_cons.mp hy with e | e
    · subst e; exact px
    · exact List.le_trans px ((List.pairwise_cons.mp q).1 y e)
theorem sorted_pw {l : List Str} (h : PyProof.Rows.sortedS l = true) : l.Pairwise fun a b : Str => a.cps.toList ≤ b.cps.toList := by
  cases l with
  | nil => exact .nil
  | cons x r => exact rising_pw r x h
theorem sorted_one {l m : List Str} (hl : PyProof.Rows.sortedS l = true) (hm : PyProof.Rows.sortedS m = true) (h : l.Perm m) : l = m :=
  List.Perm.eq_of_pairwise (fun a b _ _ h1 h2 => by
    have := List.le_antisymm h1 h2
    cases a; cases b
    congr 1
    exact Array.toList_inj.mp this) (sorted_pw hl) (sorted_pw hm) h
/-! ### texts in lists as data -/
theorem canLay_strs : ∀ {ys : List Str}, (∀ y ∈ ys, PyData.strOk y = true) → PyData.canLayAll0 (ys.map PyData.str) = true
  | [], _ => rfl
  | y :: r, h => by
    show (PyData.canLay0 (.str y) && PyData.canLayAll0 (r.map PyData.str)) = true
    rw [canLay_strs fun z hz => h z (List.mem_cons_of_mem _ hz)]
    show (PyData.strOk y && true) = true
    rw [h y List.mem_cons_self]
    rfl
theorem depth_strs : ∀ ys : List Str, PyData.depthAll (ys.map PyData.str) = 0
  | [] => rfl
  | y :: r => by
    show max 0 (PyData.depthAll (r.map PyData.str)) = 0
    rw [depth_strs r]
    rfl
theorem shaped_strs {ys : List Str} (h : ∀ y ∈ ys, PyData.strOk y = true) : SeqAt.shaped (dStrs ys) = true := by
  show (PyData.canLayAll0 (ys.map PyData.str) && decide (PyData.depthAll (ys.map PyData.str) + 1 ≤ 64)) = true
  rw [canLay_strs h, depth_strs]
  rfl
theorem shaped_two {ys zs : List Str} (h : ∀ y ∈ ys, PyData.strOk y = true) (h2 : ∀ y ∈ zs, PyData.strOk y = true) : SeqAt.shaped (.list [dStrs ys, dStrs zs]) = true := by
  show ((PyData.canLayAll0 (ys.map PyData.str) && (PyData.canLayAll0 (zs.map PyData.str) && true)) && decide (max (PyData.depthAll (ys.map PyData.str) + 1) (max (PyData.depthAll (zs.map PyData.str) + 1) 0) + 1 ≤ 64)) = true
  rw [canLay_strs h, canLay_strs h2, depth_strs, depth_strs]
  rfl
/-! ### slices, texts -/
section
variable {K : PySem.W.Frag} {σ : St} {H : Hp} {Q : VK} {te to : TE} {tl th : TO} {r : V → Option Int → Option Int → Hp → VK → Prop} {lo hi : Option Int} {a : Addr} {xs : List V} {z : Str} {v : V}
theorem y_sl (q : te σ H fun x H1 => tl σ H1 fun l H2 => th σ H2 fun u H3 => r x l u H3 Q) : tSl r te tl th σ H Q := q
theorem y_nopart {QO : Option Int → Hp → Prop} (q : QO none H) : tNoPart σ H QO := q
theorem y_part {QO : Option Int → Hp → Prop} (q : te σ H fun x H1 => ∃ i, x = .int i ∧ QO (some i) H1) : tPart te σ H QO := q
theorem y_isint {i : Int} {P : Int → Prop} (q : P i) : ∃ j, V.int i = .int j ∧ P j := ⟨i, rfl, q⟩
theorem y_slL (xs : List V) (h : SqL K H a xs) (q : ∀ p H', H p = none → H' p = some (.lst (cutV xs lo hi)) → Ev [] H H' → Q (.ref p) H') : rSlU K (.ref a) lo hi H Q := .inl ⟨a, xs, rfl, h, fun p hp => q p _ hp upd_same (Ev.new hp)⟩
theorem y_slS (h : z.length ≤ sizeLine) (q : Q (.str (cutS z lo hi)) H) : rSlU K (.str z) lo hi H Q := .inr (.inr ⟨z, rfl, h, q⟩)
theorem y_slT (xs : List V) (h : SqT K H a xs) (q : ∀ p H', SqT K H' p (cutV xs lo hi) → Ev [] H H' → Q (.ref p) H') : rSlU K (.ref a) lo hi H Q := by
  refine .inr (.inl ⟨a, xs, rfl, h, fun e => q a H ?_ Ev.refl, fun _ p hp => q p _ (SqT.of upd_same) (Ev.new hp)⟩)
  have : cutV xs lo hi = xs := by unfold cutV; rw [e.1, e.2]; simp
  rw [this]; exact h
theorem y_m1 {r : V → List V → Hp → VK → Prop} (q : to σ H fun x H1 => (∃ a, x = .str a) ∧ te σ H1 fun y H2 => r x [y] H2 Q) : tM1 r to te σ H Q := q
theorem y_m0 {r : V → List V → Hp → VK → Prop} (q : to σ H fun x H1 => (∃ a, x = .str a) ∧ r x [] H1 Q) : tM0 r to σ H Q := q
theorem y_isstr {P : Prop} (q : P) : (∃ a, V.str z = .str a) ∧ P := ⟨⟨z, rfl⟩, q⟩
theorem y_bm {T : String} {r : V → List V → Hp → VK → Prop} {t : TA} (q : to σ H fun x H1 => tyV K T x H1 ∧ t σ H1 fun xs H2 => r x xs H2 Q) : tBM K T r to t σ H Q := q
theorem y_bm0 {T : String} {r : V → List V → Hp → VK → Prop} (q : to σ H fun x H1 => tyV K T x H1 ∧ r x [] H1 Q) : tBM0 K T r to σ H Q := q
theorem y_tyL {P : Prop} {xs : List V} (h : SqL K H a xs) (q : P) : tyV K "list" (.ref a) H ∧ P := ⟨.inl ⟨rfl, xs, h⟩, q⟩
theorem y_tyS {P : Prop} (q : P) : tyV K "str" (.str z) H ∧ P := ⟨rfl, q⟩
theorem y_append (xs : List V) (h : H a = some (.lst xs)) (l : xs.length < sizeLine) (q : ∀ H', H' a = some (.lst (xs ++ [v])) → Ev [a] H H' → Q .non H') : rAppend (.ref a) [v] H Q := ⟨a, xs, v, rfl, rfl, h, l, q _ upd_same (Ev.put h rfl (by simp [kindO]) (by simp [kindO]))⟩
theorem y_extend {b : Addr} (xs ys : List V) (h : H a = some (.lst xs)) (h2 : H b = some (.lst ys)) (l : xs.length + ys.length ≤ sizeLine) (q : ∀ H', H' a = some (.lst (xs ++ ys)) → Ev [a] H H' → Q .non H') : rExtend (.ref a) [.ref b] H Q := ⟨a, b, xs, ys, rfl, rfl, h, h2, l, q _ upd_same (Ev.put h rfl (by simp [kindO]) (by simp [kindO]))⟩
theorem y_clear (xs : List V) (h : H a = some (.lst xs)) (q : ∀ H', H' a = some (.lst []) → Ev [a] H H' → Q .non H') : rClear (.ref a) [] H Q := ⟨a, xs, rfl, rfl, h, q _ upd_same (Ev.put h rfl (by simp [kindO]) (by simp [kindO]))⟩
theorem y_tupd {t : TA} (q : t σ H fun xs H1 => xs.length ≤ sizeLine ∧ ∀ p H', H1 p = none → H' p = some (.tup xs) → Ev [] H1 H' → Q (.ref p) H') (mono : ∀ H (A B : List V → Hp → Prop), (∀ xs H1, A xs H1 → B xs H1) → t σ H A → t σ H B) : tTup t σ H Q := mono H _ _ (fun xs H1 ⟨l, k⟩ => ⟨l, fun p hp => k p _ hp upd_same (Ev.new hp)⟩) q
def NewT (xs : List V) (H : Hp) (Q : VK) : Prop := xs.length ≤ sizeLine ∧ ∀ p, H p = none → Q (.ref p) (upd H p (.tup xs))
def NewL (xs : List V) (H : Hp) (Q : VK) : Prop := xs.length ≤ sizeLine ∧ ∀ p, H p = none → Q (.ref p) (upd H p (.lst xs))
theorem y_setD {kvs : List (Key × V)} {k : Str} {QG : Hp → Prop} (h : H a = some (.dK kvs)) (l : kvs.length < sizeLine) (q : ∀ H', H' a = some (.dK (putK kvs (.inr k) v)) → Ev [a] H H' → QG H') : rSetU (.ref a) (.str k) v H QG :=
  .inr ⟨a, _, rfl, .inl ⟨kvs, .inr k, h, rfl, l, rfl⟩, q _ upd_same (Ev.put h rfl (by simp [kindO]) (by simp [kindO]))⟩
theorem y_listD {kvs : List (Key × V)} (h : H a = some (.dK kvs)) (q : ∀ p H', H p = none → H' p = some (.lst (kvs.map fun kv => kV kv.1)) → Ev [] H H' → Q (.ref p) H') : rListU K [.ref a] H Q := .inr ⟨a, kvs, rfl, h, fun p hp => q p _ hp upd_same (Ev.new hp)⟩
theorem y_listL (xs : List V) (h : SqL K H a xs ∨ SqT K H a xs) (q : ∀ p H', H p = none → H' p = some (.lst xs) → Ev [] H H' → Q (.ref p) H') : rListU K [.ref a] H Q := .inl ⟨a, xs, rfl, h, fun p hp => q p _ hp upd_same (Ev.new hp)⟩
def NewD (H : Hp) (Q : VK) : Prop := ∀ p, H p = none → Q (.ref p) (upd H p (.dK []))
theorem y_newD (q : ∀ p H', H p = none → H' p = some (.dK []) → Ev [] H H' → Q (.ref p) H') : tDNewK σ H Q := fun p hp => q p _ hp upd_same (Ev.new hp)
theorem y_tTup {t : TA} (q : t σ H fun xs H1 => NewT xs H1 Q) : tTup t σ H Q := q
theorem y_tLst {t : TA} (q : t σ H fun xs H1 => NewL xs H1 Q) : tLst t σ H Q := q
theorem y_newT {xs : List V} (l : xs.length ≤ sizeLine) (q : ∀ p H', H p = none → H' p = some (.tup xs) → Ev [] H H' → Q (.ref p) H') : NewT xs H Q := ⟨l, fun p h => q p _ h upd_same (Ev.new h)⟩
theorem y_newL {xs : List V} (l : xs.length ≤ sizeLine) (q : ∀ p H', H p = none → H' p = some (.lst xs) → Ev [] H H' → Q (.ref p) H') : NewL xs H Q := ⟨l, fun p h => q p _ h upd_same (Ev.new h)⟩
theorem y_newL0 (q : ∀ p H', H p = none → H' p = some (.lst []) → Ev [] H H' → Q (.ref p) H') : NewL [] H Q := ⟨Nat.zero_le _, fun p h => q p _ h upd_same (Ev.new h)⟩
theorem y_catL {b : Addr} (xs ys : List V) (h : H a = some (.lst xs)) (h2 : H b = some (.lst ys)) (l : xs.length + ys.length ≤ sizeLine) (q : ∀ p H', H p = none → H' p = some (.lst (xs ++ ys)) → Ev [] H H' → Q (.ref p) H') : rAddU K (.ref a) (.ref b) H Q := .inr (.inr (.inl ⟨a, b, xs, ys, rfl, rfl, h, h2, l, fun p hp => q p _ hp upd_same (Ev.new hp)⟩))
theorem y_catT {b : Addr} (xs ys : List V) (h : SqT K H a xs) (h2 : SqT K H b ys) (l : xs.length + ys.length ≤ sizeLine) (q : ∀ p H', SqT K H' p (xs ++ ys) → Ev [] H H' → Q (.ref p) H') : rAddU K (.ref a) (.ref b) H Q :=
  .inr (.inr (.inr ⟨a, b, xs, ys, rfl, rfl, h, h2, l, fun e => q b H (by subst e; exact h2) Ev.refl, fun _ e => q a H (by subst e; rw [List.append_nil]; exact h) Ev.refl, fun _ _ p hp => q p _ (SqT.of upd_same) (Ev.new hp)⟩))
theorem y_sorted {xs : List Str} (h : SqL K H a (xs.map V.str)) (q : ∀ p H' ys, H p = none → H' p = some (.lst (ys.map V.str)) → Ev [] H H' → ys.Perm xs → PyProof.Rows.sortedS ys = true → Q (.ref p) H') : rSortedU K [.ref a] H Q := ⟨a, xs, rfl, h, fun p ys hp pm so => q p _ ys hp upd_same (Ev.new hp) pm so⟩
theorem y_join {a : Str} {p : Addr} (ys : List Str) (h : SqL K H p (ys.map V.str) ∨ SqT K H p (ys.map V.str)) (l : (ys.map (·.length)).sum + ys.length * a.length ≤ 16777216) (q : Q (.str (Txt.join a ys)) H) : rJoinU K (.str a) [.ref p] H Q := ⟨a, p, ys, rfl, rfl, h, l, q⟩
end
end L2

/-! ## G4: slots by their places (printed by a program) -/
namespace L2
open PySem PySem.Spec PyProof.Rows
section
variable {H : Hp} {Q Qt : VK} {te : TE} {n : St → Hp → Prop} {rt : VK} {bk ct : St → Hp → Prop} {x v : V} {QG : St → Hp → Prop} {t : List (Option V)} {a0 a1 a2 a3 a4 a5 a6 a7 a8 a9 a10 a11 a12 a13 a14 a15 a16 a17 a18 a19 a20 a21 a22 a23 a24 a25 a26 a27 a28 a29 a30 : Option V}
theorem y_var0 (q : Q v H) : tVar 0 (some v :: t) H Q := ⟨v, rfl, q⟩
theorem y_set0 (q : te (a0 :: t) H fun x H1 => n (some x :: t) H1) : tAsg te (gName 0) ⟨n, rt, bk, ct⟩ (a0 :: t) H := q
theorem y_gname0 (q : QG (some x :: t) H) : gName 0 x (a0 :: t) H QG := q
theorem y_wname0 (q : te (some x :: t) H Qt) : gName 0 x (wipe (a0 :: t) [0]) H fun σ2 H2 => wipe σ2 [0] = wipe (a0 :: t) [0] ∧ te σ2 H2 Qt := ⟨rfl, q⟩
theorem y_var1 (q : Q v H) : tVar 1 (a0 :: some v :: t) H Q := ⟨v, rfl, q⟩
theorem y_set1 (q : te (a0 :: a1 :: t) H fun x H1 => n (a0 :: some x :: t) H1) : tAsg te (gName 1) ⟨n, rt, bk, ct⟩ (a0 :: a1 :: t) H := q
theorem y_gname1 (q : QG (a0 :: some x :: t) H) : gName 1 x (a0 :: a1 :: t) H QG := q
theorem y_wname1 (q : te (a0 :: some x :: t) H Qt) : gName 1 x (wipe (a0 :: a1 :: t) [1]) H fun σ2 H2 => wipe σ2 [1] = wipe (a0 :: a1 :: t) [1] ∧ te σ2 H2 Qt := ⟨rfl, q⟩
theorem y_var2 (q : Q v H) : tVar 2 (a0 :: a1 :: some v :: t) H Q := ⟨v, rfl, q⟩
theorem y_set2 (q : te (a0 :: a1 :: a2 :: t) H fun x H1 => n (a0 :: a1 :: some x :: t) H1) : tAsg te (gName 2) ⟨n, rt, bk, ct⟩ (a0 :: a1 :: a2 :: t) H := q
theorem y_gname2 (q : QG (a0 :: a1 :: some x :: t) H) : gName 2 x (a0 :: a1 :: a2 :: t) H QG := q
theorem y_wname2 (q : te (a0 :: a1 :: some x :: t) H Qt) : gName 2 x (wipe (a0 :: a1 :: a2 :: t) [2]) H fun σ2 H2 => wipe σ2 [2] = wipe (a0 :: a1 :: a2 :: t) [2] ∧ te σ2 H2 Qt := ⟨rfl, q⟩
theorem y_var3 (q : Q v H) : tVar 3 (a0 :: a1 :: a2 :: some v :: t) H Q := ⟨v, rfl, q⟩
theorem y_set3 (q : te (a0 :: a1 :: a2 :: a3 :: t) H fun x H1 => n (a0 :: a1 :: a2 :: some x :: t) H1) : tAsg te (gName 3) ⟨n, rt, bk, ct⟩ (a0 :: a1 :: a2 :: a3 :: t) H := q
theorem y_gname3 (q : QG (a0 :: a1 :: a2 :: some x :: t) H) : gName 3 x (a0 :: a1 :: a2 :: a3 :: t) H QG := q
theorem y_wname3 (q : te (a0 :: a1 :: a2 :: some x :: t) H Qt) : gName 3 x (wipe (a0 :: a1 :: a2 :: a3 :: t) [3]) H fun σ2 H2 => wipe σ2 [3] = wipe (a0 :: a1 :: a2 :: a3 :: t) [3] ∧ te σ2 H2 Qt := ⟨rfl, q⟩
theorem y_var4 (q : Q v H) : tVar 4 (a0 :: a1 :: a2 :: a3 :: some v :: t) H Q := ⟨v, rfl, q⟩
theorem y_set4 (q : te (a0 :: a1 :: a2 :: a3 :: a4 :: t) H fun x H1 => n (a0 :: a1 :: a2 :: a3 :: some x :: t) H1) : tAsg te (gName 4) ⟨n, rt, bk, ct⟩ (a0 :: a1 :: a2 :: a3 :: a4 :: t) H := q
theorem y_gname4 (q : QG (a0 :: a1 :: a2 :: a3 :: some x :: t) H) : gName 4 x (a0 :: a1 :: a2 :: a3 :: a4 :: t) H QG := q
theorem y_wname4 (q : te (a0 :: a1 :: a2 :: a3 :: some x :: t) H Qt) : gName 4 x (wipe (a0 :: a1 :: a2 :: a3 :: a4 :: t) [4]) H fun σ2 H2 => wipe σ2 [4] = wipe (a0 :: a1 :: a2 :: a3 :: a4 :: t) [4] ∧ te σ2 H2 Qt := ⟨rfl, q⟩
theorem y_var5 (q : Q v H) : tVar 5 (a0 :: a1 :: a2 :: a3 :: a4 :: some v :: t) H Q := ⟨v, rfl, q⟩
theorem y_set5 (q : te (a0 :: a1 :: a2 :: a3 :: a4 :: a5 :: t) H fun x H1 => n (a0 :: a1 :: a2 :: a3 :: a4 :: some x :: t) H1) : tAsg te (gName 5) ⟨n, rt, bk, ct⟩ (a0 :: a1 :: a2 :: a3 :: a4 :: a5 :: t) H := q
theorem y_gname5 (q : QG (a0 :: a1 :: a2 :: a3 :: a4 :: some x :: t) H) : gName 5 x (a0 :: a1 :: a2 :: a3 :: a4 :: a5 :: t) H QG := q
theorem y_wname5 (q : te (a0 :: a1 :: a2 :: a3 :: a4 :: some x :: t) H Qt) : gName 5 x (wipe (a0 :: a1 :: a2 :: a3 :: a4 :: a5 :: t) [5]) H fun σ2 H2 => wipe σ2 [5] = wipe (a0 :: a1 :: a2 :: a3 :: a4 :: a5 :: t) [5] ∧ te σ2 H2 Qt := ⟨rfl, q⟩
theorem y_var6 (q : Q v H) : tVar 6 (a0 :: a1 :: a2 :: a3 :: a4 :: a5 :: some v :: t) H Q := ⟨v, rfl, q⟩
theorem y_set6 (q : te (a0 :: a1 :: a2 :: a3 :: a4 :: a5 :: a6 :: t) H fun x H1 => n (a0 :: a1 :: a2 :: a3 :: a4 :: a5 :: some x :: t) H1) : tAsg te (gName 6) ⟨n, rt, bk, ct⟩ (a0 :: a1 :: a2 :: a3 :: a4 :: a5 :: a6 :: t) H := q
theorem y_gname6 (q : QG (a0 :: a1 :: a2 :: a3 :: a4 :: a5 :: some x :: t) H) : gName 6 x (a0 :: a1 :: a2 :: a3 :: a4 :: a5 :: a6 :: t) H QG := q
theorem y_wname6 (q : te (a0 :: a1 :: a2 :: a3 :: a4 :: a5 :: some x :: t) H Qt) : gName 6 x (wipe (a0 :: a1 :: a2 :: a3 :: a4 :: a5 :: a6 :: t) [6]) H fun σ2 H2 => wipe σ2 [6] = wipe (a0 :: a1 :: a2 :: a3 :: a4 :: a5 :: a6 :: t) [6] ∧ te σ2 H2 Qt := ⟨rfl, q⟩
theorem y_var7 (q : Q v H) : tVar 7 (a0 :: a1 :: a2 :: a3 :: a4 :: a5 :: a6 :: some v :: t) H Q := ⟨v, rfl, q⟩
theorem y_set7 (q : te (a0 :: a1 :: a2 :: a3 :: a4 :: a5 :: a6 :: a7 :: t) H fun x H1 => n (a0 :: a1 :: a2 :: a3 :: a4 :: a5 :: a6 :: some x :: t) H1) : tAsg te (gName 7) ⟨n, rt, bk, ct⟩ (a0 :: a1 :: a2 :: a3 :: a4 :: a5 :: a6 :: a7 :: t) H := q
theorem y_gname7 (q : QG (a0 :: a1 :: a2 :: a3 :: a4 :: a5 :: a6 :: some x :: t) H) : gName 7 x (a0 :: a1 :: a2 :: a3 :: a4 :: a5 :: a6 :: a7 :: t) H QG := q
theorem y_wname7 (q : te (a0 :: a1 :: a2 :: a3 :: a4 :: a5 :: a6 :: some x :: t) H Qt) : gName 7 x (wipe (a0 :: a1 :: a2 :: a3 :: a4 :: a5 :: a6 :: a7 :: t) [7]) H fun σ2 H2 => wipe σ2 [7] = wipe (a0 :: a1 :: a2 :: a3 :: a4 :: a5 :: a6 :: a7 :: t) [7] ∧ te σ2 H2 Qt := ⟨rfl, q⟩
theorem y_var8 (q : Q v H) : tVar 8 (a0 :: a1 :: a2 :: a3 :: a4 :: a5 :: a6 :: a7 :: some v :: t) H Q := ⟨v, rfl, q⟩
theorem y_set8 (q : te (a0 :: a1 :: a2 :: a3 :: a4 :: a5 :: a6 :: a7 :: a8 :: t) H fun x H1 => n (a0 :: a1 :: a2 :: a3 :: a4 :: a5 :: a6 :: a7 :: some x :: t) H1) : tAsg te (gName 8) ⟨n, rt, bk, ct⟩ (a0 :: a1 :: a2 :: a3 :: a4 :: a5 :: a6 :: a7 :: a8 :: t) H := q
theorem y_gname8 (q : QG (a0 :: a1 :: a2 :: a3 :: a4 :: a5 :: a6 :: a7 :: some x :: t) H) : gName 8 x (a0 :: a1 :: a2 :: a3 :: a4 :: a5 :: a6 :: a7 :: a8 :: t) H QG := q
theorem y_wname8 (q : te (a0 :: a1 :: a2 :: a3 :: a4 :: a5 :: a6 :: a7 :: some x :: t) H Qt) : gName 8 x (wipe (a0 :: a1 :: a2 :: a3 :: a4 :: a5 :: a6 :: a7 :: a8 :: t) [8]) H fun σ2 H2 => wipe σ2 [8] = wipe (a0 :: a1 :: a2 :: a3 :: a4 :: a5 :: a6 :: a7 :: a8 :: t) [8] ∧ te σ2 H2 Qt := ⟨rfl, q⟩
theorem y_var9 (q : Q v H) : tVar 9 (a0 :: a1 :: a2 :: a3 :: a4 :: a5 :: a6 :: a7 :: a8 :: some v :: t) H Q := ⟨v, rfl, q⟩
theorem y_set9 (q : te (a0 :: a1 :: a2 :: a3 :: a4 :: a5 :: a6 :: a7 :: a8 :: a9 :: t) H fun x H1 => n (a0 :: a1 :: a2 :: a3 :: a4 :: a5 :: a6 :: a7 :: a8 :: some x :: t) H1) : tAsg te (gName 9) ⟨n, rt, bk, ct⟩ (a0 :: a1 :: a2 :: a3 :: a4 :: a5 :: a6 :: a7 :: a8 :: a9 :: t) H := q
theorem y_gname9 (q : QG (a0 :: a1 :: a2 :: a3 :: a4 :: a5 :: a6 :: a7 :: a8 :: some x :: t) H) : gName 9 x (a0 :: a1 :: a2 :: a3 :: a4 :: a5 :: a6 :: a7 :: a8 :: a9 :: t) H QG := q
theorem y_wname9 (q : te (a0 :: a1 :: a2 :: a3 :: a4 :: a5 :: a6 :: a7 :: a8 :: some x :: t) H Qt) : gName 9 x (wipe (a0 :: a1 :: a2 :: a3 :: a4 :: a5 :: a6 :: a7 :: a8 :: a9 :: t) [9]) H fun σ2 H2 => wipe σ2 [9] = wipe (a0 :: a1 :: a2 :: a3 :: a4 :: a5 :: a6 :: a7 :: a8 :: a9 :: t) [9] ∧ te σ2 H2 Qt := ⟨rfl, q⟩
theorem y_var10 (q : Q v H) : tVar 10 (a0 :: a1 :: a2 :: a3 :: a4 :: a5 :: a6 :: a7 :: a8 :: a9 :: some v :: t) H Q := ⟨v, rfl, q⟩
theorem y_set10 (q : te (a0 :: a1 :: a2 :: a3 :: a4 :: a5 :: a6 :: a7 :: a8 :: a9 :: a10 :: t) H fun x H1 => n (a0 :: a1 :: a2 :: a3 :: a4 :: a5 :: a6 :: a7 :: a8 :: a9 :: some x :: t) H1) : tAsg te (gName 10) ⟨n, rt, bk, ct⟩ (a0 :: a1 :: a2 :: a3 :: a4 :: a5 :: a6 :: a7 :: a8 :: a9 :: a10 :: t) H := q
theorem y_gname10 (q : QG (a0 :: a1 :: a2 :: a3 :: a4 :: a5 :: a6 :: a7 :: a8 :: a9 :: some x :: t) H) : gName 10 x (a0 :: a1 :: a2 :: a3 :: a4 :: a5 :: a6 :: a7 :: a8 :: a9 :: a10 :: t) H QG := q
theorem y_wname10 (q : te (a0 :: a1 :: a2 :: a3 :: a4 :: a5 :: a6 :: a7 :: a8 :: a9 :: some x :: t) H Qt) : gName 10 x (wipe (a0 :: a1 :: a2 :: a3 :: a4 :: a5 :: a6 :: a7 :: a8 :: a9 :: a10 :: t) [10]) H fun σ2 H2 => wipe σ2 [10] = wipe (a0 :: a1 :: a2 :: a3 :: a4 :: a5 :: a6 :: a7 :: a8 :: a9 :: a10 :: t) [10] ∧ te σ2 H2 Qt := ⟨rfl, q⟩
theorem y_var11 (q : Q v H) : tVar 11 (a0 :: a1 :: a2 :: a3 :: a4 :: a5 :: a6 :: a7 :: a8 :: a9 :: a10 :: some v :: t) H Q := ⟨v, rfl, q⟩
theorem y_set11 (q : te (a0 :: a1 :: a2 :: a3 :: a4 :: a5 :: a6 :: a7 :: a8 :: a9 :: a10 :: a11 :: t) H fun x H1 => n (a0 :: a1 :: a2 :: a3 :: a4 :: a5 :: a6 :: a7 :: a8 :: a9 :: a10 :: some x :: t) H1) : tAsg te (gName 11) ⟨n, rt, bk, ct⟩ (a0 :: a1 :: a2 :: a3 :: a4 :: a5 :: a6 :: a7 :: a8 :: a9 :: a10 :: a11 :: t) H := q
theorem y_gname11 (q : QG (a0 :: a1 :: a2 :: a3 :: a4 :: a5 :: a6 :: a7 :: a8 :: a9 :: a10 :: some x :: t) H) : gName 11 x (a0 :: a1 :: a2 :: a3 :: a4 :: a5 :: a6 :: a7 :: a8 :: a9 :: a10 :: a11 :: t) H QG := q
theorem y_wname11 (q : te (a0 :: a1 :: a2 :: a3 :: a4 :: a5 :: a6 :: a7 :: a8 :: a9 :: a10 :: some x :: t) H Qt) : gName 11 x (wipe (a0 :: a1 :: a2 :: a3 :: a4 :: a5 :: a6 :: a7 :: a8 :: a9 :: a10 :: a11 :: t) [11]) H fun σ2 H2 => wipe σ2 [11] = wipe (a0 :: a1 :: a2 :: a3 :: a4 :: a5 :: a6 :: a7 :: a8 :: a9 :: a10 :: a11 :: t) [11] ∧ te σ2 H2 Qt := ⟨rfl, q⟩
theorem y_var12 (q : Q v H) : tVar 12 (a0 :: a1 :: a2 :: a3 :: a4 :: a5 :: a6 :: a7 :: a8 :: a9 :: a10 :: a11 :: some v :: t) H Q := ⟨v, rfl, q⟩
theorem y_set12 (q : te (a0 :: a1 :: a2 :: a3 :: a4 :: a5 :: a6 :: a7 :: a8 :: a9 :: a10 :: a11 :: a12 :: t) H fun x H1 => n (a0 :: a1 :: a2 :: a3 :: a4 :: a5 :: a6 :: a7 :: a8 :: a9 :: a10 :: a11 :: some x :: t) H1) : tAsg te (gName 12) ⟨n, rt, bk, ct⟩ (a0 :: a1 :: a2 :: a3 :: a4 :: a5 :: a6 :: a7 :: a8 :: a9 :: a10 :: a11 :: a12 :: t) H := q
theorem y_gname12 (q : QG (a0 :: a1 :: a2 :: a3 :: a4 :: a5 :: a6 :: a7 :: a8 :: a9 :: a10 :: a11 :: some x :: t) H) : gName 12 x (a0 :: a1 :: a2 :: a3 :: a4 :: a5 :: a6 :: a7 :: a8 :: a9 :: a10 :: a11 :: a12 :: t) H QG := q
theorem y_wname12 (q : te (a0 :: a1 :: a2 :: a3 :: a4 :: a5 :: a6 :: a7 :: a8 :: a9 :: a10 :: a11 :: some x :: t) H Qt) : gName 12 x (wipe (a0 :: a1 :: a2 :: a3 :: a4 :: a5 :: a6 :: a7 :: a8 :: a9 :: a10 :: a11 :: a12 :: t) [12]) H fun σ2 H2 => wipe σ2 [12] = wipe (a0 :: a1 :: a2 :: a3 :: a4 :: a5 :: a6 :: a7 :: a8 :: a9 :: a10 :: a11 :: a12 :: t) [12] ∧ te σ2 H2 Qt := ⟨rfl, q⟩
theorem y_var13 (q : Q v H) : tVar 13 (a0 :: a1 :: a2 :: a3 :: a4 :: a5 :: a6 :: a7 :: a8 :: a9 :: a10 :: a11 :: a12 :: some v :: t) H Q := ⟨v, rfl, q⟩
theorem y_set13 (q : te (a0 :: a1 :: a2 :: a3 :: a4 :: a5 :: a6 :: a7 :: a8 :: a9 :: a10 :: a11 :: a12 :: a13 :: t) H fun x H1 => n (a0 :: a1 :: a2 :: a3 :: a4 :: a5 :: a6 :: a7 :: a8 :: a9 :: a10 :: a11 :: a12 :: some x :: t) H1) : tAsg te (gName 13) ⟨n, rt, bk, ct⟩ (a0 :: a1 :: a2 :: a3 :: a4 :: a5 :: a6 :: a7 :: a8 :: a9 :: a10 :: a11 :: a12 :: a13 :: t) H := q
theorem y_gname13 (q : QG (a0 :: a1 :: a2 :: a3 :: a4 :: a5 :: a6 :: a7 :: a8 :: a9 :: a10 :: a11 :: a12 :: some x :: t) H) : gName 13 x (a0 :: a1 :: a2 :: a3 :: a4 :: a5 :: a6 :: a7 :: a8 :: a9 :: a10 :: a11 :: a12 :: a13 :: t) H QG := q
theorem y_wname13 (q : te (a0 :: a1 :: a2 :: a3 :: a4 :: a5 :: a6 :: a7 :: a8 :: a9 :: a10 :: a11 :: a12 :: some x :: t) H Qt) : gName 13 x (wipe (a0 :: a1 :: a2 :: a3 :: a4 :: a5 :: a6 :: a7 :: a8 :: a9 :: a10 :: a11 :: a12 :: a13 :: t) [13]) H fun σ2 H2 => wipe σ2 [13] = wipe (a0 :: a1 :: a2 :: a3 :: a4 :: a5 :: a6 :: a7 :: a8 :: a9 :: a10 :: a11 :: a12 :: a13 :: t) [13] ∧ te σ2 H2 Qt := ⟨rfl, q⟩
theorem y_var14 (q : Q v H) : tVar 14 (a0 :: a1 :: a2 :: a3 :: a4 :: a5 :: a6 :: a7 :: a8 :: a9 :: a10 :: a11 :: a12 :: a13 :: some v :: t) H Q := ⟨v, rfl, q⟩
theorem y_set14 (q : te (a0 :: a1 :: a2 :: a3 :: a4 :: a5 :: a6 :: a7 :: a8 :: a9 :: a10 :: a11 :: a12 :: a13 :: a14 :: t) H fun x H1 => n (a0 :: a1 :: a2 :: a3 :: a4 :: a5 :: a6 :: a7 :: a8 :: a9 :: a10 :: a11 :: a12 :: a13 :: some x :: t) H1) : tAsg te (gName 14) ⟨n, rt, bk, ct⟩ (a0 :: a1 :: a2 :: a3 :: a4 :: a5 :: a6 :: a7 :: a8 :: a9 :: a10 :: a11 :: a12 :: a13 :: a14 :: t) H := q
theorem y_gname14 (q : QG (a0 :: a1 :: a2 :: a3 :: a4 :: a5 :: a6 :: a7 :: a8 :: a9 :: a10 :: a11 :: a12 :: a13 :: some x :: t) H) : gName 14 x (a0 :: a1 :: a2 :: a3 :: a4 :: a5 :: a6 :: a7 :: a8 :: a9 :: a10 :: a11 :: a12 :: a13 :: a14 :: t) H QG := q
theorem y_wname14 (q : te (a0 :: a1 :: a2 :: a3 :: a4 :: a5 :: a6 :: a7 :: a8 :: a9 :: a10 :: a11 :: a12 :: a13 :: some x :: t) H Qt) : gName 14 x (wipe (a0 :: a1 :: a2 :: a3 :: a4 :: a5 :: a6 :: a7 :: a8 :: a9 :: a10 :: a11 :: a12 :: a13 :: a14 :: t) [14]) H fun σ2 H2 => wipe σ2 [14] = wipe (a0 :: a1 :: a2 :: a3 :: a4 :: a5 :: a6 :: a7 :: a8 :: a9 :: a10 :: a11 :: a12 :: a13 :: a14 :: t) [14] ∧ te σ2 H2 Qt := ⟨rfl, q⟩
theorem y_var15 (q : Q v H) : tVar 15 (a0 :: a1 :: a2 :: a3 :: a4 :: a5 :: a6 :: a7 :: a8 :: a9 :: a10 :: a11 :: a12 :: a13 :: a14 :: some v :: t) H Q := ⟨v, rfl, q⟩
theorem y_set15 (q : te (a0 :: a1 :: a2 :: a3 :: a4 :: a5 :: a6 :: a7 :: a8 :: a9 :: a10 :: a11 :: a12 :: a13 :: a14 :: a15 :: t) H fun x H1 => n (a0 :: a1 :: a2 :: a3 :: a4 :: a5 :: a6 :: a7 :: a8 :: a9 :: a10 :: a11 :: a12 :: a13 :: a14 :: some x :: t) H1) : tAsg te (gName 15) ⟨n, rt, bk, ct⟩ (a0 :: a1 :: a2 :: a3 :: a4 :: a5 :: a6 :: a7 :: a8 :: a9 :: a10 :: a11 :: a12 :: a13 :: a14 :: a15 :: t) H := q
theorem y_gname15 (q : QG (a0 :: a1 :: a2 :: a3 :: a4 :: a5 :: a6 :: a7 :: a8 :: a9 :: a10 :: a11 :: a12 :: a13 :: a14 :: some x :: t) H) : gName 15 x (a0 :: a1 :: a2 :: a3 :: a4 :: a5 :: a6 :: a7 :: a8 :: a9 :: a10 :: a11 :: a12 :: a13 :: a14 :: a15 :: t) H QG := q
theorem y_wname15 (q : te (a0 :: a1 :: a2 :: a3 :: a4 :: a5 :: a6 :: a7 :: a8 :: a9 :: a10 :: a11 :: a12 :: a13 :: a14 :: some x :: t) H Qt) : gName 15 x (wipe (a0 :: a1 :: a2 :: a3 :: a4 :: a5 :: a6 :: a7 :: a8 :: a9 :: a10 :: a11 :: a12 :: a13 :: a14 :: a15 :: t) [15]) H fun σ2 H2 => wipe σ2 [15] = wipe (a0 :: a1 :: a2 :: a3 :: a4 :: a5 :: a6 :: a7 :: a8 :: a9 :: a10 :: a11 :: a12 :: a13 :: a14 :: a15 :: t) [15] ∧ te σ2 H2 Qt := ⟨rfl, q⟩
theorem y_var16 (q : Q v H) : tVar 16 (a0 :: a1 :: a2 :: a3 :: a4 :: a5 :: a6 :: a7 :: a8 :: a9 :: a10 :: a11 :: a12 :: a13 :: a14 :: a15 :: some v :: t) H Q := ⟨v, rfl, q⟩
theorem y_set16 (q : te (a0 :: a1 :: a2 :: a3 :: a4 :: a5 :: a6 :: a7 :: a8 :: a9 :: a10 :: a11 :: a12 :: a13 :: a14 :: a15 :: a16 :: t) H fun x H1 => n (a0 :: a1 :: a2 :: a3 :: a4 :: a5 :: a6 :: a7 :: a8 :: a9 :: a10 :: a11 :: a12 :: a13 :: a14 :: a15 :: some x :: t) H1) : tAsg te (gName 16) ⟨n, rt, bk, ct⟩ (a0 :: a1 :: a2 :: a3 :: a4 :: a5 :: a6 :: a7 :: a8 :: a9 :: a10 :: a11 :: a12 :: a13 :: a14 :: a15 :: a16 :: t) H := q
theorem y_gname16 (q : QG (a0 :: a1 :: a2 :: a3 :: a4 :: a5 :: a6 :: a7 :: a8 :: a9 :: a10 :: a11 :: a12 :: a13 :: a14 :: a15 :: some x :: t) H) : gName 16 x (a0 :: a1 :: a2 :: a3 :: a4 :: a5 :: a6 :: a7 :: a8 :: a9 :: a10 :: a11 :: a12 :: a13 :: a14 :: a15 :: a16 :: t) H QG := q
theorem y_wname16 (q : te (a0 :: a1 :: a2 :: a3 :: a4 :: a5 :: a6 :: a7 :: a8 :: a9 :: a10 :: a11 :: a12 :: a13 :: a14 :: a15 :: some x :: t) H Qt) : gName 16 x (wipe (a0 :: a1 :: a2 :: a3 :: a4 :: a5 :: a6 :: a7 :: a8 :: a9 :: a10 :: a11 :: a12 :: a13 :: a14 :: a15 :: a16 :: t) [16]) H fun σ2 H2 => wipe σ2 [16] = wipe (a0 :: a1 :: a2 :: a3 :: a4 :: a5 :: a6 :: a7 :: a8 :: a9 :: a10 :: a11 :: a12 :: a13 :: a14 :: a15 :: a16 :: t) [16] ∧ te σ2 H2 Qt := ⟨rfl, q⟩
theorem y_var17 (q : Q v H) : tVar 17 (a0 :: a1 :: a2 :: a3 :: a4 :: a5 :: a6 :: a7 :: a8 :: a9 :: a10 :: a11 :: a12 :: a13 :: a14 :: a15 :: a16 :: some v :: t) H Q := ⟨v, rfl, q⟩
theorem y_set17 (q : te (a0 :: a1 :: a2 :: a3 :: a4 :: a5 :: a6 :: a7 :: a8 :: a9 :: a10 :: a11 :: a12 :: a13 :: a14 :: a15 :: a16 :: a17 :: t) H fun x H1 => n (a0 :: a1 :: a2 :: a3 :: a4 :: a5 :: a6 :: a7 :: a8 :: a9 :: a10 :: a11 :: a12 :: a13 :: a14 :: a15 :: a16 :: some x :: t) H1) : tAsg te (gName 17) ⟨n, rt, bk, ct⟩ (a0 :: a1 :: a2 :: a3 :: a4 :: a5 :: a6 :: a7 :: a8 :: a9 :: a10 :: a11 :: a12 :: a13 :: a14 :: a15 :: a16 :: a17 :: t) H := q
theorem y_gname17 (q : QG (a0 :: a1 :: a2 :: a3 :: a4 :: a5 :: a6 :: a7 :: a8 :: a9 :: a10 :: a11 :: a12 :: a13 :: a14 :: a15 :: a16 :: some x :: t) H) : gName 17 x (a0 :: a1 :: a2 :: a3 :: a4 :: a5 :: a6 :: a7 :: a8 :: a9 :: a10 :: a11 :: a12 :: a13 :: a14 :: a15 :: a16 :: a17 :: t) H QG := q
theorem y_wname17 (q : te (a0 :: a1 :: a2 :: a3 :: a4 :: a5 :: a6 :: a7 :: a8 :: a9 :: a10 :: a11 :: a12 :: a13 :: a14 :: a15 :: a16 :: some x :: t) H Qt) : gName 17 x (wipe (a0 :: a1 :: a2 :: a3 :: a4 :: a5 :: a6 :: a7 :: a8 :: a9 :: a10 :: a11 :: a12 :: a13 :: a14 :: a15 :: a16 :: a17 :: t) [17]) H fun σ2 H2 => wipe σ2 [17] = wipe (a0 :: a1 :: a2 :: a3 :: a4 :: a5 :: a6 :: a7 :: a8 :: a9 :: a10 :: a11 :: a12 :: a13 :: a14 :: a15 :: a16 :: a17 :: t) [17] ∧ te σ2 H2 Qt := ⟨rfl, q⟩
theorem y_var18 (q : Q v H) : tVar 18 (a0 :: a1 :: a2 :: a3 :: a4 :: a5 :: a6 :: a7 :: a8 :: a9 :: a10 :: a11 :: a12 :: a13 :: a14 :: a15 :: a16 :: a17 :: some v :: t) H Q := ⟨v, rfl, q⟩
theorem y_set18 (q : te (a0 :: a1 :: a2 :: a3 :: a4 :: a5 :: a6 :: a7 :: a8 :: a9 :: a10 :: a11 :: a12 :: a13 :: a14 :: a15 :: a16 :: a17 :: a18 :: t) H fun x H1 => n (a0 :: a1 :: a2 :: a3 :: a4 :: a5 :: a6 :: a7 :: a8 :: a9 :: a10 :: a11 :: a12 :: a13 :: a14 :: a15 :: a16 :: a17 :: some x :: t) H1) : tAsg te (gName 18) ⟨n, rt, bk, ct⟩ (a0 :: a1 :: a2 :: a3 :: a4 :: a5 :: a6 :: a7 :: a8 :: a9 :: a10 :: a11 :: a12 :: a13 :: a14 :: a15 :: a16 :: a17 :: a18 :: t) H := q
theorem y_gname18 (q : QG (a0 :: a1 :: a2 :: a3 :: a4 :: a5 :: a6 :: a7 :: a8 :: a9 :: a10 :: a11 :: a12 :: a13 :: a14 :: a15 :: a16 :: a17 :: some x :: t) H) : gName 18 x (a0 :: a1 :: a2 :: a3 :: a4 :: a5 :: a6 :: a7 :: a8 :: a9 :: a10 :: a11 :: a12 :: a13 :: a14 :: a15 :: a16 :: a17 :: a18 :: t) H QG := q
theorem y_wname18 (q : te (a0 :: a1 :: a2 :: a3 :: a4 :: a5 :: a6 :: a7 :: a8 :: a9 :: a10 :: a11 :: a12 :: a13 :: a14 :: a15 :: a16 :: a17 :: some x :: t) H Qt) : gName 18 x (wipe (a0 :: a1 :: a2 :: a3 :: a4 :: a5 :: a6 :: a7 :: a8 :: a9 :: a10 :: a11 :: a12 :: a13 :: a14 :: a15 :: a16 :: a17 :: a18 :: t) [18]) H fun σ2 H2 => wipe σ2 [18] = wipe (a0 :: a1 :: a2 :: a3 :: a4 :: a5 :: a6 :: a7 :: a8 :: a9 :: a10 :: a11 :: a12 :: a13 :: a14 :: a15 :: a16 :: a17 :: a18 :: t) [18] ∧ te σ2 H2 Qt := ⟨rfl, q⟩
theorem y_var19 (q : Q v H) : tVar 19 (a0 :: a1 :: a2 :: a3 :: a4 :: a5 :: a6 :: a7 :: a8 :: a9 :: a10 :: a11 :: a12 :: a13 :: a14 :: a15 :: a16 :: a17 :: a18 :: some v :: t) H Q := ⟨v, rfl, q⟩
theorem y_set19 (q : te (a0 :: a1 :: a2 :: a3 :: a4 :: a5 :: a6 :: a7 :: a8 :: a9 :: a10 :: a11 :: a12 :: a13 :: a14 :: a15 :: a16 :: a17 :: a18 :: a19 :: t) H fun x H1 => n (a0 :: a1 :: a2 :: a3 :: a4 :: a5 :: a6 :: a7 :: a8 :: a9 :: a10 :: a11 :: a12 :: a13 :: a14 :: a15 :: a16 :: a17 :: a18 :: some x :: t) H1) : tAsg te (gName 19) ⟨n, rt, bk, ct⟩ (a0 :: a1 :: a2 :: a3 :: a4 :: a5 :: a6 :: a7 :: a8 :: a9 :: a10 :: a11 :: a12 :: a13 :: a14 :: a15 :: a16 :: a17 :: a18 :: a19 :: t) H := q
theorem y_gname19 (q : QG (a0 :: a1 :: a2 :: a3 :: a4 :: a5 :: a6 :: a7 :: a8 :: a9 :: a10 :: a11 :: a12 :: a13 :: a14 :: a15 :: a16 :: a17 :: a18 :: some x :: t) H) : gName 19 x (a0 :: a1 :: a2 :: a3 :: a4 :: a5 :: a6 :: a7 :: a8 :: a9 :: a10 :: a11 :: a12 :: a13 :: a14 :: a15 :: a16 :: a17 :: a18 :: a19 :: t) H QG := q
theorem y_wname19 (q : te (a0 :: a1 :: a2 :: a3 :: a4 :: a5 :: a6 :: a7 :: a8 :: a9 :: a10 :: a11 :: a12 :: a13 :: a14 :: a15 :: a16 :: a17 :: a18 :: some x :: t) H Qt) : gName 19 x (wipe (a0 :: a1 :: a2 :: a3 :: a4 :: a5 :: a6 :: a7 :: a8 :: a9 :: a10 :: a11 :: a12 :: a13 :: a14 :: a15 :: a16 :: a17 :: a18 :: a19 :: t) [19]) H fun σ2 H2 => wipe σ2 [19] = wipe (a0 :: a1 :: a2 :: a3 :: a4 :: a5 :: a6 :: a7 :: a8 :: a9 :: a10 :: a11 :: a12 :: a13 :: a14 :: a15 :: a16 :: a17 :: a18 :: a19 :: t) [19] ∧ te σ2 H2 Qt := ⟨rfl, q⟩
theorem y_var20 (q : Q v H) : tVar 20 (a0 :: a1 :: a2 :: a3 :: a4 :: a5 :: a6 :: a7 :: a8 :: a9 :: a10 :: a11 :: a12 :: a13 :: a14 :: a15 :: a16 :: a17 :: a18 :: a19 :: some v :: t) H Q := ⟨v, rfl, q⟩
theorem y_set20 (q : te (a0 :: a1 :: a2 :: a3 :: a4 :: a5 :: a6 :: a7 :: a8 :: a9 :: a10 :: a11 :: a12 :: a13 :: a14 :: a15 :: a16 :: a17 :: a18 :: a19 :: a20 :: t) H fun x H1 => n (a0 :: a1 :: a2 :: a3 :: a4 :: a5 :: a6 :: a7 :: a8 :: a9 :: a10 :: a11 :: a12 :: a13 :: a14 :: a15 :: a16 :: a17 :: a18 :: a19 :: some x :: t) H1) : tAsg te (gName 20) ⟨n, rt, bk, ct⟩ (a0 :: a1 :: a2 :: a3 :: a4 :: a5 :: a6 :: a7 :: a8 :: a9 :: a10 :: a11 :: a12 :: a13 :: a14 :: a15 :: a16 :: a17 :: a18 :: a19 :: a20 :: t) H := q
theorem y_gname20 (q : QG (a0 :: a1 :: a2 :: a3 :: a4 :: a5 :: a6 :: a7 :: a8 :: a9 :: a10 :: a11 :: a12 :: a13 :: a14 :: a15 :: a16 :: a17 :: a18 :: a19 :: some x :: t) H) : gName 20 x (a0 :: a1 :: a2 :: a3 :: a4 :: a5 :: a6 :: a7 :: a8 :: a9 :: a10 :: a11 :: a12 :: a13 :: a14 :: a15 :: a16 :: a17 :: a18 :: a19 :: a20 :: t) H QG := q
theorem y_wname20 (q : te (a0 :: a1 :: a2 :: a3 :: a4 :: a5 :: a6 :: a7 :: a8 :: a9 :: a10 :: a11 :: a12 :: a13 :: a14 :: a15 :: a16 :: a17 :: a18 :: a19 :: some x :: t) H Qt) : gName 20 x (wipe (a0 :: a1 :: a2 :: a3 :: a4 :: a5 :: a6 :: a7 :: a8 :: a9 :: a10 :: a11 :: a12 :: a13 :: a14 :: a15 :: a16 :: a17 :: a18 :: a19 :: a20 :: t) [20]) H fun σ2 H2 => wipe σ2 [20] = wipe (a0 :: a1 :: a2 :: a3 :: a4 :: a5 :: a6 :: a7 :: a8 :: a9 :: a10 :: a11 :: a12 :: a13 :: a14 :: a15 :: a16 :: a17 :: a18 :: a19 :: a20 :: t) [20] ∧ te σ2 H2 Qt := ⟨rfl, q⟩
theorem y_var21 (q : Q v H) : tVar 21 (a0 :: a1 :: a2 :: a3 :: a4 :: a5 :: a6 :: a7 :: a8 :: a9 :: a10 :: a11 :: a12 :: a13 :: a14 :: a15 :: a16 :: a17 :: a18 :: a19 :: a20 :: some v :: t) H Q := ⟨v, rfl, q⟩
theorem y_set21 (q : te (a0 :: a1 :: a2 :: a3 :: a4 :: a5 :: a6 :: a7 :: a8 :: a9 :: a10 :: a11 :: a12 :: a13 :: a14 :: a15 :: a16 :: a17 :: a18 :: a19 :: a20 :: a21 :: t) H fun x H1 => n (a0 :: a1 :: a2 :: a3 :: a4 :: a5 :: a6 :: a7 :: a8 :: a9 :: a10 :: a11 :: a12 :: a13 :: a14 :: a15 :: a16 :: a17 :: a18 :: a19 :: a20 :: some x :: t) H1) : tAsg te (gName 21) ⟨n, rt, bk, ct⟩ (a0 :: a1 :: a2 :: a3 :: a4 :: a5 :: a6 :: a7 :: a8 :: a9 :: a10 :: a11 :: a12 :: a13 :: a14 :: a15 :: a16 :: a17 :: a18 :: a19 :: a20 :: a21 :: t) H := q
theorem y_gname21 (q : QG (a0 :: a1 :: a2 :: a3 :: a4 :: a5 :: a6 :: a7 :: a8 :: a9 :: a10 :: a11 :: a12 :: a13 :: a14 :: a15 :: a16 :: a17 :: a18 :: a19 :: a20 :: some x :: t) H) : gName 21 x (a0 :: a1 :: a2 :: a3 :: a4 :: a5 :: a6 :: a7 :: a8 :: a9 :: a10 :: a11 :: a12 :: a13 :: a14 :: a15 :: a16 :: a17 :: a18 :: a19 :: a20 :: a21 :: t) H QG := q
theorem y_wname21 (q : te (a0 :: a1 :: a2 :: a3 :: a4 :: a5 :: a6 :: a7 :: a8 :: a9 :: a10 :: a11 :: a12 :: a13 :: a14 :: a15 :: a16 :: a17 :: a18 :: a19 :: a20 :: some x :: t) H Qt) : gName 21 x (wipe (a0 :: a1 :: a2 :: a3 :: a4 :: a5 :: a6 :: a7 :: a8 :: a9 :: a10 :: a11 :: a12 :: a13 :: a14 :: a15 :: a16 :: a17 :: a18 :: a19 :: a20 :: a21 :: t) [21]) H fun σ2 H2 => wipe σ2 [21] = wipe (a0 :: a1 :: a2 :: a3 :: a4 :: a5 :: a6 :: a7 :: a8 :: a9 :: a10 :: a11 :: a12 :: a13 :: a14 :: a15 :: a16 :: a17 :: a18 :: a19 :: a20 :: a21 :: t) [21] ∧ te σ2 H2 Qt := ⟨rfl, q⟩
theorem y_var22 (q : Q v H) : tVar 22 (a0 :: a1 :: a2 :: a3 :: a4 :: a5 :: a6 :: a7 :: a8 :: a9 :: a10 :: a11 :: a12 :: a13 :: a14 :: a15 :: a16 :: a17 :: a18 :: a19 :: a20 :: a21 :: some v :: t) H Q := ⟨v, rfl, q⟩
theorem y_set22 (q : te (a0 :: a1 :: a2 :: a3 :: a4 :: a5 :: a6 :: a7 :: a8 :: a9 :: a10 :: a11 :: a12 :: a13 :: a14 :: a15 :: a16 :: a17 :: a18 :: a19 :: a20 :: a21 :: a22 :: t) H fun x H1 => n (a0 :: a1 :: a2 :: a3 :: a4 :: a5 :: a6 :: a7 :: a8 :: a9 :: a10 :: a11 :: a12 :: a13 :: a14 :: a15 :: a16 :: a17 :: a18 :: a19 :: a20 :: a21 :: some x :: t) H1) : tAsg te (gName 22) ⟨n, rt, bk, ct⟩ (a0 :: a1 :: a2 :: a3 :: a4 :: a5 :: a6 :: a7 :: a8 :: a9 :: a10 :: a11 :: a12 :: a13 :: a14 :: a15 :: a16 :: a17 :: a18 :: a19 :: a20 :: a21 :: a22 :: t) H := q
theorem y_gname22 (q : QG (a0 :: a1 :: a2 :: a3 :: a4 :: a5 :: a6 :: a7 :: a8 :: a9 :: a10 :: a11 :: a12 :: a13 :: a14 :: a15 :: a16 :: a17 :: a18 :: a19 :: a20 :: a21 :: some x :: t) H) : gName 22 x (a0 :: a1 :: a2 :: a3 :: a4 :: a5 :: a6 :: a7 :: a8 :: a9 :: a10 :: a11 :: a12 :: a13 :: a14 :: a15 :: a16 :: a17 :: a18 :: a19 :: a20 :: a21 :: a22 :: t) H QG := q
theorem y_wname22 (q : te (a0 :: a1 :: a2 :: a3 :: a4 :: a5 :: a6 :: a7 :: a8 :: a9 :: a10 :: a11 :: a12 :: a13 :: a14 :: a15 :: a16 :: a17 :: a18 :: a19 :: a20 :: a21 :: some x :: t) H Qt) : gName 22 x (wipe (a0 :: a1 :: a2 :: a3 :: a4 :: a5 :: a6 :: a7 :: a8 :: a9 :: a10 :: a11 :: a12 :: a13 :: a14 :: a15 :: a16 :: a17 :: a18 :: a19 :: a20 :: a21 :: a22 :: t) [22]) H fun σ2 H2 => wipe σ2 [22] = wipe (a0 :: a1 :: a2 :: a3 :: a4 :: a5 :: a6 :: a7 :: a8 :: a9 :: a10 :: a11 :: a12 :: a13 :: a14 :: a15 :: a16 :: a17 :: a18 :: a19 :: a20 :: a21 :: a22 :: t) [22] ∧ te σ2 H2 Qt := ⟨rfl, q⟩
theorem y_var23 (q : Q v H) : tVar 23 (a0 :: a1 :: a2 :: a3 :: a4 :: a5 :: a6 :: a7 :: a8 :: a9 :: a10 :: a11 :: a12 :: a13 :: a14 :: a15 :: a16 :: a17 :: a18 :: a19 :: a20 :: a21 :: a22 :: some v :: t) H Q := ⟨v, rfl, q⟩
theorem y_set23 (q : te (a0 :: a1 :: a2 :: a3 :: a4 :: a5 :: a6 :: a7 :: a8 :: a9 :: a10 :: a11 :: a12 :: a13 :: a14 :: a15 :: a16 :: a17 :: a18 :: a19 :: a20 :: a21 :: a22 :: a23 :: t) H fun x H1 => n (a0 :: a1 :: a2 :: a3 :: a4 :: a5 :: a6 :: a7 :: a8 :: a9 :: a10 :: a11 :: a12 :: a13 :: a14 :: a15 :: a16 :: a17 :: a18 :: a19 :: a20 :: a21 :: a22 :: some x :: t) H1) : tAsg te (gName 23) ⟨n, rt, bk, ct⟩ (a0 :: a1 :: a2 :: a3 :: a4 :: a5 :: a6 :: a7 :: a8 :: a9 :: a10 :: a11 :: a12 :: a13 :: a14 :: a15 :: a16 :: a17 :: a18 :: a19 :: a20 :: a21 :: a22 :: a23 :: t) H := q
theorem y_gname23 (q : QG (a0 :: a1 :: a2 :: a3 :: a4 :: a5 :: a6 :: a7 :: a8 :: a9 :: a10 :: a11 :: a12 :: a13 :: a14 :: a15 :: a16 :: a17 :: a18 :: a19 :: a20 :: a21 :: a22 :: some x :: t) H) : gName 23 x (a0 :: a1 :: a2 :: a3 :: a4 :: a5 :: a6 :: a7 :: a8 :: a9 :: a10 :: a11 :: a12 :: a13 :: a14 :: a15 :: a16 :: a17 :: a18 :: a19 :: a20 :: a21 :: a22 :: a23 :: t) H QG := q
theorem y_wname23 (q : te (a0 :: a1 :: a2 :: a3 :: a4 :: a5 :: a6 :: a7 :: a8 :: a9 :: a10 :: a11 :: a12 :: a13 :: a14 :: a15 :: a16 :: a17 :: a18 :: a19 :: a20 :: a21 :: a22 :: some x :: t) H Qt) : gName 23 x (wipe (a0 :: a1 :: a2 :: a3 :: a4 :: a5 :: a6 :: a7 :: a8 :: a9 :: a10 :: a11 :: a12 :: a13 :: a14 :: a15 :: a16 :: a17 :: a18 :: a19 :: a20 :: a21 :: a22 :: a23 :: t) [23]) H fun σ2 H2 => wipe σ2 [23] = wipe (a0 :: a1 :: a2 :: a3 :: a4 :: a5 :: a6 :: a7 :: a8 :: a9 :: a10 :: a11 :: a12 :: a13 :: a14 :: a15 :: a16 :: a17 :: a18 :: a19 :: a20 :: a21 :: a22 :: a23 :: t) [23] ∧ te σ2 H2 Qt := ⟨rfl, q⟩
theorem y_var24 (q : Q v H) : tVar 24 (a0 :: a1 :: a2 :: a3 :: a4 :: a5 :: a6 :: a7 :: a8 :: a9 :: a10 :: a11 :: a12 :: a13 :: a14 :: a15 :: a16 :: a17 :: a18 :: a19 :: a20 :: a21 :: a22 :: a23 :: some v :: t) H Q := ⟨v, rfl, q⟩
theorem y_set24 (q : te (a0 :: a1 :: a2 :: a3 :: a4 :: a5 :: a6 :: a7 :: a8 :: a9 :: a10 :: a11 :: a12 :: a13 :: a14 :: a15 :: a16 :: a17 :: a18 :: a19 :: a20 :: a21 :: a22 :: a23 :: a24 :: t) H fun x H1 => n (a0 :: a1 :: a2 :: a3 :: a4 :: a5 :: a6 :: a7 :: a8 :: a9 :: a10 :: a11 :: a12 :: a13 :: a14 :: a15 :: a16 :: a17 :: a18 :: a19 :: a20 :: a21 :: a22 :: a23 :: some x :: t) H1) : tAsg te (gName 24) ⟨n, rt, bk, ct⟩ (a0 :: a1 :: a2 :: a3 :: a4 :: a5 :: a6 :: a7 :: a8 :: a9 :: a10 :: a11 :: a12 :: a13 :: a14 :: a15 :: a16 :: a17 :: a18 :: a19 :: a20 :: a21 :: a22 :: a23 :: a24 :: t) H := q
theorem y_gname24 (q : QG (a0 :: a1 :: a2 :: a3 :: a4 :: a5 :: a6 :: a7 :: a8 :: a9 :: a10 :: a11 :: a12 :: a13 :: a14 :: a15 :: a16 :: a17 :: a18 :: a19 :: a20 :: a21 :: a22 :: a23 :: some x :: t) H) : gName 24 x (a0 :: a1 :: a2 :: a3 :: a4 :: a5 :: a6 :: a7 :: a8 :: a9 :: a10 :: a11 :: a12 :: a13 :: a14 :: a15 :: a16 :: a17 :: a18 :: a19 :: a20 :: a21 :: a22 :: a23 :: a24 :: t) H QG := q
theorem y_wname24 (q : te (a0 :: a1 :: a2 :: a3 :: a4 :: a5 :: a6 :: a7 :: a8 :: a9 :: a10 :: a11 :: a12 :: a13 :: a14 :: a15 :: a16 :: a17 :: a18 :: a19 :: a20 :: a21 :: a22 :: a23 :: some x :: t) H Qt) : gName 24 x (wipe (a0 :: a1 :: a2 :: a3 :: a4 :: a5 :: a6 :: a7 :: a8 :: a9 :: a10 :: a11 :: a12 :: a13 :: a14 :: a15 :: a16 :: a17 :: a18 :: a19 :: a20 :: a21 :: a22 :: a23 :: a24 :: t) [24]) H fun σ2 H2 => wipe σ2 [24] = wipe (a0 :: a1 :: a2 :: a3 :: a4 :: a5 :: a6 :: a7 :: a8 :: a9 :: a10 :: a11 :: a12 :: a13 :: a14 :: a15 :: a16 :: a17 :: a18 :: a19 :: a20 :: a21 :: a22 :: a23 :: a24 :: t) [24] ∧ te σ2 H2 Qt := ⟨rfl, q⟩
theorem y_var25 (q : Q v H) : tVar 25 (a0 :: a1 :: a2 :: a3 :: a4 :: a5 :: a6 :: a7 :: a8 :: a9 :: a10 :: a11 :: a12 :: a13 :: a14 :: a15 :: a16 :: a17 :: a18 :: a19 :: a20 :: a21 :: a22 :: a23 :: a24 :: some v :: t) H Q := ⟨v, rfl, q⟩
theorem y_set25 (q : te (a0 :: a1 :: a2 :: a3 :: a4 :: a5 :: a6 :: a7 :: a8 :: a9 :: a10 :: a11 :: a12 :: a13 :: a14 :: a15 :: a16 :: a17 :: a18 :: a19 :: a20 :: a21 :: a22 :: a23 :: a24 :: a25 :: t) H fun x H1 => n (a0 :: a1 :: a2 :: a3 :: a4 :: a5 :: a6 :: a7 :: a8 :: a9 :: a10 :: a11 :: a12 :: a13 :: a14 :: a15 :: a16 :: a17 :: a18 :: a19 :: a20 :: a21 :: a22 :: a23 :: a24 :: some x :: t) H1) : tAsg te (gName 25) ⟨n, rt, bk, ct⟩ (a0 :: a1 :: a2 :: a3 :: a4 :: a5 :: a6 :: a7 :: a8 :: a9 :: a10 :: a11 :: a12 :: a13 :: a14 :: a15 :: a16 :: a17 :: a18 :: a19 :: a20 :: a21 :: a22 :: a23 :: a24 :: a25 :: t) H := q
theorem y_gname25 (q : QG (a0 :: a1 :: a2 :: a3 :: a4 :: a5 :: a6 :: a7 :: a8 :: a9 :: a10 :: a11 :: a12 :: a13 :: a14 :: a15 :: a16 :: a17 :: a18 :: a19 :: a20 :: a21 :: a22 :: a23 :: a24 :: some x :: t) H) : gName 25 x (a0 :: a1 :: a2 :: a3 :: a4 :: a5 :: a6 :: a7 :: a8 :: a9 :: a10 :: a11 :: a12 :: a13 :: a14 :: a15 :: a16 :: a17 :: a18 :: a19 :: a20 :: a21 :: a22 :: a23 :: a24 :: a25 :: t) H QG := q
theorem y_wname25 (q : te (a0 :: a1 :: a2 :: a3 :: a4 :: a5 :: a6 :: a7 :: a8 :: a9 :: a10 :: a11 :: a12 :: a13 :: a14 :: a15 :: a16 :: a17 :: a18 :: a19 :: a20 :: a21 :: a22 :: a23 :: a24 :: some x :: t) H Qt) : gName 25 x (wipe (a0 :: a1 :: a2 :: a3 :: a4 :: a5 :: a6 :: a7 :: a8 :: a9 :: a10 :: a11 :: a12 :: a13 :: a14 :: a15 :: a16 :: a17 :: a18 :: a19 :: a20 :: a21 :: a22 :: a23 :: a24 :: a25 :: t) [25]) H fun σ2 H2 => wipe σ2 [25] = wipe (a0 :: a1 :: a2 :: a3 :: a4 :: a5 :: a6 :: a7 :: a8 :: a9 :: a10 :: a11 :: a12 :: a13 :: a14 :: a15 :: a16 :: a17 :: a18 :: a19 :: a20 :: a21 :: a22 :: a23 :: a24 :: a25 :: t) [25] ∧ te σ2 H2 Qt := ⟨rfl, q⟩
theorem y_var26 (q : Q v H) : tVar 26 (a0 :: a1 :: a2 :: a3 :: a4 :: a5 :: a6 :: a7 :: a8 :: a9 :: a10 :: a11 :: a12 :: a13 :: a14 :: a15 :: a16 :: a17 :: a18 :: a19 :: a20 :: a21 :: a22 :: a23 :: a24 :: a25 :: some v :: t) H Q := ⟨v, rfl, q⟩
theorem y_set26 (q : te (a0 :: a1 :: a2 :: a3 :: a4 :: a5 :: a6 :: a7 :: a8 :: a9 :: a10 :: a11 :: a12 :: a13 :: a14 :: a15 :: a16 :: a17 :: a18 :: a19 :: a20 :: a21 :: a22 :: a23 :: a24 :: a25 :: a26 :: t) H fun x H1 => n (a0 :: a1 :: a2 :: a3 :: a4 :: a5 :: a6 :: a7 :: a8 :: a9 :: a10 :: a11 :: a12 :: a13 :: a14 :: a15 :: a16 :: a17 :: a18 :: a19 :: a20 :: a21 :: a22 :: a23 :: a24 :: a25 :: some x :: t) H1) : tAsg te (gName 26) ⟨n, rt, bk, ct⟩ (a0 :: a1 :: a2 :: a3 :: a4 :: a5 :: a6 :: a7 :: a8 :: a9 :: a10 :: a11 :: a12 :: a13 :: a14 :: a15 :: a16 :: a17 :: a18 :: a19 :: a20 :: a21 :: a22 :: a23 :: a24 :: a25 :: a26 :: t) H := q
theorem y_gname26 (q : QG (a0 :: a1 :: a2 :: a3 :: a4 :: a5 :: a6 :: a7 :: a8 :: a9 :: a10 :: a11 :: a12 :: a13 :: a14 :: a15 :: a16 :: a17 :: a18 :: a19 :: a20 :: a21 :: a22 :: a23 :: a24 :: a25 :: some x :: t) H) : gName 26 x (a0 :: a1 :: a2 :: a3 :: a4 :: a5 :: a6 :: a7 :: a8 :: a9 :: a10 :: a11 :: a12 :: a13 :: a14 :: a15 :: a16 :: a17 :: a18 :: a19 :: a20 :: a21 :: a22 :: a23 :: a24 :: a25 :: a26 :: t) H QG := q
theorem y_wname26 (q : te (a0 :: a1 :: a2 :: a3 :: a4 :: a5 :: a6 :: a7 :: a8 :: a9 :: a10 :: a11 :: a12 :: a13 :: a14 :: a15 :: a16 :: a17 :: a18 :: a19 :: a20 :: a21 :: a22 :: a23 :: a24 :: a25 :: some x :: t) H Qt) : gName 26 x (wipe (a0 :: a1 :: a2 :: a3 :: a4 :: a5 :: a6 :: a7 :: a8 :: a9 :: a10 :: a11 :: a12 :: a13 :: a14 :: a15 :: a16 :: a17 :: a18 :: a19 :: a20 :: a21 :: a22 :: a23 :: a24 :: a25 :: a26 :: t) [26]) H fun σ2 H2 => wipe σ2 [26] = wipe (a0 :: a1 :: a2 :: a3 :: a4 :: a5 :: a6 :: a7 :: a8 :: a9 :: a10 :: a11 :: a12 :: a13 :: a14 :: a15 :: a16 :: a17 :: a18 :: a19 :: a20 :: a21 :: a22 :: a23 :: a24 :: a25 :: a26 :: t) [26] ∧ te σ2 H2 Qt := ⟨rfl, q⟩
theorem y_var27 (q : Q v H) : tVar 27 (a0 :: a1 :: a2 :: a3 :: a4 :: a5 :: a6 :: a7 :: a8 :: a9 :: a10 :: a11 :: a12 :: a13 :: a14 :: a15 :: a16 :: a17 :: a18 :: a19 :: a20 :: a21 :: a22 :: a23 :: a24 :: a25 :: a26 :: some v :: t) H Q := ⟨v, rfl, q⟩
theorem y_set27 (q : te (a0 :: a1 :: a2 :: a3 :: a4 :: a5 :: a6 :: a7 :: a8 :: a9 :: a10 :: a11 :: a12 :: a13 :: a14 :: a15 :: a16 :: a17 :: a18 :: a19 :: a20 :: a21 :: a22 :: a23 :: a24 :: a25 :: a26 :: a27 :: t) H fun x H1 => n (a0 :: a1 :: a2 :: a3 :: a4 :: a5 :: a6 :: a7 :: a8 :: a9 :: a10 :: a11 :: a12 :: a13 :: a14 :: a15 :: a16 :: a17 :: a18 :: a19 :: a20 :: a21 :: a22 :: a23 :: a24 :: a25 :: a26 :: some x :: t) H1) : tAsg te (gName 27) ⟨n, rt, bk, ct⟩ (a0 :: a1 :: a2 :: a3 :: a4 :: a5 :: a6 :: a7 :: a8 :: a9 :: a10 :: a11 :: a12 :: a13 :: a14 :: a15 :: a16 :: a17 :: a18 :: a19 :: a20 :: a21 :: a22 :: a23 :: a24 :: a25 :: a26 :: a27 :: t) H := q
theorem y_gname27 (q : QG (a0 :: a1 :: a2 :: a3 :: a4 :: a5 :: a6 :: a7 :: a8 :: a9 :: a10 :: a11 :: a12 :: a13 :: a14 :: a15 :: a16 :: a17 :: a18 :: a19 :: a20 :: a21 :: a22 :: a23 :: a24 :: a25 :: a26 :: some x :: t) H) : gName 27 x (a0 :: a1 :: a2 :: a3 :: a4 :: a5 :: a6 :: a7 :: a8 :: a9 :: a10 :: a11 :: a12 :: a13 :: a14 :: a15 :: a16 :: a17 :: a18 :: a19 :: a20 :: a21 :: a22 :: a23 :: a24 :: a25 :: a26 :: a27 :: t) H QG := q
theorem y_wname27 (q : te (a0 :: a1 :: a2 :: a3 :: a4 :: a5 :: a6 :: a7 :: a8 :: a9 :: a10 :: a11 :: a12 :: a13 :: a14 :: a15 :: a16 :: a17 :: a18 :: a19 :: a20 :: a21 :: a22 :: a23 :: a24 :: a25 :: a26 :: some x :: t) H Qt) : gName 27 x (wipe (a0 :: a1 :: a2 :: a3 :: a4 :: a5 :: a6 :: a7 :: a8 :: a9 :: a10 :: a11 :: a12 :: a13 :: a14 :: a15 :: a16 :: a17 :: a18 :: a19 :: a20 :: a21 :: a22 :: a23 :: a24 :: a25 :: a26 :: a27 :: t) [27]) H fun σ2 H2 => wipe σ2 [27] = wipe (a0 :: a1 :: a2 :: a3 :: a4 :: a5 :: a6 :: a7 :: a8 :: a9 :: a10 :: a11 :: a12 :: a13 :: a14 :: a15 :: a16 :: a17 :: a18 :: a19 :: a20 :: a21 :: a22 :: a23 :: a24 :: a25 :: a26 :: a27 :: t) [27] ∧ te σ2 H2 Qt := ⟨rfl, q⟩
theorem y_var28 (q : Q v H) : tVar 28 (a0 :: a1 :: a2 :: a3 :: a4 :: a5 :: a6 :: a7 :: a8 :: a9 :: a10 :: a11 :: a12 :: a13 :: a14 :: a15 :: a16 :: a17 :: a18 :: a19 :: a20 :: a21 :: a22 :: a23 :: a24 :: a25 :: a26 :: a27 :: some v :: t) H Q := ⟨v, rfl, q⟩
theorem y_set28 (q : te (a0 :: a1 :: a2 :: a3 :: a4 :: a5 :: a6 :: a7 :: a8 :: a9 :: a10 :: a11 :: a12 :: a13 :: a14 :: a15 :: a16 :: a17 :: a18 :: a19 :: a20 :: a21 :: a22 :: a23 :: a24 :: a25 :: a26 :: a27 :: a28 :: t) H fun x H1 => n (a0 :: a1 :: a2 :: a3 :: a4 :: a5 :: a6 :: a7 :: a8 :: a9 :: a10 :: a11 :: a12 :: a13 :: a14 :: a15 :: a16 :: a17 :: a18 :: a19 :: a20 :: a21 :: a22 :: a23 :: a24 :: a25 :: a26 :: a27 :: some x :: t) H1) : tAsg te (gName 28) ⟨n, rt, bk, ct⟩ (a0 :: a1 :: a2 :: a3 :: a4 :: a5 :: a6 :: a7 :: a8 :: a9 :: a10 :: a11 :: a12 :: a13 :: a14 :: a15 :: a16 :: a17 :: a18 :: a19 :: a20 :: a21 :: a22 :: a23 :: a24 :: a25 :: a26 :: a27 :: a28 :: t) H := q
theorem y_gname28 (q : QG (a0 :: a1 :: a2 :: a3 :: a4 :: a5 :: a6 :: a7 :: a8 :: a9 :: a10 :: a11 :: a12 :: a13 :: a14 :: a15 :: a16 :: a17 :: a18 :: a19 :: a20 :: a21 :: a22 :: a23 :: a24 :: a25 :: a26 :: a27 :: some x :: t) H) : gName 28 x (a0 :: a1 :: a2 :: a3 :: a4 :: a5 :: a6 :: a7 :: a8 :: a9 :: a10 :: a11 :: a12 :: a13 :: a14 :: a15 :: a16 :: a17 :: a18 :: a19 :: a20 :: a21 :: a22 :: a23 :: a24 :: a25 :: a26 :: a27 :: a28 :: t) H QG := q
theorem y_wname28 (q : te (a0 :: a1 :: a2 :: a3 :: a4 :: a5 :: a6 :: a7 :: a8 :: a9 :: a10 :: a11 :: a12 :: a13 :: a14 :: a15 :: a16 :: a17 :: a18 :: a19 :: a20 :: a21 :: a22 :: a23 :: a24 :: a25 :: a26 :: a27 :: some x :: t) H Qt) : gName 28 x (wipe (a0 :: a1 :: a2 :: a3 :: a4 :: a5 :: a6 :: a7 :: a8 :: a9 :: a10 :: a11 :: a12 :: a13 :: a14 :: a15 :: a16 :: a17 :: a18 :: a19 :: a20 :: a21 :: a22 :: a23 :: a24 :: a25 :: a26 :: a27 :: a28 :: t) [28]) H fun σ2 H2 => wipe σ2 [28] = wipe (a0 :: a1 :: a2 :: a3 :: a4 :: a5 :: a6 :: a7 :: a8 :: a9 :: a10 :: a11 :: a12 :: a13 :: a14 :: a15 :: a16 :: a17 :: a18 :: a19 :: a20 :: a21 :: a22 :: a23 :: a24 :: a25 :: a26 :: a27 :: a28 :: t) [28] ∧ te σ2 H2 Qt := ⟨rfl, q⟩
theorem y_var29 (q : Q v H) : tVar 29 (a0 :: a1 :: a2 :: a3 :: a4 :: a5 :: a6 :: a7 :: a8 :: a9 :: a10 :: a11 :: a12 :: a13 :: a14 :: a15 :: a16 :: a17 :: a18 :: a19 :: a20 :: a21 :: a22 :: a23 :: a24 :: a25 :: a26 :: a27 :: a28 :: some v :: t) H Q := ⟨v, rfl, q⟩
theorem y_set29 (q : te (a0 :: a1 :: a2 :: a3 :: a4 :: a5 :: a6 :: a7 :: a8 :: a9 :: a10 :: a11 :: a12 :: a13 :: a14 :: a15 :: a16 :: a17 :: a18 :: a19 :: a20 :: a21 :: a22 :: a23 :: a24 :: a25 :: a26 :: a27 :: a28 :: a29 :: t) H fun x H1 => n (a0 :: a1 :: a2 :: a3 :: a4 :: a5 :: a6 :: a7 :: a8 :: a9 :: a10 :: a11 :: a12 :: a13 :: a14 :: a15 :: a16 :: a17 :: a18 :: a19 :: a20 :: a21 :: a22 :: a23 :: a24 :: a25 :: a26 :: a27 :: a28 :: some x :: t) H1) : tAsg te (gName 29) ⟨n, rt, bk, ct⟩ (a0 :: a1 :: a2 :: a3 :: a4 :: a5 :: a6 :: a7 :: a8 :: a9 :: a10 :: a11 :: a12 :: a13 :: a14 :: a15 :: a16 :: a17 :: a18 :: a19 :: a20 :: a21 :: a22 :: a23 :: a24 :: a25 :: a26 :: a27 :: a28 :: a29 :: t) H := q
theorem y_gname29 (q : QG (a0 :: a1 :: a2 :: a3 :: a4 :: a5 :: a6 :: a7 :: a8 :: a9 :: a10 :: a11 :: a12 :: a13 :: a14 :: a15 :: a16 :: a17 :: a18 :: a19 :: a20 :: a21 :: a22 :: a23 :: a24 :: a25 :: a26 :: a27 :: a28 :: some x :: t) H) : gName 29 x (a0 :: a1 :: a2 :: a3 :: a4 :: a5 :: a6 :: a7 :: a8 :: a9 :: a10 :: a11 :: a12 :: a13 :: a14 :: a15 :: a16 :: a17 :: a18 :: a19 :: a20 :: a21 :: a22 :: a23 :: a24 :: a25 :: a26 :: a27 :: a28 :: a29 :: t) H QG := q
theorem y_wname29 (q : te (a0 :: a1 :: a2 :: a3 :: a4 :: a5 :: a6 :: a7 :: a8 :: a9 :: a10 :: a11 :: a12 :: a13 :: a14 :: a15 :: a16 :: a17 :: a18 :: a19 :: a20 :: a21 :: a22 :: a23 :: a24 :: a25 :: a26 :: a27 :: a28 :: some x :: t) H Qt) : gName 29 x (wipe (a0 :: a1 :: a2 :: a3 :: a4 :: a5 :: a6 :: a7 :: a8 :: a9 :: a10 :: a11 :: a12 :: a13 :: a14 :: a15 :: a16 :: a17 :: a18 :: a19 :: a20 :: a21 :: a22 :: a23 :: a24 :: a25 :: a26 :: a27 :: a28 :: a29 :: t) [29]) H fun σ2 H2 => wipe σ2 [29] = wipe (a0 :: a1 :: a2 :: a3 :: a4 :: a5 :: a6 :: a7 :: a8 :: a9 :: a10 :: a11 :: a12 :: a13 :: a14 :: a15 :: a16 :: a17 :: a18 :: a19 :: a20 :: a21 :: a22 :: a23 :: a24 :: a25 :: a26 :: a27 :: a28 :: a29 :: t) [29] ∧ te σ2 H2 Qt := ⟨rfl, q⟩
theorem nox_K {X : Cx} : X.nox.K = X.K := rfl
theorem tr_K {X : Cx} {pn : List (Addr × Obj)} {xe : Value → Shared → Prop} : (X.tr pn xe).K = X.K := rfl
theorem cxOf_K {CX : CXT} {P : Program} {w : World} {K : PySem.W.Frag} {mg : Str → Option Value} {base : Heap} {N : List Str} {qual : Str} {scope : Scope} {f : Addr} {cd : Value} {A : Around} {outer : List Env} {s : Shared} {H : Hp} {E : XK} : (cxOf CX P w K mg base N qual scope f cd A outer s H E).K = K := rfl
theorem y_call {sp : Sp} {dvs : List V} {E : XK} {ta : TA} {σ : L2.St} (q : ta σ H fun vs H1 => sp (vs ++ dvs) H1 Q E) : tCall sp dvs E ta σ H Q := q
theorem y_callS {sp : Sp} {E : L2.St → XK} {ta : TA} {σ : L2.St} (q : ta σ H fun vs H1 => sp vs H1 Q (E σ)) : tCallS sp E ta σ H Q := q
theorem y_start {tt : TS} {D : Ends} {σ σ' : L2.St} (h : σ = σ') (q : tt D σ' H) : tt D σ H := h ▸ q
end
end L2

namespace Lw
open PySem PySem.Spec PyProof.Rows L2

def top (i : Nat) : Stmt := PySem.Challenge.pw_stretchprices_k12_whole_stretches.main.body.getD i (.Pass ⟨0, 0, 0, 0⟩)
abbrev s_is_integer : Stmt := top 9
abbrev N_is_integer : List Str := ["thing"]
theorem sc_is_integer : FnScope N_is_integer ["thing"] (defScope s_is_integer) := ⟨rfl, rfl, rfl, by decide +kernel, rfl, by decide +kernel, by decide +kernel⟩
abbrev s_is_within : Stmt := top 10
abbrev N_is_within : List Str := ["thing", "least", "most"]
theorem sc_is_within : FnScope N_is_within ["thing", "least", "most"] (defScope s_is_within) := ⟨rfl, rfl, rfl, by decide +kernel, rfl, by decide +kernel, by decide +kernel⟩
abbrev s_is_string_of : Stmt := top 11
abbrev N_is_string_of : List Str := ["thing", "signs", "sign"]
theorem sc_is_string_of : FnScope N_is_string_of ["thing", "signs"] (defScope s_is_string_of) := ⟨rfl, rfl, rfl, by decide +kernel, rfl, by decide +kernel, by decide +kernel⟩
abbrev s_is_word : Stmt := top 12
abbrev N_is_word : List Str := ["thing"]
theorem sc_is_word : FnScope N_is_word ["thing"] (defScope s_is_word) := ⟨rfl, rfl, rfl, by decide +kernel, rfl, by decide +kernel, by decide +kernel⟩
abbrev s_is_ascending : Stmt := top 13
abbrev N_is_ascending : List Str := ["word", "at"]
theorem sc_is_ascending : FnScope N_is_ascending ["word"] (defScope s_is_ascending) := ⟨rfl, rfl, rfl, by decide +kernel, rfl, by decide +kernel, by decide +kernel⟩
abbrev s_is_rows : Stmt := top 14
abbrev N_is_rows : List Str := ["thing"]
theorem sc_is_rows : FnScope N_is_rows ["thing"] (defScope s_is_rows) := ⟨rfl, rfl, rfl, by decide +kernel, rfl, by decide +kernel, by decide +kernel⟩
abbrev s_is_any_code : Stmt := top 15
abbrev N_is_any_code : List Str := ["thing"]
theorem sc_is_any_code : FnScope N_is_any_code ["thing"] (defScope s_is_any_code) := ⟨rfl, rfl, rfl, by decide +kernel, rfl, by decide +kernel, by decide +kernel⟩
abbrev s_is_width : Stmt := top 16
abbrev N_is_width : List Str := ["thing"]
theorem sc_is_width : FnScope N_is_width ["thing"] (defScope s_is_width) := ⟨rfl, rfl, rfl, by decide +kernel, rfl, by decide +kernel, by decide +kernel⟩
abbrev s_check_width : Stmt := top 17
abbrev N_check_width : List Str := ["thing"]
theorem sc_check_width : FnScope N_check_width ["thing"] (defScope s_check_width) := ⟨rfl, rfl, rfl, by decide +kernel, rfl, by decide +kernel, by decide +kernel⟩
abbrev s_stretches_of : Stmt := top 19
abbrev N_stretches_of : List Str := ["code", "width", "found", "last"]
theorem sc_stretches_of : FnScope N_stretches_of ["code", "width"] (defScope s_stretches_of) := ⟨rfl, rfl, rfl, by decide +kernel, rfl, by decide +kernel, by decide +kernel⟩
abbrev s_stretches : Stmt := top 20
abbrev N_stretches : List Str := ["code", "width"]
theorem sc_stretches : FnScope N_stretches ["code", "width"] (defScope s_stretches) := ⟨rfl, rfl, rfl, by decide +kernel, rfl, by decide +kernel, by decide +kernel⟩
abbrev s_codes_of_length : Stmt := top 21
abbrev N_codes_of_length : List Str := ["rows", "length", "found", "turn", "code", "row"]
theorem sc_codes_of_length : FnScope N_codes_of_length ["rows", "length"] (defScope s_codes_of_length) := ⟨rfl, rfl, rfl, by decide +kernel, rfl, by decide +kernel, by decide +kernel⟩
abbrev s_stretch_names : Stmt := top 22
abbrev N_stretch_names : List Str := ["rows", "width", "found", "length", "code"]
theorem sc_stretch_names : FnScope N_stretch_names ["rows", "width"] (defScope s_stretch_names) := ⟨rfl, rfl, rfl, by decide +kernel, rfl, by decide +kernel, by decide +kernel⟩
abbrev s_all_stretches : Stmt := top 23
abbrev N_all_stretches : List Str := ["rows", "width"]
theorem sc_all_stretches : FnScope N_all_stretches ["rows", "width"] (defScope s_all_stretches) := ⟨rfl, rfl, rfl, by decide +kernel, rfl, by decide +kernel, by decide +kernel⟩
abbrev s_law_hand : Stmt := top 25
abbrev N_law_hand : List Str := ["_law_script", "_law_cells", "_law_cell"]
theorem sc_law_hand : FnScope N_law_hand ["_law_script"] (defScope s_law_hand) := ⟨rfl, rfl, rfl, by decide +kernel, rfl, by decide +kernel, by decide +kernel⟩
abbrev s_law_draw : Stmt := top 26
abbrev N_law_draw : List Str := ["_law_hand_here", "_law_many", "_law_cell", "_law_digit", "_law_number"]
theorem sc_law_draw : FnScope N_law_draw ["_law_hand_here", "_law_many"] (defScope s_law_draw) := ⟨rfl, rfl, rfl, by decide +kernel, rfl, by decide +kernel, by decide +kernel⟩
abbrev s_law_rows : Stmt := top 27
abbrev N_law_rows : List Str := ["_law_hand_here", "_law_most", "_law_many", "_law_found", "_law_rest", "_law_turn", "_law_at"]
theorem sc_law_rows : FnScope N_law_rows ["_law_hand_here", "_law_most"] (defScope s_law_rows) := ⟨rfl, rfl, rfl, by decide +kernel, rfl, by decide +kernel, by decide +kernel⟩
abbrev s_law_odd : Stmt := top 28
abbrev N_law_odd : List Str := ["_law_hand_here", "_law_deep", "_law_turn", "_law_odd_here"]
theorem sc_law_odd : FnScope N_law_odd ["_law_hand_here"] (defScope s_law_odd) := ⟨rfl, rfl, rfl, by decide +kernel, rfl, by decide +kernel, by decide +kernel⟩
abbrev s_law_due : Stmt := top 29
abbrev N_law_due : List Str := ["_law_code", "_law_width", "_law_found", "_law_k", "_law_begin"]
theorem sc_law_due : FnScope N_law_due ["_law_code", "_law_width"] (defScope s_law_due) := ⟨rfl, rfl, rfl, by decide +kernel, rfl, by decide +kernel, by decide +kernel⟩
abbrev s_law_all : Stmt := top 30
abbrev N_law_all : List Str := ["_law_rows_here", "_law_width", "_law_found", "_law_codes", "_law_turn", "_law_longer", "_law_code", "_law_stretch", "_law_row"]
theorem sc_law_all : FnScope N_law_all ["_law_rows_here", "_law_width"] (defScope s_law_all) := ⟨rfl, rfl, rfl, by decide +kernel, rfl, by decide +kernel, by decide +kernel⟩
abbrev s_law_word : Stmt := top 31
abbrev N_law_word : List Str := ["_law_ask", "_law_first", "_law_width", "_law_word_here"]
theorem sc_law_word : FnScope N_law_word ["_law_ask", "_law_first", "_law_width"] (defScope s_law_word) := ⟨rfl, rfl, rfl, by decide +kernel, rfl, by decide +kernel, by decide +kernel⟩
abbrev s_law : Stmt := top 32
abbrev N_law : List Str := ["_law_script", "_law_hand_here", "_law_letters", "_law_turn", "_law_kinds", "_law_code", "_law_rows_here", "_law_width", "_law_again", "_law_told", "_law_bad", "_law_wrong", "_law_words", "_law_row"]
theorem sc_law : FnScope N_law ["_law_script"] (defScope s_law) := ⟨rfl, rfl, rfl, by decide +kernel, rfl, by decide +kernel, by decide +kernel⟩

/-- what the top has written -/
structure Txt (K : PySem.W.Frag) (mg : Str → Option Value) where
  f_is_integer : DefAt K mg "is_integer" "is_integer" s_is_integer ["thing"]
  f_is_within : DefAt K mg "is_within" "is_within" s_is_within ["thing", "least", "most"]
  f_is_string_of : DefAt K mg "is_string_of" "is_string_of" s_is_string_of ["thing", "signs"]
  f_is_word : DefAt K mg "is_word" "is_word" s_is_word ["thing"]
  f_is_ascending : DefAt K mg "is_ascending" "is_ascending" s_is_ascending ["word"]
  f_is_rows : DefAt K mg "is_rows" "is_rows" s_is_rows ["thing"]
  f_is_any_code : DefAt K mg "is_any_code" "is_any_code" s_is_any_code ["thing"]
  f_is_width : DefAt K mg "is_width" "is_width" s_is_width ["thing"]
  f_check_width : DefAt K mg "check_width" "check_width" s_check_width ["thing"]
  f_stretches_of : DefAt K mg "stretches_of" "stretches_of" s_stretches_of ["code", "width"]
  f_stretches : DefAt K mg "stretches" "stretches" s_stretches ["code", "width"]
  f_codes_of_length : DefAt K mg "codes_of_length" "codes_of_length" s_codes_of_length ["rows", "length"]
  f_stretch_names : DefAt K mg "stretch_names" "stretch_names" s_stretch_names ["rows", "width"]
  f_all_stretches : DefAt K mg "all_stretches" "all_stretches" s_all_stretches ["rows", "width"]
  f_law_hand : DefAt K mg "_law_hand" "_law_hand" s_law_hand ["_law_script"]
  f_law_draw : DefAt K mg "_law_draw" "_law_draw" s_law_draw ["_law_hand_here", "_law_many"]
  f_law_rows : DefAt K mg "_law_rows" "_law_rows" s_law_rows ["_law_hand_here", "_law_most"]
  f_law_odd : DefAt K mg "_law_odd" "_law_odd" s_law_odd ["_law_hand_here"]
  f_law_due : DefAt K mg "_law_due" "_law_due" s_law_due ["_law_code", "_law_width"]
  f_law_all : DefAt K mg "_law_all" "_law_all" s_law_all ["_law_rows_here", "_law_width"]
  f_law_word : DefAt K mg "_law_word" "_law_word" s_law_word ["_law_ask", "_law_first", "_law_width"]
  f_law : DefAt K mg "law" "law" s_law ["_law_script"]
  b_abs : mg "abs" = none
  b_bool : mg "bool" = none
  b_int : mg "int" = none
  b_isinstance : mg "isinstance" = none
  b_len : mg "len" = none
  b_list : mg "list" = none
  b_range : mg "range" = none
  b_sorted : mg "sorted" = none
  b_str : mg "str" = none
  t_MOST_ROWS : Tok
  c_MOST_ROWS : mg "MOST_ROWS" = some (.int 4 t_MOST_ROWS)
  t_MOST_WIDTH : Tok
  c_MOST_WIDTH : mg "MOST_WIDTH" = some (.int 3 t_MOST_WIDTH)
  t_SMALL : Tok
  c_SMALL : mg "SMALL" = some (.str "abcdefghijklmnopqrstuvwxyz" t_SMALL)
  x_StretchError : ExcAt K mg "StretchError"
  x_NoCode : ExcAt K mg "NoCode"
  x_NoWidth : ExcAt K mg "NoWidth"
  x_NoRows : ExcAt K mg "NoRows"
  e_NoCode_NoCode : PySem.W.exmOne K (.ref x_NoCode.C) (.ref x_NoCode.C) = some true
  e_NoCode_NoRows : PySem.W.exmOne K (.ref x_NoCode.C) (.ref x_NoRows.C) = some false
  e_NoCode_NoWidth : PySem.W.exmOne K (.ref x_NoCode.C) (.ref x_NoWidth.C) = some false
  e_NoCode_StretchError : PySem.W.exmOne K (.ref x_NoCode.C) (.ref x_StretchError.C) = some true
  e_NoRows_NoCode : PySem.W.exmOne K (.ref x_NoRows.C) (.ref x_NoCode.C) = some false
  e_NoRows_NoRows : PySem.W.exmOne K (.ref x_NoRows.C) (.ref x_NoRows.C) = some true
  e_NoRows_NoWidth : PySem.W.exmOne K (.ref x_NoRows.C) (.ref x_NoWidth.C) = some false
  e_NoRows_StretchError : PySem.W.exmOne K (.ref x_NoRows.C) (.ref x_StretchError.C) = some true
  e_NoWidth_NoCode : PySem.W.exmOne K (.ref x_NoWidth.C) (.ref x_NoCode.C) = some false
  e_NoWidth_NoRows : PySem.W.exmOne K (.ref x_NoWidth.C) (.ref x_NoRows.C) = some false
  e_NoWidth_NoWidth : PySem.W.exmOne K (.ref x_NoWidth.C) (.ref x_NoWidth.C) = some true
  e_NoWidth_StretchError : PySem.W.exmOne K (.ref x_NoWidth.C) (.ref x_StretchError.C) = some true

-- one step of a reading
local macro_rules | `(tactic| walk_at "y1") => `(tactic| (first
  | ((with_reducible refine y_var (v := ?v) ?h ?_); (case h => exact rfl))
  | with_reducible refine y_c ?_
  | with_reducible refine y_op ?_
  | with_reducible refine y_cons ?_
  | with_reducible refine y_nil ?_
  | with_reducible refine y_cb ?_
  | with_reducible refine y_seq ?_
  | ((with_reducible refine y_set ?_); dsimp only [List.set_cons_zero, List.set_cons_succ])
  | with_reducible refine y_test ?_
  | with_reducible refine y_if ?_
  | with_reducible refine y_isblP ?_
  | ((with_reducible refine y_iteT ?h ?_); (case h => first | assumption | rfl))
  | ((with_reducible refine y_iteF ?h ?_); (case h => first | assumption | rfl))
  | with_reducible refine y_next ?_
  | with_reducible refine y_ret ?_
  | with_reducible refine y_drop ?_
  | with_reducible refine y_tB ?_
  | with_reducible refine y_not ?_
  | with_reducible refine y_isbl ?_
  | with_reducible refine y_addI ?_
  | with_reducible refine y_subI ?_
  | with_reducible refine y_eqI ?_
  | with_reducible refine y_neI ?_
  | with_reducible refine y_ltI ?_
  | with_reducible refine y_leI ?_
  | with_reducible refine y_gtI ?_
  | with_reducible refine y_geI ?_
  | ((with_reducible refine y_modI ?h ?_); (case h => omega))
  | ((with_reducible refine y_fdivI ?h ?_); (case h => unfold CDiv; omega))
  | ((with_reducible refine y_mulI ?h ?_); (case h => unfold CMul; omega))
  | ((with_reducible refine y_powI ?h ?_); (case h => unfold CPow; decide))
  | with_reducible refine y_intI ?_
  | with_reducible refine y_abs ?_
  | with_reducible refine y_eqS ?_
  | with_reducible refine y_neS ?_
  | with_reducible refine y_inS ?_
  | with_reducible refine y_notInS ?_
  | with_reducible refine y_ltS ?_
  | with_reducible refine y_geS ?_
  | ((with_reducible refine y_isiI (d := ?d) ?h ?_); (case h => first | assumption | constructor))
  | ((with_reducible refine y_isiB (d := ?d) ?h ?_); (case h => first | assumption | constructor))
  | ((with_reducible refine y_isiS (d := ?d) ?h ?_); (case h => first | assumption | constructor))
  | ((with_reducible refine y_isiT (d := ?d) ?h ?_); (case h => first | assumption | constructor))
  | ((with_reducible refine y_isiL (d := ?d) ?h ?_); (case h => first | assumption | constructor))
  | ((with_reducible refine y_isiD (d := ?d) ?h ?_); (case h => first | assumption | constructor))
  | ((with_reducible refine y_ixL (xs := ?xs) (v := ?v) ?h ?e ?_); (case h => first | assumption | exact SqL.of (by assumption)); (case e => first | exact rfl | assumption))
  | ((with_reducible refine y_ixT (xs := ?xs) (v := ?v) ?h ?e ?_); (case h => first | assumption | exact SqT.of (by assumption)); (case e => first | exact rfl | assumption))
  | ((with_reducible refine y_lenL (xs := ?xs) ?h ?_); (case h => first | assumption | exact SqL.of (by assumption)))
  | ((with_reducible refine y_lenT (xs := ?xs) ?h ?_); (case h => first | assumption | exact SqT.of (by assumption)))
  | ((with_reducible refine y_lenS ?h ?_); (case h => first | assumption | omega))
  | with_reducible refine y_call ?_
  | with_reducible refine y_callS ?_
  | walk_at "yc"
  | with_reducible refine y_and ?_
  | with_reducible refine y_or ?_
  | with_reducible refine y_andV ?_
  | with_reducible refine y_orV ?_
  | with_reducible refine y_chain ?_
  | with_reducible refine y_ifE ?_
  | with_reducible refine y_notV ?_
  | with_reducible refine y_for ?_
  | with_reducible refine y_forr ?_
  | with_reducible refine y_forr2 ?_
  | with_reducible refine y_lc ?_
  | with_reducible refine y_lcr ?_
  | with_reducible refine y_lc2 ?_
  | with_reducible refine y_sl ?_
  | with_reducible refine y_nopart ?_
  | with_reducible refine y_part ?_
  | with_reducible refine y_isint ?_
  | ((with_reducible refine y_slS ?h ?_); (case h => first | assumption | omega))
  | ((with_reducible refine y_addS ?h ?_); (case h => omega))
  | with_reducible refine y_bm ?_
  | with_reducible refine y_bm0 ?_
  | with_reducible refine y_tyS ?_
  | ((with_reducible refine y_tyL (xs := ?xs) ?h ?_); (case h => first | assumption | exact SqL.of (by assumption)))
  | with_reducible refine y_m1 ?_
  | with_reducible refine y_m0 ?_
  | with_reducible refine y_isstr ?_
  | with_reducible refine y_asg ?_
  | with_reducible refine y_gsub ?_
  | ((with_reducible refine y_gname ?_); dsimp only [List.set_cons_zero, List.set_cons_succ])
  | with_reducible refine y_un ?_
  | with_reducible refine y_neg ?_
  | with_reducible refine y_retN ?_
  | with_reducible refine y_brk ?_
  | with_reducible refine y_cont ?_))
local macro_rules | `(tactic| walk_at "y") => `(tactic| repeat (walk_at "y1"))
local macro_rules | `(tactic| walk_at "yw") => `(tactic| (first
  | with_reducible refine y_wname0 ?_
  | with_reducible refine y_wname1 ?_
  | with_reducible refine y_wname2 ?_
  | with_reducible refine y_wname3 ?_
  | with_reducible refine y_wname4 ?_
  | with_reducible refine y_wname5 ?_
  | with_reducible refine y_wname6 ?_
  | with_reducible refine y_wname7 ?_
  | with_reducible refine y_wname8 ?_
  | with_reducible refine y_wname9 ?_
  | with_reducible refine y_wname10 ?_
  | with_reducible refine y_wname11 ?_
  | with_reducible refine y_wname12 ?_
  | with_reducible refine y_wname13 ?_
  | with_reducible refine y_wname14 ?_
  | with_reducible refine y_wname15 ?_
  | with_reducible refine y_wname16 ?_
  | with_reducible refine y_wname17 ?_
  | with_reducible refine y_wname18 ?_
  | with_reducible refine y_wname19 ?_
  | with_reducible refine y_wname20 ?_
  | with_reducible refine y_wname21 ?_
  | with_reducible refine y_wname22 ?_
  | with_reducible refine y_wname23 ?_
  | with_reducible refine y_wname24 ?_
  | with_reducible refine y_wname25 ?_
  | with_reducible refine y_wname26 ?_
  | with_reducible refine y_wname27 ?_
  | with_reducible refine y_wname28 ?_
  | with_reducible refine y_wname29 ?_))
local macro_rules | `(tactic| walk_at "yx") => `(tactic| (with_reducible refine y_we ?_; repeat (first
  | ((with_reducible refine y_hdF ?h ?_); (case h => walk_at "ye"))
  | ((with_reducible refine y_hdT ?h fun _ _ => ?_); (case h => walk_at "ye"); walk_at "y"))))
local macro_rules | `(tactic| walk_at "ye") => `(tactic| (first
  | with_reducible exact Txt.e_NoCode_NoCode _
  | with_reducible exact Txt.e_NoCode_NoRows _
  | with_reducible exact Txt.e_NoCode_NoWidth _
  | with_reducible exact Txt.e_NoCode_StretchError _
  | with_reducible exact Txt.e_NoRows_NoCode _
  | with_reducible exact Txt.e_NoRows_NoRows _
  | with_reducible exact Txt.e_NoRows_NoWidth _
  | with_reducible exact Txt.e_NoRows_StretchError _
  | with_reducible exact Txt.e_NoWidth_NoCode _
  | with_reducible exact Txt.e_NoWidth_NoRows _
  | with_reducible exact Txt.e_NoWidth_NoWidth _
  | with_reducible exact Txt.e_NoWidth_StretchError _))

section
variable {P : Program} {w : World} {K : PySem.W.Frag} {mg : Str → Option Value} {base : Heap}

/-- the text of a list of signs -/
def ofL (l : List Nat) : Str := ⟨l.toArray⟩
theorem ofL_cps (s : Str) : ofL s.cps.toList = s := by cases s; rfl
theorem ofL_app (a b : List Nat) : ofL a ++ ofL b = ofL (a ++ b) := by
  show Str.append (ofL a) (ofL b) = _
  simp [Str.append, ofL]
theorem ofL_len (a : List Nat) : (ofL a).length = a.length := by simp [Str.length, ofL]
theorem ofL_inj {a b : List Nat} (h : ofL a = ofL b) : a = b := by
  have : (ofL a).cps.toList = (ofL b).cps.toList := by rw [h]
  simpa [ofL] using this
theorem sIx_i (n d : Nat) (k : Int) (h : 0 ≤ k) : HT.sIx n d (some k) = min k.toNat n := by
  have e : k = (k.toNat : Int) := by omega
  have q := HT.sIx_nat n d k.toNat
  rw [← e] at q
  exact q
theorem cut_to (s : Str) (k : Int) (h : 0 ≤ k) : cutS s none (some k) = ofL (s.cps.toList.take k.toNat) := by
  unfold cutS
  rw [HT.sIx_none, sIx_i _ _ _ h]
  show ofL _ = _
  congr 1
  have : s.cps.toList.length = s.length := by simp [Str.length]
  rw [List.drop_zero, Nat.sub_zero, List.take_eq_take_iff]
  omega
theorem cut_of (s : Str) (j k : Int) (h : 0 ≤ j) (h2 : j ≤ k) : cutS s (some j) (some k) = ofL ((s.cps.toList.drop j.toNat).take (k.toNat - j.toNat)) := by
  unfold cutS
  rw [sIx_i _ _ _ h, sIx_i _ _ _ (by omega)]
  show ofL _ = _
  congr 1
  have : s.cps.toList.length = s.length := by simp [Str.length]
  by_cases c : j.toNat ≤ s.length
  · rw [Nat.min_eq_left c, List.take_eq_take_iff, List.length_drop]
    omega
  · rw [List.drop_eq_nil_of_le (by omega), List.drop_eq_nil_of_le (by omega)]
    simp
theorem cut_from (s : Str) (j : Int) (h : 0 ≤ j) : cutS s (some j) none = ofL (s.cps.toList.drop j.toNat) := by
  unfold cutS
  rw [sIx_i _ _ _ h, HT.sIx_none]
  show ofL _ = _
  congr 1
  have : s.cps.toList.length = s.length := by simp [Str.length]
  by_cases c : j.toNat ≤ s.length
  · rw [Nat.min_eq_left c, List.take_of_length_le]
    rw [List.length_drop]; omega
  · rw [List.drop_eq_nil_of_le (by omega), List.drop_eq_nil_of_le (by omega)]
    simp
/-- the stretch that ends with the sign at k -/
def stAt (l : List Nat) (w k : Nat) : List Nat := if k + 1 < w then 94 :: l.take (k + 1) else (l.drop (k + 1 - w)).take w
def dueL (l : List Nat) (w : Nat) : List (List Nat) := (List.range l.length).map (stAt l w)
def txts (ls : List (List Nat)) : List V := ls.map fun l => V.str (ofL l)
theorem txts_app (a b : List (List Nat)) : txts (a ++ b) = txts a ++ txts b := List.map_append
theorem txts_len (a : List (List Nat)) : (txts a).length = a.length := List.length_map ..
theorem txts_strs (a : List (List Nat)) : txts a = (a.map ofL).map V.str := by simp [txts]
theorem range_snoc {α : Type} (f : Nat → α) (i : Nat) : (List.range (i + 1)).map f = (List.range i).map f ++ [f i] := by simp [List.range_succ]
def caret : Str := "^"
theorem caret_is : caret = ofL [94] := by decide +kernel
def sp_stretches_of : Sp := fun vs H Q _ => ∃ (s : Str) (w : Nat), vs = [.str s, .int w] ∧ 1 ≤ w ∧ w ≤ 3 ∧ s.length + 1 ≤ sizeLine ∧ ∀ p H', H p = none → H' p = some (.lst (txts (dueL s.cps.toList w))) → Ev [] H H' → Q (.ref p) H'
theorem ok_stretches_of (T : Txt K mg) : FnOk P w K mg base CX0 1 T.f_stretches_of.f T.f_stretches_of.fd ["code", "width"] sp_stretches_of := by
  refine T.f_stretches_of.F.ok sc_stretches_of (fun vs H Q E h => ?_) (fun cdv A outer s H vs Q E hr h => ?_)
  · obtain ⟨s, w, rfl, _⟩ := h
    rfl
  · obtain ⟨x, w, rfl, w1, w3, hz, k⟩ := h
    refine ⟨_, (pss_cons (ps_set (i := 2) sc_stretches_of.nd rfl (by first | exact Or.inl rfl | exact Or.inr rfl) (pe_lst pa_nil))
  (pss_cons (ps_for PassesOwn.never rfl (pi_range2 (by rfl) T.b_range (pa_cons pe_int (pa_cons (pe_op (op_addU (K := K)) (pe_callB (call_lenU (K := K)) (by rfl) T.b_len (by decide +kernel) (pa_cons (pv 0) pa_nil)) pe_int) pa_nil))) (pg_name (i := 3) sc_stretches_of.nd rfl (by first | exact Or.inl rfl | exact Or.inr rfl))
  (pss_one (ps_expr (pe_bmU (K := K) PySem.F.plainAttrs_list PySem.F.slot_list_append PySem.F.type_list_append mt_append (pv 2) (pa_cons (pe_ifExp (pt_cmpR op_geU (pv 3) (pv 1) (by first | exact nomark _ | rfl)) (pe_slice (sl_U (K := K)) (pv 0) (po_some (pe_op op_sub (pv 3) (pv 1))) (po_some (pv 3))) (pe_op (op_addU (K := K)) pe_str (pe_slice (sl_U (K := K)) (pv 0) po_none (po_some (pv 3))))) pa_nil)))))
  (pss_one (ps_ret (pv 2))))), ?_⟩
    try dsimp only [nox_K, tr_K, cxOf_K]
    refine y_start (σ' := some _ :: some _ :: none :: none :: []) rfl ?_
    have hs : (sizeLine : Nat) = 16777216 := sizeLine_eq
    have len : x.cps.toList.length = x.length := by simp [Str.length]
    walk_at "y"
    refine y_tLst ?_
    walk_at "y"
    refine y_newL0 fun p H1 np hp e1 => ?_
    walk_at "y"
    refine y_forR2 (by omega) (fun i σ H' => ∃ o, σ = [some (.str x), some (.int w), some (.ref p), o] ∧ Ev [] H H' ∧ H' p = some (.lst (txts ((List.range i).map (stAt x.cps.toList w))))) ⟨_, rfl, e1, hp⟩ ?_ ?_
    · rintro i σ H' hi ⟨o, rfl, e2, hp2⟩
      walk_at "y"
      have fin : ∀ (v : V) (Qn : L2.St → Hp → Prop), v = .str (ofL (stAt x.cps.toList w i)) → (∀ H4, Ev [] H H4 → H4 p = some (.lst (txts ((List.range (i + 1)).map (stAt x.cps.toList w)))) → Qn [some (.str x), some (.int w), some (.ref p), some (.int (1 + (i : Int)))] H4) → rAppend (.ref p) [v] H' fun _ H4 => Qn [some (.str x), some (.int w), some (.ref p), some (.int (1 + (i : Int)))] H4 := by
        rintro v Qn rfl kq
        refine y_append _ hp2 (by rw [txts_len, List.length_map, List.length_range]; omega) fun H4 hp4 e4 => ?_
        refine kq H4 (e2.fresh np e4) ?_
        rw [range_snoc, txts_app]
        exact hp4
      by_cases c : (w : Int) ≤ 1 + (i : Int)
      · rw [decide_eq_true c]
        walk_at "y"
        refine fin _ (fun σ H' => ∃ o, σ = [some (.str x), some (.int w), some (.ref p), o] ∧ Ev [] H H' ∧ H' p = some (.lst (txts ((List.range (i + 1)).map (stAt x.cps.toList w))))) ?_ fun H4 e4 hp4 => ⟨_, rfl, e4, hp4⟩
        rw [cut_of _ _ _ (by omega) (by omega), stAt, if_neg (by omega)]
        congr 3
        · omega
        · congr 1
          omega
      · rw [decide_eq_false c]
        walk_at "y"
        rw [cut_to _ _ (by omega)]
        have e0 : (V.str "^") = .str (ofL [94]) := congrArg V.str caret_is
        rw [show ("^" : Str) = ofL [94] from caret_is]
        refine y_addS (by rw [ofL_len, ofL_len, List.length_take]; show 1 + _ ≤ _; omega) ?_
        walk_at "y"
        refine fin _ (fun σ H' => ∃ o, σ = [some (.str x), some (.int w), some (.ref p), o] ∧ Ev [] H H' ∧ H' p = some (.lst (txts ((List.range (i + 1)).map (stAt x.cps.toList w))))) ?_ fun H4 e4 hp4 => ⟨_, rfl, e4, hp4⟩
        rw [ofL_app, stAt, if_pos (by omega)]
        rw [show (1 + (i : Int)).toNat = i + 1 by omega]
        rfl
    · rintro σ H' ⟨o, rfl, e2, hp2⟩
      walk_at "y"
      refine k p H' np ?_ e2
      rw [hp2, show ((x.length : Int) + 1 - 1).toNat = x.length by omega, dueL, len]

-- use stretches_of
def sp_law_due : Sp := fun vs H Q _ => ∃ (s : Str) (w : Nat), vs = [.str s, .int w] ∧ 1 ≤ w ∧ w ≤ 3 ∧ s.length + 1 ≤ sizeLine ∧ ∀ p H', H p = none → H' p = some (.lst (txts (dueL s.cps.toList w))) → Ev [] H H' → Q (.ref p) H'
theorem ok_law_due (T : Txt K mg) : FnOk P w K mg base CX0 1 T.f_law_due.f T.f_law_due.fd ["_law_code", "_law_width"] sp_law_due := by
  refine T.f_law_due.F.ok sc_law_due (fun vs H Q E h => ?_) (fun cdv A outer s H vs Q E hr h => ?_)
  · obtain ⟨s, w, rfl, _⟩ := h
    rfl
  · obtain ⟨x, w, rfl, w1, w3, hz, k⟩ := h
    refine ⟨_, (pss_cons (ps_set (i := 2) sc_law_due.nd rfl (by first | exact Or.inl rfl | exact Or.inr rfl) (pe_lst pa_nil))
  (pss_cons (ps_for PassesOwn.never rfl (pi_range1 (by rfl) T.b_range (pa_cons (pe_callB (call_lenU (K := K)) (by rfl) T.b_len (by decide +kernel) (pa_cons (pv 0) pa_nil)) pa_nil)) (pg_name (i := 3) sc_law_due.nd rfl (by first | exact Or.inl rfl | exact Or.inr rfl))
  (pss_cons (ps_set (i := 4) sc_law_due.nd rfl (by first | exact Or.inl rfl | exact Or.inr rfl) (pe_op op_sub (pe_op (op_addU (K := K)) (pv 3) pe_int) (pv 1)))
  (pss_one (ps_if (pt_cmpR op_ltU (pv 4) pe_int (by first | exact nomark _ | rfl)) (pss_one (ps_expr (pe_bmU (K := K) PySem.F.plainAttrs_list PySem.F.slot_list_append PySem.F.type_list_append mt_append (pv 2) (pa_cons (pe_op (op_addU (K := K)) pe_str (pe_slice (sl_U (K := K)) (pv 0) po_none (po_some (pe_op (op_addU (K := K)) (pv 3) pe_int)))) pa_nil)))) (pss_one (ps_expr (pe_bmU (K := K) PySem.F.plainAttrs_list PySem.F.slot_list_append PySem.F.type_list_append mt_append (pv 2) (pa_cons (pe_slice (sl_U (K := K)) (pv 0) (po_some (pv 4)) (po_some (pe_op (op_addU (K := K)) (pv 3) pe_int))) pa_nil))))))))
  (pss_one (ps_ret (pv 2))))), ?_⟩
    try dsimp only [nox_K, tr_K, cxOf_K]
    refine y_start (σ' := some _ :: some _ :: none :: none :: none :: []) rfl ?_
    have hs : (sizeLine : Nat) = 16777216 := sizeLine_eq
    have len : x.cps.toList.length = x.length := by simp [Str.length]
    walk_at "y"
    refine y_tLst ?_
    walk_at "y"
    refine y_newL0 fun p H1 np hp e1 => ?_
    walk_at "y"
    refine y_forR (by omega) (fun i σ H' => ∃ o o2, σ = [some (.str x), some (.int w), some (.ref p), o, o2] ∧ Ev [] H H' ∧ H' p = some (.lst (txts ((List.range i).map (stAt x.cps.toList w))))) ⟨_, _, rfl, e1, hp⟩ ?_ ?_
    · rintro i σ H' hi ⟨o, o2, rfl, e2, hp2⟩
      walk_at "y"
      have fin : ∀ (v : V) (Qn : L2.St → Hp → Prop) (σ : L2.St), v = .str (ofL (stAt x.cps.toList w i)) → (∀ H4, Ev [] H H4 → H4 p = some (.lst (txts ((List.range (i + 1)).map (stAt x.cps.toList w)))) → Qn σ H4) → rAppend (.ref p) [v] H' fun _ H4 => Qn σ H4 := by
        rintro v Qn σ rfl kq
        refine y_append _ hp2 (by rw [txts_len, List.length_map, List.length_range]; omega) fun H4 hp4 e4 => ?_
        refine kq H4 (e2.fresh np e4) ?_
        rw [range_snoc, txts_app]
        exact hp4
      by_cases c : (i : Int) + 1 - (w : Int) < 0
      · rw [decide_eq_true c]
        walk_at "y"
        rw [cut_to _ _ (by omega)]
        rw [show ("^" : Str) = ofL [94] from caret_is]
        refine y_addS (by rw [ofL_len, ofL_len, List.length_take]; show 1 + _ ≤ _; omega) ?_
        walk_at "y"
        refine fin _ (fun σ H' => ∃ o o2, σ = [some (.str x), some (.int w), some (.ref p), o, o2] ∧ Ev [] H H' ∧ H' p = some (.lst (txts ((List.range (i + 1)).map (stAt x.cps.toList w))))) _ ?_ fun H4 e4 hp4 => ⟨_, _, rfl, e4, hp4⟩
        rw [ofL_app, stAt, if_pos (by omega)]
        rw [show ((i : Int) + 1).toNat = i + 1 by omega]
        rfl
      · rw [decide_eq_false c]
        walk_at "y"
        refine fin _ (fun σ H' => ∃ o o2, σ = [some (.str x), some (.int w), some (.ref p), o, o2] ∧ Ev [] H H' ∧ H' p = some (.lst (txts ((List.range (i + 1)).map (stAt x.cps.toList w))))) _ ?_ fun H4 e4 hp4 => ⟨_, _, rfl, e4, hp4⟩
        rw [cut_of _ _ _ (by omega) (by omega), stAt, if_neg (by omega)]
        congr 3
        · omega
        · congr 1
          omega
    · rintro σ H' ⟨o, o2, rfl, e2, hp2⟩
      walk_at "y"
      refine k p H' np ?_ e2
      rw [hp2, show (x.length : Int).toNat = x.length by omega, dueL, len]

-- use stretches_of
/-- all lists of n signs out of rows, in the program's order -/
def codesL (rows : List Nat) : Nat → List (List Nat)
  | 0 => [[]]
  | n + 1 => (codesL rows n).flatMap fun c => rows.map fun r => c ++ [r]
theorem codesL_step (rows : List Nat) (ls : List (List Nat)) : (txts ls).flatMap (fun x => rows.map fun c => (match x with | .str s => V.str (s ++ ofL [c]) | v => v)) = txts (ls.flatMap fun c => rows.map fun r => c ++ [r]) := by
  induction ls with
  | nil => rfl
  | cons l r ih =>
    show (V.str (ofL l) :: txts r).flatMap _ = _
    rw [List.flatMap_cons, ih, List.flatMap_cons, txts_app]
    congr 1
    simp only [txts, List.map_map]
    refine List.map_congr_left fun c _ => ?_
    show V.str (ofL l ++ ofL [c]) = _
    rw [ofL_app]
    rfl
theorem codesL_len (rows : List Nat) : ∀ n, (codesL rows n).length = rows.length ^ n
  | 0 => rfl
  | n + 1 => by
    have : ∀ ls : List (List Nat), (ls.flatMap fun c => rows.map fun r => c ++ [r]).length = ls.length * rows.length := by
      intro ls
      induction ls with
      | nil => simp
      | cons l r ih => rw [List.flatMap_cons, List.length_append, ih, List.length_map, List.length_cons, Nat.succ_mul, Nat.add_comm]
    rw [codesL, this, codesL_len rows n, Nat.pow_succ]
theorem codesL_mem (rows : List Nat) : ∀ (n : Nat) (c : List Nat), c ∈ codesL rows n ↔ c.length = n ∧ ∀ x ∈ c, x ∈ rows
  | 0, c => by
    simp only [codesL, List.mem_singleton]
    constructor
    · rintro rfl; simp
    · rintro ⟨h, _⟩; exact List.length_eq_zero_iff.mp h
  | n + 1, c => by
    simp only [codesL, List.mem_flatMap, List.mem_map]
    constructor
    · rintro ⟨d, hd, r, hr, rfl⟩
      obtain ⟨h1, h2⟩ := (codesL_mem rows n d).mp hd
      refine ⟨by simp [h1], fun x hx => ?_⟩
      rcases List.mem_append.mp hx with h | h
      · exact h2 x h
      · simp at h; subst h; exact hr
    · rintro ⟨h1, h2⟩
      have ne : c ≠ [] := by rintro rfl; cases h1
      refine ⟨c.dropLast, (codesL_mem rows n _).mpr ⟨by simp [h1], fun x hx => h2 x ((List.dropLast_sublist c).mem hx)⟩, c.getLast ne, h2 _ (List.getLast_mem ne), List.dropLast_concat_getLast ne⟩
theorem codesL_nodup {rows : List Nat} (hn : rows.Nodup) : ∀ n, (codesL rows n).Nodup
  | 0 => by simp [codesL]
  | n + 1 => by
    have key : ∀ ls : List (List Nat), ls.Nodup → (ls.flatMap fun c => rows.map fun r => c ++ [r]).Nodup := by
      intro ls
      induction ls with
      | nil => simp
      | cons l r ih =>
        intro h
        obtain ⟨h1, h2⟩ := List.nodup_cons.mp h
        rw [List.flatMap_cons]
        refine List.nodup_append.mpr ⟨?_, ih h2, ?_⟩
        · refine List.pairwise_map.mpr (hn.imp fun {a b} ne e => ne ?_)
          have := List.append_cancel_left e
          simpa using this
        · intro a ha b hb e
          subst e
          simp only [List.mem_map, List.mem_flatMap] at ha hb
          obtain ⟨x, _, rfl⟩ := ha
          obtain ⟨d, hd, y, _, e⟩ := hb
          have := List.append_inj_left' e rfl
          subst this
          exact h1 hd
    exact key _ (codesL_nodup hn n)
theorem pow_bound {k n : Nat} (h : k ≤ 4) (h2 : n ≤ 4) : k ^ n ≤ 256 := calc
  k ^ n ≤ 4 ^ n := Nat.pow_le_pow_left h n
  _ ≤ 4 ^ 4 := Nat.pow_le_pow_right (by omega) h2
  _ = 256 := rfl
def sp_codes_of_length : Sp := fun vs H Q _ => ∃ (s : Str) (n : Nat), vs = [.str s, .int n] ∧ s.length ≤ 4 ∧ n ≤ 4 ∧ ∀ p H', H p = none → H' p = some (.lst (txts (codesL s.cps.toList n))) → Ev [] H H' → Q (.ref p) H'
theorem ok_codes_of_length (T : Txt K mg) : FnOk P w K mg base CX0 1 T.f_codes_of_length.f T.f_codes_of_length.fd ["rows", "length"] sp_codes_of_length := by
  refine T.f_codes_of_length.F.ok sc_codes_of_length (fun vs H Q E h => ?_) (fun cdv A outer s H vs Q E hr h => ?_)
  · obtain ⟨s, n, rfl, _⟩ := h
    rfl
  · obtain ⟨x, n, rfl, hl, hn, k⟩ := h
    refine ⟨_, (pss_cons (ps_set (i := 2) sc_codes_of_length.nd rfl (by first | exact Or.inl rfl | exact Or.inr rfl) (pe_lst (pa_cons pe_str pa_nil)))
  (pss_cons (ps_for PassesOwn.never rfl (pi_range1 (by rfl) T.b_range (pa_cons (pv 1) pa_nil)) (pg_name (i := 3) sc_codes_of_length.nd rfl (by first | exact Or.inl rfl | exact Or.inr rfl))
  (pss_one (ps_setLc2U (i := 2) (own := [("code", 4), ("row", 5)]) (vs := [4, 5]) (vs1 := [5]) rfl (by rfl) sc_codes_of_length.nd rfl rfl (sw_true rfl rfl rfl (by decide +kernel)) (pi_U (K := K) (pv 2)) (blkOk_by (own := [("code", 4), ("row", 5)]) (N := N_codes_of_length) (sc := defScope s_codes_of_length) (by decide +kernel)) (by decide) (fun _ _ _ _ _ => (pg_name (i := 4) sc_codes_of_length.nd rfl (by first | exact Or.inl rfl | exact Or.inr rfl))) (fun _ _ _ _ _ => pts_nil) (fun _ _ _ _ _ => (pi_U (K := K) (pv 0))) (fun _ _ _ _ _ => (pg_name (i := 5) sc_codes_of_length.nd rfl (by first | exact Or.inl rfl | exact Or.inr rfl))) (fun _ _ _ _ _ => pts_nil) (fun _ _ _ _ _ => (pe_op (op_addU (K := K)) (pv 4) (pv 5))))))
  (pss_one (ps_ret (pv 2))))), ?_⟩
    try dsimp only [nox_K, tr_K, cxOf_K]
    refine y_start (σ' := some _ :: some _ :: none :: none :: none :: none :: []) rfl ?_
    have hs : (sizeLine : Nat) = 16777216 := sizeLine_eq
    have len : x.cps.toList.length = x.length := by simp [Str.length]
    walk_at "y"
    refine y_tLst ?_
    walk_at "y"
    refine y_newL (by show 1 ≤ sizeLine; omega) fun p H1 np hp e1 => ?_
    walk_at "y"
    refine y_forR (by omega) (fun i σ H' => ∃ p o, σ = [some (.str x), some (.int n), some (.ref p), o, none, none] ∧ H p = none ∧ Ev [] H H' ∧ H' p = some (.lst (txts (codesL x.cps.toList i)))) ⟨_, _, rfl, np, e1, ?_⟩ ?_ ?_
    · rw [hp]
      rfl
    · rintro i σ H' hi ⟨p, o, rfl, np, e2, hp2⟩
      walk_at "y"
      refine y_lc2LS (txts (codesL x.cps.toList i)) x (fun v c => match v with | .str s => V.str (s ++ ofL [c]) | v => v) (fun v => [some (.str x), some (.int n), some (.ref p), some (.int i), some v, none]) (fun v c => [some (.str x), some (.int n), some (.ref p), some (.int i), some v, some (.str ⟨#[c]⟩)])
        hp2 ?_ (fun _ => rfl) (fun _ _ => rfl) (fun _ _ _ q => q) (fun _ _ _ q => ⟨_, rfl, q⟩) (fun _ _ _ _ q => q) ?_ fun D hD => ?_
      · rw [txts_len, codesL_len, len]
        have h1 := pow_bound hl (show i ≤ 4 by omega)
        have h2 : x.length ^ i * x.length ≤ 256 * 4 := Nat.mul_le_mul h1 hl
        omega
      · intro v c Hc Q' hv hc q
        obtain ⟨l, hl2, rfl⟩ := List.mem_map.mp hv
        have h1 := ((codesL_mem _ _ _).mp hl2).1
        walk_at "y"
        refine y_addS ?_ q
        rw [ofL_len, h1]
        show i + 1 ≤ sizeLine
        omega
      · refine ⟨D, _, rfl, e2.none hD, e2.trans (Ev.new hD), ?_⟩
        rw [codesL_step]
        exact upd_same
    · rintro σ H' ⟨p, o, rfl, np, e2, hp2⟩
      walk_at "y"
      refine k p H' np ?_ e2
      rw [hp2]
      rfl

-- use stretches_of
/-- the names before they are sorted -/
def namesL (rows : List Nat) (w : Nat) : List (List Nat) := codesL rows w ++ (List.range (w - 1)).flatMap fun n => (codesL rows (n + 1)).map (94 :: ·)
def NamesOk (rows : List Nat) (w : Nat) (ys : List Str) : Prop := ys.Perm ((namesL rows w).map ofL) ∧ PyProof.Rows.sortedS ys = true
theorem namesL_len (rows : List Nat) (h : rows.length ≤ 4) (w i : Nat) (hw : w ≤ 4) (hi : i ≤ w - 1) : (codesL rows w ++ (List.range i).flatMap fun n => (codesL rows (n + 1)).map (94 :: ·)).length ≤ 256 + i * 256 := by
  have h0 : (codesL rows w).length ≤ 256 := by rw [codesL_len]; exact pow_bound h hw
  rw [List.length_append]
  have : ∀ i, i ≤ w - 1 → ((List.range i).flatMap fun n => (codesL rows (n + 1)).map (94 :: ·)).length ≤ i * 256 := by
    intro i
    induction i with
    | zero => intro _; simp
    | succ i ih =>
      intro hi
      rw [List.range_succ, List.flatMap_append, List.length_append]
      have h1 := ih (by omega)
      have h2 : (codesL rows (i + 1)).length ≤ 256 := by rw [codesL_len]; exact pow_bound h (by omega)
      simp only [List.flatMap_cons, List.flatMap_nil, List.append_nil, List.length_map]
      omega
  have := this i hi
  omega
def sp_stretch_names : Sp := fun vs H Q _ => ∃ (s : Str) (w : Nat), vs = [.str s, .int w] ∧ s.length ≤ 4 ∧ 1 ≤ w ∧ w ≤ 3 ∧ ∀ p H' ys, H p = none → H' p = some (.lst (ys.map V.str)) → NamesOk s.cps.toList w ys → Ev [] H H' → Q (.ref p) H'
theorem ok_stretch_names (T : Txt K mg) : FnOk P w K mg base CX0 2 T.f_stretch_names.f T.f_stretch_names.fd ["rows", "width"] sp_stretch_names := by
  refine T.f_stretch_names.F.ok sc_stretch_names (fun vs H Q E h => ?_) (fun cdv A outer s H vs Q E hr h => ?_)
  · obtain ⟨s, n, rfl, _⟩ := h
    rfl
  · obtain ⟨x, w, rfl, hl, w1, w3, k⟩ := h
    refine ⟨_, (pss_cons (ps_set (i := 2) sc_stretch_names.nd rfl (by first | exact Or.inl rfl | exact Or.inr rfl) (pe_call (ok_codes_of_length T) (hr.mono (by decide)) rfl T.f_codes_of_length.mg T.f_codes_of_length.kp T.f_codes_of_length.bd .nil pass0 (pa_cons (pv 0) (pa_cons (pv 1) pa_nil))))
  (pss_cons (ps_for PassesOwn.never rfl (pi_range2 (by rfl) T.b_range (pa_cons pe_int (pa_cons (pv 1) pa_nil))) (pg_name (i := 3) sc_stretch_names.nd rfl (by first | exact Or.inl rfl | exact Or.inr rfl))
  (pss_one (ps_expr (pe_bmU (K := K) PySem.F.plainAttrs_list PySem.F.slot_list_extend PySem.F.type_list_extend mt_extend (pv 2) (pa_cons (pe_lcU (own := [("code", 4)]) (vs := [4]) rfl (by rfl) sc_stretch_names.nd (pi_U (K := K) (pe_call (ok_codes_of_length T) (hr.mono (by decide)) rfl T.f_codes_of_length.mg T.f_codes_of_length.kp T.f_codes_of_length.bd .nil pass0 (pa_cons (pv 0) (pa_cons (pv 3) pa_nil)))) (blkOk_by (own := [("code", 4)]) (N := N_stretch_names) (sc := defScope s_stretch_names) (by decide +kernel)) (fun _ _ _ _ _ => (pg_name (i := 4) sc_stretch_names.nd rfl (by first | exact Or.inl rfl | exact Or.inr rfl))) (fun _ _ _ _ _ => pts_nil) (fun _ _ _ _ _ => (pe_op (op_addU (K := K)) pe_str (pv 4)))) pa_nil)))))
  (pss_one (ps_ret (pe_callB (cr_sortedU (K := K)) (by rfl) T.b_sorted (by decide +kernel) (pa_cons (pv 2) pa_nil)))))), ?_⟩
    try dsimp only [nox_K, tr_K, cxOf_K]
    refine y_start (σ' := some _ :: some _ :: none :: none :: none :: []) rfl ?_
    have hs : (sizeLine : Nat) = 16777216 := sizeLine_eq
    have len : x.cps.toList.length = x.length := by simp [Str.length]
    walk_at "y"
    refine ⟨x, w, rfl, hl, by omega, fun p H1 np hp e1 => ?_⟩
    walk_at "y"
    refine y_forR2 (by omega) (fun i σ H' => ∃ o, σ = [some (.str x), some (.int w), some (.ref p), o, none] ∧ Ev [] H H' ∧ H' p = some (.lst (txts (codesL x.cps.toList w ++ (List.range i).flatMap fun n => (codesL x.cps.toList (n + 1)).map (94 :: ·))))) ⟨_, rfl, e1, ?_⟩ ?_ ?_
    · rw [hp]
      simp
    · rintro i σ H' hi ⟨o, rfl, e2, hp2⟩
      walk_at "y"
      refine ⟨x, i + 1, by rw [show (1 : Int) + (i : Int) = ((i + 1 : Nat) : Int) by omega]; rfl, hl, by omega, fun q H2 nq hq e3 => ?_⟩
      walk_at "y"
      refine y_lcL _ (SqL.of hq) [] (by simp) (fun Hc e => SqL.of (e.keep _ _ hq (by simp))) (fun j acc _ => acc = txts (((codesL x.cps.toList (i + 1)).take j).map (94 :: ·))) ?_ (fun _ _ => by simp [txts]) ?_ ?_
      · rw [txts_len, codesL_len, len]
        have := pow_bound hl (show i + 1 ≤ 4 by omega)
        omega
      · rintro j v acc D Hc Qt hx hD e hl2 rfl kq
        walk_at "yw"
        rw [txts, List.getElem?_map] at hx
        cases hm : (codesL x.cps.toList (i + 1))[j]? with
        | none => rw [hm] at hx; cases hx
        | some z =>
          rw [hm] at hx
          cases hx
          have hz := ((codesL_mem _ _ _).mp (List.mem_of_getElem? hm)).1
          walk_at "y"
          rw [show ("^" : Str) = ofL [94] from caret_is]
          refine y_addS (by rw [ofL_len, ofL_len, hz]; show 1 + (i + 1) ≤ _; omega) ?_
          refine kq _ _ Ev.refl fun H5 e5 => ?_
          rw [List.take_add_one, hm, ofL_app, List.map_append, txts_app]
          rfl
      · rintro D Hn acc hD e hDn hl2 rfl
        have hpn : Hn p = some _ := e.keep p _ (e3.keep p _ hp2 (by simp)) (by simp)
        walk_at "y"
        refine y_extend _ _ hpn hDn ?_ fun H4 hp4 e4 => ?_
        · have h1 := namesL_len x.cps.toList (by omega) w i (by omega) (by omega)
          have h2 : (codesL x.cps.toList (i + 1)).length ≤ 256 := by rw [codesL_len, len]; exact pow_bound hl (by omega)
          rw [txts_len, txts_len, List.length_map, List.length_take]
          omega
        · walk_at "y"
          refine ⟨_, rfl, ((e2.trans (e3.trans e)).fresh np e4), ?_⟩
          rw [hp4, List.range_succ, List.flatMap_append, ← List.append_assoc, txts_app, txts_len]
          rw [List.take_of_length_le (Nat.le_refl _)]
          simp [txts_app]
    · rintro σ H' ⟨o, rfl, e2, hp2⟩
      rw [txts_strs] at hp2
      walk_at "y"
      refine y_sorted (SqL.of hp2) fun p2 H2 ys np2 hp3 e3 pm so => ?_
      refine k p2 H2 ys (e2.none np2) hp3 ⟨?_, so⟩ (e2.trans e3)
      rw [show ((w : Int) - 1).toNat = w - 1 by omega] at pm
      exact pm

-- use stretch_names
/-- a dict of texts, all true -/
def kvOf (ks : List (List Nat)) : List (Key × V) := ks.map fun l => (Sum.inr (ofL l), V.bl true)
def insL (ks : List (List Nat)) (l : List Nat) : List (List Nat) := if l ∈ ks then ks else ks ++ [l]
theorem kvOf_put (ks : List (List Nat)) (l : List Nat) : putK (kvOf ks) (Sum.inr (ofL l)) (V.bl true) = kvOf (insL ks l) := by
  have e : ((kvOf ks).any fun kv => decide (kv.1 = Sum.inr (ofL l))) = decide (l ∈ ks) := by
    rw [kvOf, List.any_map]
    by_cases h : l ∈ ks
    · rw [decide_eq_true h, List.any_eq_true]
      exact ⟨l, h, by simp⟩
    · rw [decide_eq_false h, List.any_eq_false]
      intro m hm
      have : m ≠ l := fun e => h (e ▸ hm)
      simp only [Function.comp, Sum.inr.injEq, decide_eq_true_eq]
      exact fun e => this (ofL_inj e)
  unfold putK insL
  rw [e]
  by_cases h : l ∈ ks
  · rw [if_pos (decide_eq_true h), if_pos h, kvOf, List.map_map]
    refine List.map_congr_left fun m hm => ?_
    simp
  · rw [if_neg (by simpa using h), if_neg h]
    simp [kvOf]
theorem insL_mem {ks : List (List Nat)} {l m : List Nat} : m ∈ insL ks l ↔ m ∈ ks ∨ m = l := by
  unfold insL
  by_cases h : l ∈ ks
  · rw [if_pos h]
    exact ⟨.inl, fun q => q.elim id fun e => e ▸ h⟩
  · rw [if_neg h, List.mem_append, List.mem_singleton]
theorem insL_nodup {ks : List (List Nat)} {l : List Nat} (h : ks.Nodup) : (insL ks l).Nodup := by
  unfold insL
  by_cases q : l ∈ ks
  · rw [if_pos q]; exact h
  · rw [if_neg q]
    exact List.nodup_append.mpr ⟨h, by simp, fun a ha b hb e => by simp at hb; subst hb; subst e; exact q ha⟩
/-- what stands in the dict after the codes of ls -/
def SeenOf (ks : List (List Nat)) (P : List Nat → Prop) : Prop := ks.Nodup ∧ ∀ l, l ∈ ks ↔ P l
/-- the stretches of codes of length 1 to i -/
def Met (rows : List Nat) (w i : Nat) (l : List Nat) : Prop := ∃ n, n < i ∧ ∃ c ∈ codesL rows (n + 1), l ∈ dueL c w
theorem stAt_mem {rows c : List Nat} {w n k : Nat} (w1 : 1 ≤ w) (hc : c ∈ codesL rows n) (hk : k < n) : stAt c w k ∈ namesL rows w := by
  obtain ⟨h1, h2⟩ := (codesL_mem _ _ _).mp hc
  unfold stAt namesL
  rw [List.mem_append]
  by_cases q : k + 1 < w
  · rw [if_pos q]
    refine .inr (List.mem_flatMap.mpr ⟨k, List.mem_range.mpr (by omega), List.mem_map.mpr ⟨c.take (k + 1), (codesL_mem _ _ _).mpr ⟨by rw [List.length_take]; omega, fun x hx => h2 x (List.mem_of_mem_take hx)⟩, rfl⟩⟩)
  · rw [if_neg q]
    exact .inl ((codesL_mem _ _ _).mpr ⟨by rw [List.length_take, List.length_drop]; omega, fun x hx => h2 x (List.mem_of_mem_drop (List.mem_of_mem_take hx))⟩)
theorem met_names {rows : List Nat} {w : Nat} (w1 : 1 ≤ w) (l : List Nat) : Met rows w (w + 1) l ↔ l ∈ namesL rows w := by
  constructor
  · rintro ⟨n, hn, c, hc, hl⟩
    obtain ⟨k, hk, rfl⟩ := List.mem_map.mp hl
    have := ((codesL_mem _ _ _).mp hc).1
    exact stAt_mem w1 hc (by have := List.mem_range.mp hk; omega)
  · intro h
    unfold namesL at h
    rcases List.mem_append.mp h with h | h
    · obtain ⟨h1, h2⟩ := (codesL_mem _ _ _).mp h
      refine ⟨w - 1, by omega, l, by rw [show w - 1 + 1 = w by omega]; exact h, List.mem_map.mpr ⟨w - 1, List.mem_range.mpr (by omega), ?_⟩⟩
      rw [stAt, if_neg (by omega), show w - 1 + 1 - w = 0 by omega, List.drop_zero, List.take_of_length_le (by omega)]
    · obtain ⟨k, hk, h⟩ := List.mem_flatMap.mp h
      obtain ⟨c, hc, rfl⟩ := List.mem_map.mp h
      have hk := List.mem_range.mp hk
      have h1 := ((codesL_mem _ _ _).mp hc).1
      refine ⟨k, by omega, c, hc, List.mem_map.mpr ⟨k, List.mem_range.mpr (by omega), ?_⟩⟩
      rw [stAt, if_pos (by omega), List.take_of_length_le (by omega)]
theorem namesL_nodup {rows : List Nat} (h : rows.Nodup) (h94 : 94 ∉ rows) (w : Nat) : (namesL rows w).Nodup := by
  unfold namesL
  refine List.nodup_append.mpr ⟨codesL_nodup h w, ?_, ?_⟩
  · have key : ∀ i, ((List.range i).flatMap fun n => (codesL rows (n + 1)).map (94 :: ·)).Nodup := by
      intro i
      induction i with
      | zero => simp
      | succ i ih =>
        rw [List.range_succ, List.flatMap_append]
        refine List.nodup_append.mpr ⟨ih, ?_, ?_⟩
        · simp only [List.flatMap_cons, List.flatMap_nil, List.append_nil]
          exact List.pairwise_map.mpr ((codesL_nodup h (i + 1)).imp fun {a b} ne e => ne (List.cons.inj e).2)
        · intro a ha b hb e
          subst e
          simp only [List.flatMap_cons, List.flatMap_nil, List.append_nil, List.mem_map, List.mem_flatMap, List.mem_range] at ha hb
          obtain ⟨k, hk, c, hc, rfl⟩ := ha
          obtain ⟨d, hd, e⟩ := hb
          have e := (List.cons.inj e).2
          subst e
          have h1 := ((codesL_mem _ _ _).mp hc).1
          have h2 := ((codesL_mem _ _ _).mp hd).1
          omega
    exact key _
  · intro a ha b hb e
    subst e
    obtain ⟨k, hk, hb⟩ := List.mem_flatMap.mp hb
    obtain ⟨c, hc, rfl⟩ := List.mem_map.mp hb
    exact h94 (((codesL_mem _ _ _).mp ha).2 94 List.mem_cons_self)
/-- rows without twins and without a caret -/
structure RowsGood (x : Str) : Prop where
  len : x.length ≤ 4
  nd : x.cps.toList.Nodup
  nc : 94 ∉ x.cps.toList
def sp_law_all : Sp := fun vs H Q _ => ∃ (s : Str) (w : Nat), vs = [.str s, .int w] ∧ RowsGood s ∧ 1 ≤ w ∧ w ≤ 3 ∧ ∀ p H' ys, H p = none → H' p = some (.lst (ys.map V.str)) → NamesOk s.cps.toList w ys → Ev [] H H' → Q (.ref p) H'
theorem ok_law_all (T : Txt K mg) : FnOk P w K mg base CX0 2 T.f_law_all.f T.f_law_all.fd ["_law_rows_here", "_law_width"] sp_law_all := by
  refine T.f_law_all.F.ok sc_law_all (fun vs H Q E h => ?_) (fun cdv A outer s H vs Q E hr h => ?_)
  · obtain ⟨s, n, rfl, _⟩ := h
    rfl
  · obtain ⟨x, w, rfl, hx, w1, w3, k⟩ := h
    refine ⟨_, (pss_cons (ps_set (i := 2) sc_law_all.nd rfl (by first | exact Or.inl rfl | exact Or.inr rfl) pe_dnewK)
  (pss_cons (ps_set (i := 3) sc_law_all.nd rfl (by first | exact Or.inl rfl | exact Or.inr rfl) (pe_lst (pa_cons pe_str pa_nil)))
  (pss_cons (ps_for PassesOwn.never rfl (pi_range1 (by rfl) T.b_range (pa_cons (pe_op (op_addU (K := K)) (pv 1) pe_int) pa_nil)) (pg_name (i := 4) sc_law_all.nd rfl (by first | exact Or.inl rfl | exact Or.inr rfl))
  (pss_cons (ps_set (i := 5) sc_law_all.nd rfl (by first | exact Or.inl rfl | exact Or.inr rfl) (pe_lst pa_nil))
  (pss_cons (ps_for PassesOwn.never rfl (pi_U (K := K) (pv 3)) (pg_name (i := 6) sc_law_all.nd rfl (by first | exact Or.inl rfl | exact Or.inr rfl))
  (pss_one (ps_set (i := 5) sc_law_all.nd rfl (by first | exact Or.inl rfl | exact Or.inr rfl) (pe_op (op_addU (K := K)) (pv 5) (pe_lcU (own := [("_law_row", 8)]) (vs := [8]) rfl (by rfl) sc_law_all.nd (pi_U (K := K) (pv 0)) (blkOk_by (own := [("_law_row", 8)]) (N := N_law_all) (sc := defScope s_law_all) (by decide +kernel)) (fun _ _ _ _ _ => (pg_name (i := 8) sc_law_all.nd rfl (by first | exact Or.inl rfl | exact Or.inr rfl))) (fun _ _ _ _ _ => pts_nil) (fun _ _ _ _ _ => (pe_op (op_addU (K := K)) (pv 6) (pv 8))))))))
  (pss_cons (ps_set (i := 3) sc_law_all.nd rfl (by first | exact Or.inl rfl | exact Or.inr rfl) (pv 5))
  (pss_one (ps_for PassesOwn.never rfl (pi_U (K := K) (pv 3)) (pg_name (i := 6) sc_law_all.nd rfl (by first | exact Or.inl rfl | exact Or.inr rfl))
  (pss_one (ps_for PassesOwn.never rfl (pi_U (K := K) (pe_call (ok_law_due T) (hr.mono (by decide)) rfl T.f_law_due.mg T.f_law_due.kp T.f_law_due.bd .nil pass0 (pa_cons (pv 6) (pa_cons (pv 1) pa_nil)))) (pg_name (i := 7) sc_law_all.nd rfl (by first | exact Or.inl rfl | exact Or.inr rfl))
  (pss_one (ps_asg pe_bl (pg_sub (pv 2) (pv 7) (set_U (hu_of hr)))))))))))))
  (pss_one (ps_ret (pe_callB (cr_sortedU (K := K)) (by rfl) T.b_sorted (by decide +kernel) (pa_cons (pe_callTy (call_listU (K := K)) (by rfl) T.b_list (by decide +kernel) (pa_cons (pv 2) pa_nil)) pa_nil))))))), ?_⟩
    try dsimp only [nox_K, tr_K, cxOf_K]
    refine y_start (σ' := some _ :: some _ :: none :: none :: none :: none :: none :: none :: none :: []) rfl ?_
    have hs : (sizeLine : Nat) = 16777216 := sizeLine_eq
    have len : x.cps.toList.length = x.length := by simp [Str.length]
    have hx4 := hx.len
    have small : ∀ i, i ≤ 4 → (codesL x.cps.toList i).length ≤ 256 := fun i hi => by rw [codesL_len, len]; exact pow_bound hx4 hi
    have bigN : (namesL x.cps.toList w).length ≤ 1024 := by
      have := namesL_len x.cps.toList (by omega) w (w - 1) (by omega) (Nat.le_refl _)
      unfold namesL
      omega
    have bound : ∀ {ks : List (List Nat)}, ks.Nodup → (∀ l ∈ ks, l ∈ namesL x.cps.toList w) → (kvOf ks).length ≤ 1024 := fun hn hm => by
      rw [kvOf, List.length_map]
      exact Nat.le_trans (List.Nodup.length_le_of_subset hn hm) bigN
    walk_at "y"
    refine y_newD fun p0 H1 np0 hp0 e1 => ?_
    walk_at "y"
    refine y_tLst ?_
    walk_at "y"
    refine y_newL (by show 1 ≤ sizeLine; omega) fun p H2 np hp e2 => ?_
    walk_at "y"
    refine y_forR (by omega) (fun i σ H' => ∃ p ks o4 o5 o6 o7, σ = [some (.str x), some (.int w), some (.ref p0), some (.ref p), o4, o5, o6, o7, none] ∧ H' p0 = some (.dK (kvOf ks)) ∧ H' p = some (.lst (txts (codesL x.cps.toList i))) ∧ Ev [] H H' ∧ SeenOf ks (Met x.cps.toList w i)) ⟨p, [], none, none, none, none, rfl, e2.keep _ _ hp0 (by simp), ?_, e1.trans e2, ?_⟩ ?_ ?_
    · rw [hp]; rfl
    · exact ⟨.nil, fun l => ⟨(fun h => nomatch h), (fun ⟨n, h, _⟩ => absurd h (by omega))⟩⟩
    · rintro i σ H3 hi ⟨p, ks, o4, o5, o6, o7, rfl, hp0, hp, e3, hks⟩
      walk_at "y"
      refine y_tLst ?_
      walk_at "y"
      refine y_newL0 fun q H4 nq hq e4 => ?_
      walk_at "y"
      have npq : p0 ≠ q := ne_of_none hp0 nq
      have step : ∀ (ls : List (List Nat)) j l, ls[j]? = some l → (ls.take (j + 1)).flatMap (fun c => x.cps.toList.map fun r => c ++ [r]) = (ls.take j).flatMap (fun c => x.cps.toList.map fun r => c ++ [r]) ++ x.cps.toList.map fun r => l ++ [r] := fun ls j l h => by
        rw [List.take_add_one, h, List.flatMap_append]
        simp
      have lenE : ∀ j, (((codesL x.cps.toList i).take j).flatMap (fun c => x.cps.toList.map fun r => c ++ [r])).length ≤ 1024 := fun j => by
        have h1 : ∀ ls : List (List Nat), (ls.flatMap (fun c => x.cps.toList.map fun r => c ++ [r])).length = ls.length * x.length := by
          intro ls
          induction ls with
          | nil => simp
          | cons l r ih => rw [List.flatMap_cons, List.length_append, ih, List.length_map, List.length_cons, len, Nat.succ_mul, Nat.add_comm]
        rw [h1, List.length_take]
        have := small i (by omega)
        have h2 : min j (codesL x.cps.toList i).length * x.length ≤ 256 * 4 := Nat.mul_le_mul (by omega) hx4
        omega
      refine y_forL (txts (codesL x.cps.toList i)) (SqL.of (e4.keep _ _ hp (by simp))) (fun j σ H' => ∃ q o6, σ = [some (.str x), some (.int w), some (.ref p0), some (.ref p), some (.int i), some (.ref q), o6, o7, none] ∧ H' q = some (.lst (txts (((codesL x.cps.toList i).take j).flatMap fun c => x.cps.toList.map fun r => c ++ [r]))) ∧ H' p0 = some (.dK (kvOf ks)) ∧ H' p = some (.lst (txts (codesL x.cps.toList i))) ∧ p0 ≠ q ∧ Ev [] H H') ⟨q, o6, rfl, hq, e4.keep _ _ hp0 (by simp), e4.keep _ _ hp (by simp), npq, e3.trans e4⟩ (fun j σ H' _ h => by
        obtain ⟨q, o6, _, _, _, hp, _⟩ := h
        exact SqL.of hp) ?_ ?_
      · rintro j v σ H5 hv ⟨q, o6, rfl, hq, hp0, hp, npq, e5⟩
        rw [txts, List.getElem?_map] at hv
        cases hm : (codesL x.cps.toList i)[j]? with
        | none => rw [hm] at hv; cases hv
        | some l =>
          rw [hm] at hv
          cases hv
          have hl := ((codesL_mem _ _ _).mp (List.mem_of_getElem? hm)).1
          walk_at "y"
          refine y_lcS [] (by simp) (fun jj acc _ => acc = txts ((x.cps.toList.take jj).map fun r => l ++ [r])) (by have : x.cps.size = x.length := rfl; omega) (fun _ _ => rfl) ?_ ?_
          · rintro jj c acc D Hc Qt hc hD e hl2 rfl kq
            walk_at "yw"
            walk_at "y"
            refine y_addS (by rw [ofL_len, hl]; show i + 1 ≤ _; omega) ?_
            refine kq _ _ Ev.refl fun _ _ => ?_
            have hc' : x.cps.toList[jj]? = some c := by simpa using hc
            rw [show (⟨#[c]⟩ : Str) = ofL [c] from rfl, ofL_app, List.take_add_one, hc', List.map_append, txts_app]
            rfl
          · rintro D Hn acc hD e hDn hl2 rfl
            rw [List.take_of_length_le (by simp)] at hDn
            refine y_catL _ _ (e.keep _ _ hq (by simp)) hDn (by
              have h1 := lenE j
              rw [txts_len, txts_len, List.length_map]
              omega) fun q2 H6 nq2 hq2 e6 => ?_
            walk_at "y"
            refine ⟨q2, _, rfl, ?_, e6.keep _ _ (e.keep _ _ hp0 (by simp)) (by simp), e6.keep _ _ (e.keep _ _ hp (by simp)) (by simp), ne_of_none (e.keep _ _ hp0 (by simp)) nq2, e5.trans (e.trans e6)⟩
            rw [hq2, step _ _ _ hm, txts_app]
      · rintro σ H5 ⟨q, o6, rfl, hq, hp0, hp, npq, e5⟩
        rw [List.take_of_length_le (by rw [txts_len]; exact Nat.le_refl _)] at hq
        change H5 q = some (.lst (txts (codesL x.cps.toList (i + 1)))) at hq
        walk_at "y"
        refine y_forL (txts (codesL x.cps.toList (i + 1))) (SqL.of hq) (fun j σ H' => ∃ ks' o6 o7, σ = [some (.str x), some (.int w), some (.ref p0), some (.ref q), some (.int i), some (.ref q), o6, o7, none] ∧ H' q = some (.lst (txts (codesL x.cps.toList (i + 1)))) ∧ H' p0 = some (.dK (kvOf ks')) ∧ Ev [] H H' ∧ SeenOf ks' fun l => Met x.cps.toList w i l ∨ ∃ c ∈ (codesL x.cps.toList (i + 1)).take j, l ∈ dueL c w) ⟨ks, o6, o7, rfl, hq, hp0, e5, hks.1, fun l => (hks.2 l).trans ⟨.inl, (fun h => h.elim id fun ⟨c, hc, _⟩ => by simp at hc)⟩⟩ (fun j σ H' _ h => by
          obtain ⟨_, _, _, _, hp, _⟩ := h
          exact SqL.of hp) ?_ ?_
        · rintro j v σ H6 hv ⟨ks2, o6, o7, rfl, hq, hp0, e6, hks2⟩
          rw [txts, List.getElem?_map] at hv
          cases hm : (codesL x.cps.toList (i + 1))[j]? with
          | none => rw [hm] at hv; cases hv
          | some c =>
            rw [hm] at hv
            cases hv
            have hc := (codesL_mem _ _ _).mp (List.mem_of_getElem? hm)
            have hcm : ∀ l ∈ dueL c w, l ∈ namesL x.cps.toList w := fun l hl => by
              obtain ⟨k, hk, rfl⟩ := List.mem_map.mp hl
              exact stAt_mem w1 (List.mem_of_getElem? hm) (by have := List.mem_range.mp hk; omega)
            have hprev : ∀ l, (Met x.cps.toList w i l ∨ ∃ c ∈ (codesL x.cps.toList (i + 1)).take j, l ∈ dueL c w) → l ∈ namesL x.cps.toList w := by
              rintro l (⟨n, hn, d, hd, hl⟩ | ⟨d, hd, hl⟩)
              · exact (met_names w1 l).mp ⟨n, by omega, d, hd, hl⟩
              · exact (met_names w1 l).mp ⟨i, by omega, d, List.mem_of_mem_take hd, hl⟩
            walk_at "y"
            refine ⟨ofL c, w, rfl, w1, w3, by rw [ofL_len]; omega, fun r H7 nr hr e7 => ?_⟩
            have er : (ofL c).cps.toList = c := by simp [ofL]
            rw [er] at hr
            refine y_forL _ (SqL.of hr) (fun m σ H' => ∃ ks' o7, σ = [some (.str x), some (.int w), some (.ref p0), some (.ref q), some (.int i), some (.ref q), some (.str (ofL c)), o7, none] ∧ H' q = some (.lst (txts (codesL x.cps.toList (i + 1)))) ∧ H' r = some (.lst (txts (dueL c w))) ∧ H' p0 = some (.dK (kvOf ks')) ∧ Ev [] H H' ∧ SeenOf ks' fun l => (Met x.cps.toList w i l ∨ ∃ c ∈ (codesL x.cps.toList (i + 1)).take j, l ∈ dueL c w) ∨ l ∈ (dueL c w).take m) ⟨ks2, o7, rfl, e7.keep _ _ hq (by simp), hr, e7.keep _ _ hp0 (by simp), e6.trans e7, hks2.1, fun l => (hks2.2 l).trans ⟨.inl, (fun h => h.elim id fun hc => by simp at hc)⟩⟩ (fun j σ H' _ h => by
              obtain ⟨_, _, _, _, hr, _⟩ := h
              exact SqL.of hr) ?_ ?_
            · rintro m v σ H8 hv ⟨ks3, o7, rfl, hq8, hr8, hp8, e8, hks3⟩
              rw [txts, List.getElem?_map] at hv
              cases hn : (dueL c w)[m]? with
              | none => rw [hn] at hv; cases hv
              | some l =>
                rw [hn] at hv
                cases hv
                walk_at "y"
                have hb := bound hks3.1 fun z hz => by
                  rcases (hks3.2 z).mp hz with q | q
                  · exact hprev z q
                  · exact hcm z (List.mem_of_mem_take q)
                refine y_setD hp8 (by omega) fun H9 hp9 e9 => ?_
                walk_at "y"
                have nr0 : r ≠ p0 := (ne_of_none hp0 nr).symm
                refine ⟨insL ks3 l, _, rfl, e9.keep _ _ hq8 (by simpa using npq.symm), e9.keep _ _ hr8 (by simpa using nr0), by rw [hp9, kvOf_put], e8.fresh np0 e9, insL_nodup hks3.1, fun z => ?_⟩
                refine insL_mem.trans ?_
                rw [hks3.2 z]
                show ((_ ∨ _) ∨ _) ∨ _ ↔ (_ ∨ _) ∨ z ∈ (dueL c w).take (m + 1)
                rw [List.take_add_one, hn, List.mem_append]
                simp [or_assoc]
            · rintro σ H8 ⟨ks3, o7, rfl, hq8, hr8, hp8, e8, hks3⟩
              walk_at "y"
              refine ⟨ks3, _, _, rfl, hq8, hp8, e8, hks3.1, fun z => ?_⟩
              rw [hks3.2 z, List.take_of_length_le (l := dueL c w) (by rw [txts_len]; exact Nat.le_refl _), List.take_add_one, hm]
              constructor
              · rintro ((h | ⟨d, hd, hl⟩) | h)
                · exact .inl h
                · exact .inr ⟨d, List.mem_append_left _ hd, hl⟩
                · exact .inr ⟨c, by simp, h⟩
              · rintro (h | ⟨d, hd, hl⟩)
                · exact .inl (.inl h)
                · rcases List.mem_append.mp hd with q | q
                  · exact .inl (.inr ⟨d, q, hl⟩)
                  · simp at q
                    subst q
                    exact .inr hl
        · rintro σ H6 ⟨ks2, o6, o7, rfl, hq, hp0, e6, hks2⟩
          walk_at "y"
          refine ⟨q, ks2, _, _, _, _, rfl, hp0, hq, e6, hks2.1, fun l => ?_⟩
          rw [hks2.2 l, List.take_of_length_le (by rw [txts_len]; exact Nat.le_refl _)]
          constructor
          · rintro (⟨n, hn, d, hd, hl⟩ | ⟨d, hd, hl⟩)
            · exact ⟨n, by omega, d, hd, hl⟩
            · exact ⟨i, by omega, d, hd, hl⟩
          · rintro ⟨n, hn, d, hd, hl⟩
            by_cases e : n = i
            · subst e; exact .inr ⟨d, hd, hl⟩
            · exact .inl ⟨n, by omega, d, hd, hl⟩
    · rintro σ H3 ⟨p, ks, o4, o5, o6, o7, rfl, hp0, hp, e3, hks⟩
      walk_at "y"
      refine y_listD hp0 fun q H4 nq hq e4 => ?_
      walk_at "y"
      have hq' : H4 q = some (.lst ((ks.map ofL).map V.str)) := by
        rw [hq, kvOf, List.map_map, List.map_map]
        rfl
      refine y_sorted (SqL.of hq') fun p2 H5 ys np2 hp3 e5 pm so => ?_
      refine k p2 H5 ys (e3.none (e4.none np2)) hp3 ⟨pm.trans ?_, so⟩ (e3.trans (e4.trans e5))
      have : ks.Perm (namesL x.cps.toList w) := (List.perm_ext_iff_of_nodup hks.1 (namesL_nodup hx.nd hx.nc w)).mpr fun l => by
        rw [hks.2 l, show ((w : Int) + 1).toNat = w + 1 by omega, met_names w1]
      exact this.map ofL

/-- the hand at a, its cells at c -/
def HandS (H : Hp) (a c : Addr) (cells : List Int) (i big st cnt : Int) : Prop := H a = some (.lst [.ref c, .int i, .int big, .int st, .int cnt]) ∧ H c = some (.lst (cells.map V.int)) ∧ a ≠ c
def HandAt (H : Hp) (a c : Addr) : Prop := ∃ (cells : List Int) (i big st cnt : Int), HandS H a c cells i big st cnt ∧ 0 ≤ i
theorem HandS.ev {S : List Addr} {H H1 : Hp} {a c : Addr} {cells : List Int} {i big st cnt : Int} (h : HandS H a c cells i big st cnt) (e : Ev S H H1) (na : a ∉ S) (nc : c ∉ S) : HandS H1 a c cells i big st cnt := ⟨e.keep _ _ h.1 na, e.keep _ _ h.2.1 nc, h.2.2⟩
section
variable {H : Hp} {a c : Addr} {cells : List Int} {i big st cnt : Int} {Q : VK} {v : Int} {QG : Hp → Prop}
theorem hand_get0 (h : HandS H a c cells i big st cnt) (q : Q (.ref c) H) : rIxU K (.ref a) (.int 0) H Q := y_ixL (SqL.of h.1) rfl q
theorem hand_get1 (h : HandS H a c cells i big st cnt) (q : Q (.int i) H) : rIxU K (.ref a) (.int 1) H Q := y_ixL (SqL.of h.1) rfl q
theorem hand_get2 (h : HandS H a c cells i big st cnt) (q : Q (.int big) H) : rIxU K (.ref a) (.int 2) H Q := y_ixL (SqL.of h.1) rfl q
theorem hand_get3 (h : HandS H a c cells i big st cnt) (q : Q (.int st) H) : rIxU K (.ref a) (.int 3) H Q := y_ixL (SqL.of h.1) rfl q
theorem hand_get4 (h : HandS H a c cells i big st cnt) (q : Q (.int cnt) H) : rIxU K (.ref a) (.int 4) H Q := y_ixL (SqL.of h.1) rfl q
theorem hand_put {o : HO} (h : HandS H a c cells i big st cnt) (k : kindO o = 0) : (upd H a o) a = some o ∧ (upd H a o) c = some (.lst (cells.map V.int)) ∧ Ev [a] H (upd H a o) := ⟨upd_same, by rw [upd_ne h.2.2.symm]; exact h.2.1, Ev.put h.1 k (by simp [kindO]) (by simp [kindO])⟩
theorem hand_set1 (h : HandS H a c cells i big st cnt) (q : ∀ H', HandS H' a c cells v big st cnt → Ev [a] H H' → QG H') : rSetU (.ref a) (.int 1) (.int v) H QG := by
  obtain ⟨x, y, z⟩ := hand_put (o := .lst [.ref c, .int v, .int big, .int st, .int cnt]) h rfl
  exact y_setL h.1 (k := 1) rfl (q _ ⟨x, y, h.2.2⟩ z)
theorem hand_set2 (h : HandS H a c cells i big st cnt) (q : ∀ H', HandS H' a c cells i v st cnt → Ev [a] H H' → QG H') : rSetU (.ref a) (.int 2) (.int v) H QG := by
  obtain ⟨x, y, z⟩ := hand_put (o := .lst [.ref c, .int i, .int v, .int st, .int cnt]) h rfl
  exact y_setL h.1 (k := 2) rfl (q _ ⟨x, y, h.2.2⟩ z)
theorem hand_set3 (h : HandS H a c cells i big st cnt) (q : ∀ H', HandS H' a c cells i big v cnt → Ev [a] H H' → QG H') : rSetU (.ref a) (.int 3) (.int v) H QG := by
  obtain ⟨x, y, z⟩ := hand_put (o := .lst [.ref c, .int i, .int big, .int v, .int cnt]) h rfl
  exact y_setL h.1 (k := 3) rfl (q _ ⟨x, y, h.2.2⟩ z)
theorem hand_set4 (h : HandS H a c cells i big st cnt) (q : ∀ H', HandS H' a c cells i big st v → Ev [a] H H' → QG H') : rSetU (.ref a) (.int 4) (.int v) H QG := by
  obtain ⟨x, y, z⟩ := hand_put (o := .lst [.ref c, .int i, .int big, .int st, .int v]) h rfl
  exact y_setL h.1 (k := 4) rfl (q _ ⟨x, y, h.2.2⟩ z)
theorem hand_len (h : HandS H a c cells i big st cnt) (q : Q (.int cells.length) H) : rLenU K [.ref c] H Q := y_lenL (SqL.of h.2.1) (by rw [List.length_map]; exact q)
theorem hand_cell (h : HandS H a c cells i big st cnt) (i0 : 0 ≤ i) (i1 : i < cells.length) (q : ∀ x, Q (.int x) H) : rIxU K (.ref c) (.int i) H Q := by
  have e : i = (i.toNat : Int) := by omega
  rw [e]
  have k : i.toNat < cells.length := by omega
  refine y_ixL (SqL.of h.2.1) (v := .int cells[i.toNat]) (atI_nat ?_) (q _)
  rw [List.getElem?_map, List.getElem?_eq_getElem k]
  rfl
end
theorem HandAt.ev {S : List Addr} {H H1 : Hp} {a c : Addr} (h : HandAt H a c) (e : Ev S H H1) (na : a ∉ S) (nc : c ∉ S) : HandAt H1 a c := by
  obtain ⟨cells, i, big, st, cnt, h1, r⟩ := h
  exact ⟨cells, i, big, st, cnt, h1.ev e na nc, r⟩
theorem HandAt.new {H H1 : Hp} {a c : Addr} (h : HandAt H a c) (e : Ev [] H H1) : HandAt H1 a c := h.ev e (by simp) (by simp)
theorem HandAt.ne {H : Hp} {a c p : Addr} (h : HandAt H a c) (n : H p = none) : a ≠ p ∧ c ≠ p := by
  obtain ⟨cells, i, big, st, cnt, ⟨h1, h2, _⟩, r⟩ := h
  exact ⟨ne_of_none h1 n, ne_of_none h2 n⟩
theorem HandAt.ev1 {H0 H H1 : Hp} {a c p : Addr} (h : HandAt H a c) (h0 : HandAt H0 a c) (n : H0 p = none) (e : Ev [p] H H1) : HandAt H1 a c :=
  h.ev e (by simpa using (h0.ne n).1) (by simpa using (h0.ne n).2)
theorem HandAt.tr {H : Hp} {a c : Addr} (h : HandAt H a c) : H a ≠ none := by
  obtain ⟨cells, i, big, st, cnt, ⟨h1, h2, _⟩, r⟩ := h
  rw [h1]
  simp
/-! ### displays of data, a hand by -/
section
variable {H H0 : Hp} {a c : Addr} {σ : L2.St} {te : TE} {ts : TA} {L M1 M2 : List Da} {LL : List (List Da)} {n : Nat} {Q : VK}
/-- te makes a datum of L -/
def LitX (K : PySem.W.Frag) (a c : Addr) (σ : L2.St) (H0 : Hp) (te : TE) (L : List Da) : Prop := ∀ (H : Hp) (Q : VK), HandAt H a c → Ev [a] H0 H → (∀ v d H', d ∈ L → Th K H' v d → HandAt H' a c → Ev [a] H H' → Q v H') → te σ H Q
/-- ts makes one of these lists -/
def LitsX (K : PySem.W.Frag) (a c : Addr) (σ : L2.St) (H0 : Hp) (ts : TA) (LL : List (List Da)) : Prop := ∀ (H : Hp) (Q : List V → Hp → Prop), HandAt H a c → Ev [a] H0 H → (∀ vs ds H', ds ∈ LL → ThAll K H' vs ds → HandAt H' a c → Ev [a] H H' → Q vs H') → ts σ H Q
/-- ts makes n data of L -/
def LitsA (K : PySem.W.Frag) (a c : Addr) (σ : L2.St) (H0 : Hp) (ts : TA) (n : Nat) (L : List Da) : Prop := ∀ (H : Hp) (Q : List V → Hp → Prop), HandAt H a c → Ev [a] H0 H → (∀ vs ds H', ds.length = n → (∀ d ∈ ds, d ∈ L) → ThAll K H' vs ds → HandAt H' a c → Ev [a] H H' → Q vs H') → ts σ H Q
theorem lit_non : LitX K a c σ H0 (tC .non) [.non] := fun H Q h e k => k _ _ H (List.mem_singleton_self _) .non h Ev.refl
theorem lit_bl {b : Bool} : LitX K a c σ H0 (tC (.bl b)) [.bl b] := fun H Q h e k => k _ _ H (List.mem_singleton_self _) (.bl b) h Ev.refl
theorem lit_int {i : Int} : LitX K a c σ H0 (tC (.int i)) [.int i] := fun H Q h e k => k _ _ H (List.mem_singleton_self _) (.int i) h Ev.refl
theorem lit_str {s : Str} : LitX K a c σ H0 (tC (.str s)) [.str s] := fun H Q h e k => k _ _ H (List.mem_singleton_self _) (.str s) h Ev.refl
theorem lit_neg {i : Int} : LitX K a c σ H0 (tUn (rU fun i => .int (-i)) (tC (.int i))) [.int (-i)] := fun H Q h e k => ⟨i, rfl, k _ _ H (List.mem_singleton_self _) (.int _) h Ev.refl⟩
theorem lit_pow {i j : Int} (hp : CPow i j) : LitX K a c σ H0 (tOp (rI CPow fun i j => .int (i ^ j.toNat)) (tC (.int i)) (tC (.int j))) [.int (i ^ j.toNat)] := fun H Q h e k => ⟨i, j, rfl, rfl, hp, k _ _ H (List.mem_singleton_self _) (.int _) h Ev.refl⟩
theorem lit_var {i : Nat} {v : V} {d : Da} (hv : σ[i]? = some (some v)) (hd : Th K H0 v d) : LitX K a c σ H0 (tVar i) [d] := fun H Q h e k => ⟨v, hv, k _ _ H (List.mem_singleton_self _) (e.th hd) h Ev.refl⟩
theorem lits_nil : LitsX K a c σ H0 tNil [[]] := fun H Q h e k => k [] [] H (List.mem_singleton_self _) .nil h Ev.refl
theorem lits_cons (h1 : LitX K a c σ H0 te L) (h2 : LitsX K a c σ H0 ts LL) : LitsX K a c σ H0 (tCons te ts) (L.flatMap fun d => LL.map (d :: ·)) := fun H Q h e k =>
  h1 H _ h e fun v d H1 hd t1 hh1 e1 => h2 H1 _ hh1 (e.trans e1) fun vs ds H2 hds t2 hh2 e2 => k _ _ H2 (List.mem_flatMap.mpr ⟨d, hd, List.mem_map_of_mem hds⟩) (.cons (e2.th t1) t2) hh2 (e1.trans e2)
theorem litsA_nil : LitsA K a c σ H0 tNil 0 [] := fun H Q h e k => k [] [] H rfl (fun _ h => nomatch h) .nil h Ev.refl
theorem litsA_cons (h1 : LitX K a c σ H0 te M1) (h2 : LitsA K a c σ H0 ts n M2) : LitsA K a c σ H0 (tCons te ts) (n + 1) (M1 ++ M2) := fun H Q h e k =>
  h1 H _ h e fun v d H1 hd t1 hh1 e1 => h2 H1 _ hh1 (e.trans e1) fun vs ds H2 hl hds t2 hh2 e2 => k _ _ H2 (by simp [hl]) (fun x hx => by
    rcases List.mem_cons.mp hx with q | q
    · subst q; exact List.mem_append_left _ hd
    · exact List.mem_append_right _ (hds x q)) (.cons (e2.th t1) t2) hh2 (e1.trans e2)
theorem thAll_len {vs : List V} {ds : List Da} (h : ThAll K H vs ds) (hl : LL.all (fun l => decide (l.length ≤ 64)) = true) (hm : ds ∈ LL) : vs.length ≤ sizeLine := by
  have := of_decide_eq_true (List.all_eq_true.mp hl _ hm)
  have hs : (sizeLine : Nat) = 16777216 := sizeLine_eq
  rw [h.length]
  omega
theorem lit_tup (h : LitsX K a c σ H0 ts LL) (hl : LL.all (fun l => decide (l.length ≤ 64)) = true) : LitX K a c σ H0 (tTup ts) (LL.map Da.tup) := fun H Q hh e k =>
  h H _ hh e fun vs ds H1 hd t1 hh1 e1 => ⟨thAll_len t1 hl hd, fun p hp => k _ _ _ (List.mem_map_of_mem hd) (.tup (SqT.of upd_same) ((Ev.new hp : Ev [] _ _).thAll t1)) (hh1.new (Ev.new hp)) (e1.trans (Ev.new hp))⟩
theorem lit_lst (h : LitsX K a c σ H0 ts LL) (hl : LL.all (fun l => decide (l.length ≤ 64)) = true) : LitX K a c σ H0 (tLst ts) [.lst] := fun H Q hh e k =>
  h H _ hh e fun vs ds H1 hd t1 hh1 e1 => ⟨thAll_len t1 hl hd, fun p hp => k _ _ _ (List.mem_singleton_self _) (.lst upd_same rfl) (hh1.new (Ev.new hp)) (e1.trans (Ev.new hp))⟩
theorem lit_dct0 : LitX K a c σ H0 tDNewK [.dct] := fun H Q hh e k => fun p hp => k _ _ _ (List.mem_singleton_self _) (.dct upd_same (.inl rfl)) (hh.new (Ev.new hp)) (Ev.new hp)
theorem lit_dct1 {s : Str} {v : V} : LitX K a c σ H0 (tDisp [(tC (.str s), tC v)]) [.dct] := fun H Q hh e k => fun p hp => by
  refine ⟨upd_same, [(.inr s, v)], rfl, by show 1 ≤ 15; decide, ?_⟩
  rw [upd_upd]
  exact k _ _ _ (List.mem_singleton_self _) (.dct upd_same (.inl rfl)) (hh.new (Ev.new hp)) (Ev.new hp)
theorem LitsA.cast {n' : Nat} {L' : List Da} (h : LitsA K a c σ H0 ts n L) (e1 : n = n') (e2 : L = L') : LitsA K a c σ H0 ts n' L' := e1 ▸ e2 ▸ h
/-- a list of data -/
theorem y_litL {K : PySem.W.Frag} (hh : HandAt H a c) (h : LitsA K a c σ H ts n L) (hn : n ≤ 64) (q : ∀ p vs ds H', H p = none → H' p = some (.lst vs) → ThAll K H' vs ds → vs.length = n → (∀ d ∈ ds, d ∈ L) → HandAt H' a c → Ev [a] H H' → Q (.ref p) H') : tLst ts σ H Q :=
  h H _ hh Ev.refl fun vs ds H1 hl hd t1 hh1 e1 => ⟨by
    have hs : (sizeLine : Nat) = 16777216 := sizeLine_eq
    rw [t1.length, hl]; omega, fun p hp => q p vs ds _ (e1.none hp) upd_same ((Ev.new hp : Ev [] _ _).thAll t1) (by rw [t1.length, hl]) hd (hh1.new (Ev.new hp)) (e1.trans (Ev.new hp))⟩
end
def sp_law_hand (K : PySem.W.Frag) : Sp := fun vs H Q _ => ∃ (b : Addr) (ns : List Int), vs = [.ref b] ∧ SqL K H b (ns.map V.int) ∧ (∀ Hn, Ev [] H Hn → SqL K Hn b (ns.map V.int)) ∧ ns.length ≤ sizeLine ∧ ∀ a c H', HandAt H' a c → H a = none → Ev [] H H' → Q (.ref a) H'
theorem use_law_hand {H : Hp} {Q : VK} {E : XK} {b : Addr} {ns : List Int} (h : SqL K H b (ns.map V.int)) (h2 : ∀ Hn, Ev [] H Hn → SqL K Hn b (ns.map V.int)) (hl : ns.length ≤ sizeLine) (q : ∀ a c H', HandAt H' a c → H a = none → Ev [] H H' → Q (.ref a) H') : sp_law_hand K ([.ref b] ++ []) H Q E := ⟨b, ns, rfl, h, h2, hl, q⟩
theorem cutV_ints (ns : List Int) (lo hi : Option Int) : ∃ ms : List Int, cutV (ns.map V.int) lo hi = ms.map V.int := by
  unfold cutV
  exact ⟨_, by rw [← List.map_drop, ← List.map_take]⟩
theorem ok_law_hand (T : Txt K mg) : FnOk P w K mg base CX0 1 T.f_law_hand.f T.f_law_hand.fd ["_law_script"] (sp_law_hand K) := by
  refine T.f_law_hand.F.ok sc_law_hand (fun vs H Q E h => ?_) (fun cdv A outer s H vs Q E hr h => ?_)
  · obtain ⟨b, ns, rfl, _⟩ := h
    rfl
  · obtain ⟨b, ns, rfl, hb, hb2, hl, k⟩ := h
    refine ⟨_, (pss_cons (ps_setLcU (i := 1) (own := [("_law_cell", 2)]) (vs := [2]) rfl (by rfl) sc_law_hand.nd rfl rfl (sw_true rfl rfl rfl (by decide +kernel)) (pi_U (K := K) (pe_slice (sl_U (K := K)) (pv 0) po_none (po_some pe_int))) (blkOk_by (own := [("_law_cell", 2)]) (N := N_law_hand) (sc := defScope s_law_hand) (by decide +kernel)) (fun _ _ _ _ _ => (pg_name (i := 2) sc_law_hand.nd rfl (by first | exact Or.inl rfl | exact Or.inr rfl))) (fun _ _ _ _ _ => pts_nil) (fun _ _ _ _ _ => (pe_callB call_absU (by rfl) T.b_abs (by decide +kernel) (pa_cons (pe_callTy call_intU (by rfl) T.b_int (by decide +kernel) (pa_cons (pv 2) pa_nil)) pa_nil))))
  (pss_one (ps_ret (pe_lst (pa_cons (pv 1) (pa_cons pe_int (pa_cons pe_int (pa_cons (pe_op (op_addU (K := K)) pe_int (pe_callB (call_lenU (K := K)) (by rfl) T.b_len (by decide +kernel) (pa_cons (pv 1) pa_nil))) (pa_cons pe_int pa_nil))))))))), ?_⟩
    try dsimp only [nox_K, tr_K, cxOf_K]
    refine y_start (σ' := some _ :: none :: none :: []) rfl ?_
    walk_at "y"
    refine y_slL _ hb fun p H1 np hp e1 => ?_
    walk_at "y"
    obtain ⟨ms, hms⟩ := cutV_ints ns none (some 63)
    have hlen := cutV_length (ns.map V.int) none (some 63)
    rw [hms] at hp hlen
    rw [List.length_map, List.length_map] at hlen
    refine y_lcL _ (SqL.of hp) [] (by simp) (fun Hc e => SqL.of (e.keep _ _ hp (by simp))) (fun i acc _ => ∃ cs : List Int, acc = cs.map V.int ∧ ∀ x ∈ cs, 0 ≤ x) (by rw [List.length_map]; omega) (fun _ _ => ⟨[], rfl, fun _ h => nomatch h⟩) ?_ ?_
    · rintro i x acc D Hc Qt hx hD e hl ⟨cs, rfl, hcs⟩ kq
      walk_at "yw"
      rw [List.getElem?_map] at hx
      cases hm : ms[i]? with
      | none => rw [hm] at hx; cases hx
      | some z =>
        rw [hm] at hx
        cases hx
        walk_at "y"
        refine kq _ _ Ev.refl fun H5 e5 => ⟨cs ++ [if z < 0 then -z else z], by simp, fun x hx => ?_⟩
        rcases List.mem_append.mp hx with h | h
        · exact hcs x h
        · simp at h
          subst h
          split <;> omega
    · rintro D Hn acc hD e hDn hl ⟨cs, rfl, hcs⟩
      walk_at "y"
      refine y_tLst ?_
      walk_at "y"
      refine y_newL (by show 5 ≤ sizeLine; decide) fun a H2 na ha e2 => ?_
      refine k a D H2 ⟨cs, 0, 0, _, 0, ⟨ha, e2.keep _ _ hDn (by simp), ?_⟩, by omega⟩ ?_ ?_
      · exact (ne_of_none hDn na).symm
      · exact e1.none (e.none na)
      · exact e1.trans (e.trans e2)

local macro_rules | `(tactic| walk_at "yc") => `(tactic| (first
  | ((with_reducible refine hand_get0 (i := ?i) (big := ?b) (st := ?s) (cnt := ?c) (cells := ?z) (c := ?y) ?h ?_); (case h => assumption))
  | ((with_reducible refine hand_get1 (i := ?i) (big := ?b) (st := ?s) (cnt := ?c) (cells := ?z) (c := ?y) ?h ?_); (case h => assumption))
  | ((with_reducible refine hand_get2 (i := ?i) (big := ?b) (st := ?s) (cnt := ?c) (cells := ?z) (c := ?y) ?h ?_); (case h => assumption))
  | ((with_reducible refine hand_get3 (i := ?i) (big := ?b) (st := ?s) (cnt := ?c) (cells := ?z) (c := ?y) ?h ?_); (case h => assumption))
  | ((with_reducible refine hand_get4 (i := ?i) (big := ?b) (st := ?s) (cnt := ?c) (cells := ?z) (c := ?y) ?h ?_); (case h => assumption))
  | ((with_reducible refine hand_len (a := ?a) (i := ?i) (big := ?b) (st := ?s) (cnt := ?c) (cells := ?z) ?h ?_); (case h => assumption))))
local macro_rules | `(tactic| walk_at "yl1") => `(tactic| (first
  | with_reducible exact litsA_nil
  | with_reducible exact lits_nil
  | with_reducible apply litsA_cons
  | with_reducible apply lits_cons
  | with_reducible exact lit_non
  | with_reducible exact lit_bl
  | with_reducible exact lit_int
  | with_reducible exact lit_str
  | with_reducible exact lit_neg
  | with_reducible apply lit_pow
  | with_reducible apply lit_tup
  | with_reducible apply lit_lst
  | with_reducible exact lit_dct0
  | with_reducible exact lit_dct1
  | ((with_reducible refine lit_var (v := ?v) (d := ?d) ?h ?q); (case h => exact rfl); (case q => first | assumption | constructor))
  | (unfold CPow; decide)
  | decide))
local macro_rules | `(tactic| walk_at "yl") => `(tactic| repeat' (walk_at "yl1"))

-- use law_hand
def sp_law_draw : Sp := fun vs H Q _ => ∃ a c m, vs = [.ref a, .int m] ∧ HandAt H a c ∧ 1 ≤ m ∧ m < 1073741824 ∧ ∀ d H', 0 ≤ d → d < m → HandAt H' a c → Ev [a] H H' → Q (.int d) H'
theorem use_law_draw {H : Hp} {Q : VK} {E : XK} {a c : Addr} {m : Int} (h : HandAt H a c) (h1 : 1 ≤ m) (h2 : m < 1073741824) (q : ∀ d H', 0 ≤ d → d < m → HandAt H' a c → Ev [a] H H' → Q (.int d) H') : sp_law_draw ([.ref a, .int m] ++ []) H Q E := ⟨a, c, m, rfl, h, h1, h2, q⟩
theorem ok_law_draw (T : Txt K mg) : FnOk P w K mg base CX0 1 T.f_law_draw.f T.f_law_draw.fd ["_law_hand_here", "_law_many"] sp_law_draw := by
  refine T.f_law_draw.F.ok sc_law_draw (fun vs H Q E h => ?_) (fun cdv A outer s H vs Q E hr h => ?_)
  · obtain ⟨a, c, m, rfl, _⟩ := h
    rfl
  · obtain ⟨a, c, m, rfl, hh, m1, m2, k⟩ := h
    obtain ⟨cells, i, big, st, cnt, h1, ip⟩ := hh
    refine ⟨_, (pss_cons (ps_if (PW.pt (pw_and (pt_cmpR (op_eqU (K := K) (hu_of hr) hr.units) (pe_ix (ix_U (K := K) (hu_of hr)) (pv 0) pe_int (fun _ _ => rfl)) pe_int (by first | exact nomark _ | rfl)) (pw_and1 (pt_cmpR op_ltU (pe_ix (ix_U (K := K) (hu_of hr)) (pv 0) pe_int (fun _ _ => rfl)) (pe_callB (call_lenU (K := K)) (by rfl) T.b_len (by decide +kernel) (pa_cons (pe_ix (ix_U (K := K) (hu_of hr)) (pv 0) pe_int (fun _ _ => rfl)) pa_nil)) (by first | exact nomark _ | rfl))))) (pss_cons (ps_set (i := 2) sc_law_draw.nd rfl (by first | exact Or.inl rfl | exact Or.inr rfl) (pe_ix (ix_U (K := K) (hu_of hr)) (pe_ix (ix_U (K := K) (hu_of hr)) (pv 0) pe_int (fun _ _ => rfl)) (pe_ix (ix_U (K := K) (hu_of hr)) (pv 0) pe_int (fun _ _ => rfl)) (fun _ _ => rfl)))
  (pss_cons (ps_asg (pe_op (op_addU (K := K)) (pe_ix (ix_U (K := K) (hu_of hr)) (pv 0) pe_int (fun _ _ => rfl)) pe_int) (pg_sub (pv 0) pe_int (set_U (hu_of hr))))
  (pss_cons (ps_asg (pe_op op_modU (pe_callTy call_intU (by rfl) T.b_int (by decide +kernel) (pa_cons (pe_op (op_addU (K := K)) (pe_op (op_addU (K := K)) (pe_op op_mulU (pe_ix (ix_U (K := K) (hu_of hr)) (pv 0) pe_int (fun _ _ => rfl)) pe_int) (pv 2)) pe_int) pa_nil)) pe_int) (pg_sub (pv 0) pe_int (set_U (hu_of hr))))
  (pss_one (ps_if (pt_cmpR op_geU (pv 2) (pe_op op_pow pe_int pe_int) (by first | exact nomark _ | rfl)) (pss_one (ps_asg (pv 2) (pg_sub (pv 0) pe_int (set_U (hu_of hr))))) pss_nil))))) pss_nil)
  (pss_cons (ps_if (pt_cmpR op_gtU (pe_ix (ix_U (K := K) (hu_of hr)) (pv 0) pe_int (fun _ _ => rfl)) pe_int (by first | exact nomark _ | rfl)) (pss_cons (ps_set (i := 3) sc_law_draw.nd rfl (by first | exact Or.inl rfl | exact Or.inr rfl) (pe_op op_modU (pe_callTy call_intU (by rfl) T.b_int (by decide +kernel) (pa_cons (pe_ix (ix_U (K := K) (hu_of hr)) (pv 0) pe_int (fun _ _ => rfl)) pa_nil)) (pv 1)))
  (pss_cons (ps_asg (pe_op op_fdivU (pe_ix (ix_U (K := K) (hu_of hr)) (pv 0) pe_int (fun _ _ => rfl)) (pv 1)) (pg_sub (pv 0) pe_int (set_U (hu_of hr))))
  (pss_one (ps_ret (pv 3))))) pss_nil)
  (pss_cons (ps_asg (pe_op (op_addU (K := K)) (pe_ix (ix_U (K := K) (hu_of hr)) (pv 0) pe_int (fun _ _ => rfl)) pe_int) (pg_sub (pv 0) pe_int (set_U (hu_of hr))))
  (pss_cons (ps_set (i := 4) sc_law_draw.nd rfl (by first | exact Or.inl rfl | exact Or.inr rfl) (pe_op op_modU (pe_callTy call_intU (by rfl) T.b_int (by decide +kernel) (pa_cons (pe_op op_mulU (pe_callTy call_intU (by rfl) T.b_int (by decide +kernel) (pa_cons (pe_op (op_addU (K := K)) (pe_ix (ix_U (K := K) (hu_of hr)) (pv 0) pe_int (fun _ _ => rfl)) (pe_op op_mulU pe_int (pe_ix (ix_U (K := K) (hu_of hr)) (pv 0) pe_int (fun _ _ => rfl)))) pa_nil)) pe_int) pa_nil)) pe_int))
  (pss_cons (ps_set (i := 4) sc_law_draw.nd rfl (by first | exact Or.inl rfl | exact Or.inr rfl) (pe_op op_modU (pe_callTy call_intU (by rfl) T.b_int (by decide +kernel) (pa_cons (pe_op op_mulU (pv 4) (pe_op (op_addU (K := K)) (pe_op op_fdivU (pv 4) pe_int) pe_int)) pa_nil)) pe_int))
  (pss_cons (ps_set (i := 4) sc_law_draw.nd rfl (by first | exact Or.inl rfl | exact Or.inr rfl) (pe_op op_modU (pe_callTy call_intU (by rfl) T.b_int (by decide +kernel) (pa_cons (pe_op op_mulU (pv 4) (pe_op (op_addU (K := K)) (pe_op op_fdivU (pv 4) pe_int) pe_int)) pa_nil)) pe_int))
  (pss_one (ps_ret (pe_op op_modU (pe_callTy call_intU (by rfl) T.b_int (by decide +kernel) (pa_cons (pe_op op_fdivU (pv 4) pe_int) pa_nil)) (pv 1)))))))))), ?_⟩
    try dsimp only [nox_K, tr_K, cxOf_K]
    refine y_start (σ' := some _ :: some _ :: none :: none :: none :: []) rfl ?_
    refine y_seqM (fun σ H' => ∃ i' big' st' x, σ = [some (.ref a), some (.int m), x, none, none] ∧ HandS H' a c cells i' big' st' cnt ∧ 0 ≤ i' ∧ Ev [a] H H') ?_ ?_
    · rintro σ H' ⟨i', big', st', x, rfl, hs, i0, e⟩
      walk_at "y"
      refine y_ite (fun hb => ?_) (fun hb => ?_)
      · walk_at "y"
        refine hand_set2 hs fun H2 hs2 e2 => ?_
        walk_at "y"
        exact k _ _ (Int.emod_nonneg _ (by omega)) (Int.emod_lt_of_pos _ (by omega)) ⟨_, _, _, _, _, hs2, i0⟩ (e.trans e2)
      · walk_at "y"
        refine hand_set4 hs fun H2 hs2 e2 => ?_
        walk_at "y"
        exact k _ _ (Int.emod_nonneg _ (by omega)) (Int.emod_lt_of_pos _ (by omega)) ⟨_, _, _, _, _, hs2, i0⟩ (e.trans e2)
    · intro N hN
      walk_at "y"
      refine y_ite (fun hb => ?_) (fun hb => ?_)
      · walk_at "y"
        refine y_ite (fun hb2 => ?_) (fun hb2 => ?_)
        · have hb3 : i < cells.length := by simpa using hb2
          walk_at "y"
          refine hand_cell h1 ip hb3 fun x => ?_
          walk_at "y"
          refine hand_set1 h1 fun H2 hs2 e2 => ?_
          walk_at "y"
          refine hand_set3 hs2 fun H3 hs3 e3 => ?_
          walk_at "y"
          refine y_ite (fun hb4 => ?_) (fun hb4 => ?_)
          · walk_at "y"
            refine hand_set2 hs3 fun H4 hs4 e4 => ?_
            walk_at "y"
            exact hN _ _ ⟨_, _, _, _, rfl, hs4, by omega, (e2.trans e3).trans e4⟩
          · walk_at "y"
            exact hN _ _ ⟨_, _, _, _, rfl, hs3, by omega, e2.trans e3⟩
        · walk_at "y"
          exact hN _ _ ⟨_, _, _, _, rfl, h1, ip, Ev.refl⟩
      · walk_at "y"
        exact hN _ _ ⟨_, _, _, _, rfl, h1, ip, Ev.refl⟩
/-- [..][_law_draw(hand, n)] -/
theorem y_pick {K : PySem.W.Frag} {σ : L2.St} {H : Hp} {a c : Addr} {ts : TA} {n : Nat} {L : List Da} {Q : VK} {E : XK} {j : Nat} {m : Int} (hh : HandAt H a c) (h : LitsA K a c σ H ts n L) (hv : σ[j]? = some (some (.ref a))) (hm : m = n) (hn : 1 ≤ n) (hn2 : n ≤ 64)
    (q : ∀ v d H', d ∈ L → Th K H' v d → HandAt H' a c → Ev [a] H H' → Q v H') : tOpP (rIxU K) (tLst ts) (tCall sp_law_draw [] E (tCons (tVar j) (tCons (tC (.int m)) tNil))) σ H Q := by
  subst hm
  refine y_op ?_
  refine y_litL (K := K) hh h hn2 fun p vs ds H1 np hp ht hl hds hh1 e1 => ?_
  refine y_call ?_
  refine y_cons ?_
  refine y_var hv ?_
  refine y_cons ?_
  refine y_c ?_
  refine y_nil ?_
  refine use_law_draw hh1 (by omega) (by omega) fun d H3 d0 d1 hh3 e3 => ?_
  have na : p ≠ a := fun z => by subst z; exact hh.tr np
  have hq3 := e3.keep _ _ hp (by simpa using na)
  obtain ⟨i, rfl⟩ : ∃ i : Nat, d = (i : Int) := ⟨d.toNat, by omega⟩
  have hj : i < vs.length := by omega
  obtain ⟨x, ex, tx⟩ := ht.getV (List.getElem?_eq_getElem hj)
  refine y_ixL (SqL.of hq3) (atI_nat (List.getElem?_eq_getElem hj)) ?_
  exact q _ x H3 (hds x (List.mem_of_getElem? ex)) (e3.th tx) hh3 (e1.trans e3)

-- use law_hand
/-- what the law calls odd -/
def oddL : List Da := [.non, .bl true, .bl false, .str "A", .str "a b", .str "a1", .lst, .dct, .lst, .dct, .tup [.tup []], .tup [.int 1], .tup [.str "a"], .lst, .tup [.str "a", .str "b", .str "c"], .str "^"]
def sp_law_odd (K : PySem.W.Frag) : Sp := fun vs H Q _ => ∃ a c, vs = [.ref a] ∧ HandAt H a c ∧ ∀ v d H', d ∈ oddL → Th K H' v d → HandAt H' a c → Ev [a] H H' → Q v H'
theorem ok_law_odd (T : Txt K mg) : FnOk P w K mg base CX0 2 T.f_law_odd.f T.f_law_odd.fd ["_law_hand_here"] (sp_law_odd K) := by
  refine T.f_law_odd.F.ok sc_law_odd (fun vs H Q E h => ?_) (fun cdv A outer s H vs Q E hr h => ?_)
  · obtain ⟨a, c, rfl, _⟩ := h
    rfl
  · obtain ⟨a, c, rfl, hh, k⟩ := h
    refine ⟨_, (pss_cons (ps_set (i := 1) sc_law_odd.nd rfl (by first | exact Or.inl rfl | exact Or.inr rfl) (pe_lst (pa_cons pe_non pa_nil)))
  (pss_cons (ps_for PassesOwn.never rfl (pi_range1 (by rfl) T.b_range (pa_cons pe_int pa_nil)) (pg_name (i := 2) sc_law_odd.nd rfl (by first | exact Or.inl rfl | exact Or.inr rfl))
  (pss_one (ps_set (i := 1) sc_law_odd.nd rfl (by first | exact Or.inl rfl | exact Or.inr rfl) (pe_lst (pa_cons (pv 1) pa_nil)))))
  (pss_cons (ps_set (i := 3) sc_law_odd.nd rfl (by first | exact Or.inl rfl | exact Or.inr rfl) (pe_lst (pa_cons pe_non (pa_cons pe_bl (pa_cons pe_bl (pa_cons pe_str (pa_cons pe_str (pa_cons pe_str (pa_cons (pe_lst (pa_cons pe_str pa_nil)) (pa_cons (pe_disp (pps_cons pe_str pe_str pps_nil) (by rfl) (by rfl) (fun z => by cases z) (by decide)) (pa_cons (pe_lst pa_nil) (pa_cons pe_dnewK (pa_cons (pe_tup (pa_cons (pe_tup pa_nil) pa_nil)) (pa_cons (pe_tup (pa_cons pe_int pa_nil)) (pa_cons (pe_tup (pa_cons pe_str pa_nil)) (pa_cons (pv 1) (pa_cons (pe_tup (pa_cons pe_str (pa_cons pe_str (pa_cons pe_str pa_nil)))) (pa_cons pe_str pa_nil))))))))))))))))))
  (pss_one (ps_ret (pe_ix (ix_U (K := K) (hu_of hr)) (pv 3) (pe_call (ok_law_draw T) (hr.mono (by decide)) rfl T.f_law_draw.mg T.f_law_draw.kp T.f_law_draw.bd .nil pass0 (pa_cons (pv 0) (pa_cons (pe_callB (call_lenU (K := K)) (by rfl) T.b_len (by decide +kernel) (pa_cons (pv 3) pa_nil)) pa_nil))) (fun _ _ => rfl))))))), ?_⟩
    try dsimp only [nox_K, tr_K, cxOf_K]
    refine y_start (σ' := some _ :: none :: none :: none :: []) rfl ?_
    walk_at "y"
    refine y_tLst ?_
    walk_at "y"
    refine y_newL (by show 1 ≤ sizeLine; decide) fun p H1 np hp e1 => ?_
    walk_at "y"
    refine y_forR (by omega) (fun i σ H' => ∃ p o xs, σ = [some (.ref a), some (.ref p), o, none] ∧ H' p = some (.lst xs) ∧ Ev [] H H') ⟨p, none, _, rfl, hp, e1⟩ ?_ ?_
    · rintro i σ H' hi ⟨p, o, xs, rfl, hp, e1⟩
      walk_at "y"
      refine y_tLst ?_
      walk_at "y"
      refine y_newL (by show 1 ≤ sizeLine; decide) fun p2 H2 np2 hp2 e2 => ?_
      exact ⟨p2, _, _, rfl, hp2, e1.trans e2⟩
    · rintro σ H' ⟨p, o, xs, rfl, hp, e1⟩
      have hh1 := hh.new e1
      have hd : Th K H' (.ref p) .lst := .lst hp rfl
      refine y_seq ?_
      refine y_set3 ?_
      refine y_litL (K := K) (n := 16) (L := oddL) hh1 ?_ (by decide) fun q vs ds H2 nq hq ht hl hds hh2 e2 => ?_
      · apply LitsA.cast
        · walk_at "yl"
        · rfl
        · rfl
      · walk_at "y"
        refine use_law_draw hh2 (by omega) (by omega) fun d H3 d0 d1 hh3 e3 => ?_
        have na : q ≠ a := fun z => by subst z; exact hh1.tr nq
        have hq3 := e3.keep _ _ hq (by simpa using na)
        obtain ⟨j, rfl⟩ : ∃ j : Nat, d = (j : Int) := ⟨d.toNat, by omega⟩
        have hj : j < vs.length := by omega
        obtain ⟨x, ex, tx⟩ := ht.getV (List.getElem?_eq_getElem hj)
        refine y_ixL (SqL.of hq3) (atI_nat (List.getElem?_eq_getElem hj)) ?_
        exact k _ x H3 (hds x (List.mem_of_getElem? ex)) (e3.th tx) hh3 ((Ev.nil e1).trans (e2.trans e3))
theorem lit_odd {σ : L2.St} {H0 : Hp} {a c : Addr} {E : XK} {j : Nat} (hv : σ[j]? = some (some (.ref a))) : LitX K a c σ H0 (tCall (sp_law_odd K) [] E (tCons (tVar j) tNil)) oddL := fun H Q hh e k => ⟨_, hv, a, c, rfl, hh, k⟩

local macro_rules | `(tactic| walk_at "yl1") => `(tactic| with_reducible exact lit_odd rfl)

def ascL : List Nat → Bool
  | a :: b :: r => decide (a < b) && ascL (b :: r)
  | _ => true
theorem ascL_at : ∀ (l : List Nat), ascL l = true → ∀ i a b, l[i]? = some a → l[i + 1]? = some b → a < b
  | [], _, _, _, _, h, _ => nomatch h
  | [x], _, _, _, _, _, h => nomatch h
  | x :: y :: r, h, 0, a, b, h1, h2 => by
    have e1 : x = a := Option.some.inj h1
    have e2 : y = b := Option.some.inj h2
    subst e1 e2
    simp only [ascL, Bool.and_eq_true, decide_eq_true_eq] at h
    exact h.1
  | x :: y :: r, h, i + 1, a, b, h1, h2 => by
    simp only [ascL, Bool.and_eq_true] at h
    exact ascL_at (y :: r) h.2 i a b h1 h2
theorem ascL_of : ∀ (l : List Nat), (∀ i a b, l[i]? = some a → l[i + 1]? = some b → a < b) → ascL l = true
  | [], _ => rfl
  | [x], _ => rfl
  | x :: y :: r, h => by
    simp only [ascL, Bool.and_eq_true, decide_eq_true_eq]
    exact ⟨h 0 x y rfl rfl, ascL_of (y :: r) fun i a b h1 h2 => h (i + 1) a b h1 h2⟩
theorem lt_sign {a b : Nat} : decide ((⟨#[a]⟩ : Str).cps.toList < (⟨#[b]⟩ : Str).cps.toList) = decide (a < b) := by
  have : (([a] : List Nat) < [b]) ↔ a < b := by constructor <;> (intro h; first | (cases h with | rel h => exact h | cons h => cases h) | exact List.Lex.rel h)
  exact decide_eq_decide.mpr this
def sp_is_ascending : Sp := fun vs H Q _ => ∃ s, vs = [.str s] ∧ s.length ≤ sizeLine ∧ Q (.bl (ascL s.cps.toList)) H
theorem use_is_ascending {H : Hp} {Q : VK} {E : XK} {s : Str} (h : s.length ≤ sizeLine) (q : Q (.bl (ascL s.cps.toList)) H) : sp_is_ascending ([.str s] ++ []) H Q E := ⟨s, rfl, h, q⟩
theorem ok_is_ascending (T : Txt K mg) : FnOk P w K mg base CX0 1 T.f_is_ascending.f T.f_is_ascending.fd ["word"] sp_is_ascending := by
  refine T.f_is_ascending.F.ok sc_is_ascending (fun vs H Q E h => ?_) (fun cdv A outer s H vs Q E hr h => ?_)
  · obtain ⟨s, rfl, _⟩ := h
    rfl
  · obtain ⟨x, rfl, hz, k⟩ := h
    refine ⟨_, (pss_cons (ps_for PassesOwn.never rfl (pi_range2 (by rfl) T.b_range (pa_cons pe_int (pa_cons (pe_callB (call_lenU (K := K)) (by rfl) T.b_len (by decide +kernel) (pa_cons (pv 0) pa_nil)) pa_nil))) (pg_name (i := 1) sc_is_ascending.nd rfl (by first | exact Or.inl rfl | exact Or.inr rfl))
  (pss_one (ps_if (pt_cmpR op_geU (pe_ix (ix_U (K := K) (hu_of hr)) (pv 0) (pe_op op_sub (pv 1) pe_int) (fun _ _ => rfl)) (pe_ix (ix_U (K := K) (hu_of hr)) (pv 0) (pv 1) (fun _ _ => rfl)) (by first | exact nomark _ | rfl)) (pss_one (ps_ret pe_bl)) pss_nil)))
  (pss_one (ps_ret pe_bl))), ?_⟩
    try dsimp only [nox_K, tr_K, cxOf_K]
    refine y_start (σ' := some _ :: none :: []) rfl ?_
    have hs : (sizeLine : Nat) = 16777216 := sizeLine_eq
    have len : x.length = x.cps.toList.length := by simp [Str.length]
    walk_at "y"
    refine y_forR2 (by omega) (fun i σ H' => ∃ o, σ = [some (.str x), o] ∧ H' = H ∧ ∀ j a b, j < i → x.cps.toList[j]? = some a → x.cps.toList[j + 1]? = some b → a < b) ⟨_, rfl, rfl, fun _ _ _ h => nomatch h⟩ ?_ ?_
    · rintro i σ H' hi ⟨o, rfl, rfl, ha⟩
      walk_at "y"
      have h1 : i < x.cps.toList.length := by omega
      have h2 : i + 1 < x.cps.toList.length := by omega
      have e1 : (1 : Int) + (i : Int) - 1 = (i : Nat) := by omega
      have e2 : (1 : Int) + (i : Int) = ((i + 1 : Nat) : Int) := by omega
      rw [e1, e2]
      refine y_ixS hz (atI_nat (List.getElem?_eq_getElem h1)) ?_
      walk_at "y"
      refine y_ixS hz (atI_nat (List.getElem?_eq_getElem h2)) ?_
      walk_at "y"
      rw [lt_sign]
      by_cases q : x.cps.toList[i] < x.cps.toList[i + 1]
      · rw [decide_eq_true q]
        walk_at "y"
        refine ⟨_, rfl, rfl, fun j a b hj ja jb => ?_⟩
        by_cases e : j = i
        · subst e
          rw [List.getElem?_eq_getElem h1] at ja
          rw [List.getElem?_eq_getElem h2] at jb
          cases ja
          cases jb
          exact q
        · exact ha j a b (by omega) ja jb
      · rw [decide_eq_false q]
        walk_at "y"
        have f : ascL x.cps.toList = false := Bool.eq_false_iff.mpr fun t => q (ascL_at _ t i _ _ (List.getElem?_eq_getElem h1) (List.getElem?_eq_getElem h2))
        rw [f] at k
        exact k
    · rintro σ H' ⟨o, rfl, rfl, ha⟩
      walk_at "y"
      have f : ascL x.cps.toList = true := ascL_of _ fun i a b h1 h2 => ha i a b (by
        have := (List.getElem?_eq_some_iff.mp h2).1
        omega) h1 h2
      rw [f] at k
      exact k

local macro_rules | `(tactic| walk_at "yc") => `(tactic| ((with_reducible refine use_is_ascending ?h ?_); (case h => first | assumption | omega)))

/-- a text of these signs -/
def isStrOf : Da → Str → Bool
  | .str s, z => s.cps.toList.all fun c => decide (c ∈ z.cps.toList)
  | _, _ => false
def sp_is_string_of (K : PySem.W.Frag) : Sp := fun vs H Q _ => ∃ v d z, vs = [v, .str z] ∧ Th K H v d ∧ Q (.bl (isStrOf d z)) H
theorem use_is_string_of {H : Hp} {Q : VK} {E : XK} {v : V} {d : Da} {z : Str} (h : Th K H v d) (q : Q (.bl (isStrOf d z)) H) : sp_is_string_of K ([v, .str z] ++ []) H Q E := ⟨v, d, z, rfl, h, q⟩
theorem ok_is_string_of (T : Txt K mg) : FnOk P w K mg base CX0 1 T.f_is_string_of.f T.f_is_string_of.fd ["thing", "signs"] (sp_is_string_of K) := by
  refine T.f_is_string_of.F.ok sc_is_string_of (fun vs H Q E h => ?_) (fun cdv A outer s H vs Q E hr h => ?_)
  · obtain ⟨v, d, z, rfl, _⟩ := h
    rfl
  · obtain ⟨v, d, z, rfl, hd, k⟩ := h
    refine ⟨_, (pss_cons (ps_if (pt_not (pt_val (pe_callB (call_isiU (K := K)) (by rfl) T.b_isinstance (by decide +kernel) (pa_cons (pv 0) (pa_cons (pe_bltn (v := .ty "str") rfl T.b_str (by decide +kernel) rfl) pa_nil))))) (pss_one (ps_ret pe_bl)) pss_nil)
  (pss_cons (ps_for PassesOwn.never rfl (pi_U (K := K) (pv 0)) (pg_name (i := 2) sc_is_string_of.nd rfl (by first | exact Or.inl rfl | exact Or.inr rfl))
  (pss_one (ps_if (pt_cmpR (op_notInU (K := K) (hu_of hr) hr.units) (pv 2) (pv 1) (by first | exact nomark _ | rfl)) (pss_one (ps_ret pe_bl)) pss_nil)))
  (pss_one (ps_ret pe_bl)))), ?_⟩
    try dsimp only [nox_K, tr_K, cxOf_K]
    refine y_start (σ' := some _ :: some _ :: none :: []) rfl ?_
    walk_at "y"
    cases hd <;> walk_at "y" <;> try exact k
    rename_i x
    refine y_forS (s := x) (fun i σ H' => ∃ o, σ = [some (.str x), some (.str z), o] ∧ H' = H ∧ (x.cps.toList.take i).all (fun c => decide (c ∈ z.cps.toList)) = true) ⟨_, rfl, rfl, rfl⟩ ?_ ?_
    · rintro i c σ H' hc ⟨o, rfl, rfl, ha⟩
      walk_at "y"
      have e : x.cps.toList.take (i + 1) = x.cps.toList.take i ++ [c] := by
        have hc' : x.cps.toList[i]? = some c := by simpa using hc
        rw [List.take_add_one, hc']
        rfl
      by_cases q : c ∈ z.cps.toList
      · rw [decide_eq_true q]
        walk_at "y"
        exact ⟨_, rfl, rfl, by rw [e, List.all_append, ha, List.all_cons, decide_eq_true q]; rfl⟩
      · rw [decide_eq_false q]
        walk_at "y"
        have f : isStrOf (.str x) z = false := by
          show x.cps.toList.all _ = false
          refine Bool.eq_false_iff.mpr fun t => q ?_
          have hm : c ∈ x.cps.toList := List.mem_of_getElem? (by simpa using hc)
          exact of_decide_eq_true (List.all_eq_true.mp t c hm)
        rw [f] at k
        exact k
    · rintro σ H' ⟨o, rfl, rfl, ha⟩
      walk_at "y"
      have f : isStrOf (.str x) z = true := by
        show x.cps.toList.all _ = true
        rw [List.take_of_length_le (by simp)] at ha
        exact ha
      rw [f] at k
      exact k

local macro_rules | `(tactic| walk_at "yc") => `(tactic| ((with_reducible refine use_is_string_of (d := ?d) ?h ?_); (case h => first | assumption | constructor)))

def SMALL : Str := "abcdefghijklmnopqrstuvwxyz"
/-- texts are not too long -/
def Fit : Da → Prop
  | .str s => s.length ≤ sizeLine
  | _ => True
def isWord (d : Da) : Bool := isStrOf d SMALL && match d with | .str s => decide (0 < s.length) | _ => false
def sp_is_word (K : PySem.W.Frag) : Sp := fun vs H Q _ => ∃ v d, vs = [v] ∧ Th K H v d ∧ Fit d ∧ Q (.bl (isWord d)) H
theorem use_is_word {H : Hp} {Q : VK} {E : XK} {v : V} {d : Da} (h : Th K H v d) (f : Fit d) (q : Q (.bl (isWord d)) H) : sp_is_word K ([v] ++ []) H Q E := ⟨v, d, rfl, h, f, q⟩
theorem ok_is_word (T : Txt K mg) : FnOk P w K mg base CX0 2 T.f_is_word.f T.f_is_word.fd ["thing"] (sp_is_word K) := by
  refine T.f_is_word.F.ok sc_is_word (fun vs H Q E h => ?_) (fun cdv A outer s H vs Q E hr h => ?_)
  · obtain ⟨v, d, rfl, _⟩ := h
    rfl
  · obtain ⟨v, d, rfl, hd, hf, k⟩ := h
    refine ⟨_, (pss_one (ps_ret (pe_and (pe_call (ok_is_string_of T) (hr.mono (by decide)) rfl T.f_is_string_of.mg T.f_is_string_of.kp T.f_is_string_of.bd .nil pass0 (pa_cons (pv 0) (pa_cons (pe_glob (v := V.str "abcdefghijklmnopqrstuvwxyz") rfl T.c_SMALL ⟨_, rfl⟩) pa_nil))) (pe_one (pe_cmpR op_gtU (pe_callB (call_lenU (K := K)) (by rfl) T.b_len (by decide +kernel) (pa_cons (pv 0) pa_nil)) pe_int (by first | exact nomark _ | rfl)))))), ?_⟩
    try dsimp only [nox_K, tr_K, cxOf_K]
    refine y_start (σ' := some _ :: []) rfl ?_
    walk_at "y"
    unfold isWord at k
    refine y_ite (fun e => ?_) (fun e => ?_)
    · change isStrOf d SMALL = true at e
      rw [e] at k
      cases hd <;> try (cases e; done)
      rename_i x
      have hf' : x.length ≤ sizeLine := hf
      walk_at "y"
      have z : decide ((0 : Int) < (x.length : Int)) = decide (0 < x.length) := by simp
      rw [z]
      exact k
    · change isStrOf d SMALL = false at e
      rw [e] at k
      exact k

local macro_rules | `(tactic| walk_at "yc") => `(tactic| ((with_reducible refine use_is_word (d := ?d) ?h ?f ?_); (case h => first | assumption | constructor); (case f => first | assumption | trivial)))

def isRows (d : Da) : Bool := isWord d && match d with | .str s => decide (s.length ≤ 4) && ascL s.cps.toList | _ => false
def sp_is_rows (K : PySem.W.Frag) : Sp := fun vs H Q _ => ∃ v d, vs = [v] ∧ Th K H v d ∧ Fit d ∧ Q (.bl (isRows d)) H
theorem use_is_rows {H : Hp} {Q : VK} {E : XK} {v : V} {d : Da} (h : Th K H v d) (f : Fit d) (q : Q (.bl (isRows d)) H) : sp_is_rows K ([v] ++ []) H Q E := ⟨v, d, rfl, h, f, q⟩
theorem ok_is_rows (T : Txt K mg) : FnOk P w K mg base CX0 3 T.f_is_rows.f T.f_is_rows.fd ["thing"] (sp_is_rows K) := by
  refine T.f_is_rows.F.ok sc_is_rows (fun vs H Q E h => ?_) (fun cdv A outer s H vs Q E hr h => ?_)
  · obtain ⟨v, d, rfl, _⟩ := h
    rfl
  · obtain ⟨v, d, rfl, hd, hf, k⟩ := h
    refine ⟨_, (pss_one (ps_ret (pe_and (pe_call (ok_is_word T) (hr.mono (by decide)) rfl T.f_is_word.mg T.f_is_word.kp T.f_is_word.bd .nil pass0 (pa_cons (pv 0) pa_nil)) (pe_and (pe_cmpR op_leU (pe_callB (call_lenU (K := K)) (by rfl) T.b_len (by decide +kernel) (pa_cons (pv 0) pa_nil)) (pe_glob (v := V.int 4) rfl T.c_MOST_ROWS ⟨_, rfl⟩) (by first | exact nomark _ | rfl)) (pe_one (pe_call (ok_is_ascending T) (hr.mono (by decide)) rfl T.f_is_ascending.mg T.f_is_ascending.kp T.f_is_ascending.bd .nil pass0 (pa_cons (pv 0) pa_nil))))))), ?_⟩
    try dsimp only [nox_K, tr_K, cxOf_K]
    refine y_start (σ' := some _ :: []) rfl ?_
    walk_at "y"
    unfold isRows at k
    refine y_ite (fun e => ?_) (fun e => ?_)
    · rw [e] at k
      cases hd <;> try (cases e; done)
      rename_i x
      have hf' : x.length ≤ sizeLine := hf
      change Q (.bl (decide (x.length ≤ 4) && ascL x.cps.toList)) H at k
      walk_at "y"
      by_cases c : x.length ≤ 4
      · have c' : (x.length : Int) ≤ 4 := by omega
        rw [decide_eq_true c] at k
        rw [decide_eq_true c']
        walk_at "y"
        exact k
      · have c' : ¬ (x.length : Int) ≤ 4 := by omega
        rw [decide_eq_false c] at k
        rw [decide_eq_false c']
        walk_at "y"
        exact k
    · rw [e] at k
      exact k

local macro_rules | `(tactic| walk_at "yc") => `(tactic| ((with_reducible refine use_is_rows (d := ?d) ?h ?f ?_); (case h => first | assumption | constructor); (case f => first | assumption | trivial)))

-- use law_hand
-- use is_rows
-- use stretches_of
def abcL : List Nat := (List.range 26).map (97 + ·)
theorem SMALL_is : SMALL = ofL abcL := by decide +kernel
theorem abcL_drop (r : Nat) (j : Nat) (h : r + j < 26) : (abcL.drop r)[j]? = some (97 + (r + j)) := by
  rw [List.getElem?_drop, abcL, List.getElem?_map, List.getElem?_range h]
  rfl
theorem abcL_mem {c : Nat} : c ∈ abcL ↔ 97 ≤ c ∧ c < 123 := by
  unfold abcL
  rw [List.mem_map]
  constructor
  · rintro ⟨a, h, rfl⟩
    have := List.mem_range.mp h
    omega
  · rintro ⟨h1, h2⟩
    exact ⟨c - 97, List.mem_range.mpr (by omega), by omega⟩
theorem ascL_snoc : ∀ (l : List Nat) (c : Nat), ascL l = true → (∀ x ∈ l, x < c) → ascL (l ++ [c]) = true
  | [], c, _, _ => rfl
  | [x], c, _, h => by simp [ascL, h x (by simp)]
  | x :: y :: r, c, h, hx => by
    simp only [ascL, Bool.and_eq_true] at h
    show (decide (x < y) && ascL (y :: r ++ [c])) = true
    rw [h.1, ascL_snoc (y :: r) c h.2 fun z hz => hx z (List.mem_cons_of_mem _ hz)]
    rfl
/-- rows so far: of the first r letters -/
structure RowsSo (l : List Nat) (r : Nat) : Prop where
  asc : ascL l = true
  mem : ∀ x ∈ l, 97 ≤ x ∧ x < 97 + r
theorem RowsSo.snoc {l : List Nat} {r j : Nat} (h : RowsSo l r) : RowsSo (l ++ [97 + (r + j)]) (r + j + 1) where
  asc := ascL_snoc l _ h.asc fun x hx => by have := h.mem x hx; omega
  mem := fun x hx => by
    rcases List.mem_append.mp hx with q | q
    · have := h.mem x q; omega
    · simp at q; omega
theorem RowsSo.ok {l : List Nat} {r : Nat} (h : RowsSo l r) (hr : r ≤ 26) (n1 : 1 ≤ l.length) (n4 : l.length ≤ 4) : isRows (.str (ofL l)) = true := by
  unfold isRows isWord
  have e : (ofL l).cps.toList = l := by simp [ofL]
  have a : isStrOf (.str (ofL l)) SMALL = true := by
    show (ofL l).cps.toList.all _ = true
    rw [e, SMALL_is, List.all_eq_true]
    intro x hx
    have : x ∈ (ofL abcL).cps.toList := by
      have e2 : (ofL abcL).cps.toList = abcL := by simp [ofL]
      rw [e2, abcL_mem]
      have := h.mem x hx
      omega
    exact decide_eq_true this
  rw [a]
  simp only [ofL_len, e, h.asc, Bool.true_and, Bool.and_true, Bool.and_eq_true, decide_eq_true_eq]
  omega
def sp_law_rows : Sp := fun vs H Q _ => ∃ a c m, vs = [.ref a, .int m] ∧ HandAt H a c ∧ 1 ≤ m ∧ m ≤ 4 ∧ ∀ s H', isRows (.str s) = true → (s.length : Int) ≤ m → HandAt H' a c → Ev [a] H H' → Q (.str s) H'
theorem ok_law_rows (T : Txt K mg) : FnOk P w K mg base CX0 2 T.f_law_rows.f T.f_law_rows.fd ["_law_hand_here", "_law_most"] sp_law_rows := by
  refine T.f_law_rows.F.ok sc_law_rows (fun vs H Q E h => ?_) (fun cdv A outer s H vs Q E hr h => ?_)
  · obtain ⟨a, c, m, rfl, _⟩ := h
    rfl
  · obtain ⟨a, c, m, rfl, hh, m1, m2, k⟩ := h
    refine ⟨_, (pss_cons (ps_set (i := 2) sc_law_rows.nd rfl (by first | exact Or.inl rfl | exact Or.inr rfl) (pe_op (op_addU (K := K)) pe_int (pe_call (ok_law_draw T) (hr.mono (by decide)) rfl T.f_law_draw.mg T.f_law_draw.kp T.f_law_draw.bd .nil pass0 (pa_cons (pv 0) (pa_cons (pv 1) pa_nil)))))
  (pss_cons (ps_set (i := 3) sc_law_rows.nd rfl (by first | exact Or.inl rfl | exact Or.inr rfl) pe_str)
  (pss_cons (ps_set (i := 4) sc_law_rows.nd rfl (by first | exact Or.inl rfl | exact Or.inr rfl) pe_str)
  (pss_cons (ps_for PassesOwn.never rfl (pi_range1 (by rfl) T.b_range (pa_cons (pv 2) pa_nil)) (pg_name (i := 5) sc_law_rows.nd rfl (by first | exact Or.inl rfl | exact Or.inr rfl))
  (pss_cons (ps_set (i := 6) sc_law_rows.nd rfl (by first | exact Or.inl rfl | exact Or.inr rfl) (pe_call (ok_law_draw T) (hr.mono (by decide)) rfl T.f_law_draw.mg T.f_law_draw.kp T.f_law_draw.bd .nil pass0 (pa_cons (pv 0) (pa_cons (pe_op op_sub (pe_callB (call_lenU (K := K)) (by rfl) T.b_len (by decide +kernel) (pa_cons (pv 4) pa_nil)) (pe_op op_sub (pe_op op_sub (pv 2) (pv 5)) pe_int)) pa_nil))))
  (pss_cons (ps_set (i := 3) sc_law_rows.nd rfl (by first | exact Or.inl rfl | exact Or.inr rfl) (pe_op (op_addU (K := K)) (pv 3) (pe_ix (ix_U (K := K) (hu_of hr)) (pv 4) (pv 6) (fun _ _ => rfl))))
  (pss_one (ps_set (i := 4) sc_law_rows.nd rfl (by first | exact Or.inl rfl | exact Or.inr rfl) (pe_slice (sl_U (K := K)) (pv 4) (po_some (pe_op (op_addU (K := K)) (pv 6) pe_int)) po_none))))))
  (pss_one (ps_ret (pv 3))))))), ?_⟩
    try dsimp only [nox_K, tr_K, cxOf_K]
    refine y_start (σ' := some _ :: some _ :: none :: none :: none :: none :: none :: []) rfl ?_
    have hs : (sizeLine : Nat) = 16777216 := sizeLine_eq
    walk_at "y"
    refine use_law_draw hh (by omega) (by omega) fun d H1 d0 d1 hh1 e1 => ?_
    walk_at "y"
    refine y_forR (by omega) (fun i σ H' => ∃ l r o o2, σ = [some (.ref a), some (.int m), some (.int (1 + d)), some (.str (ofL l)), some (.str (ofL (abcL.drop r))), o, o2] ∧ RowsSo l r ∧ l.length = i ∧ (r : Int) + (1 + d - i) ≤ 26 ∧ HandAt H' a c ∧ Ev [a] H H') ⟨[], 0, none, none, ?_, ⟨rfl, fun x h => nomatch h⟩, rfl, by omega, hh1, e1⟩ ?_ ?_
    · rw [show ("" : Str) = ofL [] from rfl, show ("abcdefghijklmnopqrstuvwxyz" : Str) = ofL (abcL.drop 0) from SMALL_is]
    · rintro i σ H' hi ⟨l, r, o, o2, rfl, rs, hl, hr, hh2, e2⟩
      have hlen : (ofL (abcL.drop r)).length = 26 - r := by rw [ofL_len, List.length_drop]; rfl
      walk_at "y"
      rw [hlen]
      refine use_law_draw hh2 (by omega) (by omega) fun at_ H2 t0 t1 hh3 e3 => ?_
      walk_at "y"
      obtain ⟨j, rfl⟩ : ∃ j : Nat, at_ = (j : Int) := ⟨at_.toNat, by omega⟩
      refine y_ixS (by omega) (atI_nat (show (ofL (abcL.drop r)).cps.toList[j]? = some (97 + (r + j)) by
        have e2 : (ofL (abcL.drop r)).cps.toList = abcL.drop r := by simp [ofL]
        rw [e2]; exact abcL_drop r j (by omega))) ?_
      walk_at "y"
      refine y_addS (by rw [ofL_len]; show l.length + 1 ≤ _; omega) ?_
      walk_at "y"
      refine ⟨l ++ [97 + (r + j)], r + j + 1, some (.int i), some (.int j), ?_, rs.snoc, by simp [hl], by omega, hh3, e2.trans e3⟩
      rw [cut_from _ _ (by omega)]
      have e3 : (ofL (abcL.drop r)).cps.toList = abcL.drop r := by simp [ofL]
      rw [e3, List.drop_drop, show r + ((j : Int) + 1).toNat = r + j + 1 by omega]
      rw [show (⟨#[97 + (r + j)]⟩ : Str) = ofL [97 + (r + j)] from rfl, ofL_app]
    · rintro σ H' ⟨l, r, o, o2, rfl, rs, hl, hr, hh2, e2⟩
      walk_at "y"
      refine k _ _ (rs.ok (by omega) (by omega) (by omega)) (by rw [ofL_len]; omega) hh2 e2

def isInt : Da → Bool
  | .int _ => true
  | _ => false
/-- v's datum is d: an int that is no bool -/
def sp_is_integer (K : PySem.W.Frag) : Sp := fun vs H Q _ => ∃ v d, vs = [v] ∧ Th K H v d ∧ Q (.bl (isInt d)) H
theorem use_is_integer {H : Hp} {Q : VK} {E : XK} {v : V} {d : Da} (h : Th K H v d) (q : Q (.bl (isInt d)) H) : sp_is_integer K ([v] ++ []) H Q E := ⟨v, d, rfl, h, q⟩
theorem ok_is_integer (T : Txt K mg) : FnOk P w K mg base CX0 1 T.f_is_integer.f T.f_is_integer.fd ["thing"] (sp_is_integer K) := by
  refine T.f_is_integer.F.ok sc_is_integer (fun vs H Q E h => ?_) (fun cdv A outer s H vs Q E hr h => ?_)
  · obtain ⟨v, d, rfl, _⟩ := h
    rfl
  · obtain ⟨v, d, rfl, hd, k⟩ := h
    refine ⟨_, (pss_one (ps_ret (pe_and (pe_callB (call_isiU (K := K)) (by rfl) T.b_isinstance (by decide +kernel) (pa_cons (pv 0) (pa_cons (pe_bltn (v := .ty "int") rfl T.b_int (by decide +kernel) rfl) pa_nil))) (pe_one (pe_not (pe_callB (call_isiU (K := K)) (by rfl) T.b_isinstance (by decide +kernel) (pa_cons (pv 0) (pa_cons (pe_bltn (v := .ty "bool") rfl T.b_bool (by decide +kernel) rfl) pa_nil)))))))), ?_⟩
    try dsimp only [nox_K, tr_K, cxOf_K]
    refine y_start (σ' := some _ :: []) rfl ?_
    walk_at "y"
    cases d <;> walk_at "y" <;> exact k

local macro_rules | `(tactic| walk_at "yc") => `(tactic| ((with_reducible refine use_is_integer (d := ?d) ?h ?_); (case h => first | assumption | constructor)))

def isWithin : Da → Int → Int → Bool
  | .int i, lo, hi => decide (lo ≤ i) && decide (i ≤ hi)
  | _, _, _ => false
def sp_is_within (K : PySem.W.Frag) : Sp := fun vs H Q _ => ∃ v d lo hi, vs = [v, .int lo, .int hi] ∧ Th K H v d ∧ Q (.bl (isWithin d lo hi)) H
theorem use_is_within {H : Hp} {Q : VK} {E : XK} {v : V} {d : Da} {lo hi : Int} (h : Th K H v d) (q : Q (.bl (isWithin d lo hi)) H) : sp_is_within K ([v, .int lo, .int hi] ++ []) H Q E := ⟨v, d, lo, hi, rfl, h, q⟩
theorem ok_is_within (T : Txt K mg) : FnOk P w K mg base CX0 2 T.f_is_within.f T.f_is_within.fd ["thing", "least", "most"] (sp_is_within K) := by
  refine T.f_is_within.F.ok sc_is_within (fun vs H Q E h => ?_) (fun cdv A outer s H vs Q E hr h => ?_)
  · obtain ⟨v, d, lo, hi, rfl, _⟩ := h
    rfl
  · obtain ⟨v, d, lo, hi, rfl, hd, k⟩ := h
    refine ⟨_, (pss_one (ps_ret (pe_and (pe_call (ok_is_integer T) (hr.mono (by decide)) rfl T.f_is_integer.mg T.f_is_integer.kp T.f_is_integer.bd .nil pass0 (pa_cons (pv 0) pa_nil)) (pe_one (pe_chain op_leU op_leU (pv 1) (pv 0) (pv 2)))))), ?_⟩
    try dsimp only [nox_K, tr_K, cxOf_K]
    refine y_start (σ' := some _ :: some _ :: some _ :: []) rfl ?_
    walk_at "y"
    cases hd <;> walk_at "y" <;> try exact k
    rename_i i
    change Q (.bl (decide (lo ≤ i) && decide (i ≤ hi))) H at k
    by_cases c : lo ≤ i
    · rw [decide_eq_true c] at k ⊢
      walk_at "y"
      exact k
    · rw [decide_eq_false c] at k ⊢
      walk_at "y"
      exact k

local macro_rules | `(tactic| walk_at "yc") => `(tactic| ((with_reducible refine use_is_within (d := ?d) ?h ?_); (case h => first | assumption | constructor)))

def sp_is_width (K : PySem.W.Frag) : Sp := fun vs H Q _ => ∃ v d, vs = [v] ∧ Th K H v d ∧ Q (.bl (isWithin d 1 3)) H
theorem use_is_width {H : Hp} {Q : VK} {E : XK} {v : V} {d : Da} (h : Th K H v d) (q : Q (.bl (isWithin d 1 3)) H) : sp_is_width K ([v] ++ []) H Q E := ⟨v, d, rfl, h, q⟩
theorem ok_is_width (T : Txt K mg) : FnOk P w K mg base CX0 3 T.f_is_width.f T.f_is_width.fd ["thing"] (sp_is_width K) := by
  refine T.f_is_width.F.ok sc_is_width (fun vs H Q E h => ?_) (fun cdv A outer s H vs Q E hr h => ?_)
  · obtain ⟨v, d, rfl, _⟩ := h
    rfl
  · obtain ⟨v, d, rfl, hd, k⟩ := h
    refine ⟨_, (pss_one (ps_ret (pe_call (ok_is_within T) (hr.mono (by decide)) rfl T.f_is_within.mg T.f_is_within.kp T.f_is_within.bd .nil pass0 (pa_cons (pv 0) (pa_cons pe_int (pa_cons (pe_glob (v := V.int 3) rfl T.c_MOST_WIDTH ⟨_, rfl⟩) pa_nil)))))), ?_⟩
    try dsimp only [nox_K, tr_K, cxOf_K]
    refine y_start (σ' := some _ :: []) rfl ?_
    walk_at "y"
    exact k

local macro_rules | `(tactic| walk_at "yc") => `(tactic| ((with_reducible refine use_is_width (d := ?d) ?h ?_); (case h => first | assumption | constructor)))

/-- NoWidth, or nothing -/
def sp_check_width (K : PySem.W.Frag) (C : Addr) : Sp := fun vs H Q E => ∃ v d, vs = [v] ∧ Th K H v d ∧ (isWithin d 1 3 = true → Q .non H) ∧ (isWithin d 1 3 = false → E (.ref C) none H)
theorem use_check_width {C : Addr} {H : Hp} {Q : VK} {E : XK} {v : V} {d : Da} (h : Th K H v d) (q : isWithin d 1 3 = true → Q .non H) (e : isWithin d 1 3 = false → E (.ref C) none H) : sp_check_width K C ([v] ++ []) H Q E := ⟨v, d, rfl, h, q, e⟩
theorem ok_check_width (T : Txt K mg) : FnOk P w K mg base (L2.CX P w) 4 T.f_check_width.f T.f_check_width.fd ["thing"] (sp_check_width K T.x_NoWidth.C) := by
  refine T.f_check_width.F.okX sc_check_width (fun vs H Q E h => ?_) (fun cdv A outer s H vs Q E hr h => ?_)
  · obtain ⟨v, d, rfl, _⟩ := h
    rfl
  · obtain ⟨v, d, rfl, hd, k1, k2⟩ := h
    refine ⟨_, (pss_one (ps_if (pt_not (pt_val (pe_call (ok_is_width T) (hr.mono (by decide)) rfl T.f_is_width.mg T.f_is_width.kp T.f_is_width.bd .nil pass0 (pa_cons (pv 0) pa_nil)))) (pss_one (ps_raise rfl (takes_of rfl rfl rfl rfl) (pmk_own0 T.x_NoWidth rfl))) pss_nil)), ?_⟩
    try dsimp only [nox_K, tr_K, cxOf_K]
    refine y_start (σ' := some _ :: []) rfl ?_
    walk_at "y"
    cases e : isWithin d 1 3 with
    | true =>
      walk_at "y"
      exact k1 e
    | false =>
      walk_at "y"
      exact k2 e

-- use is_word
def sp_is_any_code (K : PySem.W.Frag) : Sp := fun vs H Q _ => ∃ v d, vs = [v] ∧ Th K H v d ∧ Q (.bl (isStrOf d SMALL)) H
theorem use_is_any_code {H : Hp} {Q : VK} {E : XK} {v : V} {d : Da} (h : Th K H v d) (q : Q (.bl (isStrOf d SMALL)) H) : sp_is_any_code K ([v] ++ []) H Q E := ⟨v, d, rfl, h, q⟩
theorem ok_is_any_code (T : Txt K mg) : FnOk P w K mg base CX0 2 T.f_is_any_code.f T.f_is_any_code.fd ["thing"] (sp_is_any_code K) := by
  refine T.f_is_any_code.F.ok sc_is_any_code (fun vs H Q E h => ?_) (fun cdv A outer s H vs Q E hr h => ?_)
  · obtain ⟨v, d, rfl, _⟩ := h
    rfl
  · obtain ⟨v, d, rfl, hd, k⟩ := h
    refine ⟨_, (pss_one (ps_ret (pe_call (ok_is_string_of T) (hr.mono (by decide)) rfl T.f_is_string_of.mg T.f_is_string_of.kp T.f_is_string_of.bd .nil pass0 (pa_cons (pv 0) (pa_cons (pe_glob (v := V.str "abcdefghijklmnopqrstuvwxyz") rfl T.c_SMALL ⟨_, rfl⟩) pa_nil))))), ?_⟩
    try dsimp only [nox_K, tr_K, cxOf_K]
    refine y_start (σ' := some _ :: []) rfl ?_
    walk_at "y"
    exact k

local macro_rules | `(tactic| walk_at "yc") => `(tactic| ((with_reducible refine use_is_any_code (d := ?d) ?h ?_); (case h => first | assumption | constructor)))

/-- a width -/
theorem isWithin_int {d : Da} {lo hi : Int} (h : isWithin d lo hi = true) : ∃ i, d = .int i ∧ lo ≤ i ∧ i ≤ hi := by
  cases d <;> simp [isWithin] at h
  exact ⟨_, rfl, h.1, h.2⟩
def sp_stretches (K : PySem.W.Frag) (cN cW : Addr) : Sp := fun vs H Q E => ∃ v d u e, vs = [v, u] ∧ Th K H v d ∧ Th K H u e ∧ Fit d ∧ (∀ s, d = .str s → s.length + 1 ≤ sizeLine) ∧ (isStrOf d SMALL = false → E (.ref cN) none H) ∧ (isStrOf d SMALL = true → isWithin e 1 3 = false → E (.ref cW) none H) ∧
  ∀ (s : Str) (w : Nat), d = .str s → e = .int w → isStrOf d SMALL = true → isWithin e 1 3 = true → ∀ p H', H p = none → H' p = some (.lst (txts (dueL s.cps.toList w))) → Ev [] H H' → Q (.ref p) H'
theorem ok_stretches (T : Txt K mg) : FnOk P w K mg base (L2.CX P w) 5 T.f_stretches.f T.f_stretches.fd ["code", "width"] (sp_stretches K T.x_NoCode.C T.x_NoWidth.C) := by
  refine T.f_stretches.F.okX sc_stretches (fun vs H Q E h => ?_) (fun cdv A outer s H vs Q E hr h => ?_)
  · obtain ⟨v, d, u, e, rfl, _⟩ := h
    rfl
  · obtain ⟨v, d, u, e, rfl, hd, he, hf, hz, k1, k2, k3⟩ := h
    refine ⟨_, (pss_cons (ps_if (pt_not (pt_val (pe_call (ok_is_any_code T) (hr.mono (by decide)) rfl T.f_is_any_code.mg T.f_is_any_code.kp T.f_is_any_code.bd .nil pass0 (pa_cons (pv 0) pa_nil)))) (pss_one (ps_raise rfl (takes_of rfl rfl rfl rfl) (pmk_own0 T.x_NoCode rfl))) pss_nil)
  (pss_cons (ps_expr (pe_call (ok_check_width T) (hr.mono (by decide)) rfl T.f_check_width.mg T.f_check_width.kp T.f_check_width.bd .nil (passes_call (takes_of rfl rfl rfl rfl) (fun _ _ _ _ q => q)) (pa_cons (pv 1) pa_nil)))
  (pss_one (ps_ret (pe_call (ok_stretches_of T) (hr.mono (by decide)) rfl T.f_stretches_of.mg T.f_stretches_of.kp T.f_stretches_of.bd .nil pass0 (pa_cons (pv 0) (pa_cons (pv 1) pa_nil))))))), ?_⟩
    try dsimp only [nox_K, tr_K, cxOf_K]
    refine y_start (σ' := some _ :: some _ :: []) rfl ?_
    walk_at "y"
    cases c : isStrOf d SMALL with
    | false =>
      walk_at "y"
      exact k1 c
    | true =>
      walk_at "y"
      refine use_check_width he (fun ew => ?_) (fun ew => k2 c ew)
      obtain ⟨i, rfl, i1, i3⟩ := isWithin_int ew
      cases he
      cases hd <;> try (cases c; done)
      rename_i s
      walk_at "y"
      have ei : i = (i.toNat : Int) := by omega
      rw [ei] at k3
      refine ⟨s, i.toNat, by rw [← ei]; rfl, by omega, by omega, hz s rfl, fun p H' np hp e1 => k3 s i.toNat rfl rfl c (by rw [← ei]; exact ew) p H' np hp e1⟩

-- use stretches
theorem isRows_str {d : Da} (h : isRows d = true) : ∃ s, d = .str s ∧ s.length ≤ 4 := by
  unfold isRows at h
  cases d <;> simp at h
  exact ⟨_, rfl, h.2.1⟩
def sp_all_stretches (K : PySem.W.Frag) (cN cW : Addr) : Sp := fun vs H Q E => ∃ v d u e, vs = [v, u] ∧ Th K H v d ∧ Th K H u e ∧ Fit d ∧ (isRows d = false → E (.ref cN) none H) ∧ (isRows d = true → isWithin e 1 3 = false → E (.ref cW) none H) ∧
  ∀ (s : Str) (w : Nat), d = .str s → e = .int w → isRows d = true → isWithin e 1 3 = true → ∀ p H' ys, H p = none → H' p = some (.lst (ys.map V.str)) → NamesOk s.cps.toList w ys → Ev [] H H' → Q (.ref p) H'
theorem ok_all_stretches (T : Txt K mg) : FnOk P w K mg base (L2.CX P w) 5 T.f_all_stretches.f T.f_all_stretches.fd ["rows", "width"] (sp_all_stretches K T.x_NoRows.C T.x_NoWidth.C) := by
  refine T.f_all_stretches.F.okX sc_all_stretches (fun vs H Q E h => ?_) (fun cdv A outer s H vs Q E hr h => ?_)
  · obtain ⟨v, d, u, e, rfl, _⟩ := h
    rfl
  · obtain ⟨v, d, u, e, rfl, hd, he, hf, k1, k2, k3⟩ := h
    refine ⟨_, (pss_cons (ps_if (pt_not (pt_val (pe_call (ok_is_rows T) (hr.mono (by decide)) rfl T.f_is_rows.mg T.f_is_rows.kp T.f_is_rows.bd .nil pass0 (pa_cons (pv 0) pa_nil)))) (pss_one (ps_raise rfl (takes_of rfl rfl rfl rfl) (pmk_own0 T.x_NoRows rfl))) pss_nil)
  (pss_cons (ps_expr (pe_call (ok_check_width T) (hr.mono (by decide)) rfl T.f_check_width.mg T.f_check_width.kp T.f_check_width.bd .nil (passes_call (takes_of rfl rfl rfl rfl) (fun _ _ _ _ q => q)) (pa_cons (pv 1) pa_nil)))
  (pss_one (ps_ret (pe_call (ok_stretch_names T) (hr.mono (by decide)) rfl T.f_stretch_names.mg T.f_stretch_names.kp T.f_stretch_names.bd .nil pass0 (pa_cons (pv 0) (pa_cons (pv 1) pa_nil))))))), ?_⟩
    try dsimp only [nox_K, tr_K, cxOf_K]
    refine y_start (σ' := some _ :: some _ :: []) rfl ?_
    walk_at "y"
    cases c : isRows d with
    | false =>
      walk_at "y"
      exact k1 c
    | true =>
      walk_at "y"
      refine use_check_width he (fun ew => ?_) (fun ew => k2 c ew)
      obtain ⟨i, rfl, i1, i3⟩ := isWithin_int ew
      cases he
      obtain ⟨s, rfl, hs⟩ := isRows_str c
      cases hd
      walk_at "y"
      have ei : i = (i.toNat : Int) := by omega
      rw [ei] at k3
      refine ⟨s, i.toNat, by rw [← ei]; rfl, hs, by omega, by omega, fun p H' ys np hp nm e1 => k3 s i.toNat rfl rfl c (by rw [← ei]; exact ew) p H' ys np hp nm e1⟩

def wordOf (ask : Int) (d e : Da) : Str :=
  if ask = 0 then (if isStrOf d SMALL = true then (if isWithin e 1 3 = true then "told" else "width") else "code")
  else (if isRows d = true then (if isWithin e 1 3 = true then "told" else "width") else "rows")
def sp_law_word (K : PySem.W.Frag) : Sp := fun vs H Q _ => ∃ ask v d u e, vs = [.int ask, v, u] ∧ Th K H v d ∧ Th K H u e ∧ Fit d ∧ (∀ s, d = .str s → s.length + 1 ≤ sizeLine) ∧ ∀ H', Ev [] H H' → Q (.str (wordOf ask d e)) H'
theorem ok_law_word (T : Txt K mg) : FnOk P w K mg base CX0 6 T.f_law_word.f T.f_law_word.fd ["_law_ask", "_law_first", "_law_width"] (sp_law_word K) := by
  refine T.f_law_word.F.ok sc_law_word (fun vs H Q E h => ?_) (fun cdv A outer s H vs Q E hr h => ?_)
  · obtain ⟨ask, v, d, u, e, rfl, _⟩ := h
    rfl
  · obtain ⟨ask, v, d, u, e, rfl, hd, he, hf, hz, k⟩ := h
    refine ⟨_, (pss_cons (ps_set (i := 3) sc_law_word.nd rfl (by first | exact Or.inl rfl | exact Or.inr rfl) pe_str)
  (pss_cons (ps_try_many rfl rfl takes_none5 (fun W pn xe tk _ => (pss_one (ps_if (pt_cmpR (op_eqU (K := K) (hu_of hr) hr.units) (pv 0) pe_int (by first | exact nomark _ | rfl)) (pss_one (ps_expr (pe_callS (ok_stretches T) (hr.mono (by decide)) rfl T.f_stretches.mg T.f_stretches.kp T.f_stretches.bd (fun σ => passAt tk σ) (pa_cons (pv 1) (pa_cons (pv 2) pa_nil))))) (pss_one (ps_expr (pe_callS (ok_all_stretches T) (hr.mono (by decide)) rfl T.f_all_stretches.mg T.f_all_stretches.kp T.f_all_stretches.bd (fun σ => passAt tk σ) (pa_cons (pv 1) (pa_cons (pv 2) pa_nil))))))))
 (HdsOk.cons ⟨rfl, by decide, .inl T.x_NoCode.gC⟩ (fun a oe cls d pn hz hf => (pss_one (ps_set (i := 3) sc_law_word.nd rfl (by first | exact Or.inl rfl | exact Or.inr rfl) pe_str))) (HdsOk.cons ⟨rfl, by decide, .inl T.x_NoRows.gC⟩ (fun a oe cls d pn hz hf => (pss_one (ps_set (i := 3) sc_law_word.nd rfl (by first | exact Or.inl rfl | exact Or.inr rfl) pe_str))) (HdsOk.cons ⟨rfl, by decide, .inl T.x_NoWidth.gC⟩ (fun a oe cls d pn hz hf => (pss_one (ps_set (i := 3) sc_law_word.nd rfl (by first | exact Or.inl rfl | exact Or.inr rfl) pe_str))) (HdsOk.cons ⟨rfl, by decide, .inl T.x_StretchError.gC⟩ (fun a oe cls d pn hz hf => (pss_one (ps_set (i := 3) sc_law_word.nd rfl (by first | exact Or.inl rfl | exact Or.inr rfl) pe_str))) HdsOk.nil)))))
  (pss_one (ps_ret (pv 3))))), ?_⟩
    try dsimp only [nox_K, tr_K, cxOf_K]
    refine y_start (σ' := some _ :: some _ :: some _ :: none :: []) rfl ?_
    walk_at "y"
    refine y_ite (fun ea => ?_) (fun ea => ?_)
    · have ea : ask = 0 := of_decide_eq_true ea
      unfold wordOf at k
      rw [if_pos ea] at k
      walk_at "y"
      refine ⟨v, d, u, e, rfl, hd, he, hf, hz, fun c => ?_, fun c c2 => ?_, fun s w ed ew c c2 p H' np hp e1 => ?_⟩
      · rw [if_neg (by rw [c]; decide)] at k
        walk_at "yx"
        walk_at "y"
        exact k _ Ev.refl
      · rw [if_pos c, if_neg (by rw [c2]; decide)] at k
        walk_at "yx"
        walk_at "y"
        exact k _ Ev.refl
      · rw [if_pos c, if_pos c2] at k
        walk_at "y"
        exact k _ e1
    · have ea : ¬ ask = 0 := of_decide_eq_false ea
      unfold wordOf at k
      rw [if_neg ea] at k
      walk_at "y"
      refine ⟨v, d, u, e, rfl, hd, he, hf, fun c => ?_, fun c c2 => ?_, fun s w ed ew c c2 p H' ys np hp nm e1 => ?_⟩
      · rw [if_neg (by rw [c]; decide)] at k
        walk_at "yx"
        walk_at "y"
        exact k _ Ev.refl
      · rw [if_pos c, if_neg (by rw [c2]; decide)] at k
        walk_at "yx"
        walk_at "y"
        exact k _ Ev.refl
      · rw [if_pos c, if_pos c2] at k
        walk_at "y"
        exact k _ e1

theorem join_signs (ls : List Nat) : Txt.join "" (ls.map fun c => ofL [c]) = ofL ls := by
  have h : ∀ ls : List Nat, TL.joinL [] (ls.map fun c => [c]) = ls := by
    intro ls
    induction ls with
    | nil => rfl
    | cons c r ih =>
      cases r with
      | nil => rfl
      | cons d r =>
        show [c] ++ ([] ++ TL.joinL [] ((d :: r).map fun c => [c])) = _
        rw [ih]; rfl
  have e := TL.tl_join "" (ls.map fun c => ofL [c])
  have e2 : (ls.map fun c => ofL [c]).map TL.tl = ls.map fun c => [c] := by rw [List.map_map]; exact List.map_congr_left fun c _ => rfl
  rw [e2, show TL.tl "" = [] from rfl, h] at e
  rw [TL.join_eq]
  exact (ofL_cps _).symm.trans (congrArg ofL e)
theorem upper_sign : ∀ c ∈ abcL, Txt.upper (ofL [c]) = ofL [c - 32] := by decide +kernel
theorem isStrOf_L (l : List Nat) : isStrOf (.str (ofL l)) SMALL = true ↔ ∀ x ∈ l, x ∈ abcL := by
  have e : (ofL l).cps.toList = l := by simp [ofL]
  have e2 : SMALL.cps.toList = abcL := by rw [SMALL_is]; simp [ofL]
  show (ofL l).cps.toList.all _ = true ↔ _
  rw [e, List.all_eq_true, e2]
  simp
theorem upper_odd {s : Str} (h : isRows (.str s) = true) : isRows (.str (Txt.upper s)) = false := by
  have hw : isStrOf (.str s) SMALL = true ∧ 0 < s.length := by
    unfold isRows isWord at h
    simp only [Bool.and_eq_true, decide_eq_true_eq] at h
    exact ⟨h.1.1, h.1.2⟩
  rw [← ofL_cps s] at hw ⊢
  cases e : s.cps.toList with
  | nil => rw [e, ofL_len] at hw; exact absurd hw.2 (by simp)
  | cons c r =>
    rw [e] at hw
    have hc := (isStrOf_L _).mp hw.1 c List.mem_cons_self
    have e2 : Txt.upper (ofL (c :: r)) = ofL [c - 32] ++ Txt.upper (ofL r) := by
      rw [show ofL (c :: r) = ofL [c] ++ ofL r from (ofL_app [c] r).symm, PySem.W.KOpn.upper_app, upper_sign c hc]
    have e3 : Txt.upper (ofL (c :: r)) = ofL ((c - 32) :: (Txt.upper (ofL r)).cps.toList) := by
      rw [e2]
      conv => lhs; rw [← ofL_cps (Txt.upper (ofL r))]
      rw [ofL_app]; rfl
    rw [e3]
    unfold isRows isWord
    have : isStrOf (.str (ofL ((c - 32) :: (Txt.upper (ofL r)).cps.toList))) SMALL = false := by
      rw [Bool.eq_false_iff]
      intro q
      have q1 := abcL_mem.mp ((isStrOf_L _).mp q (c - 32) List.mem_cons_self)
      have q2 := abcL_mem.mp hc
      omega
    rw [this]
    rfl
theorem ascL_nodup : ∀ l : List Nat, ascL l = true → l.Pairwise (· < ·)
  | [], _ => .nil
  | [x], _ => by simp
  | x :: y :: r, h => by
    simp only [ascL, Bool.and_eq_true, decide_eq_true_eq] at h
    have q := ascL_nodup (y :: r) h.2
    refine List.pairwise_cons.mpr ⟨fun z hz => ?_, q⟩
    rcases List.mem_cons.mp hz with e | e
    · subst e; exact h.1
    · exact Nat.lt_trans h.1 ((List.pairwise_cons.mp q).1 z e)
theorem rows_parts {s : Str} (h : isRows (.str s) = true) : isStrOf (.str s) SMALL = true ∧ 0 < s.length ∧ s.length ≤ 4 ∧ ascL s.cps.toList = true := by
  unfold isRows isWord at h
  simp only [Bool.and_eq_true, decide_eq_true_eq] at h
  exact ⟨h.1.1, h.1.2, h.2.1, h.2.2⟩
theorem rows_good {s : Str} (h : isRows (.str s) = true) : RowsGood s := by
  obtain ⟨h1, h2, h3, h4⟩ := rows_parts h
  refine ⟨h3, (ascL_nodup _ h4).imp fun h => Nat.ne_of_lt h, fun q => ?_⟩
  rw [← ofL_cps s] at h1
  have := abcL_mem.mp ((isStrOf_L _).mp h1 94 q)
  omega
theorem twice_odd {s : Str} (h : isRows (.str s) = true) : isRows (.str (s ++ s)) = false := by
  obtain ⟨h1, h2, h3, h4⟩ := rows_parts h
  rw [← ofL_cps s, ofL_app]
  unfold isRows
  have e : (ofL (s.cps.toList ++ s.cps.toList)).cps.toList = s.cps.toList ++ s.cps.toList := by simp [ofL]
  have : ascL (s.cps.toList ++ s.cps.toList) = false := by
    rw [Bool.eq_false_iff]
    intro q
    have q := ascL_nodup _ q
    cases e2 : s.cps.toList with
    | nil => have : s.cps.toList.length = s.length := by simp [Str.length]
             rw [e2] at this
             simp at this
             omega
    | cons c r =>
      rw [e2] at q
      have := (List.pairwise_append.mp q).2.2 c List.mem_cons_self c List.mem_cons_self
      omega
  simp only [e, this, Bool.and_false]
theorem strOk_L {l : List Nat} (h : ∀ x ∈ l, x < 0x110000) : PyData.strOk (ofL l) = true := by
  show (l.toArray.all (· < 0x110000)) = true
  rw [List.all_toArray, List.all_eq_true]
  intro x hx
  exact decide_eq_true (h x hx)
theorem due_ok {l : List Nat} (h : ∀ x ∈ l, x < 0x110000) (w : Nat) : ∀ y ∈ (dueL l w).map ofL, PyData.strOk y = true := by
  intro y hy
  obtain ⟨d, hd, rfl⟩ := List.mem_map.mp hy
  obtain ⟨k, _, rfl⟩ := List.mem_map.mp hd
  refine strOk_L fun x hx => ?_
  unfold stAt at hx
  split at hx
  · rcases List.mem_cons.mp hx with e | e
    · omega
    · exact h x (List.mem_of_mem_take e)
  · exact h x (List.mem_of_mem_drop (List.mem_of_mem_take hx))
theorem names_ok {rows : List Nat} (h : ∀ x ∈ rows, x < 0x110000) {w : Nat} {ys : List Str} (hy : NamesOk rows w ys) : ∀ y ∈ ys, PyData.strOk y = true := by
  intro y hy2
  obtain ⟨l, hl, rfl⟩ := List.mem_map.mp (hy.1.mem_iff.mp hy2)
  refine strOk_L fun x hx => ?_
  unfold namesL at hl
  rcases List.mem_append.mp hl with q | q
  · exact h x (((codesL_mem _ _ _).mp q).2 x hx)
  · obtain ⟨k, _, q⟩ := List.mem_flatMap.mp q
    obtain ⟨d, hd, rfl⟩ := List.mem_map.mp q
    rcases List.mem_cons.mp hx with e | e
    · omega
    · exact h x (((codesL_mem _ _ _).mp hd).2 x e)
def widthL : List Da := [.int 0, .int 4, .int (-1), .non, .bl true, .bl false, .str "1", .tup [.int 1], .int 100000000000000000000]
def badL : List Da := [.non, .int 5, .bl true, .str "A", .str "a b", .str "^", .str "a^", .lst, .tup [.str "a"]] ++ (oddL ++ [])
theorem width_out : ∀ d ∈ widthL, isWithin d 1 3 = false := by decide +kernel
theorem bad_out : ∀ d ∈ badL, isStrOf d SMALL = false := by decide +kernel
theorem bad_small : ∀ d ∈ badL, (match d with | .str s => decide (s.length ≤ 16) | _ => true) = true := by decide +kernel
theorem wrong_out : ∀ d ∈ [Da.str "", .str "ba", .str "aa", .str "abcde"], isRows d = false := by decide +kernel
theorem fit_small {d : Da} (h : (match d with | .str s => decide (s.length ≤ 16) | _ => true) = true) : Fit d ∧ ∀ s, d = .str s → s.length + 1 ≤ sizeLine := by
  have hs : (sizeLine : Nat) = 16777216 := sizeLine_eq
  cases d <;> first | exact ⟨trivial, fun s e => nomatch e⟩ | skip
  rename_i s
  have h : s.length ≤ 16 := of_decide_eq_true h
  refine ⟨?_, fun z e => ?_⟩
  · show s.length ≤ sizeLine
    omega
  · cases e
    omega
theorem lit_twice {H0 : Hp} {a c : Addr} {σ : L2.St} {i j : Nat} {s z : Str} (h1 : σ[i]? = some (some (.str s))) (h2 : σ[j]? = some (some (.str z))) (hl : s.length + z.length ≤ sizeLine) : LitX K a c σ H0 (tOp (rAddU K) (tVar i) (tVar j)) [.str (s ++ z)] :=
  fun H Q hh e k => ⟨_, h1, _, h2, y_addS hl (k _ _ H (List.mem_singleton_self _) (.str _) hh Ev.refl)⟩
theorem lit_upper {H0 : Hp} {a c : Addr} {σ : L2.St} {i : Nat} {s : Str} (h1 : σ[i]? = some (some (.str s))) (hl : s.length ≤ 5592405) : LitX K a c σ H0 (tBM0 K "str" rUpperU (tVar i)) [.str (Txt.upper s)] :=
  fun H Q hh e k => ⟨_, h1, rfl, s, rfl, rfl, hl, k _ _ H (List.mem_singleton_self _) (.str _) hh Ev.refl⟩
def sp_law (K : PySem.W.Frag) : Sp := fun vs H Q _ => ∃ (b : Addr) (ns : List Int), vs = [.ref b] ∧ SqL K H b (ns.map V.int) ∧ (∀ Hn, Ev [] H Hn → SqL K Hn b (ns.map V.int)) ∧ ns.length ≤ 63 ∧ ∀ H', Q (.bl true) H'
theorem sp_law_in {K : PySem.W.Frag} {H : Hp} {a : Addr} {ns : List Int} (hl : ns.length ≤ 63) (hO : Only H) (hS : SqL K H a (ns.map V.int)) : sp_law K [.ref a] H (fun v _ => v = .bl true) (fun _ _ _ => False) := by
  refine ⟨a, ns, rfl, hS, fun Hn e => ?_, hl, fun _ => rfl⟩
  exact e.sqL hS (by simp)
theorem ok_law (T : Txt K mg) : FnOk P w K mg base CX0 7 T.f_law.f T.f_law.fd ["_law_script"] (sp_law K) := by
  refine T.f_law.F.ok sc_law (fun vs H Q E h => ?_) (fun cdv A outer s H vs Q E hr h => ?_)
  · obtain ⟨b, ns, rfl, _⟩ := h
    rfl
  · obtain ⟨b, ns, rfl, hb, hb2, hl, k⟩ := h
    refine ⟨_, (pss_cons (ps_set (i := 1) sc_law.nd rfl (by first | exact Or.inl rfl | exact Or.inr rfl) (pe_call (ok_law_hand T) (hr.mono (by decide)) rfl T.f_law_hand.mg T.f_law_hand.kp T.f_law_hand.bd .nil pass0 (pa_cons (pv 0) pa_nil)))
  (pss_cons (ps_set (i := 2) sc_law.nd rfl (by first | exact Or.inl rfl | exact Or.inr rfl) pe_str)
  (pss_cons (ps_for PassesOwn.never rfl (pi_range1 (by rfl) T.b_range (pa_cons pe_int pa_nil)) (pg_name (i := 3) sc_law.nd rfl (by first | exact Or.inl rfl | exact Or.inr rfl))
  (pss_cons (ps_set (i := 4) sc_law.nd rfl (by first | exact Or.inl rfl | exact Or.inr rfl) (pe_op (op_addU (K := K)) pe_int (pe_call (ok_law_draw T) (hr.mono (by decide)) rfl T.f_law_draw.mg T.f_law_draw.kp T.f_law_draw.bd .nil pass0 (pa_cons (pv 1) (pa_cons (pe_P (pe_ix (ix_U (K := K) (hu_of hr)) (pe_lst (pa_cons pe_int (pa_cons pe_int pa_nil))) (pe_call (ok_law_draw T) (hr.mono (by decide)) rfl T.f_law_draw.mg T.f_law_draw.kp T.f_law_draw.bd .nil pass0 (pa_cons (pv 1) (pa_cons pe_int pa_nil))) (fun _ _ => rfl))) pa_nil)))))
  (pss_cons (ps_set (i := 5) sc_law.nd rfl (by first | exact Or.inl rfl | exact Or.inr rfl) (pe_joinU (K := K) pe_str (pe_lcU (own := [("_law_row", 13)]) (vs := [13]) rfl (by rfl) sc_law.nd (pi_range1 (by rfl) T.b_range (pa_cons (pe_P (pe_ix (ix_U (K := K) (hu_of hr)) (pe_lst (pa_cons pe_int (pa_cons pe_int (pa_cons pe_int (pa_cons pe_int (pa_cons pe_int pa_nil)))))) (pe_call (ok_law_draw T) (hr.mono (by decide)) rfl T.f_law_draw.mg T.f_law_draw.kp T.f_law_draw.bd .nil pass0 (pa_cons (pv 1) (pa_cons pe_int pa_nil))) (fun _ _ => rfl))) pa_nil)) (blkOk_by (own := [("_law_row", 13)]) (N := N_law) (sc := defScope s_law) (by decide +kernel)) (fun _ _ _ _ _ => (pg_name (i := 13) sc_law.nd rfl (by first | exact Or.inl rfl | exact Or.inr rfl))) (fun _ _ _ _ _ => pts_nil) (fun _ _ _ _ _ => (pe_ix (ix_U (K := K) (hu_of hr)) (pv 2) (pe_call (ok_law_draw T) (hr.mono (by decide)) rfl T.f_law_draw.mg T.f_law_draw.kp T.f_law_draw.bd .nil pass0 (pa_cons (pv 1) (pa_cons (pv 4) pa_nil))) (fun _ _ => rfl))))))
  (pss_cons (ps_set (i := 6) sc_law.nd rfl (by first | exact Or.inl rfl | exact Or.inr rfl) (pe_call (ok_law_rows T) (hr.mono (by decide)) rfl T.f_law_rows.mg T.f_law_rows.kp T.f_law_rows.bd .nil pass0 (pa_cons (pv 1) (pa_cons pe_int pa_nil))))
  (pss_cons (ps_for PassesOwn.never rfl (pi_range2 (by rfl) T.b_range (pa_cons pe_int (pa_cons pe_int pa_nil))) (pg_name (i := 7) sc_law.nd rfl (by first | exact Or.inl rfl | exact Or.inr rfl))
  (pss_one (ps_for PassesOwn.never rfl (pi_range1 (by rfl) T.b_range (pa_cons pe_int pa_nil)) (pg_name (i := 8) sc_law.nd rfl (by first | exact Or.inl rfl | exact Or.inr rfl))
  (pss_cons (ps_set (i := 9) sc_law.nd rfl (by first | exact Or.inl rfl | exact Or.inr rfl) (pe_lst (pa_cons (pe_call (ok_stretches T) (hr.mono (by decide)) rfl T.f_stretches.mg T.f_stretches.kp T.f_stretches.bd .nil passL (pa_cons (pv 5) (pa_cons (pv 7) pa_nil))) (pa_cons (pe_call (ok_all_stretches T) (hr.mono (by decide)) rfl T.f_all_stretches.mg T.f_all_stretches.kp T.f_all_stretches.bd .nil passL (pa_cons (pv 6) (pa_cons (pv 7) pa_nil))) pa_nil))))
  (pss_cons (ps_if (pt_cmpR (op_neU (K := K) (hu_of hr) hr.units) (pv 9) (pe_lst (pa_cons (pe_call (ok_law_due T) (hr.mono (by decide)) rfl T.f_law_due.mg T.f_law_due.kp T.f_law_due.bd .nil pass0 (pa_cons (pv 5) (pa_cons (pv 7) pa_nil))) (pa_cons (pe_call (ok_law_all T) (hr.mono (by decide)) rfl T.f_law_all.mg T.f_law_all.kp T.f_law_all.bd .nil pass0 (pa_cons (pv 6) (pa_cons (pv 7) pa_nil))) pa_nil))) (by first | exact nomark _ | rfl)) (pss_one (ps_ret pe_bl)) pss_nil)
  (pss_cons (ps_expr (pe_bmU (K := K) PySem.F.plainAttrs_list PySem.F.slot_list_append PySem.F.type_list_append mt_append (pe_ix (ix_U (K := K) (hu_of hr)) (pv 9) pe_int (fun _ _ => rfl)) (pa_cons pe_str pa_nil)))
  (pss_one (ps_expr (pe_bm0U (K := K) PySem.F.plainAttrs_list PySem.F.slot_list_clear PySem.F.type_list_clear mt_clear (pe_ix (ix_U (K := K) (hu_of hr)) (pv 9) pe_int (fun _ _ => rfl)))))))))))
  (pss_cons (ps_set (i := 7) sc_law.nd rfl (by first | exact Or.inl rfl | exact Or.inr rfl) (pe_P (pe_ix (ix_U (K := K) (hu_of hr)) (pe_lst (pa_cons pe_int (pa_cons pe_int (pa_cons (pe_un un_neg pe_int) (pa_cons pe_non (pa_cons pe_bl (pa_cons pe_bl (pa_cons pe_str (pa_cons (pe_tup (pa_cons pe_int pa_nil)) (pa_cons (pe_op op_pow pe_int pe_int) pa_nil)))))))))) (pe_call (ok_law_draw T) (hr.mono (by decide)) rfl T.f_law_draw.mg T.f_law_draw.kp T.f_law_draw.bd .nil pass0 (pa_cons (pv 1) (pa_cons pe_int pa_nil))) (fun _ _ => rfl))))
  (pss_cons (ps_set (i := 10) sc_law.nd rfl (by first | exact Or.inl rfl | exact Or.inr rfl) (pe_P (pe_ix (ix_U (K := K) (hu_of hr)) (pe_lst (pa_cons pe_non (pa_cons pe_int (pa_cons pe_bl (pa_cons pe_str (pa_cons pe_str (pa_cons pe_str (pa_cons pe_str (pa_cons (pe_lst (pa_cons pe_str pa_nil)) (pa_cons (pe_tup (pa_cons pe_str pa_nil)) (pa_cons (pe_call (ok_law_odd T) (hr.mono (by decide)) rfl T.f_law_odd.mg T.f_law_odd.kp T.f_law_odd.bd .nil pass0 (pa_cons (pv 1) pa_nil)) pa_nil))))))))))) (pe_call (ok_law_draw T) (hr.mono (by decide)) rfl T.f_law_draw.mg T.f_law_draw.kp T.f_law_draw.bd .nil pass0 (pa_cons (pv 1) (pa_cons pe_int pa_nil))) (fun _ _ => rfl))))
  (pss_cons (ps_set (i := 11) sc_law.nd rfl (by first | exact Or.inl rfl | exact Or.inr rfl) (pe_P (pe_ix (ix_U (K := K) (hu_of hr)) (pe_lst (pa_cons pe_str (pa_cons pe_str (pa_cons pe_str (pa_cons pe_str (pa_cons (pe_op (op_addU (K := K)) (pv 6) (pv 6)) (pa_cons (pe_bm0U (K := K) PySem.F.plainAttrs_str PySem.F.slot_str_upper PySem.F.type_str_upper mt_upperU (pv 6)) (pa_cons (pv 10) pa_nil)))))))) (pe_call (ok_law_draw T) (hr.mono (by decide)) rfl T.f_law_draw.mg T.f_law_draw.kp T.f_law_draw.bd .nil pass0 (pa_cons (pv 1) (pa_cons pe_int pa_nil))) (fun _ _ => rfl))))
  (pss_cons (ps_set (i := 12) sc_law.nd rfl (by first | exact Or.inl rfl | exact Or.inr rfl) (pe_lst (pa_cons (pe_call (ok_law_word T) (hr.mono (by decide)) rfl T.f_law_word.mg T.f_law_word.kp T.f_law_word.bd .nil pass0 (pa_cons pe_int (pa_cons (pv 5) (pa_cons (pv 7) pa_nil)))) (pa_cons (pe_call (ok_law_word T) (hr.mono (by decide)) rfl T.f_law_word.mg T.f_law_word.kp T.f_law_word.bd .nil pass0 (pa_cons pe_int (pa_cons (pv 10) (pa_cons (pv 7) pa_nil)))) (pa_cons (pe_call (ok_law_word T) (hr.mono (by decide)) rfl T.f_law_word.mg T.f_law_word.kp T.f_law_word.bd .nil pass0 (pa_cons pe_int (pa_cons (pv 10) (pa_cons pe_int pa_nil)))) pa_nil)))))
  (pss_cons (ps_set (i := 12) sc_law.nd rfl (by first | exact Or.inl rfl | exact Or.inr rfl) (pe_op (op_addU (K := K)) (pv 12) (pe_lst (pa_cons (pe_call (ok_law_word T) (hr.mono (by decide)) rfl T.f_law_word.mg T.f_law_word.kp T.f_law_word.bd .nil pass0 (pa_cons pe_int (pa_cons (pv 6) (pa_cons (pv 7) pa_nil)))) (pa_cons (pe_call (ok_law_word T) (hr.mono (by decide)) rfl T.f_law_word.mg T.f_law_word.kp T.f_law_word.bd .nil pass0 (pa_cons pe_int (pa_cons (pv 11) (pa_cons (pv 7) pa_nil)))) (pa_cons (pe_call (ok_law_word T) (hr.mono (by decide)) rfl T.f_law_word.mg T.f_law_word.kp T.f_law_word.bd .nil pass0 (pa_cons pe_int (pa_cons (pv 11) (pa_cons pe_int pa_nil)))) pa_nil))))))
  (pss_one (ps_if (pt_cmpR (op_neU (K := K) (hu_of hr) hr.units) (pv 12) (pe_lst (pa_cons pe_str (pa_cons pe_str (pa_cons pe_str (pa_cons pe_str (pa_cons pe_str (pa_cons pe_str pa_nil))))))) (by first | exact nomark _ | rfl)) (pss_one (ps_ret pe_bl)) pss_nil))))))))))))
  (pss_one (ps_ret pe_bl))))), ?_⟩
    try dsimp only [nox_K, tr_K, cxOf_K]
    refine y_start (σ' := some _ :: none :: none :: none :: none :: none :: none :: none :: none :: none :: none :: none :: none :: none :: []) rfl ?_
    have hs : (sizeLine : Nat) = 16777216 := sizeLine_eq
    walk_at "y"
    refine ⟨b, ns, rfl, hb, hb2, by omega, fun a c H1 hh na e1 => ?_⟩
    walk_at "y"
    refine y_forR (by omega) (fun i σ H' => ∃ o3 o4 o5 o6 o7 o8 o9 o10 o11 o12, σ = [some (.ref b), some (.ref a), some (.str "abcdefghijklmnopqrstuvwxyz"), o3, o4, o5, o6, o7, o8, o9, o10, o11, o12, none] ∧ HandAt H' a c) ⟨_, _, _, _, _, _, _, _, _, _, rfl, hh⟩ ?_ ?_
    · rintro i σ H2 hi ⟨o3, o4, o5, o6, o7, o8, o9, o10, o11, o12, rfl, hh2⟩
      walk_at "y"
      refine y_pick (n := 2) (L := [.int 3, .int 26]) hh2 ?_ rfl rfl (by decide) (by decide) fun v d H3 hd th hh3 e3 => ?_
      · apply LitsA.cast
        · walk_at "yl"
        · rfl
        · rfl
      obtain ⟨m, rfl, m1, m2⟩ : ∃ m : Int, v = .int m ∧ 1 ≤ m ∧ m ≤ 26 := by
        simp only [List.mem_cons, List.not_mem_nil, or_false] at hd
        rcases hd with rfl | rfl <;> cases th
        · exact ⟨3, rfl, by decide, by decide⟩
        · exact ⟨26, rfl, by decide, by decide⟩
      walk_at "y"
      refine use_law_draw hh3 (by omega) (by omega) fun kn H4 kn0 kn1 hh4 e4 => ?_
      walk_at "y"
      refine y_pick (n := 5) (L := [.int 0, .int 1, .int 2, .int 3, .int 30]) hh4 ?_ rfl rfl (by decide) (by decide) fun v d H5 hd th hh5 e5 => ?_
      · apply LitsA.cast
        · walk_at "yl"
        · rfl
        · rfl
      obtain ⟨n, rfl, n1, n2⟩ : ∃ n : Int, v = .int n ∧ 0 ≤ n ∧ n ≤ 30 := by
        simp only [List.mem_cons, List.not_mem_nil, or_false] at hd
        rcases hd with rfl | rfl | rfl | rfl | rfl <;> cases th <;> exact ⟨_, rfl, by decide, by decide⟩
      refine y_lcR ⟨by omega, by omega⟩ [a] (by simpa using hh5.tr) (fun j acc Hc => HandAt Hc a c ∧ ∃ ls : List Nat, acc = ls.map (fun c => V.str (ofL [c])) ∧ ∀ x ∈ ls, x ∈ abcL) (fun Hc e => ⟨hh5.new e, [], rfl, (fun x h => nomatch h)⟩) ?_ ?_
      · rintro j acc D Hc Qt hj hD e hla ⟨hhc, ls, rfl, hls⟩ kq
        walk_at "yw"
        walk_at "y"
        refine use_law_draw hhc (by omega) (by omega) fun x H6 x0 x1 hh6 e6 => ?_
        obtain ⟨xn, rfl⟩ : ∃ z : Nat, x = (z : Int) := ⟨x.toNat, by omega⟩
        refine y_ixS (by show 26 ≤ sizeLine; omega) (atI_nat (v := 97 + xn) ?_) ?_
        · have h1 := abcL_drop 0 xn (by omega)
          have h2 : ("abcdefghijklmnopqrstuvwxyz" : Str).cps.toList = abcL := by
            rw [show ("abcdefghijklmnopqrstuvwxyz" : Str) = ofL abcL from SMALL_is]
            simp [ofL]
          rw [h2]
          rw [List.drop_zero] at h1
          rw [h1]
          congr 1
          omega
        · refine kq _ _ e6 fun H7 e7 => ⟨hh6.ev1 hh5 hD e7, ls ++ [97 + xn], by simp [ofL], fun z hz => ?_⟩
          rcases List.mem_append.mp hz with q | q
          · exact hls z q
          · simp at q
            subst q
            exact abcL_mem.mpr (by omega)
      · rintro D Hn acc hD e hDn hla ⟨hhn, ls, rfl, hls⟩
        rw [List.length_map] at hla
        have hcode : isStrOf (.str (ofL ls)) SMALL = true := (isStrOf_L ls).mpr hls
        have er : (ofL ls).cps.toList = ls := by simp [ofL]
        refine y_join (ls.map fun c => ofL [c]) (.inl (SqL.of (by rw [hDn, List.map_map]; rfl))) ?_ ?_
        · have : ((ls.map fun c => ofL [c]).map (·.length)).sum = ls.length := by
            rw [List.map_map, show (Str.length ∘ fun c : Nat => ofL [c]) = fun _ => 1 from funext fun c => rfl]
            clear hla hls hcode er hDn
            induction ls with
            | nil => rfl
            | cons x r ih => rw [List.map_cons, List.sum_cons, ih, List.length_cons]; omega
          rw [this]
          show ls.length + (ls.map fun c => ofL [c]).length * 0 ≤ 16777216
          omega
        rw [join_signs]
        walk_at "y"
        refine ⟨a, c, 4, rfl, hhn, by omega, by omega, fun rs H6 hrs hrl hh6 e6 => ?_⟩
        have rg := rows_good hrs
        have ltc : ∀ x ∈ ls, x < 0x110000 := fun x hx => by have := abcL_mem.mp (hls x hx); omega
        have ltr : ∀ x ∈ rs.cps.toList, x < 0x110000 := fun x hx => by
          have q := (rows_parts hrs).1
          rw [← ofL_cps rs] at q
          have := abcL_mem.mp ((isStrOf_L _).mp q x hx)
          omega
        walk_at "y"
        refine y_forR2 (by omega) (fun i2 σ H' => ∃ o7 o8 o9, σ = [some (.ref b), some (.ref a), some (.str "abcdefghijklmnopqrstuvwxyz"), some (.int i), some (.int (1 + kn)), some (.str (ofL ls)), some (.str rs), o7, o8, o9, o10, o11, o12, none] ∧ HandAt H' a c) ⟨_, _, _, rfl, hh6⟩ ?_ ?_
        · rintro i2 σ H7 hi2 ⟨o7, o8, o9, rfl, hh7⟩
          walk_at "y"
          refine y_forR (by omega) (fun i3 σ H' => ∃ o8 o9, σ = [some (.ref b), some (.ref a), some (.str "abcdefghijklmnopqrstuvwxyz"), some (.int i), some (.int (1 + kn)), some (.str (ofL ls)), some (.str rs), some (.int (1 + i2)), o8, o9, o10, o11, o12, none] ∧ HandAt H' a c) ⟨_, _, rfl, hh7⟩ ?_ ?_
          · rintro i3 σ H8 hi3 ⟨o8, o9, rfl, hh8⟩
            have ew : (1 : Int) + (i2 : Int) = ((i2 + 1 : Nat) : Int) := by omega
            have win : isWithin (.int (1 + (i2 : Int))) 1 3 = true := by simp [isWithin]; omega
            walk_at "y"
            refine y_tLst ?_
            walk_at "y"
            refine ⟨_, .str (ofL ls), _, .int (1 + i2), rfl, .str _, .int _, ?_, ?_, fun q => ?_, fun _ q => ?_, fun s w es ew2 _ _ p1 H9 np1 hp1 e9 => ?_⟩
            · show (ofL ls).length ≤ sizeLine
              rw [ofL_len]; omega
            · intro s es
              cases es
              rw [ofL_len]; omega
            · rw [hcode] at q; cases q
            · rw [win] at q; cases q
            cases es
            obtain rfl : w = i2 + 1 := by have := Da.int.inj ew2; omega
            rw [er] at hp1
            walk_at "y"
            refine ⟨_, .str rs, _, .int (1 + i2), rfl, .str _, .int _, ?_, fun q => ?_, fun _ q => ?_, fun s w es ew2 _ _ p2 H10 ys np2 hp2 nm e10 => ?_⟩
            · show rs.length ≤ sizeLine
              have := rg.len
              omega
            · rw [hrs] at q; cases q
            · rw [win] at q; cases q
            cases es
            obtain rfl : w = i2 + 1 := by have := Da.int.inj ew2; omega
            walk_at "y"
            refine y_newL (by show 2 ≤ sizeLine; omega) fun p3 H11 np3 hp3 e11 => ?_
            walk_at "y"
            refine y_tLst ?_
            walk_at "y"
            refine ⟨ofL ls, i2 + 1, by rw [ew]; rfl, by omega, by omega, by rw [ofL_len]; omega, fun q1 H12 nq1 hq1 e12 => ?_⟩
            walk_at "y"
            refine ⟨rs, i2 + 1, by rw [ew]; rfl, rg, by omega, by omega, fun q2 H13 zs nq2 hq2 nm2 e13 => ?_⟩
            walk_at "y"
            refine y_newL (by show 2 ≤ sizeLine; omega) fun p4 H14 np4 hp4 e14 => ?_
            rw [er] at hq1
            obtain rfl : ys = zs := sorted_one nm.2 nm2.2 (nm.1.trans nm2.1.symm)
            have e15 : Ev [] H11 H14 := e12.trans (e13.trans e14)
            have f3 : H14 p3 = some _ := e15.keep _ _ hp3 (by simp)
            have f1 : H14 p1 = some _ := e15.keep _ _ (e11.keep _ _ (e10.keep _ _ hp1 (by simp)) (by simp)) (by simp)
            have f2 : H14 p2 = some _ := e15.keep _ _ (e11.keep _ _ hp2 (by simp)) (by simp)
            have g1 : H14 q1 = some _ := e14.keep _ _ (e13.keep _ _ hq1 (by simp)) (by simp)
            have g2 : H14 q2 = some _ := e14.keep _ _ hq2 (by simp)
            have hh14 : HandAt H14 a c := hh8.new (e9.trans (e10.trans (e11.trans e15)))
            rw [txts_strs] at f1 g1
            refine y_neSame (d := .list [dStrs ((dueL ls (i2 + 1)).map ofL), dStrs ys]) (.lst (SqL.of f3) (.cons (dp_strs (SqL.of f1)) (.cons (dp_strs (SqL.of f2)) .nil))) (.lst (SqL.of hp4) (.cons (dp_strs (SqL.of g1)) (.cons (dp_strs (SqL.of g2)) .nil))) (shaped_two (due_ok ltc _) (names_ok ltr nm)) ?_
            have n1 : p3 ≠ p1 := (ne_of_none (e10.keep _ _ hp1 (by simp)) np3).symm
            have n2 : p3 ≠ p2 := (ne_of_none hp2 np3).symm
            have n3 : p2 ≠ p1 := (ne_of_none hp1 np2).symm
            walk_at "y"
            have hlen : (((dueL ls (i2 + 1)).map ofL).map V.str).length < sizeLine := by
              rw [List.length_map, List.length_map, dueL, List.length_map, List.length_range]; omega
            refine y_append _ f1 hlen fun H15 k1 e16 => ?_
            have f3' := e16.keep _ _ f3 (by simpa using n1)
            have f2' := e16.keep _ _ f2 (by simpa using n3)
            walk_at "y"
            refine y_clear _ f2' fun H16 k2 e17 => ?_
            walk_at "y"
            exact ⟨_, _, rfl, (hh14.ev1 hh8 np1 e16).ev1 hh8 (e9.none np2) e17⟩
          · rintro σ H8 ⟨o8, o9, rfl, hh8⟩
            walk_at "y"
            exact ⟨_, _, _, rfl, hh8⟩
        · rintro σ H7 ⟨o7, o8, o9, rfl, hh7⟩
          walk_at "y"
          refine y_pick (n := 9) (L := widthL) hh7 ?_ rfl rfl (by decide) (by decide) fun wv wd H8 hwd thw hh8 e8 => ?_
          · apply LitsA.cast
            · walk_at "yl"
            · rfl
            · rfl
          walk_at "y"
          refine y_pick (n := 10) (L := badL) hh8 ?_ rfl rfl (by decide) (by decide) fun bv bd H9 hbd thb hh9 e9 => ?_
          · apply LitsA.cast
            · walk_at "yl"
            · rfl
            · rfl
          walk_at "y"
          have hr4 := rg.len
          refine y_pick (n := 7) (L := [.str "", .str "ba", .str "aa", .str "abcde"] ++ [.str (rs ++ rs), .str (Txt.upper rs), bd]) hh9 ?_ rfl rfl (by decide) (by decide) fun gv gd H10 hgd thg hh10 e10 => ?_
          · apply LitsA.cast
            · walk_at "yl"
              · exact lit_twice rfl rfl (by omega)
              · exact lit_upper rfl (by omega)
            · rfl
            · rfl
          have w0 := width_out wd hwd
          have b0 := bad_out bd hbd
          have g0 : isRows gd = false := by
            rcases List.mem_append.mp hgd with q | q
            · exact wrong_out gd q
            · simp only [List.mem_cons, List.not_mem_nil, or_false] at q
              rcases q with rfl | rfl | rfl
              · exact twice_odd hrs
              · exact upper_odd hrs
              · unfold isRows isWord
                rw [b0]
                rfl
          obtain ⟨bf, bz⟩ := fit_small (bad_small bd hbd)
          have gfz : Fit gd ∧ ∀ s, gd = .str s → s.length + 1 ≤ sizeLine := by
            rcases List.mem_append.mp hgd with q | q
            · exact fit_small ((by decide +kernel : ∀ d ∈ [Da.str "", .str "ba", .str "aa", .str "abcde"], (match d with | .str s => decide (s.length ≤ 16) | _ => true) = true) gd q)
            · simp only [List.mem_cons, List.not_mem_nil, or_false] at q
              rcases q with rfl | rfl | rfl
              · refine fit_small (decide_eq_true ?_)
                have : (rs ++ rs).length = rs.length + rs.length := by
                  show (Str.append rs rs).length = _
                  simp [Str.append, Str.length]
                omega
              · refine fit_small (decide_eq_true ?_)
                have := PyProof.Rows.len_upper rs
                omega
              · exact ⟨bf, bz⟩
          have thw10 := e10.th (e9.th thw)
          have thb10 := e10.th thb
          walk_at "y"
          refine y_tLst ?_
          walk_at "y"
          have w1 : isWithin (.int 1) 1 3 = true := by decide
          have w3 : isWithin (.int 3) 1 3 = true := by decide
          have fc : Fit (.str (ofL ls)) ∧ ∀ s, Da.str (ofL ls) = .str s → s.length + 1 ≤ sizeLine := by
            refine ⟨?_, fun s es => ?_⟩
            · show (ofL ls).length ≤ sizeLine
              rw [ofL_len]; omega
            · cases es
              rw [ofL_len]; omega
          refine ⟨0, _, _, _, _, rfl, .str _, thw10, fc.1, fc.2, fun H11 e11 => ?_⟩
          rw [show wordOf 0 (.str (ofL ls)) wd = "width" by unfold wordOf; rw [hcode, w0]; rfl]
          walk_at "y"
          refine ⟨0, _, _, _, _, rfl, e11.th thb10, e11.th thw10, bf, bz, fun H12 e12 => ?_⟩
          rw [show wordOf 0 bd wd = "code" by unfold wordOf; rw [b0]; rfl]
          walk_at "y"
          refine ⟨0, _, _, _, _, rfl, e12.th (e11.th thb10), .int 1, bf, bz, fun H13 e13 => ?_⟩
          rw [show wordOf 0 bd (.int 1) = "code" by unfold wordOf; rw [b0]; rfl]
          walk_at "y"
          refine y_newL (by show 3 ≤ sizeLine; omega) fun p1 H14 np1 hp1 e14 => ?_
          walk_at "y"
          refine y_tLst ?_
          walk_at "y"
          have e15 : Ev [] H10 H14 := e11.trans (e12.trans (e13.trans e14))
          refine ⟨1, _, _, _, _, rfl, .str rs, e15.th thw10, ?_, ?_, fun H16 e16 => ?_⟩
          · show rs.length ≤ sizeLine
            omega
          · intro s es
            cases es
            omega
          rw [show wordOf 1 (.str rs) wd = "width" by unfold wordOf; rw [hrs, w0]; rfl]
          walk_at "y"
          refine ⟨1, _, _, _, _, rfl, e16.th (e15.th thg), e16.th (e15.th thw10), gfz.1, gfz.2, fun H17 e17 => ?_⟩
          rw [show wordOf 1 gd wd = "rows" by unfold wordOf; rw [g0]; rfl]
          walk_at "y"
          refine ⟨1, _, _, _, _, rfl, e17.th (e16.th (e15.th thg)), .int 3, gfz.1, gfz.2, fun H18 e18 => ?_⟩
          rw [show wordOf 1 gd (.int 3) = "rows" by unfold wordOf; rw [g0]; rfl]
          walk_at "y"
          refine y_newL (by show 3 ≤ sizeLine; omega) fun p2 H19 np2 hp2 e19 => ?_
          have e20 : Ev [] H14 H19 := e16.trans (e17.trans (e18.trans e19))
          refine y_catL _ _ (e20.keep _ _ hp1 (by simp)) hp2 (by show 3 + 3 ≤ sizeLine; omega) fun p3 H20 np3 hp3 e21 => ?_
          walk_at "y"
          refine y_tLst ?_
          walk_at "y"
          refine y_newL (by show 6 ≤ sizeLine; omega) fun p4 H21 np4 hp4 e22 => ?_
          refine y_neSame (d := dStrs ["width", "code", "code", "width", "rows", "rows"]) (dp_strs (SqL.of (e22.keep _ _ hp3 (by simp)))) (dp_strs (SqL.of hp4)) (by decide +kernel) ?_
          walk_at "y"
          exact ⟨_, _, _, _, _, _, _, _, _, _, rfl, hh10.new (e15.trans (e20.trans (e21.trans e22)))⟩
    · rintro σ H2 ⟨o3, o4, o5, o6, o7, o8, o9, o10, o11, o12, rfl, hh2⟩
      walk_at "y"
      exact k _

end

theorem all_mk {l : PySem.W.OpenLaw} {w : World} {K : PySem.W.Frag} {h : Heap} {mg : Str → Option Value} {fa : Addr} (X : K.In h) (G : h.Ns mainGlobals mg) (hfa : mg "law" = some (.ref fa))
    {f0 : Addr} {od0 an0 : Option Addr} {sl0 : Array (Option Value)} {oc0 kV0 dc0 pm0 cd0 ct0 : Value}
    {f1 : Addr} {od1 an1 : Option Addr} {sl1 : Array (Option Value)} {oc1 kV1 dc1 pm1 cd1 ct1 : Value}
    {f2 : Addr} {od2 an2 : Option Addr} {sl2 : Array (Option Value)} {oc2 kV2 dc2 pm2 cd2 ct2 : Value}
    {f3 : Addr} {od3 an3 : Option Addr} {sl3 : Array (Option Value)} {oc3 kV3 dc3 pm3 cd3 ct3 : Value}
    {f4 : Addr} {od4 an4 : Option Addr} {sl4 : Array (Option Value)} {oc4 kV4 dc4 pm4 cd4 ct4 : Value}
    {f5 : Addr} {od5 an5 : Option Addr} {sl5 : Array (Option Value)} {oc5 kV5 dc5 pm5 cd5 ct5 : Value}
    {f6 : Addr} {od6 an6 : Option Addr} {sl6 : Array (Option Value)} {oc6 kV6 dc6 pm6 cd6 ct6 : Value}
    {f7 : Addr} {od7 an7 : Option Addr} {sl7 : Array (Option Value)} {oc7 kV7 dc7 pm7 cd7 ct7 : Value}
    {f8 : Addr} {od8 an8 : Option Addr} {sl8 : Array (Option Value)} {oc8 kV8 dc8 pm8 cd8 ct8 : Value}
    {f9 : Addr} {od9 an9 : Option Addr} {sl9 : Array (Option Value)} {oc9 kV9 dc9 pm9 cd9 ct9 : Value}
    {f10 : Addr} {od10 an10 : Option Addr} {sl10 : Array (Option Value)} {oc10 kV10 dc10 pm10 cd10 ct10 : Value}
    {f11 : Addr} {od11 an11 : Option Addr} {sl11 : Array (Option Value)} {oc11 kV11 dc11 pm11 cd11 ct11 : Value}
    {f12 : Addr} {od12 an12 : Option Addr} {sl12 : Array (Option Value)} {oc12 kV12 dc12 pm12 cd12 ct12 : Value}
    {f13 : Addr} {od13 an13 : Option Addr} {sl13 : Array (Option Value)} {oc13 kV13 dc13 pm13 cd13 ct13 : Value}
    {f14 : Addr} {od14 an14 : Option Addr} {sl14 : Array (Option Value)} {oc14 kV14 dc14 pm14 cd14 ct14 : Value}
    {f15 : Addr} {od15 an15 : Option Addr} {sl15 : Array (Option Value)} {oc15 kV15 dc15 pm15 cd15 ct15 : Value}
    {f16 : Addr} {od16 an16 : Option Addr} {sl16 : Array (Option Value)} {oc16 kV16 dc16 pm16 cd16 ct16 : Value}
    {f17 : Addr} {od17 an17 : Option Addr} {sl17 : Array (Option Value)} {oc17 kV17 dc17 pm17 cd17 ct17 : Value}
    {f18 : Addr} {od18 an18 : Option Addr} {sl18 : Array (Option Value)} {oc18 kV18 dc18 pm18 cd18 ct18 : Value}
    {f19 : Addr} {od19 an19 : Option Addr} {sl19 : Array (Option Value)} {oc19 kV19 dc19 pm19 cd19 ct19 : Value}
    {f20 : Addr} {od20 an20 : Option Addr} {sl20 : Array (Option Value)} {oc20 kV20 dc20 pm20 cd20 ct20 : Value}
    {f21 : Addr} {od21 an21 : Option Addr} {sl21 : Array (Option Value)} {oc21 kV21 dc21 pm21 cd21 ct21 : Value}
    {t_MOST_ROWS : Tok}
    {t_MOST_WIDTH : Tok}
    {t_SMALL : Tok}
    {C_StretchError : Addr}
    {C_NoCode : Addr}
    {C_NoWidth : Addr}
    {C_NoRows : Addr}
    (a0 : PySem.W.nsIn K mainGlobals "is_integer" = some (some (.ref f0)))
    (l0 : K.lookup f0 = some ⟨oc0, od0, .func (PySem.W.fnOf "is_integer" "is_integer" (defArgs s_is_integer) (defBody s_is_integer) (defScope s_is_integer) .none kV0 dc0 pm0 an0 cd0 ct0), sl0⟩)
    (c0 : PySem.W.codeIn K cd0 "is_integer" = true)
    (k0 : PySem.W.keepIn K (.ref f0) = true)
    (a1 : PySem.W.nsIn K mainGlobals "is_within" = some (some (.ref f1)))
    (l1 : K.lookup f1 = some ⟨oc1, od1, .func (PySem.W.fnOf "is_within" "is_within" (defArgs s_is_within) (defBody s_is_within) (defScope s_is_within) .none kV1 dc1 pm1 an1 cd1 ct1), sl1⟩)
    (c1 : PySem.W.codeIn K cd1 "is_within" = true)
    (k1 : PySem.W.keepIn K (.ref f1) = true)
    (a2 : PySem.W.nsIn K mainGlobals "is_string_of" = some (some (.ref f2)))
    (l2 : K.lookup f2 = some ⟨oc2, od2, .func (PySem.W.fnOf "is_string_of" "is_string_of" (defArgs s_is_string_of) (defBody s_is_string_of) (defScope s_is_string_of) .none kV2 dc2 pm2 an2 cd2 ct2), sl2⟩)
    (c2 : PySem.W.codeIn K cd2 "is_string_of" = true)
    (k2 : PySem.W.keepIn K (.ref f2) = true)
    (a3 : PySem.W.nsIn K mainGlobals "is_word" = some (some (.ref f3)))
    (l3 : K.lookup f3 = some ⟨oc3, od3, .func (PySem.W.fnOf "is_word" "is_word" (defArgs s_is_word) (defBody s_is_word) (defScope s_is_word) .none kV3 dc3 pm3 an3 cd3 ct3), sl3⟩)
    (c3 : PySem.W.codeIn K cd3 "is_word" = true)
    (k3 : PySem.W.keepIn K (.ref f3) = true)
    (a4 : PySem.W.nsIn K mainGlobals "is_ascending" = some (some (.ref f4)))
    (l4 : K.lookup f4 = some ⟨oc4, od4, .func (PySem.W.fnOf "is_ascending" "is_ascending" (defArgs s_is_ascending) (defBody s_is_ascending) (defScope s_is_ascending) .none kV4 dc4 pm4 an4 cd4 ct4), sl4⟩)
    (c4 : PySem.W.codeIn K cd4 "is_ascending" = true)
    (k4 : PySem.W.keepIn K (.ref f4) = true)
    (a5 : PySem.W.nsIn K mainGlobals "is_rows" = some (some (.ref f5)))
    (l5 : K.lookup f5 = some ⟨oc5, od5, .func (PySem.W.fnOf "is_rows" "is_rows" (defArgs s_is_rows) (defBody s_is_rows) (defScope s_is_rows) .none kV5 dc5 pm5 an5 cd5 ct5), sl5⟩)
    (c5 : PySem.W.codeIn K cd5 "is_rows" = true)
    (k5 : PySem.W.keepIn K (.ref f5) = true)
    (a6 : PySem.W.nsIn K mainGlobals "is_any_code" = some (some (.ref f6)))
    (l6 : K.lookup f6 = some ⟨oc6, od6, .func (PySem.W.fnOf "is_any_code" "is_any_code" (defArgs s_is_any_code) (defBody s_is_any_code) (defScope s_is_any_code) .none kV6 dc6 pm6 an6 cd6 ct6), sl6⟩)
    (c6 : PySem.W.codeIn K cd6 "is_any_code" = true)
    (k6 : PySem.W.keepIn K (.ref f6) = true)
    (a7 : PySem.W.nsIn K mainGlobals "is_width" = some (some (.ref f7)))
    (l7 : K.lookup f7 = some ⟨oc7, od7, .func (PySem.W.fnOf "is_width" "is_width" (defArgs s_is_width) (defBody s_is_width) (defScope s_is_width) .none kV7 dc7 pm7 an7 cd7 ct7), sl7⟩)
    (c7 : PySem.W.codeIn K cd7 "is_width" = true)
    (k7 : PySem.W.keepIn K (.ref f7) = true)
    (a8 : PySem.W.nsIn K mainGlobals "check_width" = some (some (.ref f8)))
    (l8 : K.lookup f8 = some ⟨oc8, od8, .func (PySem.W.fnOf "check_width" "check_width" (defArgs s_check_width) (defBody s_check_width) (defScope s_check_width) .none kV8 dc8 pm8 an8 cd8 ct8), sl8⟩)
    (c8 : PySem.W.codeIn K cd8 "check_width" = true)
    (k8 : PySem.W.keepIn K (.ref f8) = true)
    (a9 : PySem.W.nsIn K mainGlobals "stretches_of" = some (some (.ref f9)))
    (l9 : K.lookup f9 = some ⟨oc9, od9, .func (PySem.W.fnOf "stretches_of" "stretches_of" (defArgs s_stretches_of) (defBody s_stretches_of) (defScope s_stretches_of) .none kV9 dc9 pm9 an9 cd9 ct9), sl9⟩)
    (c9 : PySem.W.codeIn K cd9 "stretches_of" = true)
    (k9 : PySem.W.keepIn K (.ref f9) = true)
    (a10 : PySem.W.nsIn K mainGlobals "stretches" = some (some (.ref f10)))
    (l10 : K.lookup f10 = some ⟨oc10, od10, .func (PySem.W.fnOf "stretches" "stretches" (defArgs s_stretches) (defBody s_stretches) (defScope s_stretches) .none kV10 dc10 pm10 an10 cd10 ct10), sl10⟩)
    (c10 : PySem.W.codeIn K cd10 "stretches" = true)
    (k10 : PySem.W.keepIn K (.ref f10) = true)
    (a11 : PySem.W.nsIn K mainGlobals "codes_of_length" = some (some (.ref f11)))
    (l11 : K.lookup f11 = some ⟨oc11, od11, .func (PySem.W.fnOf "codes_of_length" "codes_of_length" (defArgs s_codes_of_length) (defBody s_codes_of_length) (defScope s_codes_of_length) .none kV11 dc11 pm11 an11 cd11 ct11), sl11⟩)
    (c11 : PySem.W.codeIn K cd11 "codes_of_length" = true)
    (k11 : PySem.W.keepIn K (.ref f11) = true)
    (a12 : PySem.W.nsIn K mainGlobals "stretch_names" = some (some (.ref f12)))
    (l12 : K.lookup f12 = some ⟨oc12, od12, .func (PySem.W.fnOf "stretch_names" "stretch_names" (defArgs s_stretch_names) (defBody s_stretch_names) (defScope s_stretch_names) .none kV12 dc12 pm12 an12 cd12 ct12), sl12⟩)
    (c12 : PySem.W.codeIn K cd12 "stretch_names" = true)
    (k12 : PySem.W.keepIn K (.ref f12) = true)
    (a13 : PySem.W.nsIn K mainGlobals "all_stretches" = some (some (.ref f13)))
    (l13 : K.lookup f13 = some ⟨oc13, od13, .func (PySem.W.fnOf "all_stretches" "all_stretches" (defArgs s_all_stretches) (defBody s_all_stretches) (defScope s_all_stretches) .none kV13 dc13 pm13 an13 cd13 ct13), sl13⟩)
    (c13 : PySem.W.codeIn K cd13 "all_stretches" = true)
    (k13 : PySem.W.keepIn K (.ref f13) = true)
    (a14 : PySem.W.nsIn K mainGlobals "_law_hand" = some (some (.ref f14)))
    (l14 : K.lookup f14 = some ⟨oc14, od14, .func (PySem.W.fnOf "_law_hand" "_law_hand" (defArgs s_law_hand) (defBody s_law_hand) (defScope s_law_hand) .none kV14 dc14 pm14 an14 cd14 ct14), sl14⟩)
    (c14 : PySem.W.codeIn K cd14 "_law_hand" = true)
    (k14 : PySem.W.keepIn K (.ref f14) = true)
    (a15 : PySem.W.nsIn K mainGlobals "_law_draw" = some (some (.ref f15)))
    (l15 : K.lookup f15 = some ⟨oc15, od15, .func (PySem.W.fnOf "_law_draw" "_law_draw" (defArgs s_law_draw) (defBody s_law_draw) (defScope s_law_draw) .none kV15 dc15 pm15 an15 cd15 ct15), sl15⟩)
    (c15 : PySem.W.codeIn K cd15 "_law_draw" = true)
    (k15 : PySem.W.keepIn K (.ref f15) = true)
    (a16 : PySem.W.nsIn K mainGlobals "_law_rows" = some (some (.ref f16)))
    (l16 : K.lookup f16 = some ⟨oc16, od16, .func (PySem.W.fnOf "_law_rows" "_law_rows" (defArgs s_law_rows) (defBody s_law_rows) (defScope s_law_rows) .none kV16 dc16 pm16 an16 cd16 ct16), sl16⟩)
    (c16 : PySem.W.codeIn K cd16 "_law_rows" = true)
    (k16 : PySem.W.keepIn K (.ref f16) = true)
    (a17 : PySem.W.nsIn K mainGlobals "_law_odd" = some (some (.ref f17)))
    (l17 : K.lookup f17 = some ⟨oc17, od17, .func (PySem.W.fnOf "_law_odd" "_law_odd" (defArgs s_law_odd) (defBody s_law_odd) (defScope s_law_odd) .none kV17 dc17 pm17 an17 cd17 ct17), sl17⟩)
    (c17 : PySem.W.codeIn K cd17 "_law_odd" = true)
    (k17 : PySem.W.keepIn K (.ref f17) = true)
    (a18 : PySem.W.nsIn K mainGlobals "_law_due" = some (some (.ref f18)))
    (l18 : K.lookup f18 = some ⟨oc18, od18, .func (PySem.W.fnOf "_law_due" "_law_due" (defArgs s_law_due) (defBody s_law_due) (defScope s_law_due) .none kV18 dc18 pm18 an18 cd18 ct18), sl18⟩)
    (c18 : PySem.W.codeIn K cd18 "_law_due" = true)
    (k18 : PySem.W.keepIn K (.ref f18) = true)
    (a19 : PySem.W.nsIn K mainGlobals "_law_all" = some (some (.ref f19)))
    (l19 : K.lookup f19 = some ⟨oc19, od19, .func (PySem.W.fnOf "_law_all" "_law_all" (defArgs s_law_all) (defBody s_law_all) (defScope s_law_all) .none kV19 dc19 pm19 an19 cd19 ct19), sl19⟩)
    (c19 : PySem.W.codeIn K cd19 "_law_all" = true)
    (k19 : PySem.W.keepIn K (.ref f19) = true)
    (a20 : PySem.W.nsIn K mainGlobals "_law_word" = some (some (.ref f20)))
    (l20 : K.lookup f20 = some ⟨oc20, od20, .func (PySem.W.fnOf "_law_word" "_law_word" (defArgs s_law_word) (defBody s_law_word) (defScope s_law_word) .none kV20 dc20 pm20 an20 cd20 ct20), sl20⟩)
    (c20 : PySem.W.codeIn K cd20 "_law_word" = true)
    (k20 : PySem.W.keepIn K (.ref f20) = true)
    (a21 : PySem.W.nsIn K mainGlobals "law" = some (some (.ref f21)))
    (l21 : K.lookup f21 = some ⟨oc21, od21, .func (PySem.W.fnOf "law" "law" (defArgs s_law) (defBody s_law) (defScope s_law) .none kV21 dc21 pm21 an21 cd21 ct21), sl21⟩)
    (c21 : PySem.W.codeIn K cd21 "law" = true)
    (k21 : PySem.W.keepIn K (.ref f21) = true)
    (z_abs : PySem.W.nsIn K mainGlobals "abs" = some none)
    (z_bool : PySem.W.nsIn K mainGlobals "bool" = some none)
    (z_int : PySem.W.nsIn K mainGlobals "int" = some none)
    (z_isinstance : PySem.W.nsIn K mainGlobals "isinstance" = some none)
    (z_len : PySem.W.nsIn K mainGlobals "len" = some none)
    (z_list : PySem.W.nsIn K mainGlobals "list" = some none)
    (z_range : PySem.W.nsIn K mainGlobals "range" = some none)
    (z_sorted : PySem.W.nsIn K mainGlobals "sorted" = some none)
    (z_str : PySem.W.nsIn K mainGlobals "str" = some none)
    (g_MOST_ROWS : PySem.W.nsIn K mainGlobals "MOST_ROWS" = some (some (.int 4 t_MOST_ROWS)))
    (g_MOST_WIDTH : PySem.W.nsIn K mainGlobals "MOST_WIDTH" = some (some (.int 3 t_MOST_WIDTH)))
    (g_SMALL : PySem.W.nsIn K mainGlobals "SMALL" = some (some (.str "abcdefghijklmnopqrstuvwxyz" t_SMALL)))
    (xa_StretchError : PySem.W.nsIn K mainGlobals "StretchError" = some (some (.ref C_StretchError)))
    (xx_StretchError : PySem.W.excIn K C_StretchError [.type "ValueError", .type "Exception", .type "BaseException", .type "object"] "ValueError.__new__" = true)
    (xk_StretchError : PySem.W.keepIn K (.ref C_StretchError) = true)
    (xs_StretchError : PySem.W.subIn K (.ref C_StretchError) (.type "BaseException") = some true)
    (xt_StretchError : PySem.W.typeIn K (.ref C_StretchError) = some (.type "type"))
    (xa_NoCode : PySem.W.nsIn K mainGlobals "NoCode" = some (some (.ref C_NoCode)))
    (xx_NoCode : PySem.W.excIn K C_NoCode [.type "ValueError", .type "Exception", .type "BaseException", .type "object"] "ValueError.__new__" = true)
    (xk_NoCode : PySem.W.keepIn K (.ref C_NoCode) = true)
    (xs_NoCode : PySem.W.subIn K (.ref C_NoCode) (.type "BaseException") = some true)
    (xt_NoCode : PySem.W.typeIn K (.ref C_NoCode) = some (.type "type"))
    (xa_NoWidth : PySem.W.nsIn K mainGlobals "NoWidth" = some (some (.ref C_NoWidth)))
    (xx_NoWidth : PySem.W.excIn K C_NoWidth [.type "ValueError", .type "Exception", .type "BaseException", .type "object"] "ValueError.__new__" = true)
    (xk_NoWidth : PySem.W.keepIn K (.ref C_NoWidth) = true)
    (xs_NoWidth : PySem.W.subIn K (.ref C_NoWidth) (.type "BaseException") = some true)
    (xt_NoWidth : PySem.W.typeIn K (.ref C_NoWidth) = some (.type "type"))
    (xa_NoRows : PySem.W.nsIn K mainGlobals "NoRows" = some (some (.ref C_NoRows)))
    (xx_NoRows : PySem.W.excIn K C_NoRows [.type "ValueError", .type "Exception", .type "BaseException", .type "object"] "ValueError.__new__" = true)
    (xk_NoRows : PySem.W.keepIn K (.ref C_NoRows) = true)
    (xs_NoRows : PySem.W.subIn K (.ref C_NoRows) (.type "BaseException") = some true)
    (xt_NoRows : PySem.W.typeIn K (.ref C_NoRows) = some (.type "type"))
    (xi_NoCode : PySem.W.isClsIn K C_NoCode = true)
    (xi_NoRows : PySem.W.isClsIn K C_NoRows = true)
    (xi_NoWidth : PySem.W.isClsIn K C_NoWidth = true)
    (xi_StretchError : PySem.W.isClsIn K C_StretchError = true)
    (xe_NoCode_NoCode : PySem.W.subIn K (.ref C_NoCode) (.ref C_NoCode) = some true)
    (xe_NoCode_NoRows : PySem.W.subIn K (.ref C_NoCode) (.ref C_NoRows) = some false)
    (xe_NoCode_NoWidth : PySem.W.subIn K (.ref C_NoCode) (.ref C_NoWidth) = some false)
    (xe_NoCode_StretchError : PySem.W.subIn K (.ref C_NoCode) (.ref C_StretchError) = some true)
    (xe_NoRows_NoCode : PySem.W.subIn K (.ref C_NoRows) (.ref C_NoCode) = some false)
    (xe_NoRows_NoRows : PySem.W.subIn K (.ref C_NoRows) (.ref C_NoRows) = some true)
    (xe_NoRows_NoWidth : PySem.W.subIn K (.ref C_NoRows) (.ref C_NoWidth) = some false)
    (xe_NoRows_StretchError : PySem.W.subIn K (.ref C_NoRows) (.ref C_StretchError) = some true)
    (xe_NoWidth_NoCode : PySem.W.subIn K (.ref C_NoWidth) (.ref C_NoCode) = some false)
    (xe_NoWidth_NoRows : PySem.W.subIn K (.ref C_NoWidth) (.ref C_NoRows) = some false)
    (xe_NoWidth_NoWidth : PySem.W.subIn K (.ref C_NoWidth) (.ref C_NoWidth) = some true)
    (xe_NoWidth_StretchError : PySem.W.subIn K (.ref C_NoWidth) (.ref C_StretchError) = some true)
    : ∃ fd : FuncData, (∀ (s : Shared) (v : Value), BindsTo s fd ⟨[v], []⟩ [("_law_script", v)]) ∧ ∀ base : Heap, K.In base → base.Ns mainGlobals mg → FnOk l.prog w K mg base CX0 7 fa fd ["_law_script"] (sp_law K) := by
  have e := hfa.symm.trans (PySem.W.mg_of X G a21)
  cases e
  let T : Txt K mg := {
    f_is_integer := ⟨_, _, fun_mk (st := s_is_integer) l0 c0 k0, PySem.W.mg_of X G a0, (fun_mk (st := s_is_integer) l0 c0 k0).binds (ps := ["thing"]) fun _ _ _ _ _ _ us hl => match us, hl with | [_], _ => rfl⟩
    f_is_within := ⟨_, _, fun_mk (st := s_is_within) l1 c1 k1, PySem.W.mg_of X G a1, (fun_mk (st := s_is_within) l1 c1 k1).binds (ps := ["thing", "least", "most"]) fun _ _ _ _ _ _ us hl => match us, hl with | [_, _, _], _ => rfl⟩
    f_is_string_of := ⟨_, _, fun_mk (st := s_is_string_of) l2 c2 k2, PySem.W.mg_of X G a2, (fun_mk (st := s_is_string_of) l2 c2 k2).binds (ps := ["thing", "signs"]) fun _ _ _ _ _ _ us hl => match us, hl with | [_, _], _ => rfl⟩
    f_is_word := ⟨_, _, fun_mk (st := s_is_word) l3 c3 k3, PySem.W.mg_of X G a3, (fun_mk (st := s_is_word) l3 c3 k3).binds (ps := ["thing"]) fun _ _ _ _ _ _ us hl => match us, hl with | [_], _ => rfl⟩
    f_is_ascending := ⟨_, _, fun_mk (st := s_is_ascending) l4 c4 k4, PySem.W.mg_of X G a4, (fun_mk (st := s_is_ascending) l4 c4 k4).binds (ps := ["word"]) fun _ _ _ _ _ _ us hl => match us, hl with | [_], _ => rfl⟩
    f_is_rows := ⟨_, _, fun_mk (st := s_is_rows) l5 c5 k5, PySem.W.mg_of X G a5, (fun_mk (st := s_is_rows) l5 c5 k5).binds (ps := ["thing"]) fun _ _ _ _ _ _ us hl => match us, hl with | [_], _ => rfl⟩
    f_is_any_code := ⟨_, _, fun_mk (st := s_is_any_code) l6 c6 k6, PySem.W.mg_of X G a6, (fun_mk (st := s_is_any_code) l6 c6 k6).binds (ps := ["thing"]) fun _ _ _ _ _ _ us hl => match us, hl with | [_], _ => rfl⟩
    f_is_width := ⟨_, _, fun_mk (st := s_is_width) l7 c7 k7, PySem.W.mg_of X G a7, (fun_mk (st := s_is_width) l7 c7 k7).binds (ps := ["thing"]) fun _ _ _ _ _ _ us hl => match us, hl with | [_], _ => rfl⟩
    f_check_width := ⟨_, _, fun_mk (st := s_check_width) l8 c8 k8, PySem.W.mg_of X G a8, (fun_mk (st := s_check_width) l8 c8 k8).binds (ps := ["thing"]) fun _ _ _ _ _ _ us hl => match us, hl with | [_], _ => rfl⟩
    f_stretches_of := ⟨_, _, fun_mk (st := s_stretches_of) l9 c9 k9, PySem.W.mg_of X G a9, (fun_mk (st := s_stretches_of) l9 c9 k9).binds (ps := ["code", "width"]) fun _ _ _ _ _ _ us hl => match us, hl with | [_, _], _ => rfl⟩
    f_stretches := ⟨_, _, fun_mk (st := s_stretches) l10 c10 k10, PySem.W.mg_of X G a10, (fun_mk (st := s_stretches) l10 c10 k10).binds (ps := ["code", "width"]) fun _ _ _ _ _ _ us hl => match us, hl with | [_, _], _ => rfl⟩
    f_codes_of_length := ⟨_, _, fun_mk (st := s_codes_of_length) l11 c11 k11, PySem.W.mg_of X G a11, (fun_mk (st := s_codes_of_length) l11 c11 k11).binds (ps := ["rows", "length"]) fun _ _ _ _ _ _ us hl => match us, hl with | [_, _], _ => rfl⟩
    f_stretch_names := ⟨_, _, fun_mk (st := s_stretch_names) l12 c12 k12, PySem.W.mg_of X G a12, (fun_mk (st := s_stretch_names) l12 c12 k12).binds (ps := ["rows", "width"]) fun _ _ _ _ _ _ us hl => match us, hl with | [_, _], _ => rfl⟩
    f_all_stretches := ⟨_, _, fun_mk (st := s_all_stretches) l13 c13 k13, PySem.W.mg_of X G a13, (fun_mk (st := s_all_stretches) l13 c13 k13).binds (ps := ["rows", "width"]) fun _ _ _ _ _ _ us hl => match us, hl with | [_, _], _ => rfl⟩
    f_law_hand := ⟨_, _, fun_mk (st := s_law_hand) l14 c14 k14, PySem.W.mg_of X G a14, (fun_mk (st := s_law_hand) l14 c14 k14).binds (ps := ["_law_script"]) fun _ _ _ _ _ _ us hl => match us, hl with | [_], _ => rfl⟩
    f_law_draw := ⟨_, _, fun_mk (st := s_law_draw) l15 c15 k15, PySem.W.mg_of X G a15, (fun_mk (st := s_law_draw) l15 c15 k15).binds (ps := ["_law_hand_here", "_law_many"]) fun _ _ _ _ _ _ us hl => match us, hl with | [_, _], _ => rfl⟩
    f_law_rows := ⟨_, _, fun_mk (st := s_law_rows) l16 c16 k16, PySem.W.mg_of X G a16, (fun_mk (st := s_law_rows) l16 c16 k16).binds (ps := ["_law_hand_here", "_law_most"]) fun _ _ _ _ _ _ us hl => match us, hl with | [_, _], _ => rfl⟩
    f_law_odd := ⟨_, _, fun_mk (st := s_law_odd) l17 c17 k17, PySem.W.mg_of X G a17, (fun_mk (st := s_law_odd) l17 c17 k17).binds (ps := ["_law_hand_here"]) fun _ _ _ _ _ _ us hl => match us, hl with | [_], _ => rfl⟩
    f_law_due := ⟨_, _, fun_mk (st := s_law_due) l18 c18 k18, PySem.W.mg_of X G a18, (fun_mk (st := s_law_due) l18 c18 k18).binds (ps := ["_law_code", "_law_width"]) fun _ _ _ _ _ _ us hl => match us, hl with | [_, _], _ => rfl⟩
    f_law_all := ⟨_, _, fun_mk (st := s_law_all) l19 c19 k19, PySem.W.mg_of X G a19, (fun_mk (st := s_law_all) l19 c19 k19).binds (ps := ["_law_rows_here", "_law_width"]) fun _ _ _ _ _ _ us hl => match us, hl with | [_, _], _ => rfl⟩
    f_law_word := ⟨_, _, fun_mk (st := s_law_word) l20 c20 k20, PySem.W.mg_of X G a20, (fun_mk (st := s_law_word) l20 c20 k20).binds (ps := ["_law_ask", "_law_first", "_law_width"]) fun _ _ _ _ _ _ us hl => match us, hl with | [_, _, _], _ => rfl⟩
    f_law := ⟨_, _, fun_mk (st := s_law) l21 c21 k21, PySem.W.mg_of X G a21, (fun_mk (st := s_law) l21 c21 k21).binds (ps := ["_law_script"]) fun _ _ _ _ _ _ us hl => match us, hl with | [_], _ => rfl⟩
    b_abs := PySem.W.mg_none_of X G z_abs
    b_bool := PySem.W.mg_none_of X G z_bool
    b_int := PySem.W.mg_none_of X G z_int
    b_isinstance := PySem.W.mg_none_of X G z_isinstance
    b_len := PySem.W.mg_none_of X G z_len
    b_list := PySem.W.mg_none_of X G z_list
    b_range := PySem.W.mg_none_of X G z_range
    b_sorted := PySem.W.mg_none_of X G z_sorted
    b_str := PySem.W.mg_none_of X G z_str
    t_MOST_ROWS := t_MOST_ROWS
    c_MOST_ROWS := PySem.W.mg_of X G g_MOST_ROWS
    t_MOST_WIDTH := t_MOST_WIDTH
    c_MOST_WIDTH := PySem.W.mg_of X G g_MOST_WIDTH
    t_SMALL := t_SMALL
    c_SMALL := PySem.W.mg_of X G g_SMALL
    x_StretchError := ⟨C_StretchError, PySem.W.mg_of X G xa_StretchError, xx_StretchError, xk_StretchError, xs_StretchError, xt_StretchError⟩
    x_NoCode := ⟨C_NoCode, PySem.W.mg_of X G xa_NoCode, xx_NoCode, xk_NoCode, xs_NoCode, xt_NoCode⟩
    x_NoWidth := ⟨C_NoWidth, PySem.W.mg_of X G xa_NoWidth, xx_NoWidth, xk_NoWidth, xs_NoWidth, xt_NoWidth⟩
    x_NoRows := ⟨C_NoRows, PySem.W.mg_of X G xa_NoRows, xx_NoRows, xk_NoRows, xs_NoRows, xt_NoRows⟩
    e_NoCode_NoCode := exm_of xs_NoCode xi_NoCode xt_NoCode xe_NoCode_NoCode
    e_NoCode_NoRows := exm_of xs_NoRows xi_NoRows xt_NoRows xe_NoCode_NoRows
    e_NoCode_NoWidth := exm_of xs_NoWidth xi_NoWidth xt_NoWidth xe_NoCode_NoWidth
    e_NoCode_StretchError := exm_of xs_StretchError xi_StretchError xt_StretchError xe_NoCode_StretchError
    e_NoRows_NoCode := exm_of xs_NoCode xi_NoCode xt_NoCode xe_NoRows_NoCode
    e_NoRows_NoRows := exm_of xs_NoRows xi_NoRows xt_NoRows xe_NoRows_NoRows
    e_NoRows_NoWidth := exm_of xs_NoWidth xi_NoWidth xt_NoWidth xe_NoRows_NoWidth
    e_NoRows_StretchError := exm_of xs_StretchError xi_StretchError xt_StretchError xe_NoRows_StretchError
    e_NoWidth_NoCode := exm_of xs_NoCode xi_NoCode xt_NoCode xe_NoWidth_NoCode
    e_NoWidth_NoRows := exm_of xs_NoRows xi_NoRows xt_NoRows xe_NoWidth_NoRows
    e_NoWidth_NoWidth := exm_of xs_NoWidth xi_NoWidth xt_NoWidth xe_NoWidth_NoWidth
    e_NoWidth_StretchError := exm_of xs_StretchError xi_StretchError xt_StretchError xe_NoWidth_StretchError
  }
  exact ⟨T.f_law.fd, fun s v => .of_eq rfl, fun base _ _ => ok_law T⟩
theorem walk {l : PySem.W.OpenLaw} {q : Program} {loose : List Str} {XP : (Str → Option Value) → Heap → Prop} {YP : World → Heap → Prop} {d : DefRec} {K : Params → PySem.W.Frag} (hn : l.most = some 63) (hdf : d.params.defaults = [])
    (hY : ∀ (w : World) (h : Heap), YP w h → (K w.params).In h)
    (F : ∀ (w : World) (mg : Str → Option Value) (fa : Addr) (h : Heap), (K w.params).In h → h.Ns mainGlobals mg → mg d.name = some (.ref fa) →
      ∃ fd : FuncData, (∀ (s : Shared) (u : Value), BindsTo s fd ⟨[u], []⟩ [("_law_script", u)]) ∧ ∀ base : Heap, (K w.params).In base → base.Ns mainGlobals mg → FnOk l.prog w (K w.params) mg base CX0 7 fa fd ["_law_script"] (sp_law (K w.params))) :
    PySem.W.WalkO q loose XP YP l.row.toRowW d [] (fun f vs => PySem.call f vs) :=
  L2.walk_of (n := 63) (k := 7) (x := "_law_script") (CX := fun _ => CX0) (sp := fun w => sp_law (K w.params)) hn (by decide) hdf ⟨rfl, by decide, by decide⟩ hY F (fun _ H a ns hl hO hS => sp_law_in hl hO hS) fun _ _ _ _ _ z => z
end Lw
open PySem PySem.W PyProof.Rows
set_option maxRecDepth 100000 in
set_option maxHeartbeats 0 in
theorem PySem.Challenge.cw_stretchprices_k12_whole_stretches_holds : PySem.Challenge.rw_stretchprices_k12_whole_stretches.Holds := by
  w_on; o_law; k_head; (case hw => w_witness2)
  k_fill
  refine Lw.walk (l := PySem.Challenge.rw_stretchprices_k12_whole_stretches) rfl rfl (fun w h Y => PySem.W.kIn_of Y) ?F
  case F =>
    intro w mg fa h KX G hmg
    refine' Lw.all_mk KX G hmg ?a0 ?l0 ?c0 ?k0 ?a1 ?l1 ?c1 ?k1 ?a2 ?l2 ?c2 ?k2 ?a3 ?l3 ?c3 ?k3 ?a4 ?l4 ?c4 ?k4 ?a5 ?l5 ?c5 ?k5 ?a6 ?l6 ?c6 ?k6 ?a7 ?l7 ?c7 ?k7 ?a8 ?l8 ?c8 ?k8 ?a9 ?l9 ?c9 ?k9 ?a10 ?l10 ?c10 ?k10 ?a11 ?l11 ?c11 ?k11 ?a12 ?l12 ?c12 ?k12 ?a13 ?l13 ?c13 ?k13 ?a14 ?l14 ?c14 ?k14 ?a15 ?l15 ?c15 ?k15 ?a16 ?l16 ?c16 ?k16 ?a17 ?l17 ?c17 ?k17 ?a18 ?l18 ?c18 ?k18 ?a19 ?l19 ?c19 ?k19 ?a20 ?l20 ?c20 ?k20 ?a21 ?l21 ?c21 ?k21 ?z_abs ?z_bool ?z_int ?z_isinstance ?z_len ?z_list ?z_range ?z_sorted ?z_str ?g_MOST_ROWS ?g_MOST_WIDTH ?g_SMALL ?xa_StretchError ?xx_StretchError ?xk_StretchError ?xs_StretchError ?xt_StretchError ?xa_NoCode ?xx_NoCode ?xk_NoCode ?xs_NoCode ?xt_NoCode ?xa_NoWidth ?xx_NoWidth ?xk_NoWidth ?xs_NoWidth ?xt_NoWidth ?xa_NoRows ?xx_NoRows ?xk_NoRows ?xs_NoRows ?xt_NoRows ?xi_NoCode ?xi_NoRows ?xi_NoWidth ?xi_StretchError ?xe_NoCode_NoCode ?xe_NoCode_NoRows ?xe_NoCode_NoWidth ?xe_NoCode_StretchError ?xe_NoRows_NoCode ?xe_NoRows_NoRows ?xe_NoRows_NoWidth ?xe_NoRows_StretchError ?xe_NoWidth_NoCode ?xe_NoWidth_NoRows ?xe_NoWidth_NoWidth ?xe_NoWidth_StretchError
    (case a0 => first | k_is | rfl)
    (case l0 => first | k_is | rfl)
    (case c0 => first | k_is | rfl)
    (case k0 => first | k_is | rfl)
    (case a1 => first | k_is | rfl)
    (case l1 => first | k_is | rfl)
    (case c1 => first | k_is | rfl)
    (case k1 => first | k_is | rfl)
    (case a2 => first | k_is | rfl)
    (case l2 => first | k_is | rfl)
    (case c2 => first | k_is | rfl)
    (case k2 => first | k_is | rfl)
    (case a3 => first | k_is | rfl)
    (case l3 => first | k_is | rfl)
    (case c3 => first | k_is | rfl)
    (case k3 => first | k_is | rfl)
    (case a4 => first | k_is | rfl)
    (case l4 => first | k_is | rfl)
    (case c4 => first | k_is | rfl)
    (case k4 => first | k_is | rfl)
    (case a5 => first | k_is | rfl)
    (case l5 => first | k_is | rfl)
    (case c5 => first | k_is | rfl)
    (case k5 => first | k_is | rfl)
    (case a6 => first | k_is | rfl)
    (case l6 => first | k_is | rfl)
    (case c6 => first | k_is | rfl)
    (case k6 => first | k_is | rfl)
    (case a7 => first | k_is | rfl)
    (case l7 => first | k_is | rfl)
    (case c7 => first | k_is | rfl)
    (case k7 => first | k_is | rfl)
    (case a8 => first | k_is | rfl)
    (case l8 => first | k_is | rfl)
    (case c8 => first | k_is | rfl)
    (case k8 => first | k_is | rfl)
    (case a9 => first | k_is | rfl)
    (case l9 => first | k_is | rfl)
    (case c9 => first | k_is | rfl)
    (case k9 => first | k_is | rfl)
    (case a10 => first | k_is | rfl)
    (case l10 => first | k_is | rfl)
    (case c10 => first | k_is | rfl)
    (case k10 => first | k_is | rfl)
    (case a11 => first | k_is | rfl)
    (case l11 => first | k_is | rfl)
    (case c11 => first | k_is | rfl)
    (case k11 => first | k_is | rfl)
    (case a12 => first | k_is | rfl)
    (case l12 => first | k_is | rfl)
    (case c12 => first | k_is | rfl)
    (case k12 => first | k_is | rfl)
    (case a13 => first | k_is | rfl)
    (case l13 => first | k_is | rfl)
    (case c13 => first | k_is | rfl)
    (case k13 => first | k_is | rfl)
    (case a14 => first | k_is | rfl)
    (case l14 => first | k_is | rfl)
    (case c14 => first | k_is | rfl)
    (case k14 => first | k_is | rfl)
    (case a15 => first | k_is | rfl)
    (case l15 => first | k_is | rfl)
    (case c15 => first | k_is | rfl)
    (case k15 => first | k_is | rfl)
    (case a16 => first | k_is | rfl)
    (case l16 => first | k_is | rfl)
    (case c16 => first | k_is | rfl)
    (case k16 => first | k_is | rfl)
    (case a17 => first | k_is | rfl)
    (case l17 => first | k_is | rfl)
    (case c17 => first | k_is | rfl)
    (case k17 => first | k_is | rfl)
    (case a18 => first | k_is | rfl)
    (case l18 => first | k_is | rfl)
    (case c18 => first | k_is | rfl)
    (case k18 => first | k_is | rfl)
    (case a19 => first | k_is | rfl)
    (case l19 => first | k_is | rfl)
    (case c19 => first | k_is | rfl)
    (case k19 => first | k_is | rfl)
    (case a20 => first | k_is | rfl)
    (case l20 => first | k_is | rfl)
    (case c20 => first | k_is | rfl)
    (case k20 => first | k_is | rfl)
    (case a21 => first | k_is | rfl)
    (case l21 => first | k_is | rfl)
    (case c21 => first | k_is | rfl)
    (case k21 => first | k_is | rfl)
    (case z_abs => first | k_is | rfl)
    (case z_bool => first | k_is | rfl)
    (case z_int => first | k_is | rfl)
    (case z_isinstance => first | k_is | rfl)
    (case z_len => first | k_is | rfl)
    (case z_list => first | k_is | rfl)
    (case z_range => first | k_is | rfl)
    (case z_sorted => first | k_is | rfl)
    (case z_str => first | k_is | rfl)
    (case g_MOST_ROWS => first | k_is | rfl)
    (case g_MOST_WIDTH => first | k_is | rfl)
    (case g_SMALL => first | k_is | rfl)
    (case xa_StretchError => first | k_is | rfl)
    (case xx_StretchError => k_exc)
    (case xk_StretchError => first | k_is | rfl)
    (case xs_StretchError => first | k_is | rfl)
    (case xt_StretchError => first | k_is | rfl)
    (case xa_NoCode => first | k_is | rfl)
    (case xx_NoCode => k_exc)
    (case xk_NoCode => first | k_is | rfl)
    (case xs_NoCode => first | k_is | rfl)
    (case xt_NoCode => first | k_is | rfl)
    (case xa_NoWidth => first | k_is | rfl)
    (case xx_NoWidth => k_exc)
    (case xk_NoWidth => first | k_is | rfl)
    (case xs_NoWidth => first | k_is | rfl)
    (case xt_NoWidth => first | k_is | rfl)
    (case xa_NoRows => first | k_is | rfl)
    (case xx_NoRows => k_exc)
    (case xk_NoRows => first | k_is | rfl)
    (case xs_NoRows => first | k_is | rfl)
    (case xt_NoRows => first | k_is | rfl)
    (case xi_NoCode => first | k_is | rfl)
    (case xi_NoRows => first | k_is | rfl)
    (case xi_NoWidth => first | k_is | rfl)
    (case xi_StretchError => first | k_is | rfl)
    (case xe_NoCode_NoCode => first | k_is | rfl)
    (case xe_NoCode_NoRows => first | k_is | rfl)
    (case xe_NoCode_NoWidth => first | k_is | rfl)
    (case xe_NoCode_StretchError => first | k_is | rfl)
    (case xe_NoRows_NoCode => first | k_is | rfl)
    (case xe_NoRows_NoRows => first | k_is | rfl)
    (case xe_NoRows_NoWidth => first | k_is | rfl)
    (case xe_NoRows_StretchError => first | k_is | rfl)
    (case xe_NoWidth_NoCode => first | k_is | rfl)
    (case xe_NoWidth_NoRows => first | k_is | rfl)
    (case xe_NoWidth_NoWidth => first | k_is | rfl)
    (case xe_NoWidth_StretchError => first | k_is | rfl)
#print axioms PySem.Challenge.cw_stretchprices_k12_whole_stretches_holds
